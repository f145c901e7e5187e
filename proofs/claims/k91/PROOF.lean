import PyProof.Rows.All
import PySem.Challenge.RW_stakehulls_k91_whole_houses_made_worse
import Wide.All
import OpenK.AllK
import Wide.FinOn
import HandS.ForMost
import HandS.Wide
import HandS.Gcd
import HandS.Walk
import HandS.Zip
import HandS.Deep
import HandS.IsInst
import HandS.TupAny
import HandS.TupMul
import HandS.TupLe
import HandS.Style
import HandS.AnyAll
import KE.KStateDown
import HandS.Ends
import HandS.More
import HandS.WordsExc
import HandS.Head0
import HandS.Head1
import HandS.Head2
import HandS.Head3
import HandS.HeadEnd
import HandS.HeadHook1
import HandS.HeadHook2
import HandS.HeadHook3
import HandS.HeadHook4
import HandS.HeadWalk
import KE.KMathG
import HandS.SortInts
import KE.GoesMore
import KE.GoesEnum
import HandS.Text
import HandS.Defaults
import HandS.SortRule
import HandS.Replace
import HandS.Dict
import KE.KDictPairs
set_option Elab.async false
set_option linter.all false
set_option maxRecDepth 100000
set_option maxHeartbeats 0
set_option exponentiation.threshold 10000
/-! The head: facts by names, the run of the top. -/
namespace Z
open PySem PySem.Spec PyProof.Rows L2 RZ GxR
def top (i : Nat) : Stmt := PySem.Challenge.pw_stakehulls_k91_whole_houses_made_worse.main.body.getD i (.Pass ⟨0, 0, 0, 0⟩)
def clsAt : Stmt → Nat → Stmt
  | .ClassDef (body := b) .., i => b.getD i (.Pass ⟨0, 0, 0, 0⟩)
  | _, _ => .Pass ⟨0, 0, 0, 0⟩
abbrev si_Board : Stmt := clsAt (top 27) 0
def d__law_pool : He.DefD := ⟨("_law_pool", none), "_law_pool", "_law_pool", defArgs (top 86), defBody (top 86), defScope (top 86), [], []⟩
def d__law_take : He.DefD := ⟨("_law_take", none), "_law_take", "_law_take", defArgs (top 87), defBody (top 87), defScope (top 87), [], []⟩
def d__law_one : He.DefD := ⟨("_law_one", none), "_law_one", "_law_one", defArgs (top 88), defBody (top 88), defScope (top 88), [], []⟩
def d__law_name : He.DefD := ⟨("_law_name", none), "_law_name", "_law_name", defArgs (top 94), defBody (top 94), defScope (top 94), [], []⟩
def d__law_outs : He.DefD := ⟨("_law_outs", none), "_law_outs", "_law_outs", defArgs (top 95), defBody (top 95), defScope (top 95), [], []⟩
def d__law_table : He.DefD := ⟨("_law_table", none), "_law_table", "_law_table", defArgs (top 96), defBody (top 96), defScope (top 96), [], []⟩
def d__law_house : He.DefD := ⟨("_law_house", none), "_law_house", "_law_house", defArgs (top 97), defBody (top 97), defScope (top 97), [], []⟩
def d__law_add : He.DefD := ⟨("_law_add", none), "_law_add", "_law_add", defArgs (top 89), defBody (top 89), defScope (top 89), [], []⟩
def d__law_low : He.DefD := ⟨("_law_low", none), "_law_low", "_law_low", defArgs (top 91), defBody (top 91), defScope (top 91), [], []⟩
def d__law_rising : He.DefD := ⟨("_law_rising", none), "_law_rising", "_law_rising", defArgs (top 98), defBody (top 98), defScope (top 98), [], []⟩
def d__law_poorer : He.DefD := ⟨("_law_poorer", none), "_law_poorer", "_law_poorer", defArgs (top 99), defBody (top 99), defScope (top 99), [], []⟩
def d__law_changed : He.DefD := ⟨("_law_changed", none), "_law_changed", "_law_changed", defArgs (top 100), defBody (top 100), defScope (top 100), [], []⟩
def d_ratio : He.DefD := ⟨("ratio", none), "ratio", "ratio", defArgs (top 15), defBody (top 15), defScope (top 15), [], []⟩
def d_weight_of : He.DefD := ⟨("weight_of", none), "weight_of", "weight_of", defArgs (top 56), defBody (top 56), defScope (top 56), [], []⟩
def d_average : He.DefD := ⟨("average", none), "average", "average", defArgs (top 57), defBody (top 57), defScope (top 57), [], []⟩
def d_amounts : He.DefD := ⟨("amounts", none), "amounts", "amounts", defArgs (top 81), defBody (top 81), defScope (top 81), [], []⟩
def d_less : He.DefD := ⟨("less", none), "less", "less", defArgs (top 18), defBody (top 18), defScope (top 18), [], []⟩
def d_better_choice : He.DefD := ⟨("better_choice", none), "better_choice", "better_choice", defArgs (top 82), defBody (top 82), defScope (top 82), [], []⟩
def d_improved_for : He.DefD := ⟨("improved_for", none), "improved_for", "improved_for", defArgs (top 83), defBody (top 83), defScope (top 83), [], []⟩
def d_is_choice : He.DefD := ⟨("is_choice", none), "is_choice", "is_choice", defArgs (top 69), defBody (top 69), defScope (top 69), [], []⟩
def d_want_way : He.DefD := ⟨("want_way", none), "want_way", "want_way", defArgs (top 70), defBody (top 70), defScope (top 70), [], []⟩
def d_led_to : He.DefD := ⟨("led_to", none), "led_to", "led_to", defArgs (top 71), defBody (top 71), defScope (top 71), [], []⟩
def d_arrows_back : He.DefD := ⟨("arrows_back", none), "arrows_back", "arrows_back", defArgs (top 65), defBody (top 65), defScope (top 65), [], []⟩
def d_comes : He.DefD := ⟨("comes", none), "comes", "comes", defArgs (top 66), defBody (top 66), defScope (top 66), [], []⟩
def d_live_places : He.DefD := ⟨("live_places", none), "live_places", "live_places", defArgs (top 72), defBody (top 72), defScope (top 72), [], []⟩
def d_inner_places : He.DefD := ⟨("inner_places", none), "inner_places", "inner_places", defArgs (top 73), defBody (top 73), defScope (top 73), [], []⟩
def d_plus : He.DefD := ⟨("plus", none), "plus", "plus", defArgs (top 16), defBody (top 16), defScope (top 16), [], []⟩
def d_times : He.DefD := ⟨("times", none), "times", "times", defArgs (top 17), defBody (top 17), defScope (top 17), [], []⟩
def d_stopping_sum : He.DefD := ⟨("stopping_sum", none), "stopping_sum", "stopping_sum", defArgs (top 78), defBody (top 78), defScope (top 78), [], []⟩
def d_whole_row : He.DefD := ⟨("whole_row", none), "whole_row", "whole_row", defArgs (top 60), defBody (top 60), defScope (top 60), [], []⟩
def d_pivot_of : He.DefD := ⟨("pivot_of", none), "pivot_of", "pivot_of", defArgs (top 61), defBody (top 61), defScope (top 61), [], []⟩
def d_cleared : He.DefD := ⟨("cleared", none), "cleared", "cleared", defArgs (top 62), defBody (top 62), defScope (top 62), [], []⟩
def d_solved : He.DefD := ⟨("solved", none), "solved", "solved", defArgs (top 63), defBody (top 63), defScope (top 63), [], []⟩
def d_weight_to : He.DefD := ⟨("weight_to", none), "weight_to", "weight_to", defArgs (top 75), defBody (top 75), defScope (top 75), [], []⟩
def d_square_row : He.DefD := ⟨("square_row", none), "square_row", "square_row", defArgs (top 76), defBody (top 76), defScope (top 76), [], []⟩
def d_way_square : He.DefD := ⟨("way_square", none), "way_square", "way_square", defArgs (top 77), defBody (top 77), defScope (top 77), [], []⟩
def d_value : He.DefD := ⟨("value", none), "value", "value", defArgs (top 79), defBody (top 79), defScope (top 79), [], []⟩
def d_worth : He.DefD := ⟨("worth", none), "worth", "worth", defArgs (top 84), defBody (top 84), defScope (top 84), [], []⟩
def d_check_goal : He.DefD := ⟨("check_goal", none), "check_goal", "check_goal", defArgs (top 46), defBody (top 46), defScope (top 46), [], []⟩
def d_is_name : He.DefD := ⟨("is_name", none), "is_name", "is_name", defArgs (top 38), defBody (top 38), defScope (top 38), [], []⟩
def d_is_number : He.DefD := ⟨("is_number", none), "is_number", "is_number", defArgs (top 19), defBody (top 19), defScope (top 19), [], []⟩
def d_is_within : He.DefD := ⟨("is_within", none), "is_within", "is_within", defArgs (top 37), defBody (top 37), defScope (top 37), [], []⟩
def d_are_outs : He.DefD := ⟨("are_outs", none), "are_outs", "are_outs", defArgs (top 39), defBody (top 39), defScope (top 39), [], []⟩
def d_is_table : He.DefD := ⟨("is_table", none), "is_table", "is_table", defArgs (top 40), defBody (top 40), defScope (top 40), [], []⟩
def d_check_names : He.DefD := ⟨("check_names", none), "check_names", "check_names", defArgs (top 47), defBody (top 47), defScope (top 47), [], []⟩
def d_stakes : He.DefD := ⟨("stakes", none), "stakes", "stakes", defArgs (top 41), defBody (top 41), defScope (top 41), [], []⟩
def d_checked_house : He.DefD := ⟨("checked_house", none), "checked_house", "checked_house", defArgs (top 48), defBody (top 48), defScope (top 48), [], []⟩
def d_is_ratio : He.DefD := ⟨("is_ratio", none), "is_ratio", "is_ratio", defArgs (top 20), defBody (top 20), defScope (top 20), [], []⟩
def d_is_pay : He.DefD := ⟨("is_pay", none), "is_pay", "is_pay", defArgs (top 28), defBody (top 28), defScope (top 28), [], []⟩
def d_want_pays : He.DefD := ⟨("want_pays", none), "want_pays", "want_pays", defArgs (top 30), defBody (top 30), defScope (top 30), [], []⟩
def d_is_lottery : He.DefD := ⟨("is_lottery", none), "is_lottery", "is_lottery", defArgs (top 29), defBody (top 29), defScope (top 29), [], []⟩
def d_want_plays : He.DefD := ⟨("want_plays", none), "want_plays", "want_plays", defArgs (top 31), defBody (top 31), defScope (top 31), [], []⟩
def d_made_board : He.DefD := ⟨("made_board", none), "made_board", "made_board", defArgs (top 32), defBody (top 32), defScope (top 32), [], []⟩
def d_out_of : He.DefD := ⟨("out_of", none), "out_of", "out_of", defArgs (top 50), defBody (top 50), defScope (top 50), [], []⟩
def d_stake_lottery : He.DefD := ⟨("stake_lottery", none), "stake_lottery", "stake_lottery", defArgs (top 52), defBody (top 52), defScope (top 52), [], []⟩
def d_open_stakes : He.DefD := ⟨("open_stakes", none), "open_stakes", "open_stakes", defArgs (top 49), defBody (top 49), defScope (top 49), [], []⟩
def d_house_plays : He.DefD := ⟨("house_plays", none), "house_plays", "house_plays", defArgs (top 53), defBody (top 53), defScope (top 53), [], []⟩
def d_laid : He.DefD := ⟨("laid", none), "laid", "laid", defArgs (top 54), defBody (top 54), defScope (top 54), [], []⟩
def d__law_is_ratio : He.DefD := ⟨("_law_is_ratio", none), "_law_is_ratio", "_law_is_ratio", defArgs (top 92), defBody (top 92), defScope (top 92), [], []⟩
def d__law_is_function : He.DefD := ⟨("_law_is_function", none), "_law_is_function", "_law_is_function", defArgs (top 93), defBody (top 93), defScope (top 93), [], []⟩
def d__law_below : He.DefD := ⟨("_law_below", none), "_law_below", "_law_below", defArgs (top 90), defBody (top 90), defScope (top 90), [], []⟩
def d_law : He.DefD := ⟨("law", none), "law", "law", defArgs (top 101), defBody (top 101), defScope (top 101), [], []⟩
def d_Board : He.DefD := ⟨("Board", some "__init__"), "__init__", "Board.__init__", defArgs si_Board, defBody si_Board, defScope si_Board, [], []⟩
def fn0 : List He.DefD := [d__law_pool, d__law_take, d__law_one, d__law_name, d__law_outs, d__law_table, d__law_house, d__law_add, d__law_low, d__law_rising, d__law_poorer, d__law_changed, d_ratio, d_weight_of, d_average, d_amounts, d_less, d_better_choice, d_improved_for, d_is_choice]
def fn1 : List He.DefD := [d_want_way, d_led_to, d_arrows_back, d_comes, d_live_places, d_inner_places, d_plus, d_times, d_stopping_sum, d_whole_row, d_pivot_of, d_cleared, d_solved, d_weight_to, d_square_row, d_way_square, d_value, d_worth, d_check_goal, d_is_name]
def fn2 : List He.DefD := [d_is_number, d_is_within, d_are_outs, d_is_table, d_check_names, d_stakes, d_checked_house, d_is_ratio, d_is_pay, d_want_pays, d_is_lottery, d_want_plays, d_made_board, d_out_of, d_stake_lottery, d_open_stakes, d_house_plays, d_laid, d__law_is_ratio, d__law_is_function]
def fn3 : List He.DefD := [d__law_below, d_law, d_Board]
def fn : List He.DefD := fn0 ++ (fn1 ++ (fn2 ++ (fn3)))
def fa0 : List He.Fa := [.glo "_law_pool", .glo "_law_take", .glo "_law_one", .glo "_law_name", .glo "_law_outs", .glo "_law_table", .glo "_law_house", .glo "_law_add", .glo "_law_low", .glo "_law_rising", .glo "_law_poorer", .glo "_law_changed", .glo "ratio", .glo "weight_of", .glo "average", .glo "amounts", .glo "less", .glo "better_choice", .glo "improved_for", .glo "is_choice", .glo "want_way", .glo "led_to", .glo "arrows_back", .glo "comes", .glo "live_places"]
def fa1 : List He.Fa := [.glo "inner_places", .glo "plus", .glo "times", .glo "stopping_sum", .glo "whole_row", .glo "pivot_of", .glo "cleared", .glo "solved", .glo "weight_to", .glo "square_row", .glo "way_square", .glo "value", .glo "worth", .glo "check_goal", .glo "is_name", .glo "is_number", .glo "is_within", .glo "are_outs", .glo "is_table", .glo "check_names", .glo "stakes", .glo "checked_house", .glo "is_ratio", .glo "is_pay", .glo "want_pays"]
def fa2 : List He.Fa := [.glo "is_lottery", .glo "want_plays", .glo "made_board", .glo "out_of", .glo "stake_lottery", .glo "open_stakes", .glo "house_plays", .glo "laid", .glo "_law_is_ratio", .glo "_law_is_function", .glo "_law_below", .glo "law", .glo "Board", .str "LETTERS" "abcdefghijklmnopqrstuvwxyz", .int "MOST_GOAL" (39), .int "MOST_OUTS" (6), .int "MOST_PAIRS" (8), .int "MOST_PLACES" (40), .int "MOST_PLAYS" (12), .int "MOST_STAKE" (39), .int "MOST_STAKES" (12), .int "MOST_TABLES" (4), .int "MOST_UNKNOWNS" (40), .int "MOST_WEIGHT" (99999), .int "PAY_LIMIT" (1000000000000000000000000000000000000000000000000000000000000000000000000000000000000000000000000000000000000000000000000000000000000000000000000000000000000000000000000000000000000000000000000000000000000000000000000000000000000000000000000000000000000000000000000000000000000000000000000000000000000000000000000000000000000000000000000000000000000000000000000000000000000000000000000000000000000000000000000000000000000000000000000000000000000000000000000000000000000000000000000000000000000000000000000000000000000000000000000000000000000000000000000000000000000000000000000000000000000000000000000)]
def fa3 : List He.Fa := [.int "STOP" (-1), .cls "Board", .free "all", .free "any", .free "bool", .free "dict", .free "enumerate", .free "int", .free "isinstance", .free "len", .free "list", .free "max", .free "min", .free "range", .free "sorted", .free "str", .free "sum", .free "tuple", .free "zip", .mkr "Board", .noat "Board" "pays", .noat "Board" "plays", .noat "Board" "size"]
def fa : List He.Fa := fa0 ++ (fa1 ++ (fa2 ++ (fa3)))
def ex (K : PySem.W.Frag) : Bool := He.eqO (PySem.W.nsIn K mainGlobals "gcd") (some (some (.builtin "math.gcd"))) && He.eqO (PySem.W.nsIn K mainGlobals "lcm") (some (some (.builtin "math.lcm")))
def tf : List He.Defn := [("solved", none), ("is_name", none)]
abbrev R : PySem.W.OpenRow := PySem.W.OpenLaw.row PySem.Challenge.rw_stakehulls_k91_whole_houses_made_worse
abbrev hk : PySem.W.Hook := He.hookX 4 fa fn [] tf ex
def ob (s : PySem.W.SharedT) : He.AlX := He.obsX 4 fa fn [] tf ex (HandSHeadRun.getT s)
theorem ob_eq (s : PySem.W.SharedT) : ob s = hk.obs s.abs := He.obsX_eq (HandSHeadRun.getT_eq s)
def lo0 : List PySem.Str := ["Refused", "BadRatio", "BadSize", "BadPay", "BadPlay", "TooManyPlays", "BadWay", "BadTable", "Taken", "BadGoal", "BadStake", "TooMany", "ratio", "plus", "times", "less", "is_number", "is_ratio", "MOST_PLACES", "MOST_PLAYS", "MOST_PAIRS", "MOST_WEIGHT", "PAY_LIMIT", "Board", "is_pay", "is_lottery", "want_pays", "want_plays", "made_board", "LETTERS"]
def lo1 : List PySem.Str := ["MOST_OUTS", "MOST_STAKE", "is_within", "is_name", "are_outs", "is_table", "stakes", "MOST_GOAL", "MOST_TABLES", "MOST_STAKES", "check_goal", "check_names", "checked_house", "open_stakes", "out_of", "stake_lottery", "house_plays", "laid", "weight_of", "average", "MOST_UNKNOWNS", "whole_row", "pivot_of", "cleared", "solved", "arrows_back", "comes", "STOP", "is_choice", "want_way"]
def lo2 : List PySem.Str := ["led_to", "live_places", "inner_places", "weight_to", "square_row", "way_square", "stopping_sum", "value", "amounts", "better_choice", "improved_for", "worth", "_law_pool", "_law_take", "_law_one", "_law_add", "_law_below", "_law_low", "_law_is_ratio", "_law_is_function", "_law_name", "_law_outs", "_law_table", "_law_house", "_law_rising", "_law_poorer", "_law_changed"]
def loose : List PySem.Str := lo0 ++ (lo1 ++ (lo2))
end Z
section
open PySem PySem.W PySem.Calls PyProof.Rows
theorem Z.two {G : Prop} (T : Prop) (hc : T) (main : T → G) : G := main hc
theorem Z.head_first (hall : ∀ (w : World) (mg : PySem.Str → Option Value) (fa : Addr) (h : Heap), Z.hk.says w h → h.Ns mainGlobals mg → mg "law" = some (.ref fa) → ∃ K : PySem.W.Frag, K.In h ∧ LamX.LawAtS PySem.Challenge.rw_stakehulls_k91_whole_houses_made_worse w K L2.CX0 7 63 "_law_script" mg fa h) : PySem.Challenge.rw_stakehulls_k91_whole_houses_made_worse.Holds := by
  w_on; o_law
  apply Z.two
  case main =>
    intro _
    o_head Z.hk
    case hw => w_witness2
  case hc =>
    refine LamX.walk_ofTsE (l := PySem.Challenge.rw_stakehulls_k91_whole_houses_made_worse) (n := 63) (k := 7) (x := "_law_script") (CX := fun _ => L2.CX0) rfl (by decide) (by kernel_rfl) ⟨rfl, by decide, by decide⟩ (fun w mg fa h Y G hmg0 => ?_) (fun _ _ _ _ _ z => z)
    have hmg : mg ("law" : PySem.Str) = some (.ref fa) := hmg0
    exact hall w mg fa h Y G hmg
end
/-! A layer over HandS: plain data D, what a value stands for (Rp), environments, canonical readings. -/
namespace Z
open PySem L2

/-! ### data -/
inductive D where
  | non | bl (b : Bool) | int (i : Int) | str (s : Str) | tup (ds : List D) | pt (ds : List D) | lst (ds : List D) | dic (ks : List Key) (ds : List D) | ins (cn : Str) (ns : List Str) (ds : List D)
instance : Inhabited D := ⟨.non⟩

def Ex (H H' : Hp) : Prop := ∀ a o, H a = some o → H' a = some o
theorem Ex.refl (H : Hp) : Ex H H := fun _ _ h => h
theorem Ex.trans {H H1 H2 : Hp} (a : Ex H H1) (b : Ex H1 H2) : Ex H H2 := fun x o h => b x o (a x o h)
theorem Ex.new {H : Hp} {p : Addr} {o : HO} (h : H p = none) : Ex H (L2.upd H p o) := fun a u e => by
  rw [upd_ne (ne_of_none e h)]
  exact e
theorem Ex.back {H H' : Hp} {p : Addr} (e : Ex H H') (h : H' p = none) : H p = none := by
  cases h1 : H p with
  | none => rfl
  | some o =>
    rw [e p o h1] at h
    cases h
theorem Ex.upd {H H' : Hp} {p : Addr} {o : HO} (e : Ex H H') (h : H p = Option.none) : Ex H (L2.upd H' p o) := fun a u ha => by
  rw [upd_ne (ne_of_none ha h)]
  exact e a u ha
theorem Ex.both {G H : Hp} {p : Addr} {o : HO} (e : Ex G H) : Ex (L2.upd G p o) (L2.upd H p o) := fun a u ha => by
  by_cases h : a = p
  · subst h
    rw [upd_same] at ha ⊢
    exact ha
  · rw [upd_ne h] at ha ⊢
    exact e a u ha
theorem ex_rd {H H' : Hp} {a : Addr} {u : HO} (e : Ex H H') (h : Rd H a u) : Rd H' a u := by
  rcases h with h | ⟨o, h⟩
  · exact Or.inl (e a _ h)
  · exact Or.inr ⟨o, e a _ h⟩
theorem ex_l {K : PySem.W.Frag} {H H' : Hp} {a : Addr} {xs : List V} (e : Ex H H') (h : SqL K H a xs) : SqL K H' a xs := by
  rcases h with h | h
  · exact Or.inl (ex_rd e h)
  · exact Or.inr h

/-! ### what a value stands for -/
mutual
inductive Rp (K : PySem.W.Frag) (G : Hp) : D → V → Prop
  | non : Rp K G .non .non
  | bl (b : Bool) : Rp K G (.bl b) (.bl b)
  | int (i : Int) : Rp K G (.int i) (.int i)
  | str (s : Str) : Rp K G (.str s) (.str s)
  | tup {a : Addr} {vs : List V} {ds : List D} : G a = some (.tup vs) → Rps K G ds vs → Rp K G (.tup ds) (.ref a)
  | pt {a : Addr} {ob : Obj} {vs : List V} {ds : List D} : G a = some (.frz ob (.tup vs)) → ob.dict = none → Rps K G ds vs → Rp K G (.pt ds) (.ref a)
  | lst {a : Addr} {vs : List V} {ds : List D} : SqL K G a vs → Rps K G ds vs → Rp K G (.lst ds) (.ref a)
  | dic {a : Addr} {kvs : List (Key × V)} {ks : List Key} {ds : List D} : G a = some (.dK kvs) → kvs.map (·.1) = ks → Rps K G ds (kvs.map (·.2)) → Rp K G (.dic ks ds) (.ref a)
  | ins {a dx : Addr} {cn : Str} {fs : List (Str × V)} {ns : List Str} {ds : List D} : G a = some (.ins (He.ga K cn) dx fs) → fs.map (·.1) = ns → Rps K G ds (fs.map (·.2)) → Rp K G (.ins cn ns ds) (.ref a)
inductive Rps (K : PySem.W.Frag) (G : Hp) : List D → List V → Prop
  | nil : Rps K G [] []
  | cons {d : D} {ds : List D} {v : V} {vs : List V} : Rp K G d v → Rps K G ds vs → Rps K G (d :: ds) (v :: vs)
end
section
variable {K : PySem.W.Frag} {G G' : Hp}
mutual
theorem Rp.mono (e : Ex G G') : ∀ {d : D} {v : V}, Rp K G d v → Rp K G' d v
  | _, _, .non => .non
  | _, _, .bl b => .bl b
  | _, _, .int i => .int i
  | _, _, .str s => .str s
  | _, _, .tup h r => .tup (e _ _ h) (Rps.mono e r)
  | _, _, .pt h o r => .pt (e _ _ h) o (Rps.mono e r)
  | _, _, .lst h r => .lst (ex_l e h) (Rps.mono e r)
  | _, _, .dic h k r => .dic (e _ _ h) k (Rps.mono e r)
  | _, _, .ins h k r => .ins (e _ _ h) k (Rps.mono e r)
theorem Rps.mono (e : Ex G G') : ∀ {ds : List D} {vs : List V}, Rps K G ds vs → Rps K G' ds vs
  | _, _, .nil => .nil
  | _, _, .cons h r => .cons (Rp.mono e h) (Rps.mono e r)
end
theorem Rps.len : ∀ {ds : List D} {vs : List V}, Rps K G ds vs → ds.length = vs.length
  | _, _, .nil => rfl
  | _, _, .cons _ r => by rw [List.length_cons, List.length_cons, Rps.len r]
theorem Rps.get : ∀ {ds : List D} {vs : List V} {i : Nat} {d : D}, Rps K G ds vs → ds[i]? = some d → ∃ v, vs[i]? = some v ∧ Rp K G d v
  | _, _, _, _, .nil, e => by simp at e
  | _, _, 0, _, .cons h _, e => by
    simp at e
    subst e
    exact ⟨_, rfl, h⟩
  | _, _, i + 1, _, .cons _ r, e => by
    obtain ⟨v, h1, h2⟩ := Rps.get (i := i) r (by simpa using e)
    exact ⟨v, by simpa using h1, h2⟩
theorem Rps.app : ∀ {ds es : List D} {vs us : List V}, Rps K G ds vs → Rps K G es us → Rps K G (ds ++ es) (vs ++ us)
  | _, _, _, _, .nil, s => s
  | _, _, _, _, .cons h r, s => .cons h (Rps.app r s)
theorem Rps.set {d : D} {v : V} (q : Rp K G d v) : ∀ {ds : List D} {vs : List V} (i : Nat), Rps K G ds vs → Rps K G (ds.set i d) (vs.set i v)
  | _, _, _, .nil => .nil
  | _, _, 0, .cons _ r => .cons q r
  | _, _, i + 1, .cons h r => .cons h (Rps.set q i r)
theorem Rps.take : ∀ {ds : List D} {vs : List V} (n : Nat), Rps K G ds vs → Rps K G (ds.take n) (vs.take n)
  | _, _, 0, _ => .nil
  | _, _, _ + 1, .nil => .nil
  | _, _, n + 1, .cons h r => .cons h (Rps.take n r)
theorem Rps.drop : ∀ {ds : List D} {vs : List V} (n : Nat), Rps K G ds vs → Rps K G (ds.drop n) (vs.drop n)
  | _, _, 0, r => r
  | _, _, _ + 1, .nil => .nil
  | _, _, n + 1, .cons _ r => Rps.drop n r
theorem Rps.one {d : D} {v : V} (h : Rp K G d v) : Rps K G [d] [v] := .cons h .nil
end

/-! ### data without lists and dicts: what it stands for can't be changed -/
mutual
def D.lf : D → Bool
  | .non => true
  | .bl _ => true
  | .int _ => true
  | .str _ => true
  | .tup ds => D.lfs ds
  | .pt ds => D.lfs ds
  | .lst _ => false
  | .dic _ _ => false
  | .ins _ _ ds => D.lfs ds
def D.lfs : List D → Bool
  | [] => true
  | d :: ds => D.lf d && D.lfs ds
end
section
variable {K : PySem.W.Frag} {G G' : Hp}
/-- G' has what G has but for lists and dicts -/
def Ex1 (G G' : Hp) : Prop := ∀ a o, G a = some o → (∀ xs, o ≠ .lst xs) → (∀ xs, o ≠ .dK xs) → G' a = some o
mutual
theorem Rp.lf (e : Ex1 G G') : ∀ {d : D} {v : V}, d.lf = true → Rp K G d v → Rp K G' d v
  | _, _, _, .non => .non
  | _, _, _, .bl b => .bl b
  | _, _, _, .int i => .int i
  | _, _, _, .str s => .str s
  | _, _, c, .tup h r => .tup (e _ _ h (fun _ z => by cases z) (fun _ z => by cases z)) (Rps.lf e c r)
  | _, _, c, .pt h o r => .pt (e _ _ h (fun _ z => by cases z) (fun _ z => by cases z)) o (Rps.lf e c r)
  | _, _, c, .ins h k r => .ins (e _ _ h (fun _ z => by cases z) (fun _ z => by cases z)) k (Rps.lf e c r)
  | _, _, c, .lst _ _ => by cases c
  | _, _, c, .dic _ _ _ => by cases c
theorem Rps.lf (e : Ex1 G G') : ∀ {ds : List D} {vs : List V}, D.lfs ds = true → Rps K G ds vs → Rps K G' ds vs
  | _, _, _, .nil => .nil
  | _, _, c, .cons h r => by
    have c2 := Bool.and_eq_true_iff.mp (show (D.lf _ && D.lfs _) = true from c)
    exact .cons (Rp.lf e c2.1 h) (Rps.lf e c2.2 r)
end
end

/-! ### environments -/
abbrev Env := List (Option D)
/-- a def's entry: what it may see, what stands, the addresses that it may change -/
structure Ent where
  G : Hp
  H : Hp
  J : List (Nat × Addr)
abbrev Ent.I (E : Ent) : List Addr := E.J.map (·.2)
def TabOk (T : List Addr) (G H : Hp) : Prop := ∀ P ∈ T, GxR.TabG H P ∧ G P = none
/-- an own list or dict at p -/
inductive Own (K : PySem.W.Frag) (G H : Hp) : D → Addr → Prop
  | lst {p : Addr} {vs : List V} {ds : List D} : H p = some (.lst vs) → Rps K G ds vs → Own K G H (.lst ds) p
  | dic {p : Addr} {kvs : List (Key × V)} {ks : List Key} {ds : List D} : H p = some (.dK kvs) → kvs.map (·.1) = ks → Rps K G ds (kvs.map (·.2)) → Own K G H (.dic ks ds) p
structure EnvOk (K : PySem.W.Frag) (T : List Addr) (E : Ent) (ω : List Nat) (G H : Hp) (σ : L2.St) (ρ : Env) : Prop where
  sub : Ex G H
  g0 : Ex E.G G
  h0 : ∀ p o, E.H p = some o → E.G p = none → G p = none ∧ (p ∉ E.I → p ∉ T → H p = some o)
  tab : TabOk T G H
  len : σ.length = ρ.length
  sh : ∀ i d, i ∉ ω → ρ[i]? = some (some d) → ∃ v, σ[i]? = some (some v) ∧ Rp K G d v
  ow : ∀ i d, i ∈ ω → ρ[i]? = some (some d) → ∃ p, σ[i]? = some (some (.ref p)) ∧ G p = none ∧ p ∉ T ∧ (E.H p = none ∨ p ∈ E.I) ∧ Own K G H d p
  dj : ∀ i j p, i ∈ ω → j ∈ ω → ρ[i]? ≠ some none → ρ[j]? ≠ some none → σ[i]? = some (some (.ref p)) → σ[j]? = some (some (.ref p)) → i = j
  io : ∀ i p, (i, p) ∈ E.J → i ∈ ω ∧ σ[i]? = some (some (.ref p)) ∧ ρ[i]? ≠ some none

/-- a harmless step: something new is made and may be seen, the tables may grow -/
structure Step (T : List Addr) (G H G' H' : Hp) : Prop where
  g : Ex G G'
  s : Ex G' H'
  tab : TabOk T G' H'
  hid : ∀ p o, H p = some o → G p = none → G' p = none ∧ (p ∉ T → H' p = some o)
section
variable {K : PySem.W.Frag} {T : List Addr} {E : Ent} {ω : List Nat} {G H G' H' G2 H2 : Hp} {σ : L2.St} {ρ : Env}
theorem Step.refl (e : Ex G H) (t : TabOk T G H) : Step T G H G H := ⟨Ex.refl G, e, t, fun _ _ h g => ⟨g, fun _ => h⟩⟩
theorem Step.trans (a : Step T G H G' H') (b : Step T G' H' G2 H2) : Step T G H G2 H2 := by
  refine ⟨a.g.trans b.g, b.s, b.tab, fun p o h g => ?_⟩
  obtain ⟨h1, h2⟩ := a.hid p o h g
  by_cases hT : p ∈ T
  · exact ⟨(b.tab p hT).2, fun n => absurd hT n⟩
  · obtain ⟨h3, h4⟩ := b.hid p o (h2 hT) h1
    exact ⟨h3, h4⟩
theorem TabOk.ne (t : TabOk T G H) {p : Addr} (h : H p = none) : p ∉ T := fun hp => by
  obtain ⟨⟨ps, e, _⟩, _⟩ := t p hp
  rw [h] at e
  cases e
theorem TabOk.upd (t : TabOk T G H) {p : Addr} {o : HO} (h : p ∉ T) : TabOk T G (L2.upd H p o) := fun q hq => by
  have n : q ≠ p := fun e => h (e ▸ hq)
  obtain ⟨⟨ps, e, x⟩, g⟩ := t q hq
  exact ⟨⟨ps, by rw [upd_ne n]; exact e, x⟩, g⟩
theorem TabOk.updG (t : TabOk T G H) {p : Addr} {o : HO} (h : p ∉ T) : TabOk T (L2.upd G p o) H := fun q hq => by
  have n : q ≠ p := fun e => h (e ▸ hq)
  obtain ⟨⟨ps, e, x⟩, g⟩ := t q hq
  exact ⟨⟨ps, e, x⟩, by rw [upd_ne n]; exact g⟩
theorem Step.new (e : Ex G H) (t : TabOk T G H) {p : Addr} {o : HO} (h : H p = none) : Step T G H (L2.upd G p o) (L2.upd H p o) := by
  have g : G p = none := e.back h
  refine ⟨Ex.new g, e.both, (t.upd (t.ne h)).updG (t.ne h), fun q u hq hg => ?_⟩
  have n : q ≠ p := ne_of_none hq h
  rw [upd_ne n, upd_ne n]
  exact ⟨hg, fun _ => hq⟩
theorem Own.step (s : Step T G H G' H') {d : D} {p : Addr} (hg : G p = none) (hT : p ∉ T) : Own K G H d p → Own K G' H' d p
  | .lst h r => .lst ((s.hid p _ h hg).2 hT) (r.mono s.g)
  | .dic h k r => .dic ((s.hid p _ h hg).2 hT) k (r.mono s.g)
theorem Own.has {d : D} {p : Addr} : Own K G H d p → ∃ o, H p = some o
  | .lst h _ => ⟨_, h⟩
  | .dic h _ _ => ⟨_, h⟩
theorem EnvOk.io1 (k : EnvOk K T E ω G H σ ρ) {p : Addr} (hp : p ∈ E.I) : ∃ i, i ∈ ω ∧ σ[i]? = some (some (.ref p)) ∧ ρ[i]? ≠ some none := by
  obtain ⟨⟨i, q⟩, h1, h2⟩ := List.mem_map.mp hp
  cases h2
  exact ⟨i, k.io i _ h1⟩
theorem EnvOk.step (k : EnvOk K T E ω G H σ ρ) (s : Step T G H G' H') : EnvOk K T E ω G' H' σ ρ where
  sub := s.s
  g0 := k.g0.trans s.g
  h0 := fun p o h g => by
    obtain ⟨h1, h2⟩ := k.h0 p o h g
    by_cases hT : p ∈ T
    · exact ⟨(s.tab p hT).2, fun _ n => absurd hT n⟩
    · by_cases hI : p ∈ E.I
      · obtain ⟨i, a, b, c⟩ := k.io1 hI
        cases hr : ρ[i]? with
        | none =>
          have l := k.len
          rw [List.getElem?_eq_none_iff] at hr
          have := (List.getElem?_eq_some_iff.mp b).1
          omega
        | some x =>
          cases x with
          | none => exact absurd hr c
          | some d =>
            obtain ⟨q, b', g', t', _, w⟩ := k.ow i d a hr
            rw [b] at b'
            cases b'
            obtain ⟨u, hu⟩ := w.has
            exact ⟨(s.hid p u hu g').1, fun n => absurd hI n⟩
      · have hp := h2 hI hT
        obtain ⟨a, b⟩ := s.hid p o hp h1
        exact ⟨a, fun _ _ => b hT⟩
  tab := s.tab
  len := k.len
  sh := fun i d hi hd => by
    obtain ⟨v, a, b⟩ := k.sh i d hi hd
    exact ⟨v, a, b.mono s.g⟩
  ow := fun i d hi hd => by
    obtain ⟨p, a, b, c, e, w⟩ := k.ow i d hi hd
    obtain ⟨u, hu⟩ := w.has
    exact ⟨p, a, (s.hid p u hu b).1, c, e, w.step s b c⟩
  dj := k.dj
  io := k.io
end
end Z
/-! Canonical readings; what an expression gives. -/
namespace Z
open PySem L2

theorem PEi {X : Cx} {e : Expr} {t t' : TE} (h : PE X e t) (i : ∀ σ H Q, t' σ H Q → t σ H Q) : PE X e t' := ⟨fun pins s σ H Q I hw => h.run pins s σ H Q I (i _ _ _ hw)⟩
theorem PTi {X : Cx} {e : Expr} {t t' : TT} (h : PT X e t) (i : ∀ σ H Q, t' σ H Q → t σ H Q) : PT X e t' := ⟨fun pins s σ H Q I hw => h.run pins s σ H Q I (i _ _ _ hw)⟩
theorem PWi {X : Cx} {e : Expr} {t t' : TT} (h : PW X e t) (i : ∀ σ H Q, t' σ H Q → t σ H Q) : PW X e t' := ⟨fun wh pins s σ H Q I hw => h.run wh pins s σ H Q I (i _ _ _ hw)⟩
theorem PTsi {X : Cx} {e : List Expr} {t t' : TT} (h : PTs X e t) (i : ∀ σ H Q, t' σ H Q → t σ H Q) : PTs X e t' := ⟨fun pins s σ H Q I hw => h.run pins s σ H Q I (i _ _ _ hw)⟩
theorem PAi {X : Cx} {e : List Expr} {t t' : TA} (h : PA X e t) (i : ∀ σ H Q, t' σ H Q → t σ H Q) : PA X e t' := ⟨fun pos pins s σ H Q I hw => h.run pos pins s σ H Q I (i _ _ _ hw)⟩
theorem PSi {X : Cx} {e : Stmt} {t t' : TS} (h : PS X e t) (i : ∀ D σ H, t' D σ H → t D σ H) : PS X e t' := ⟨fun pins s σ H D I hw => h.run pins s σ H D I (i _ _ _ hw)⟩
theorem PSsi {X : Cx} {e : List Stmt} {t t' : TS} (h : PSs X e t) (i : ∀ D σ H, t' D σ H → t D σ H) : PSs X e t' := ⟨fun pins s σ H D I hw => h.run pins s σ H D I (i _ _ _ hw)⟩
theorem PGi {X : Cx} {e : Expr} {t t' : TG} (h : PG X e t) (i : ∀ v σ H Q, t' v σ H Q → t v σ H Q) : PG X e t' := ⟨fun pins s σ H v u Q I r hw => h.run pins s σ H v u Q I r (i _ _ _ _ hw)⟩
theorem PGsi {X : Cx} {e : List Expr} {t t' : TGs} (h : PGs X e t) (i : ∀ v σ H Q, t' v σ H Q → t v σ H Q) : PGs X e t' := ⟨fun pins s σ H v u Q I r hw => h.run pins s σ H v u Q I r (i _ _ _ _ hw)⟩
theorem PIi {X : Cx} {tg e : Expr} {t t' : TI} (h : PI X tg e t) (i : ∀ σ H R, t' σ H R → t σ H R) : PI X tg e t' := ⟨fun pins s σ H R I hw => h.run pins s σ H R I (i _ _ _ hw)⟩

abbrev M := Env → Option (D × Env)
abbrev MA := Env → Option (List D × Env)
abbrev MT := Env → Option (Bool × Env)
section
variable (K : PySem.W.Frag) (T : List Addr) (ω : List Nat)
def teOf (f : M) : TE := fun σ H Q => ∃ (E : Ent) (G : Hp) (ρ : Env) (d : D) (ρ' : Env), EnvOk K T E ω G H σ ρ ∧ f ρ = some (d, ρ') ∧ ∀ v G' H', Ex G G' → EnvOk K T E ω G' H' σ ρ' → Rp K G' d v → Q v H'
def ttOf (f : MT) : TT := fun σ H Q => ∃ (E : Ent) (G : Hp) (ρ : Env) (d : Bool) (ρ' : Env), EnvOk K T E ω G H σ ρ ∧ f ρ = some (d, ρ') ∧ ∀ G' H', Ex G G' → EnvOk K T E ω G' H' σ ρ' → Q d H'
def taOf (f : MA) : TA := fun σ H Q => ∃ (E : Ent) (G : Hp) (ρ : Env) (d : List D) (ρ' : Env), EnvOk K T E ω G H σ ρ ∧ f ρ = some (d, ρ') ∧ ∀ v G' H', Ex G G' → EnvOk K T E ω G' H' σ ρ' → Rps K G' d v → Q v H'
/-- a new list or dict of one's own -/
structure Fresh (E : Ent) (G : Hp) (σ : L2.St) (ρ : Env) (p : Addr) : Prop where
  g : G p = none
  t : p ∉ T
  e : E.H p = none
  o : ∀ i, i ∈ ω → ρ[i]? ≠ some none → σ[i]? ≠ some (some (.ref p))
def tlOf (f : M) : TE := fun σ H Q => ∃ (E : Ent) (G : Hp) (ρ : Env) (d : D) (ρ' : Env), EnvOk K T E ω G H σ ρ ∧ f ρ = some (d, ρ') ∧ ∀ p G' H', Ex G G' → EnvOk K T E ω G' H' σ ρ' → Own K G' H' d p → Fresh T ω E G' σ ρ' p → Q (.ref p) H'
end

section
variable {X : Cx} {T : List Addr} {ω : List Nat} {E : Ent} {G H : Hp} {σ : L2.St} {ρ : Env} {K : PySem.W.Frag} {e a b : Expr} {fa fb : M}
/-- an own thing becomes a seen one -/
theorem EnvOk.see (k : EnvOk K T E ω G H σ ρ) {p : Addr} {o : HO} (hp : H p = some o) (f : Fresh T ω E G σ ρ p) : EnvOk K T E ω (upd G p o) H σ ρ where
  sub := fun a u h => by
    by_cases e : a = p
    · subst e
      rw [upd_same] at h
      rw [hp]
      exact h
    · rw [upd_ne e] at h
      exact k.sub a u h
  g0 := k.g0.trans (Ex.new f.g)
  h0 := fun q u h g => by
    have n : q ≠ p := ne_of_none h f.e
    rw [upd_ne n]
    exact k.h0 q u h g
  tab := k.tab.updG f.t
  len := k.len
  sh := fun i d hi hd => by
    obtain ⟨v, x, y⟩ := k.sh i d hi hd
    exact ⟨v, x, y.mono (Ex.new f.g)⟩
  ow := fun i d hi hd => by
    obtain ⟨q, x, y, z, w, u⟩ := k.ow i d hi hd
    have n : q ≠ p := fun e => f.o i hi (by rw [hd]; simp) (e ▸ x)
    refine ⟨q, x, by rw [upd_ne n]; exact y, z, w, ?_⟩
    cases u with
    | lst a b => exact .lst a (b.mono (Ex.new f.g))
    | dic a b c => exact .dic a b (c.mono (Ex.new f.g))
  dj := k.dj
  io := k.io
theorem Own.see {d : D} {p : Addr} (g : G p = none) : Own K G H d p → ∃ o, H p = some o ∧ Rp K (upd G p o) d (.ref p)
  | .lst h r => ⟨_, h, .lst (SqL.of upd_same) (r.mono (Ex.new g))⟩
  | .dic h k r => ⟨_, h, .dic upd_same k (r.mono (Ex.new g))⟩
theorem de_frz {f : M} (h : PE X e (tlOf X.K T ω f)) : PE X e (teOf X.K T ω f) := PEi h fun σ H Q ⟨E, G, ρ, d, ρ', k, hf, q⟩ => ⟨E, G, ρ, d, ρ', k, hf, fun p G' H' e k' w f => by
  obtain ⟨o, hp, r⟩ := w.see f.g
  exact q _ _ _ (e.trans (Ex.new f.g)) (k'.see hp f) r⟩

/-! ### names, constants -/
def eVar (i : Nat) : M := fun ρ => match ρ[i]? with
  | some (some d) => some (d, ρ)
  | _ => none
theorem eVar_some {i : Nat} {d : D} {ρ' : Env} (h : eVar i ρ = some (d, ρ')) : ρ[i]? = some (some d) ∧ ρ' = ρ := by
  unfold eVar at h
  split at h
  · rename_i d' e
    cases h
    exact ⟨e, rfl⟩
  · cases h
theorem de_var {i : Nat} (h : PE X e (tVar i)) (hi : ω.contains i = false) : PE X e (teOf X.K T ω (eVar i)) := PEi h fun σ H Q ⟨E, G, ρ, d, ρ', k, hf, q⟩ => by
  obtain ⟨h1, rfl⟩ := eVar_some hf
  obtain ⟨v, h2, r⟩ := k.sh i d (by
    intro hm
    rw [List.contains_iff_mem.mpr hm] at hi
    cases hi) h1
  exact ⟨v, h2, q v G H (Ex.refl G) k r⟩
def eC (d : D) : M := fun ρ => some (d, ρ)
/-- a constant: a value that stands for d whatever the heap -/
theorem de_c {d : D} {v : V} (h : PE X e (tC v)) (r : ∀ G, Rp X.K G d v) : PE X e (teOf X.K T ω (eC d)) := PEi h fun σ H Q ⟨E, G, ρ, d', ρ', k, hf, q⟩ => by
  cases hf
  exact q v G H (Ex.refl G) k (r G)
theorem de_int {i : Int} (h : PE X e (tC (.int i))) : PE X e (teOf X.K T ω (eC (.int i))) := de_c h fun _ => .int i
theorem de_str {i : Str} (h : PE X e (tC (.str i))) : PE X e (teOf X.K T ω (eC (.str i))) := de_c h fun _ => .str i
theorem de_bl {i : Bool} (h : PE X e (tC (.bl i))) : PE X e (teOf X.K T ω (eC (.bl i))) := de_c h fun _ => .bl i
theorem de_non (h : PE X e (tC .non)) : PE X e (teOf X.K T ω (eC .non)) := de_c h fun _ => .non

/-! ### operations by values -/
/-- r does on values what op does on data -/
def OpS (K : PySem.W.Frag) (T : List Addr) (r : R2) (op : D → D → Option D) : Prop :=
  ∀ (x y d : D), op x y = some d → ∀ (G H : Hp) (u v : V), Ex G H → TabOk T G H → Rp K G x u → Rp K G y v → ∀ Q : VK, (∀ w G' H', Step T G H G' H' → Rp K G' d w → Q w H') → r u v H Q
def UnS (K : PySem.W.Frag) (T : List Addr) (r : V → Hp → VK → Prop) (op : D → Option D) : Prop :=
  ∀ (x d : D), op x = some d → ∀ (G H : Hp) (u : V), Ex G H → TabOk T G H → Rp K G x u → ∀ Q : VK, (∀ w G' H', Step T G H G' H' → Rp K G' d w → Q w H') → r u H Q
def CaS (K : PySem.W.Frag) (T : List Addr) (r : List V → Hp → VK → Prop) (op : List D → Option D) : Prop :=
  ∀ (xs : List D) (d : D), op xs = some d → ∀ (G H : Hp) (us : List V), Ex G H → TabOk T G H → Rps K G xs us → ∀ Q : VK, (∀ w G' H', Step T G H G' H' → Rp K G' d w → Q w H') → r us H Q
def eBin (op : D → D → Option D) (fa fb : M) : M := fun ρ => (fa ρ).bind fun p => (fb p.2).bind fun q => (op p.1 q.1).map fun d => (d, q.2)
def eUn (op : D → Option D) (fa : M) : M := fun ρ => (fa ρ).bind fun p => (op p.1).map fun d => (d, p.2)
def eCa (op : List D → Option D) (fa : MA) : M := fun ρ => (fa ρ).bind fun p => (op p.1).map fun d => (d, p.2)
theorem de_bin {r : R2} {op : D → D → Option D} (h : PE X e (tOp r (teOf X.K T ω fa) (teOf X.K T ω fb))) (os : OpS X.K T r op) : PE X e (teOf X.K T ω (eBin op fa fb)) := PEi h fun σ H Q ⟨E, G, ρ, d, ρ', k, hf, q⟩ => by
  obtain ⟨⟨x, ρ1⟩, h1, hf⟩ := Option.bind_eq_some_iff.mp hf
  obtain ⟨⟨y, ρ2⟩, h2, hf⟩ := Option.bind_eq_some_iff.mp hf
  obtain ⟨d', h3, hf⟩ := Option.map_eq_some_iff.mp hf
  cases hf
  exact ⟨E, G, ρ, x, ρ1, k, h1, fun u G1 H1 e1 k1 r1 => ⟨E, G1, ρ1, y, ρ2, k1, h2, fun v G2 H2 e2 k2 r2 =>
    os x y d h3 G2 H2 u v k2.sub k2.tab (r1.mono e2) r2 Q fun w G' H' s rw' => q w G' H' ((e1.trans e2).trans s.g) (k2.step s) rw'⟩⟩
theorem de_un {r : V → Hp → VK → Prop} {op : D → Option D} (h : PE X e (tUn r (teOf X.K T ω fa))) (os : UnS X.K T r op) : PE X e (teOf X.K T ω (eUn op fa)) := PEi h fun σ H Q ⟨E, G, ρ, d, ρ', k, hf, q⟩ => by
  obtain ⟨⟨x, ρ1⟩, h1, hf⟩ := Option.bind_eq_some_iff.mp hf
  obtain ⟨d', h3, hf⟩ := Option.map_eq_some_iff.mp hf
  cases hf
  exact ⟨E, G, ρ, x, ρ1, k, h1, fun u G1 H1 e1 k1 r1 => os x d h3 G1 H1 u k1.sub k1.tab r1 Q fun w G' H' s rw' => q w G' H' (e1.trans s.g) (k1.step s) rw'⟩
theorem de_ca {fs : MA} {r : List V → Hp → VK → Prop} {op : List D → Option D} (h : PE X e (tCB r (taOf X.K T ω fs))) (os : CaS X.K T r op) : PE X e (teOf X.K T ω (eCa op fs)) := PEi h fun σ H Q ⟨E, G, ρ, d, ρ', k, hf, q⟩ => by
  obtain ⟨⟨x, ρ1⟩, h1, hf⟩ := Option.bind_eq_some_iff.mp hf
  obtain ⟨d', h3, hf⟩ := Option.map_eq_some_iff.mp hf
  cases hf
  exact ⟨E, G, ρ, x, ρ1, k, h1, fun u G1 H1 e1 k1 r1 => os x d h3 G1 H1 u k1.sub k1.tab r1 Q fun w G' H' s rw' => q w G' H' (e1.trans s.g) (k1.step s) rw'⟩

/-! ### argument lists, displays -/
def aNil : MA := fun ρ => some ([], ρ)
def aCons (fa : M) (fs : MA) : MA := fun ρ => (fa ρ).bind fun p => (fs p.2).map fun q => (p.1 :: q.1, q.2)
theorem da_nil : PA X [] (taOf X.K T ω aNil) := PAi pa_nil fun σ H Q ⟨E, G, ρ, d, ρ', k, hf, q⟩ => by
  cases hf
  exact q [] G H (Ex.refl G) k .nil
theorem da_cons {es : List Expr} {fs : MA} (ha : PE X e (teOf X.K T ω fa)) (hr : PA X es (taOf X.K T ω fs)) (hs : starEach (e :: es) X.env = (false, eval e X.env) :: starEach es X.env := by rfl) : PA X (e :: es) (taOf X.K T ω (aCons fa fs)) :=
  PAi (pa_cons ha hr hs) fun σ H Q ⟨E, G, ρ, d, ρ', k, hf, q⟩ => by
    obtain ⟨⟨x, ρ1⟩, h1, hf⟩ := Option.bind_eq_some_iff.mp hf
    obtain ⟨⟨ys, ρ2⟩, h2, hf⟩ := Option.map_eq_some_iff.mp hf
    cases hf
    exact ⟨E, G, ρ, x, ρ1, k, h1, fun u G1 H1 e1 k1 r1 => ⟨E, G1, ρ1, ys, ρ2, k1, h2, fun v G2 H2 e2 k2 r2 => q (u :: v) G2 H2 (e1.trans e2) k2 (.cons (r1.mono e2) r2)⟩⟩
def eTup (fs : MA) : M := fun ρ => (fs ρ).bind fun p => if p.1.length ≤ 100000 then some (.tup p.1, p.2) else none
def eLst (fs : MA) : M := fun ρ => (fs ρ).bind fun p => if p.1.length ≤ 100000 then some (.lst p.1, p.2) else none
theorem line_of {n : Nat} (h : n ≤ 100000) : n ≤ sizeLine := Nat.le_trans h (by decide)
theorem de_tup {es : List Expr} {fs : MA} {x1 : Nat} {pos : Pos} (ha : PA X es (taOf X.K T ω fs)) : PE X (.Tuple es x1 pos) (teOf X.K T ω (eTup fs)) := PEi (pe_tup ha) fun σ H Q ⟨E, G, ρ, d, ρ', k, hf, q⟩ => by
  obtain ⟨⟨x, ρ1⟩, h1, hf⟩ := Option.bind_eq_some_iff.mp hf
  by_cases hl : x.length ≤ 100000
  · rw [if_pos hl] at hf
    cases hf
    refine ⟨E, G, ρ, x, ρ1, k, h1, fun v G1 H1 e1 k1 r1 => ⟨by rw [← r1.len]; exact line_of hl, fun p hp => ?_⟩⟩
    have s := Step.new (o := .tup v) k1.sub k1.tab hp
    exact q _ _ _ (e1.trans s.g) (k1.step s) (.tup upd_same (r1.mono s.g))
  · rw [if_neg hl] at hf
    cases hf
/-- what is new at p is one's own -/
theorem EnvOk.own (k : EnvOk K T E ω G H σ ρ) {p : Addr} {o : HO} (hp : H p = none) : EnvOk K T E ω G (upd H p o) σ ρ ∧ Fresh T ω E G σ ρ p := by
  have g : G p = none := k.sub.back hp
  have t : p ∉ T := k.tab.ne hp
  have o : ∀ i, i ∈ ω → ρ[i]? ≠ some none → σ[i]? ≠ some (some (.ref p)) := fun i hi hn z => by
    cases hr : ρ[i]? with
    | none =>
      have l := k.len
      rw [List.getElem?_eq_none_iff] at hr
      have := (List.getElem?_eq_some_iff.mp z).1
      omega
    | some u =>
      cases u with
      | none => exact hn hr
      | some d =>
        obtain ⟨q, a, b, c, d', w⟩ := k.ow i d hi hr
        rw [z] at a
        cases a
        obtain ⟨u, hu⟩ := w.has
        rw [hp] at hu
        cases hu
  have ee : E.H p = none := by
    cases h : E.H p with
    | none => rfl
    | some u =>
      exfalso
      cases hg : E.G p with
      | some z =>
        have := k.g0 p z hg
        rw [g] at this
        cases this
      | none =>
        obtain ⟨_, h2⟩ := k.h0 p u h hg
        by_cases hI : p ∈ E.I
        · obtain ⟨i, a, b, c⟩ := k.io1 hI
          exact o i a c b
        · rw [hp] at h2
          cases h2 hI t
  refine ⟨⟨fun a u h => ?_, k.g0, fun q u h hg => ?_, k.tab.upd t, k.len, k.sh, fun i d hi hd => ?_, k.dj, k.io⟩, ⟨g, t, ee, o⟩⟩
  · have n : a ≠ p := ne_of_none h g
    rw [upd_ne n]
    exact k.sub a u h
  · have n : q ≠ p := ne_of_none h ee
    rw [upd_ne n]
    exact k.h0 q u h hg
  · obtain ⟨q, x, y, z, w, u⟩ := k.ow i d hi hd
    refine ⟨q, x, y, z, w, ?_⟩
    obtain ⟨u', hu⟩ := u.has
    have n : q ≠ p := ne_of_none hu hp
    cases u with
    | lst a b => exact .lst (by rw [upd_ne n]; exact a) b
    | dic a b c => exact .dic (by rw [upd_ne n]; exact a) b c
theorem dl_lst {es : List Expr} {fs : MA} {pos : Pos} (ha : PA X es (taOf X.K T ω fs)) : PE X (.List es pos) (tlOf X.K T ω (eLst fs)) := PEi (pe_lst ha) fun σ H Q ⟨E, G, ρ, d, ρ', k, hf, q⟩ => by
  obtain ⟨⟨x, ρ1⟩, h1, hf⟩ := Option.bind_eq_some_iff.mp hf
  by_cases hl : x.length ≤ 100000
  · rw [if_pos hl] at hf
    cases hf
    refine ⟨E, G, ρ, x, ρ1, k, h1, fun v G1 H1 e1 k1 r1 => ⟨by rw [← r1.len]; exact line_of hl, fun p hp => ?_⟩⟩
    obtain ⟨k2, f2⟩ := k1.own (o := .lst v) hp
    exact q p G1 _ e1 k2 (.lst upd_same r1) f2
  · rw [if_neg hl] at hf
    cases hf

/-! ### tests -/
def truD : D → Option Bool
  | .non => some false
  | .bl b => some b
  | .int i => some (i != 0)
  | .str s => if s.length ≤ 100000 then some ((s.length : Int) != 0) else none
  | .tup ds => some (!ds.isEmpty)
  | .lst ds => some (!ds.isEmpty)
  | _ => none
theorem Rps.empty {ds : List D} {vs : List V} (r : Rps K G ds vs) : ds.isEmpty = vs.isEmpty := by
  cases r <;> rfl
theorem truD_ok {d : D} {b : Bool} {v : V} (h : truD d = some b) (s : Ex G H) (r : Rp K G d v) : TruV K v H b := by
  cases r with
  | non => cases h; rfl
  | bl b => cases h; rfl
  | int i => cases h; rfl
  | str s =>
    unfold truD at h
    by_cases hl : s.length ≤ 100000
    · simp only [if_pos hl] at h
      cases h
      exact ⟨line_of hl, rfl⟩
    · simp only [if_neg hl] at h
      cases h
  | tup g r =>
    cases h
    exact .inr (.inl ⟨_, SqT.of (s _ _ g), by rw [r.empty]⟩)
  | lst g r =>
    cases h
    exact .inl ⟨_, ex_l s g, by rw [r.empty]⟩
  | pt _ _ _ => cases h
  | dic _ _ _ => cases h
  | ins _ _ _ => cases h
def tTr (fa : M) : MT := fun ρ => (fa ρ).bind fun p => (truD p.1).map fun b => (b, p.2)
def tBl (fa : M) : MT := fun ρ => (fa ρ).bind fun p => match p.1 with
  | .bl b => some (b, p.2)
  | _ => none
/-- any expression as a test (no comparison, and, or, not) -/
theorem dt_tr (ha : PE X e (teOf X.K T ω fa)) (he : ∀ whole, isTrue e X.env whole = (do let v ← whole; standAt e.pos; holding [v] (truthy v)) := by intro _; rfl) : PT X e (ttOf X.K T ω (tTr fa)) :=
  PTi (pt_truth ha he) fun σ H Q ⟨E, G, ρ, d, ρ', k, hf, q⟩ => by
    obtain ⟨⟨x, ρ1⟩, h1, hf⟩ := Option.bind_eq_some_iff.mp hf
    obtain ⟨b, h2, hf⟩ := Option.map_eq_some_iff.mp hf
    cases hf
    exact ⟨E, G, ρ, x, ρ1, k, h1, fun v G1 H1 e1 k1 r1 => ⟨d, truD_ok h2 k1.sub r1, q G1 H1 e1 k1⟩⟩
/-- a comparison as a test -/
theorem dt_cmp {t : TE} {f : M} (h : PT X e (tTest t)) (i : ∀ σ H Q, teOf X.K T ω f σ H Q → t σ H Q) : PT X e (ttOf X.K T ω (tBl f)) :=
  PTi h fun σ H Q ⟨E, G, ρ, d, ρ', k, hf, q⟩ => by
    obtain ⟨⟨x, ρ1⟩, h1, hf⟩ := Option.bind_eq_some_iff.mp hf
    have hx : ∃ b, x = .bl b ∧ some (b, ρ1) = some (d, ρ') := by
      cases x with
      | bl b => exact ⟨b, rfl, hf⟩
      | _ => cases hf
    obtain ⟨b, rfl, hf⟩ := hx
    cases hf
    exact i σ H _ ⟨E, G, ρ, _, _, k, h1, fun v G1 H1 e1 k1 r1 => by
      cases r1
      exact ⟨d, rfl, q G1 H1 e1 k1⟩⟩
def tAndM (ta tb : MT) : MT := fun ρ => (ta ρ).bind fun p => if p.1 = true then tb p.2 else some (false, p.2)
def tOrM (ta tb : MT) : MT := fun ρ => (ta ρ).bind fun p => if p.1 = true then some (true, p.2) else tb p.2
def tNotM (ta : MT) : MT := fun ρ => (ta ρ).map fun p => (!p.1, p.2)
variable {ga gb : MT} {rest : List Expr} {pos : Pos}
theorem dw_one (h : PT X e (ttOf X.K T ω ga)) : PW X (.BoolOp .And [e] pos) (ttOf X.K T ω ga) := pw_and1 h
theorem dw_oneO (h : PT X e (ttOf X.K T ω ga)) : PW X (.BoolOp .Or [e] pos) (ttOf X.K T ω ga) := pw_or1 h
theorem dw_and (ha : PT X a (ttOf X.K T ω ga)) (hb : PW X (.BoolOp .And (b :: rest) pos) (ttOf X.K T ω gb)) : PW X (.BoolOp .And (a :: b :: rest) pos) (ttOf X.K T ω (tAndM ga gb)) :=
  PWi (pw_and ha hb) fun σ H Q ⟨E, G, ρ, d, ρ', k, hf, q⟩ => by
    obtain ⟨⟨x, ρ1⟩, h1, hf⟩ := Option.bind_eq_some_iff.mp hf
    refine ⟨E, G, ρ, x, ρ1, k, h1, fun G1 H1 e1 k1 => ?_⟩
    cases x with
    | true =>
      show (ttOf X.K T ω gb) σ H1 Q
      exact ⟨E, G1, ρ1, d, ρ', k1, hf, fun G2 H2 e2 k2 => q G2 H2 (e1.trans e2) k2⟩
    | false =>
      show Q false H1
      cases hf
      exact q G1 H1 e1 k1
theorem dw_or (ha : PT X a (ttOf X.K T ω ga)) (hb : PW X (.BoolOp .Or (b :: rest) pos) (ttOf X.K T ω gb)) : PW X (.BoolOp .Or (a :: b :: rest) pos) (ttOf X.K T ω (tOrM ga gb)) :=
  PWi (pw_or ha hb) fun σ H Q ⟨E, G, ρ, d, ρ', k, hf, q⟩ => by
    obtain ⟨⟨x, ρ1⟩, h1, hf⟩ := Option.bind_eq_some_iff.mp hf
    refine ⟨E, G, ρ, x, ρ1, k, h1, fun G1 H1 e1 k1 => ?_⟩
    cases x with
    | true =>
      show Q true H1
      cases hf
      exact q G1 H1 e1 k1
    | false =>
      show (ttOf X.K T ω gb) σ H1 Q
      exact ⟨E, G1, ρ1, d, ρ', k1, hf, fun G2 H2 e2 k2 => q G2 H2 (e1.trans e2) k2⟩
theorem dt_not (ha : PT X a (ttOf X.K T ω ga)) : PT X (.UnaryOp .Not a pos) (ttOf X.K T ω (tNotM ga)) :=
  PTi (pt_not ha) fun σ H Q ⟨E, G, ρ, d, ρ', k, hf, q⟩ => by
    obtain ⟨⟨x, ρ1⟩, h1, hf⟩ := Option.map_eq_some_iff.mp hf
    cases hf
    exact ⟨E, G, ρ, x, ρ1, k, h1, fun G1 H1 e1 k1 => q G1 H1 e1 k1⟩
def eIf (t : MT) (fa fb : M) : M := fun ρ => (t ρ).bind fun p => if p.1 = true then fa p.2 else fb p.2
theorem de_if {c : Expr} (hc : PT X c (ttOf X.K T ω ga)) (ha : PE X a (teOf X.K T ω fa)) (hb : PE X b (teOf X.K T ω fb)) : PE X (.IfExp c a b pos) (teOf X.K T ω (eIf ga fa fb)) :=
  PEi (pe_ifExp hc ha hb) fun σ H Q ⟨E, G, ρ, d, ρ', k, hf, q⟩ => by
    obtain ⟨⟨x, ρ1⟩, h1, hf⟩ := Option.bind_eq_some_iff.mp hf
    refine ⟨E, G, ρ, x, ρ1, k, h1, fun G1 H1 e1 k1 => ?_⟩
    cases x with
    | true =>
      show (teOf X.K T ω fa) σ H1 Q
      exact ⟨E, G1, ρ1, d, ρ', k1, hf, fun v G2 H2 e2 k2 => q v G2 H2 (e1.trans e2) k2⟩
    | false =>
      show (teOf X.K T ω fb) σ H1 Q
      exact ⟨E, G1, ρ1, d, ρ', k1, hf, fun v G2 H2 e2 k2 => q v G2 H2 (e1.trans e2) k2⟩
/-- and, or, not as values: truths -/
def eAnd (fa fb : M) : M := fun ρ => (fa ρ).bind fun p => match p.1 with
  | .bl true => fb p.2
  | .bl false => some (.bl false, p.2)
  | _ => none
def eOr (fa fb : M) : M := fun ρ => (fa ρ).bind fun p => match p.1 with
  | .bl false => fb p.2
  | .bl true => some (.bl true, p.2)
  | _ => none
def eNot (fa : M) : M := fun ρ => (fa ρ).bind fun p => match p.1 with
  | .bl b => some (.bl (!b), p.2)
  | _ => none
theorem de_one {op : BoolOp} (h : PE X e (teOf X.K T ω fa)) : PE X (.BoolOp op [e] pos) (teOf X.K T ω fa) := pe_one h
theorem de_and (ha : PE X a (teOf X.K T ω fa)) (hb : PE X (.BoolOp .And (b :: rest) pos) (teOf X.K T ω fb)) : PE X (.BoolOp .And (a :: b :: rest) pos) (teOf X.K T ω (eAnd fa fb)) :=
  PEi (pe_and ha hb) fun σ H Q ⟨E, G, ρ, d, ρ', k, hf, q⟩ => by
    obtain ⟨⟨x, ρ1⟩, h1, hf⟩ := Option.bind_eq_some_iff.mp hf
    refine ⟨E, G, ρ, x, ρ1, k, h1, fun v G1 H1 e1 k1 r1 => ?_⟩
    cases r1 with
    | bl c =>
      refine ⟨c, rfl, ?_⟩
      cases c with
      | true =>
        show (teOf X.K T ω fb) σ H1 Q
        exact ⟨E, G1, ρ1, d, ρ', k1, hf, fun v G2 H2 e2 k2 => q v G2 H2 (e1.trans e2) k2⟩
      | false =>
        show Q (.bl false) H1
        cases hf
        exact q _ G1 H1 e1 k1 (.bl false)
    | _ => cases hf
theorem de_or (ha : PE X a (teOf X.K T ω fa)) (hb : PE X (.BoolOp .Or (b :: rest) pos) (teOf X.K T ω fb)) : PE X (.BoolOp .Or (a :: b :: rest) pos) (teOf X.K T ω (eOr fa fb)) :=
  PEi (pe_or ha hb) fun σ H Q ⟨E, G, ρ, d, ρ', k, hf, q⟩ => by
    obtain ⟨⟨x, ρ1⟩, h1, hf⟩ := Option.bind_eq_some_iff.mp hf
    refine ⟨E, G, ρ, x, ρ1, k, h1, fun v G1 H1 e1 k1 r1 => ?_⟩
    cases r1 with
    | bl c =>
      refine ⟨c, rfl, ?_⟩
      cases c with
      | false =>
        show (teOf X.K T ω fb) σ H1 Q
        exact ⟨E, G1, ρ1, d, ρ', k1, hf, fun v G2 H2 e2 k2 => q v G2 H2 (e1.trans e2) k2⟩
      | true =>
        show Q (.bl true) H1
        cases hf
        exact q _ G1 H1 e1 k1 (.bl true)
    | _ => cases hf
theorem de_not (ha : PE X a (teOf X.K T ω fa)) : PE X (.UnaryOp .Not a pos) (teOf X.K T ω (eNot fa)) :=
  PEi (pe_not ha) fun σ H Q ⟨E, G, ρ, d, ρ', k, hf, q⟩ => by
    obtain ⟨⟨x, ρ1⟩, h1, hf⟩ := Option.bind_eq_some_iff.mp hf
    refine ⟨E, G, ρ, x, ρ1, k, h1, fun v G1 H1 e1 k1 r1 => ?_⟩
    cases r1 with
    | bl c =>
      cases hf
      exact ⟨c, rfl, q _ G1 H1 e1 k1 (.bl _)⟩
    | _ => cases hf
end
end Z
/-! Operations on data. -/
namespace Z
open PySem L2

/-- greater than any number that the programs reckon with, below the machine's lines -/
def BIG : Nat := 2 ^ 4000
def MulOk (i j : Int) : Prop := i.natAbs < 2 ^ 64 ∨ j.natAbs < 2 ^ 64 ∨ (i.natAbs < BIG ∧ j.natAbs < BIG)
instance (i j : Int) : Decidable (MulOk i j) := inferInstanceAs (Decidable (_ ∨ _ ∨ (_ ∧ _)))
def addD : D → D → Option D
  | .int i, .int j => some (.int (i + j))
  | .str a, .str b => if a.length + b.length ≤ 100000 then some (.str (a ++ b)) else none
  | .tup a, .tup b => if a.length + b.length ≤ 100000 then some (.tup (a ++ b)) else none
  | _, _ => none
def subD : D → D → Option D
  | .int i, .int j => some (.int (i - j))
  | _, _ => none
def mulD : D → D → Option D
  | .int i, .int j => if MulOk i j then some (.int (i * j)) else none
  | _, _ => none
/-- a tuple so many times -/
def repD : D → D → Option D
  | .tup a, .int k => if a ≠ [] ∧ 1 ≤ k ∧ k ≤ 1000 ∧ a.length ≤ 1000 then some (.tup (List.replicate k.toNat a).flatten) else none
  | _, _ => none
def fdivD : D → D → Option D
  | .int i, .int j => if j ≠ 0 ∧ j.natAbs < BIG then some (.int (i.fdiv j)) else none
  | _, _ => none
def modD : D → D → Option D
  | .int i, .int j => if j ≠ 0 then some (.int (i.fmod j)) else none
  | _, _ => none
def powD : D → D → Option D
  | .int i, .int j => if 0 ≤ j ∧ j ≤ 1000 ∧ i.natAbs < 2 ^ 64 then some (.int (i ^ j.toNat)) else none
  | _, _ => none
def negD : D → Option D
  | .int i => some (.int (-i))
  | _ => none
def ltD : D → D → Option D
  | .int i, .int j => some (.bl (decide (i < j)))
  | _, _ => none
def leD : D → D → Option D
  | .int i, .int j => some (.bl (decide (i ≤ j)))
  | _, _ => none
def gtD : D → D → Option D
  | .int i, .int j => some (.bl (decide (j < i)))
  | _, _ => none
def geD : D → D → Option D
  | .int i, .int j => some (.bl (decide (j ≤ i)))
  | _, _ => none
/-- is None -/
def isND : D → Option D
  | .non => some (.bl true)
  | _ => some (.bl false)
def notND : D → Option D
  | .non => some (.bl false)
  | _ => some (.bl true)

section
variable {K : PySem.W.Frag} {T : List Addr} {X : Cx}
theorem stepD {G H : Hp} {d : D} {v : V} {Q : VK} (s : Ex G H) (t : TabOk T G H) (r : Rp K G d v) (q : ∀ w G' H', Step T G H G' H' → Rp K G' d w → Q w H') : Q v H := q v G H (Step.refl s t) r
theorem newT {G H : Hp} {ds : List D} {vs : List V} {Q : VK} {p : Addr} (s : Ex G H) (t : TabOk T G H) (hp : H p = none) (r : Rps K G ds vs) (q : ∀ w G' H', Step T G H G' H' → Rp K G' (.tup ds) w → Q w H') : Q (.ref p) (upd H p (.tup vs)) :=
  q _ _ _ (Step.new s t hp) (.tup upd_same (r.mono (Ex.new (s.back hp))))

/-! ### + - * // % ** - -/
abbrev rStr : R2 := fun x y H Q => ∃ i j, x = .str i ∧ y = .str j ∧ i.length + j.length ≤ sizeLine ∧ Q (.str (i ++ j)) H
abbrev rAdd (K : PySem.W.Frag) : R2 := fun x y H Q => (rI0 (fun i j => .int (i + j))) x y H Q ∨ ((rStr x y H Q) ∨ (rCatA K x y H Q))
theorem op_addA : OpR X (binaryOp .Add) (rAdd X.K) := OpR.or op_add (OpR.or op_add_str op_catA)
theorem ops_add : OpS K T (rAdd K) addD := by
  intro x y d h G H u v s t ru rv Q q
  cases ru with
  | int i => cases rv with
    | int j => cases h; exact .inl ⟨i, j, rfl, rfl, stepD s t (.int _) q⟩
    | _ => cases h
  | str a => cases rv with
    | str b =>
      simp only [addD] at h
      by_cases hl : a.length + b.length ≤ 100000
      · rw [if_pos hl] at h
        cases h
        exact .inr (.inl ⟨a, b, rfl, rfl, line_of hl, stepD s t (.str _) q⟩)
      · rw [if_neg hl] at h; cases h
    | _ => cases h
  | @tup p vs ds g1 r1 => cases rv with
    | @tup p2 vs2 ds2 g2 r2 =>
      simp only [addD] at h
      by_cases hl : ds.length + ds2.length ≤ 100000
      · rw [if_pos hl] at h
        cases h
        refine .inr (.inr ⟨p, p2, vs, vs2, rfl, rfl, SqT.of (s _ _ g1), SqT.of (s _ _ g2), by rw [← r1.len, ← r2.len]; exact line_of hl, fun e => ?_, fun _ e => ?_, fun _ _ p hp => ?_⟩)
        · subst e
          cases r1
          exact stepD s t (.tup g2 r2) q
        · subst e
          cases r2
          refine stepD s t (.tup g1 (?_ : Rps K G (ds ++ []) vs)) q
          rw [List.append_nil]
          exact r1
        · exact newT s t hp (r1.app r2) q
      · rw [if_neg hl] at h; cases h
    | _ => cases h
  | _ => cases rv <;> cases h
theorem ops_sub : OpS K T (rI0 (fun i j => .int (i - j))) subD := by
  intro x y d h G H u v s t ru rv Q q
  cases ru with
  | int i => cases rv with
    | int j => cases h; exact ⟨i, j, rfl, rfl, stepD s t (.int _) q⟩
    | _ => cases h
  | _ => cases rv <;> cases h
theorem MulOk.ok {i j : Int} (h : MulOk i j) : IntMulOk i j := by
  rcases h with h | h | ⟨h1, h2⟩
  · exact .of_left (intBits_le_64 (by omega) (by omega))
  · exact .of_right (intBits_le_64 (by omega) (by omega))
  · exact (wide_mul (a := 4000) (b := 4000) h1 h2 (by decide) (by decide) (by decide)).ok
theorem op_mulZ : OpR X (binaryOp .Mult) (rI MulOk fun i j => .int (i * j)) := opI fun _ _ _ _ _ _ _ hc q => PyProof.Rows.mul_int q hc.ok
theorem ops_mul : OpS K T (rI MulOk fun i j => .int (i * j)) mulD := by
  intro x y d h G H u v s t ru rv Q q
  cases ru with
  | int i => cases rv with
    | int j =>
      simp only [mulD] at h
      by_cases hl : MulOk i j
      · rw [if_pos hl] at h
        cases h
        exact ⟨i, j, rfl, rfl, hl, stepD s t (.int _) q⟩
      · rw [if_neg hl] at h; cases h
    | _ => cases h
  | _ => cases rv <;> cases h
def CDivZ (_ j : Int) : Prop := j ≠ 0 ∧ j.natAbs.log2 < 9000
theorem op_fdivZ : OpR X (binaryOp .FloorDiv) (rI CDivZ fun i j => .int (i.fdiv j)) := opI fun i j _ _ _ _ _ hc q => PyProof.Rows.floordiv_int hc.1 q (.inl (PyProof.noPylong_of_log2 hc.2))
theorem ops_fdiv : OpS K T (rI CDivZ fun i j => .int (i.fdiv j)) fdivD := by
  intro x y d h G H u v s t ru rv Q q
  cases ru with
  | int i => cases rv with
    | int j =>
      simp only [fdivD] at h
      by_cases hl : j ≠ 0 ∧ j.natAbs < BIG
      · rw [if_pos hl] at h
        cases h
        exact ⟨i, j, rfl, rfl, ⟨hl.1, Nat.lt_of_lt_of_le (PySem.Flt.log2_lt_of (by decide) (show j.natAbs < 2 ^ 4000 from hl.2)) (by decide)⟩, stepD s t (.int _) q⟩
      · rw [if_neg hl] at h; cases h
    | _ => cases h
  | _ => cases rv <;> cases h
theorem ops_mod : OpS K T (rI (fun _ j => j ≠ 0) fun i j => .int (i.fmod j)) modD := by
  intro x y d h G H u v s t ru rv Q q
  cases ru with
  | int i => cases rv with
    | int j =>
      simp only [modD] at h
      by_cases hl : j ≠ 0
      · rw [if_pos hl] at h
        cases h
        exact ⟨i, j, rfl, rfl, hl, stepD s t (.int _) q⟩
      · rw [if_neg hl] at h; cases h
    | _ => cases h
  | _ => cases rv <;> cases h
theorem ops_pow : OpS K T (rI CPow fun i j => .int (i ^ j.toNat)) powD := by
  intro x y d h G H u v s t ru rv Q q
  cases ru with
  | int i => cases rv with
    | int j =>
      simp only [powD] at h
      by_cases hl : 0 ≤ j ∧ j ≤ 1000 ∧ i.natAbs < 2 ^ 64
      · rw [if_pos hl] at h
        cases h
        exact ⟨i, j, rfl, rfl, ⟨hl.1, by omega, hl.2.2⟩, stepD s t (.int _) q⟩
      · rw [if_neg hl] at h; cases h
    | _ => cases h
  | _ => cases rv <;> cases h
theorem uns_neg : UnS K T (rU fun i => .int (-i)) negD := by
  intro x d h G H u s t ru Q q
  cases ru with
  | int i => cases h; exact ⟨i, rfl, stepD s t (.int _) q⟩
  | _ => cases h
/-! ### comparisons -/
theorem ops_lt : OpS K T (rI0 fun i j => .bl (decide (i < j))) ltD := by
  intro x y d h G H u v s t ru rv Q q
  cases ru with
  | int i => cases rv with
    | int j => cases h; exact ⟨i, j, rfl, rfl, stepD s t (.bl _) q⟩
    | _ => cases h
  | _ => cases rv <;> cases h
theorem ops_le : OpS K T (rI0 fun i j => .bl (decide (i ≤ j))) leD := by
  intro x y d h G H u v s t ru rv Q q
  cases ru with
  | int i => cases rv with
    | int j => cases h; exact ⟨i, j, rfl, rfl, stepD s t (.bl _) q⟩
    | _ => cases h
  | _ => cases rv <;> cases h
theorem ops_gt : OpS K T (rI0 fun i j => .bl (decide (j < i))) gtD := by
  intro x y d h G H u v s t ru rv Q q
  cases ru with
  | int i => cases rv with
    | int j => cases h; exact ⟨i, j, rfl, rfl, stepD s t (.bl _) q⟩
    | _ => cases h
  | _ => cases rv <;> cases h
theorem ops_ge : OpS K T (rI0 fun i j => .bl (decide (j ≤ i))) geD := by
  intro x y d h G H u v s t ru rv Q q
  cases ru with
  | int i => cases rv with
    | int j => cases h; exact ⟨i, j, rfl, rfl, stepD s t (.bl _) q⟩
    | _ => cases h
  | _ => cases rv <;> cases h
/-! ### == of data -/
mutual
def D.py : D → PyData
  | .non => .none
  | .bl b => .bool b
  | .int i => .int i
  | .str s => .str s
  | .tup ds => .tuple (D.pys ds)
  | .lst ds => .list (D.pys ds)
  | _ => .none
def D.pys : List D → List PyData
  | [] => []
  | d :: ds => D.py d :: D.pys ds
end
mutual
/-- plain data, so deep at most -/
def D.ok : Nat → D → Bool
  | _, .non => true
  | _, .bl _ => true
  | _, .int _ => true
  | _, .str s => PyData.strOk s
  | n + 1, .tup ds => D.oks n ds
  | n + 1, .lst ds => D.oks n ds
  | _, _ => false
def D.oks : Nat → List D → Bool
  | _, [] => true
  | n, d :: ds => D.ok n d && D.oks n ds
end
mutual
def D.eqb : D → D → Bool
  | .non, .non => true
  | .bl a, .bl b => a == b
  | .bl a, .int j => (if a then 1 else 0) == j
  | .int i, .bl b => i == (if b then 1 else 0)
  | .int i, .int j => i == j
  | .str x, .str y => x == y
  | .lst xs, .lst ys => D.eqbs xs ys
  | .tup xs, .tup ys => D.eqbs xs ys
  | _, _ => false
def D.eqbs : List D → List D → Bool
  | [], [] => true
  | x :: xs, y :: ys => D.eqb x y && D.eqbs xs ys
  | _, _ => false
end
mutual
theorem Rp.dp {G H : Hp} (s : Ex G H) : ∀ {n : Nat} {d : D} {v : V}, D.ok n d = true → Rp K G d v → Dp K H v d.py
  | _, _, _, _, .non => by rw [D.py]; exact .non
  | _, _, _, _, .bl b => by rw [D.py]; exact .bl b
  | _, _, _, _, .int i => by rw [D.py]; exact .int i
  | _, _, _, _, .str x => by rw [D.py]; exact .str x
  | n + 1, _, _, h, .tup g r => by rw [D.py]; exact .tup (SqT.of (s _ _ g)) (Rps.dp s (n := n) (by rw [D.ok] at h; exact h) r)
  | n + 1, _, _, h, .lst g r => by rw [D.py]; exact .lst (ex_l s g) (Rps.dp s (n := n) (by rw [D.ok] at h; exact h) r)
  | 0, _, _, h, .tup g r => by simp [D.ok] at h
  | 0, _, _, h, .lst g r => by simp [D.ok] at h
  | n, _, _, h, .pt _ _ _ => by cases n <;> simp [D.ok] at h
  | n, _, _, h, .dic _ _ _ => by cases n <;> simp [D.ok] at h
  | n, _, _, h, .ins _ _ _ => by cases n <;> simp [D.ok] at h
theorem Rps.dp {G H : Hp} (s : Ex G H) : ∀ {n : Nat} {ds : List D} {vs : List V}, D.oks n ds = true → Rps K G ds vs → DpAll K H vs (D.pys ds)
  | _, _, _, _, .nil => by rw [D.pys]; exact .nil
  | n, _, _, h, .cons r rs => by
    rw [D.oks, Bool.and_eq_true] at h
    rw [D.pys]
    exact .cons (Rp.dp s h.1 r) (Rps.dp s h.2 rs)
end
mutual
theorem D.ok_lay : ∀ {n : Nat} {d : D}, D.ok n d = true → d.py.canLay0 = true ∧ d.py.depth ≤ n
  | _, .non, _ => ⟨by simp [D.py, PyData.canLay0], by simp [D.py, PyData.depth]⟩
  | _, .bl _, _ => ⟨by simp [D.py, PyData.canLay0], by simp [D.py, PyData.depth]⟩
  | _, .int _, _ => ⟨by simp [D.py, PyData.canLay0], by simp [D.py, PyData.depth]⟩
  | n, .str s, h => ⟨by
      rw [D.py, PyData.canLay0]
      cases n <;> (rw [D.ok] at h; exact h), by simp [D.py, PyData.depth]⟩
  | n + 1, .tup ds, h => by
    rw [D.ok] at h
    obtain ⟨h1, h2⟩ := D.oks_lay h
    exact ⟨by rw [D.py, PyData.canLay0]; exact h1, by rw [D.py, PyData.depth]; omega⟩
  | n + 1, .lst ds, h => by
    rw [D.ok] at h
    obtain ⟨h1, h2⟩ := D.oks_lay h
    exact ⟨by rw [D.py, PyData.canLay0]; exact h1, by rw [D.py, PyData.depth]; omega⟩
  | 0, .tup ds, h => by simp [D.ok] at h
  | 0, .lst ds, h => by simp [D.ok] at h
  | n, .dic _ _, h => by cases n <;> simp [D.ok] at h
  | n, .ins _ _ _, h => by cases n <;> simp [D.ok] at h
theorem D.oks_lay : ∀ {n : Nat} {ds : List D}, D.oks n ds = true → PyData.canLayAll0 (D.pys ds) = true ∧ PyData.depthAll (D.pys ds) ≤ n
  | _, [], _ => ⟨by simp [D.pys, PyData.canLayAll0], by simp [D.pys, PyData.depthAll]⟩
  | n, d :: ds, h => by
    rw [D.oks, Bool.and_eq_true] at h
    obtain ⟨a, b⟩ := D.ok_lay h.1
    obtain ⟨c, e⟩ := D.oks_lay h.2
    exact ⟨by rw [D.pys, PyData.canLayAll0, a, c]; rfl, by rw [D.pys, PyData.depthAll]; omega⟩
end
theorem D.shaped {d : D} (h : D.ok 60 d = true) : SeqAt.shaped d.py = true := by
  obtain ⟨a, b⟩ := D.ok_lay h
  show (d.py.canLay0 && decide (d.py.depth ≤ 64)) = true
  rw [a, Bool.true_and]
  exact decide_eq_true (by omega)
mutual
theorem D.eqb_py : ∀ {n m : Nat} {d e : D}, D.ok n d = true → D.ok m e = true → PyData.eqv d.py e.py = D.eqb d e
  | n + 1, m + 1, .tup xs, .tup ys, h1, h2 => by
    rw [D.ok] at h1 h2
    rw [D.py, D.py, PyData.eqv, D.eqb]
    exact D.eqbs_py h1 h2
  | n + 1, m + 1, .lst xs, .lst ys, h1, h2 => by
    rw [D.ok] at h1 h2
    rw [D.py, D.py, PyData.eqv, D.eqb]
    exact D.eqbs_py h1 h2
  | n, m, .non, e, h1, h2 => by cases e <;> first | (simp [D.py, PyData.eqv, D.eqb]; done) | (cases m <;> simp [D.ok] at h2; done)
  | n, m, .bl b, e, h1, h2 => by cases e <;> first | (simp [D.py, PyData.eqv, D.eqb]; done) | (cases m <;> simp [D.ok] at h2; done)
  | n, m, .int b, e, h1, h2 => by cases e <;> first | (simp [D.py, PyData.eqv, D.eqb]; done) | (cases m <;> simp [D.ok] at h2; done)
  | n, m, .str b, e, h1, h2 => by cases e <;> first | (simp [D.py, PyData.eqv, D.eqb]; done) | (cases m <;> simp [D.ok] at h2; done)
  | n, m, .dic _ _, e, h1, h2 => by cases n <;> simp [D.ok] at h1
  | n, m, .ins _ _ _, e, h1, h2 => by cases n <;> simp [D.ok] at h1
  | 0, _, .tup xs, _, h1, _ => by simp [D.ok] at h1
  | 0, _, .lst xs, _, h1, _ => by simp [D.ok] at h1
  | n + 1, 0, .tup xs, e, h1, h2 => by cases e <;> first | (simp [D.py, PyData.eqv, D.eqb]; done) | (simp [D.ok] at h2; done)
  | n + 1, 0, .lst xs, e, h1, h2 => by cases e <;> first | (simp [D.py, PyData.eqv, D.eqb]; done) | (simp [D.ok] at h2; done)
  | n + 1, m + 1, .tup xs, .non, h1, h2 => by simp [D.py, PyData.eqv, D.eqb]
  | n + 1, m + 1, .tup xs, .bl _, h1, h2 => by simp [D.py, PyData.eqv, D.eqb]
  | n + 1, m + 1, .tup xs, .int _, h1, h2 => by simp [D.py, PyData.eqv, D.eqb]
  | n + 1, m + 1, .tup xs, .str _, h1, h2 => by simp [D.py, PyData.eqv, D.eqb]
  | n + 1, m + 1, .tup xs, .lst _, h1, h2 => by simp [D.py, PyData.eqv, D.eqb]
  | n + 1, m + 1, .tup xs, .dic _ _, h1, h2 => by simp [D.ok] at h2
  | n + 1, m + 1, .tup xs, .ins _ _ _, h1, h2 => by simp [D.ok] at h2
  | n + 1, m + 1, .lst xs, .non, h1, h2 => by simp [D.py, PyData.eqv, D.eqb]
  | n + 1, m + 1, .lst xs, .bl _, h1, h2 => by simp [D.py, PyData.eqv, D.eqb]
  | n + 1, m + 1, .lst xs, .int _, h1, h2 => by simp [D.py, PyData.eqv, D.eqb]
  | n + 1, m + 1, .lst xs, .str _, h1, h2 => by simp [D.py, PyData.eqv, D.eqb]
  | n + 1, m + 1, .lst xs, .tup _, h1, h2 => by simp [D.py, PyData.eqv, D.eqb]
  | n + 1, m + 1, .lst xs, .dic _ _, h1, h2 => by simp [D.ok] at h2
  | n + 1, m + 1, .lst xs, .ins _ _ _, h1, h2 => by simp [D.ok] at h2
theorem D.eqbs_py : ∀ {n m : Nat} {ds es : List D}, D.oks n ds = true → D.oks m es = true → PyData.eqvAll (D.pys ds) (D.pys es) = D.eqbs ds es
  | _, _, [], [], _, _ => by simp [D.pys, PyData.eqvAll, D.eqbs]
  | _, _, [], _ :: _, _, _ => by simp [D.pys, PyData.eqvAll, D.eqbs]
  | _, _, _ :: _, [], _, _ => by simp [D.pys, PyData.eqvAll, D.eqbs]
  | n, m, d :: ds, e :: es, h1, h2 => by
    rw [D.oks, Bool.and_eq_true] at h1 h2
    rw [D.pys, D.pys, PyData.eqvAll, D.eqbs, D.eqb_py h1.1 h2.1, D.eqbs_py h1.2 h2.2]
end
def eqD (x y : D) : Option D := if D.ok 60 x = true ∧ D.ok 60 y = true then some (.bl (D.eqb x y)) else none
def neD (x y : D) : Option D := if D.ok 60 x = true ∧ D.ok 60 y = true then some (.bl (!D.eqb x y)) else none
theorem ops_eq : OpS K T (rEqD K) eqD := by
  intro x y d h G H u v s t ru rv Q q
  unfold eqD at h
  by_cases hc : D.ok 60 x = true ∧ D.ok 60 y = true
  · rw [if_pos hc] at h
    cases h
    exact ⟨x.py, y.py, ru.dp s hc.1, rv.dp s hc.2, D.shaped hc.1, D.shaped hc.2, stepD s t (by rw [D.eqb_py hc.1 hc.2]; exact .bl _) q⟩
  · rw [if_neg hc] at h
    cases h
theorem ops_ne : OpS K T (rNeD K) neD := by
  intro x y d h G H u v s t ru rv Q q
  unfold neD at h
  by_cases hc : D.ok 60 x = true ∧ D.ok 60 y = true
  · rw [if_pos hc] at h
    cases h
    exact ⟨x.py, y.py, ru.dp s hc.1, rv.dp s hc.2, D.shaped hc.1, D.shaped hc.2, stepD s t (by rw [D.eqb_py hc.1 hc.2]; exact .bl _) q⟩
  · rw [if_neg hc] at h
    cases h
end
end Z
/-! in, subscripts, slices, built-ins, methods, attributes. -/
namespace Z
open PySem L2

section
variable {K : PySem.W.Frag} {T : List Addr} {X : Cx} {ω : List Nat} {e : Expr} {fa fb : M}

/-! ### in -/
def D.flat : D → Bool
  | .non => true
  | .bl _ => true
  | .int _ => true
  | .str _ => true
  | _ => false
theorem Rp.flat {G : Hp} {d : D} {v : V} (h : d.flat = true) (r : Rp K G d v) : flatV v = true := by
  cases r <;> first | rfl | cases h
theorem Rp.eqV {G : Hp} {d e : D} {v u : V} (h : d.flat = true) (h2 : e.flat = true) (r : Rp K G d v) (r2 : Rp K G e u) : eqV v u = D.eqb d e := by
  cases r <;> cases r2 <;> first | (simp [L2.eqV, D.eqb]; done) | cases h | cases h2
theorem Rps.flat {G : Hp} : ∀ {ds : List D} {vs : List V}, ds.all D.flat = true → Rps K G ds vs → vs.all flatV = true
  | _, _, _, .nil => rfl
  | _, _, h, .cons r rs => by
    rw [List.all_cons, Bool.and_eq_true] at h ⊢
    exact ⟨r.flat h.1, Rps.flat h.2 rs⟩
theorem Rps.inV {G : Hp} {d : D} {v : V} (hd : d.flat = true) (r : Rp K G d v) : ∀ {ds : List D} {vs : List V}, ds.all D.flat = true → Rps K G ds vs → L2.inV v vs = ds.any fun e => D.eqb e d
  | _, _, _, .nil => rfl
  | _, _, h, .cons r1 rs => by
    rw [List.all_cons, Bool.and_eq_true] at h
    have ih := Rps.inV hd r h.2 rs
    unfold L2.inV at ih ⊢
    rw [List.any_cons, List.any_cons, r1.eqV h.1 hd r, ih]
def inD (x y : D) : Option D := match y with
  | .tup ds => if x.flat = true ∧ ds.all D.flat = true then some (.bl (ds.any fun e => D.eqb e x)) else none
  | .lst ds => if x.flat = true ∧ ds.all D.flat = true then some (.bl (ds.any fun e => D.eqb e x)) else none
  | _ => none
def ninD (x y : D) : Option D := match y with
  | .tup ds => if x.flat = true ∧ ds.all D.flat = true then some (.bl (!ds.any fun e => D.eqb e x)) else none
  | .lst ds => if x.flat = true ∧ ds.all D.flat = true then some (.bl (!ds.any fun e => D.eqb e x)) else none
  | _ => none
theorem ops_in : OpS K T (rIn K false) inD := by
  intro x y d h G H u v s t ru rv Q q
  cases rv with
  | @tup p vs ds g r =>
    simp only [inD] at h
    by_cases hc : x.flat = true ∧ ds.all D.flat = true
    · rw [if_pos hc] at h
      cases h
      refine ⟨p, vs, rfl, .inr (SqT.of (s _ _ g)), ru.flat hc.1, r.flat hc.2, ?_⟩
      show Q (.bl (L2.inV u vs)) H
      rw [r.inV hc.1 ru hc.2]
      exact stepD s t (.bl _) q
    · rw [if_neg hc] at h; cases h
  | @lst p vs ds g r =>
    simp only [inD] at h
    by_cases hc : x.flat = true ∧ ds.all D.flat = true
    · rw [if_pos hc] at h
      cases h
      refine ⟨p, vs, rfl, .inl (ex_l s g), ru.flat hc.1, r.flat hc.2, ?_⟩
      show Q (.bl (L2.inV u vs)) H
      rw [r.inV hc.1 ru hc.2]
      exact stepD s t (.bl _) q
    · rw [if_neg hc] at h; cases h
  | _ => cases h
theorem ops_nin : OpS K T (rIn K true) ninD := by
  intro x y d h G H u v s t ru rv Q q
  cases rv with
  | @tup p vs ds g r =>
    simp only [ninD] at h
    by_cases hc : x.flat = true ∧ ds.all D.flat = true
    · rw [if_pos hc] at h
      cases h
      refine ⟨p, vs, rfl, .inr (SqT.of (s _ _ g)), ru.flat hc.1, r.flat hc.2, ?_⟩
      show Q (.bl (!L2.inV u vs)) H
      rw [r.inV hc.1 ru hc.2]
      exact stepD s t (.bl _) q
    · rw [if_neg hc] at h; cases h
  | @lst p vs ds g r =>
    simp only [ninD] at h
    by_cases hc : x.flat = true ∧ ds.all D.flat = true
    · rw [if_pos hc] at h
      cases h
      refine ⟨p, vs, rfl, .inl (ex_l s g), ru.flat hc.1, r.flat hc.2, ?_⟩
      show Q (.bl (!L2.inV u vs)) H
      rw [r.inV hc.1 ru hc.2]
      exact stepD s t (.bl _) q
    · rw [if_neg hc] at h; cases h
  | _ => cases h
/-- one sign in a text -/
def inSD : D → D → Option D
  | .str c, .str z => match c.cps.toList with
    | [n] => some (.bl (decide (n ∈ z.cps.toList)))
    | _ => none
  | _, _ => none
abbrev rInSgn : R2 := fun x y H Q => ∃ (c : Nat) (z : Str), x = .str ⟨#[c]⟩ ∧ y = .str z ∧ Q (.bl (decide (c ∈ z.cps.toList))) H
theorem ops_inS : OpS K T rInSgn inSD := by
  intro x y d h G H u v s t ru rv Q q
  cases ru with
  | str c => cases rv with
    | str z =>
      simp only [inSD] at h
      split at h
      · rename_i n e
        cases h
        have ec : c = ⟨#[n]⟩ := by
          obtain ⟨c⟩ := c
          have : c = #[n] := by
            have := congrArg List.toArray e
            simpa using this
          rw [this]
        exact ⟨n, z, by rw [ec], rfl, stepD s t (.bl _) q⟩
      · cases h
    | _ => cases h
  | _ => cases rv <;> cases h

/-! ### is None -/
theorem de_isN {a : Expr} {j : Nat} {p1 pos : Pos} (ha : PE X a (teOf X.K T ω fa)) : PE X (.Compare a [.Is] [.Constant .none j p1] pos) (teOf X.K T ω (eUn isND fa)) :=
  PEi (pe_cmpR op_isN ha pe_non (nomark _)) fun σ H Q ⟨E, G, ρ, d, ρ', k, hf, q⟩ => by
    obtain ⟨⟨x, ρ1⟩, h1, hf⟩ := Option.bind_eq_some_iff.mp hf
    obtain ⟨d', h3, hf⟩ := Option.map_eq_some_iff.mp hf
    cases hf
    refine ⟨E, G, ρ, x, ρ1, k, h1, fun u G1 H1 e1 k1 r1 => ⟨rfl, ?_⟩⟩
    refine q _ G1 H1 e1 k1 ?_
    cases r1 <;> (cases h3; exact .bl _)
theorem dt_isN {a : Expr} {j : Nat} {p1 pos : Pos} (ha : PE X a (teOf X.K T ω fa)) : PT X (.Compare a [.Is] [.Constant .none j p1] pos) (ttOf X.K T ω (tBl (eUn isND fa))) :=
  dt_cmp (pt_cmpR op_isN ha pe_non (nomark _)) fun σ H Q ⟨E, G, ρ, d, ρ', k, hf, q⟩ => by
    obtain ⟨⟨x, ρ1⟩, h1, hf⟩ := Option.bind_eq_some_iff.mp hf
    obtain ⟨d', h3, hf⟩ := Option.map_eq_some_iff.mp hf
    cases hf
    refine ⟨E, G, ρ, x, ρ1, k, h1, fun u G1 H1 e1 k1 r1 => ⟨rfl, ?_⟩⟩
    refine q _ G1 H1 e1 k1 ?_
    cases r1 <;> (cases h3; exact .bl _)
/-! ### comparisons as tests, chains -/
variable {op op' : CmpOp} {a b c : Expr} {pos : Pos} {r r' : R2} {g g' : D → D → Option D} {fc : M}
theorem de_cmp (ho : OpR X (compareOp op) r) (os : OpS X.K T r g) (ha : PE X a (teOf X.K T ω fa)) (hb : PE X b (teOf X.K T ω fb)) (hm : behindInMarks op b = false := by first | exact nomark _ | rfl) : PE X (.Compare a [op] [b] pos) (teOf X.K T ω (eBin g fa fb)) :=
  de_bin (pe_cmpR ho ha hb hm) os
theorem bin_imp (os : OpS K T r g) {σ : L2.St} {H : Hp} {Q : VK} (h : teOf K T ω (eBin g fa fb) σ H Q) : tOp r (teOf K T ω fa) (teOf K T ω fb) σ H Q := by
  obtain ⟨E, G, ρ, d, ρ', k, hf, q⟩ := h
  obtain ⟨⟨x, ρ1⟩, h1, hf⟩ := Option.bind_eq_some_iff.mp hf
  obtain ⟨⟨y, ρ2⟩, h2, hf⟩ := Option.bind_eq_some_iff.mp hf
  obtain ⟨d', h3, hf⟩ := Option.map_eq_some_iff.mp hf
  cases hf
  exact ⟨E, G, ρ, x, ρ1, k, h1, fun u G1 H1 e1 k1 r1 => ⟨E, G1, ρ1, y, ρ2, k1, h2, fun v G2 H2 e2 k2 r2 =>
    os x y d h3 G2 H2 u v k2.sub k2.tab (r1.mono e2) r2 Q fun w G' H' s rw' => q w G' H' ((e1.trans e2).trans s.g) (k2.step s) rw'⟩⟩
theorem dt_cmpR (ho : OpR X (compareOp op) r) (os : OpS X.K T r g) (ha : PE X a (teOf X.K T ω fa)) (hb : PE X b (teOf X.K T ω fb)) (hm : behindInMarks op b = false := by first | exact nomark _ | rfl) : PT X (.Compare a [op] [b] pos) (ttOf X.K T ω (tBl (eBin g fa fb))) :=
  dt_cmp (pt_cmpR ho ha hb hm) fun _ _ _ h => bin_imp os h
def eChain (g g' : D → D → Option D) (fa fb fc : M) : M := fun ρ => (fa ρ).bind fun p => (fb p.2).bind fun q => (g p.1 q.1).bind fun z => match z with
  | .bl true => (fc q.2).bind fun s => (g' q.1 s.1).map fun d => (d, s.2)
  | .bl false => some (.bl false, q.2)
  | _ => none
theorem chain_imp (os : OpS K T r g) (os' : OpS K T r' g') {σ : L2.St} {H : Hp} {Q : VK} (h : teOf K T ω (eChain g g' fa fb fc) σ H Q) : tChain r r' (teOf K T ω fa) (teOf K T ω fb) (teOf K T ω fc) σ H Q := by
  obtain ⟨E, G, ρ, d, ρ', k, hf, q⟩ := h
  obtain ⟨⟨x, ρ1⟩, h1, hf⟩ := Option.bind_eq_some_iff.mp hf
  obtain ⟨⟨y, ρ2⟩, h2, hf⟩ := Option.bind_eq_some_iff.mp hf
  obtain ⟨z, h3, hf⟩ := Option.bind_eq_some_iff.mp hf
  refine ⟨E, G, ρ, x, ρ1, k, h1, fun u G1 H1 e1 k1 r1 => ⟨E, G1, ρ1, y, ρ2, k1, h2, fun v G2 H2 e2 k2 r2 =>
    os x y z h3 G2 H2 u v k2.sub k2.tab (r1.mono e2) r2 _ fun w G3 H3 s rw' => ?_⟩⟩
  cases rw' with
  | bl c =>
    refine ⟨c, rfl, ?_⟩
    cases c with
    | true =>
      obtain ⟨⟨s1, ρ3⟩, h4, hf⟩ := Option.bind_eq_some_iff.mp hf
      obtain ⟨d', h5, hf⟩ := Option.map_eq_some_iff.mp hf
      cases hf
      show teOf K T ω fc σ H3 _
      exact ⟨E, G3, ρ2, s1, _, k2.step s, h4, fun w4 G4 H4 e4 k4 r4 => os' y s1 d h5 G4 H4 v w4 k4.sub k4.tab (r2.mono (s.g.trans e4)) r4 Q fun w5 G5 H5 s5 r5 =>
        q w5 G5 H5 ((((e1.trans e2).trans s.g).trans e4).trans s5.g) (k4.step s5) r5⟩
    | false =>
      cases hf
      show Q (.bl false) H3
      exact q _ G3 H3 ((e1.trans e2).trans s.g) (k2.step s) (.bl false)
  | _ => cases hf
theorem de_chain (ho : OpR X (compareOp op) r) (os : OpS X.K T r g) (ho' : OpR X (compareOp op') r') (os' : OpS X.K T r' g') (ha : PE X a (teOf X.K T ω fa)) (hb : PE X b (teOf X.K T ω fb)) (hc : PE X c (teOf X.K T ω fc))
    (hm : lastMarks [op, op'] [b, c] = false := by with_unfolding_all rfl) : PE X (.Compare a [op, op'] [b, c] pos) (teOf X.K T ω (eChain g g' fa fb fc)) :=
  PEi (pe_chain ho ho' ha hb hc hm) fun _ _ _ h => chain_imp os os' h
theorem dt_chain (ho : OpR X (compareOp op) r) (os : OpS X.K T r g) (ho' : OpR X (compareOp op') r') (os' : OpS X.K T r' g') (ha : PE X a (teOf X.K T ω fa)) (hb : PE X b (teOf X.K T ω fb)) (hc : PE X c (teOf X.K T ω fc))
    (hm : lastMarks [op, op'] [b, c] = false := by with_unfolding_all rfl) : PT X (.Compare a [op, op'] [b, c] pos) (ttOf X.K T ω (tBl (eChain g g' fa fb fc))) :=
  dt_cmp (pt_chain ho ho' ha hb hc hm) fun _ _ _ h => chain_imp os os' h

/-! ### subscripts -/
def ixD : D → D → Option D
  | .tup ds, .int i => atI ds i
  | .lst ds, .int i => atI ds i
  | .str z, .int i => if z.length ≤ 100000 then (atI z.cps.toList i).map fun c => .str ⟨#[c]⟩ else none
  | _, _ => none
theorem Rps.atI {G : Hp} {ds : List D} {vs : List V} {i : Int} {d : D} (r : Rps K G ds vs) (h : L2.atI ds i = some d) : ∃ v, L2.atI vs i = some v ∧ Rp K G d v := by
  unfold L2.atI at h ⊢
  obtain ⟨j, h1, h2⟩ := Option.bind_eq_some_iff.mp h
  obtain ⟨v, h3, h4⟩ := r.get h2
  rw [← r.len, h1]
  exact ⟨v, h3, h4⟩
theorem ops_ix : OpS K T (rIx K) ixD := by
  intro x y d h G H u v s t ru rv Q q
  cases ru with
  | @tup p vs ds g r => cases rv with
    | int i =>
      obtain ⟨w, h1, h2⟩ := r.atI (show atI ds i = some d from h)
      exact .inr (.inl ⟨p, vs, i, w, rfl, rfl, SqT.of (s _ _ g), h1, stepD s t h2 q⟩)
    | _ => cases h
  | @lst p vs ds g r => cases rv with
    | int i =>
      obtain ⟨w, h1, h2⟩ := r.atI (show atI ds i = some d from h)
      exact .inl ⟨p, vs, i, w, rfl, rfl, ex_l s g, h1, stepD s t h2 q⟩
    | _ => cases h
  | str z => cases rv with
    | int i =>
      simp only [ixD] at h
      by_cases hl : z.length ≤ 100000
      · rw [if_pos hl] at h
        obtain ⟨c, h1, h2⟩ := Option.map_eq_some_iff.mp h
        cases h2
        exact .inr (.inr ⟨z, i, c, rfl, rfl, line_of hl, h1, stepD s t (.str _) q⟩)
      · rw [if_neg hl] at h; cases h
    | _ => cases h
  | _ => cases rv <;> cases h
theorem de_ix (ha : PE X a (teOf X.K T ω fa)) (hb : PE X b (teOf X.K T ω fb)) (hs : PlainIx b := by exact fun _ _ => rfl) : PE X (.Subscript a b pos) (teOf X.K T ω (eBin ixD fa fb)) := de_bin (pe_ix ix_seq ha hb hs) ops_ix
/-- a key -/
def keyD : D → Option Key
  | .int i => some (.inl i)
  | .str z => some (.inr z)
  | _ => none
theorem keyD_ok {G : Hp} {d : D} {k : Key} {v : V} (h : keyD d = some k) (r : Rp K G d v) : v = kV k := by
  cases r <;> cases h <;> rfl
def lookD (k : Key) : List Key → List D → Option D
  | j :: js, d :: ds => if j = k then some d else lookD k js ds
  | _, _ => none
theorem lookD_ok {G : Hp} {k : Key} : ∀ {kvs : List (Key × V)} {ds : List D}, Rps K G ds (kvs.map (·.2)) → (∀ d, lookD k (kvs.map (·.1)) ds = some d → ∃ v, valV kvs k = some v ∧ Rp K G d v) ∧ (lookD k (kvs.map (·.1)) ds = none → valV kvs k = none)
  | [], _, .nil => ⟨fun d h => (by cases h), fun _ => rfl⟩
  | (j, v) :: kvs, d :: ds, .cons r rs => by
    have ih := lookD_ok (k := k) rs
    by_cases e : j = k
    · refine ⟨fun d' h => ?_, fun h => ?_⟩
      · simp only [List.map_cons, lookD, if_pos e] at h
        cases h
        exact ⟨v, by simp [valV, e], r⟩
      · simp only [List.map_cons, lookD, if_pos e] at h
        cases h
    · have ev : valV ((j, v) :: kvs) k = valV kvs k := by simp [valV, e]
      refine ⟨fun d' h => ?_, fun h => ?_⟩
      · simp only [List.map_cons, lookD, if_neg e] at h
        rw [ev]
        exact ih.1 d' h
      · simp only [List.map_cons, lookD, if_neg e] at h
        rw [ev]
        exact ih.2 h
def dixD : D → D → Option D
  | .dic ks ds, y => (keyD y).bind fun k => lookD k ks ds
  | _, _ => none
theorem de_dix {κ : Nat} (hr : Room κ X.A) (ha : PE X a (teOf X.K T ω fa)) (hb : PE X b (teOf X.K T ω fb)) (hs : PlainIx b := by exact fun _ _ => rfl) (hs2 : NoSl b := by exact fun _ _ => rfl) : PE X (.Subscript a b pos) (teOf X.K T ω (eBin dixD fa fb)) :=
  PEi (pe_dget (hu_of hr) ha hb hs2) fun σ H Q ⟨E, G, ρ, d, ρ', k, hf, q⟩ => by
    obtain ⟨⟨x, ρ1⟩, h1, hf⟩ := Option.bind_eq_some_iff.mp hf
    obtain ⟨⟨y, ρ2⟩, h2, hf⟩ := Option.bind_eq_some_iff.mp hf
    obtain ⟨d', h3, hf⟩ := Option.map_eq_some_iff.mp hf
    cases hf
    refine ⟨E, G, ρ, x, ρ1, k, h1, fun u G1 H1 e1 k1 r1 => ⟨E, G1, ρ1, y, ρ2, k1, h2, fun v G2 H2 e2 k2 r2 => ?_⟩⟩
    have r1' := r1.mono e2
    cases r1' with
    | @dic p kvs ks ds g hk r =>
      obtain ⟨key, hkey, hl⟩ := Option.bind_eq_some_iff.mp (show (keyD y).bind (fun k => lookD k ks ds) = some d from h3)
      subst hk
      obtain ⟨w, hw, rw'⟩ := (lookD_ok r).1 d hl
      have ev := keyD_ok hkey r2
      subst ev
      exact ⟨p, w, rfl, by rw [← hw]; exact DGet.k (k2.sub _ _ g), q w G2 H2 (e1.trans e2) k2 rw'⟩
    | _ => cases h3
/-- key in dict -/
def dinD : D → D → Option D
  | y, .dic ks _ => (keyD y).map fun k => .bl (ks.any fun j => decide (j = k))
  | _, _ => none
theorem valV_has {k : Key} : ∀ kvs : List (Key × V), (valV kvs k).isSome = (kvs.map (·.1)).any fun j => decide (j = k)
  | [] => rfl
  | (j, v) :: kvs => by
    by_cases e : j = k
    · simp [valV, e]
    · have ev : valV ((j, v) :: kvs) k = valV kvs k := by simp [valV, e]
      rw [ev, valV_has kvs, List.map_cons, List.any_cons, decide_eq_false e, Bool.false_or]
theorem dt_din {κ : Nat} (hr : Room κ X.A) (ha : PE X a (teOf X.K T ω fa)) (hb : PE X b (teOf X.K T ω fb)) (h1 : behindInMarks .In b = false := by rfl) : PT X (.Compare a [.In] [b] pos) (ttOf X.K T ω (tBl (eBin dinD fa fb))) :=
  PTi (pt_cmp (pc_din (hu_of hr) ha hb) h1) fun σ H Q ⟨E, G, ρ, d, ρ', k, hf, q⟩ => by
    obtain ⟨⟨x0, ρ0⟩, h0, hf⟩ := Option.bind_eq_some_iff.mp hf
    obtain ⟨⟨x, ρ1⟩, h1, h0⟩ := Option.bind_eq_some_iff.mp h0
    obtain ⟨⟨y, ρ2⟩, h2, h0⟩ := Option.bind_eq_some_iff.mp h0
    obtain ⟨d', h3, h0⟩ := Option.map_eq_some_iff.mp h0
    cases h0
    refine ⟨E, G, ρ, x, ρ1, k, h1, fun u G1 H1 e1 k1 r1 => ⟨E, G1, ρ1, y, ρ2, k1, h2, fun v G2 H2 e2 k2 r2 => ?_⟩⟩
    cases r2 with
    | @dic p kvs ks ds g hk r =>
      obtain ⟨key, hkey, hl⟩ := Option.map_eq_some_iff.mp (show (keyD x).map (fun k => D.bl (ks.any fun j => decide (j = k))) = some x0 from h3)
      subst hk
      have ev := keyD_ok hkey (r1.mono e2)
      subst ev
      subst hl
      cases hf
      refine ⟨p, _, rfl, DGet.k (k2.sub _ _ g), _, rfl, ?_⟩
      rw [valV_has]
      exact q G2 H2 (e1.trans e2) k2
    | _ => cases x <;> cases h3
/-- d.get(k, x) -/
def dgetD : D → D → D → Option D
  | .dic ks ds, y, z => (keyD y).map fun k => (lookD k ks ds).getD z
  | _, _, _ => none
def eTri (g : D → D → D → Option D) (fa fb fc : M) : M := fun ρ => (fa ρ).bind fun p => (fb p.2).bind fun q => (fc q.2).bind fun s => (g p.1 q.1 s.1).map fun d => (d, s.2)
theorem de_dget2 {κ : Nat} {apos cpos : Pos} (hr : Room κ X.A) (ha : PE X a (teOf X.K T ω fa)) (hb : PE X b (teOf X.K T ω fb)) (hc : PE X c (teOf X.K T ω fc)) (m : M2 X a "get" apos b c cpos) : PE X (.Call (.Attribute a "get" apos) [b, c] [] cpos) (teOf X.K T ω (eTri dgetD fa fb fc)) :=
  PEi (pe_dget2 (hu_of hr) ha hb hc m) fun σ H Q ⟨E, G, ρ, d, ρ', k, hf, q⟩ => by
    obtain ⟨⟨x, ρ1⟩, h1, hf⟩ := Option.bind_eq_some_iff.mp hf
    obtain ⟨⟨y, ρ2⟩, h2, hf⟩ := Option.bind_eq_some_iff.mp hf
    obtain ⟨⟨z, ρ3⟩, h3, hf⟩ := Option.bind_eq_some_iff.mp hf
    obtain ⟨d', h4, hf⟩ := Option.map_eq_some_iff.mp hf
    cases hf
    refine ⟨E, G, ρ, x, ρ1, k, h1, fun u G1 H1 e1 k1 r1 => ?_⟩
    cases r1 with
    | @dic p kvs ks ds g hk r =>
      refine ⟨p, rfl, .inl ⟨kvs, .inl (k1.sub _ _ g)⟩, E, G1, ρ1, y, ρ2, k1, h2, fun v G2 H2 e2 k2 r2 => ⟨E, G2, ρ2, z, _, k2, h3, fun w G3 H3 e3 k3 r3 => ?_⟩⟩
      obtain ⟨key, hkey, hl⟩ := Option.map_eq_some_iff.mp (show (keyD y).map (fun k => (lookD k ks ds).getD z) = some d from h4)
      subst hk
      have ev := keyD_ok hkey r2
      subst ev
      refine ⟨valV kvs key, DGet.k (k3.sub _ _ ((e2.trans e3) _ _ g)), ?_⟩
      have r' := (r.mono (e2.trans e3))
      refine q _ G3 H3 ((e1.trans e2).trans e3) k3 ?_
      cases hq : lookD key (kvs.map (·.1)) ds with
      | some d2 =>
        obtain ⟨w2, hw, rw2⟩ := (lookD_ok r').1 d2 hq
        rw [hq] at hl
        cases hl
        rw [hw]
        exact rw2
      | none =>
        rw [(lookD_ok r').2 hq]
        rw [hq] at hl
        cases hl
        exact r3
    | _ => cases h4
/-! ### slices -/
def cutD {α : Type} (xs : List α) (lo hi : Option Int) : List α := (xs.drop (HT.sIx xs.length 0 lo)).take (HT.sIx xs.length xs.length hi - HT.sIx xs.length 0 lo)
def slD : D → Option Int → Option Int → Option D
  | .tup ds, lo, hi => some (.tup (cutD ds lo hi))
  | .str z, lo, hi => if z.length ≤ 100000 then some (.str (cutS z lo hi)) else none
  | _, _, _ => none
abbrev MO := Env → Option (Option Int × Env)
def oNone : MO := fun ρ => some (none, ρ)
def oSome (fa : M) : MO := fun ρ => (fa ρ).bind fun p => match p.1 with
  | .int i => some (some i, p.2)
  | _ => none
def toOf (K : PySem.W.Frag) (T : List Addr) (ω : List Nat) (f : MO) : TO := fun σ H Q => ∃ (E : Ent) (G : Hp) (ρ : Env) (d : Option Int) (ρ' : Env), EnvOk K T E ω G H σ ρ ∧ f ρ = some (d, ρ') ∧ ∀ G' H', Ex G G' → EnvOk K T E ω G' H' σ ρ' → Q d H'
theorem POi {lo : Option Expr} {t t' : TO} (h : PO X lo t) (i : ∀ σ H Q, t' σ H Q → t σ H Q) : PO X lo t' := ⟨fun pins s σ H Q I hw => h.run pins s σ H Q I (i _ _ _ hw)⟩
theorem do_none : PO X none (toOf X.K T ω oNone) := POi po_none fun σ H Q ⟨E, G, ρ, d, ρ', k, hf, q⟩ => by
  cases hf
  exact q G H (Ex.refl G) k
theorem do_some (ha : PE X a (teOf X.K T ω fa)) : PO X (some a) (toOf X.K T ω (oSome fa)) := POi (po_some ha) fun σ H Q ⟨E, G, ρ, d, ρ', k, hf, q⟩ => by
  obtain ⟨⟨x, ρ1⟩, h1, hf⟩ := Option.bind_eq_some_iff.mp hf
  refine ⟨E, G, ρ, x, ρ1, k, h1, fun v G1 H1 e1 k1 r1 => ?_⟩
  cases r1 with
  | int i =>
    cases hf
    exact ⟨i, rfl, q G1 H1 e1 k1⟩
  | _ => cases hf
def eSl (fa : M) (fl fh : MO) : M := fun ρ => (fa ρ).bind fun p => (fl p.2).bind fun q => (fh q.2).bind fun s => (slD p.1 q.1 s.1).map fun d => (d, s.2)
theorem Rps.cut {G : Hp} {ds : List D} {vs : List V} (r : Rps K G ds vs) (lo hi : Option Int) : Rps K G (cutD ds lo hi) (cutV vs lo hi) := by
  unfold cutD cutV
  rw [r.len]
  exact (r.drop _).take _
theorem de_sl {lo hi : Option Expr} {fl fh : MO} {p2 : Pos} (ha : PE X a (teOf X.K T ω fa)) (hl : PO X lo (toOf X.K T ω fl)) (hh : PO X hi (toOf X.K T ω fh)) : PE X (.Subscript a (.Slice lo hi none p2) pos) (teOf X.K T ω (eSl fa fl fh)) :=
  PEi (pe_slice (SlR.or sl_tupA sl_str) ha hl hh) fun σ H Q ⟨E, G, ρ, d, ρ', k, hf, q⟩ => by
    obtain ⟨⟨x, ρ1⟩, h1, hf⟩ := Option.bind_eq_some_iff.mp hf
    obtain ⟨⟨y, ρ2⟩, h2, hf⟩ := Option.bind_eq_some_iff.mp hf
    obtain ⟨⟨z, ρ3⟩, h3, hf⟩ := Option.bind_eq_some_iff.mp hf
    obtain ⟨d', h4, hf⟩ := Option.map_eq_some_iff.mp hf
    cases hf
    refine ⟨E, G, ρ, x, ρ1, k, h1, fun u G1 H1 e1 k1 r1 => ⟨E, G1, ρ1, y, ρ2, k1, h2, fun G2 H2 e2 k2 => ⟨E, G2, ρ2, z, _, k2, h3, fun G3 H3 e3 k3 => ?_⟩⟩⟩
    have e4 := (e1.trans e2).trans e3
    have r1' := r1.mono (e2.trans e3)
    cases r1' with
    | @tup p vs ds g r =>
      cases h4
      refine .inl ⟨p, vs, rfl, SqT.of (k3.sub _ _ g), fun hc => ?_, fun _ p hp => ?_⟩
      · have ev : cutV vs y z = vs := by
          unfold cutV
          rw [hc.1, hc.2]
          simp
        have ed : cutD ds y z = ds := by
          unfold cutD
          rw [r.len, hc.1, hc.2, ← r.len]
          simp
        rw [ed] at q
        exact q _ G3 H3 e4 k3 (.tup g r)
      · have s := Step.new (o := .tup (cutV vs y z)) k3.sub k3.tab hp
        exact q _ _ _ (e4.trans s.g) (k3.step s) (.tup upd_same ((r.cut y z).mono s.g))
    | str z' =>
      simp only [slD] at h4
      by_cases hl : z'.length ≤ 100000
      · rw [if_pos hl] at h4
        cases h4
        exact .inr ⟨z', rfl, line_of hl, q _ G3 H3 e4 k3 (.str _)⟩
      · rw [if_neg hl] at h4; cases h4
    | _ => cases h4
end
end Z
/-! Re-based entries, borrowing, calls of one's own defs. -/
namespace Z
open PySem L2

/-- the addresses of the own slots -/
def ownA (ω : List Nat) (σ : L2.St) (ρ : Env) : List Addr := ω.filterMap fun i => match σ[i]?, ρ[i]? with
  | some (some (V.ref p)), some (some _) => some p
  | _, _ => none
section
variable {K : PySem.W.Frag} {T : List Addr} {X : Cx} {ω : List Nat} {E : Ent} {G H G' H' : Hp} {σ : L2.St} {ρ ρ' : Env} {e : Expr} {fa fb f : M}
theorem mem_ownA {p : Addr} : p ∈ ownA ω σ ρ ↔ ∃ i d, i ∈ ω ∧ σ[i]? = some (some (.ref p)) ∧ ρ[i]? = some (some d) := by
  unfold ownA
  rw [List.mem_filterMap]
  constructor
  · rintro ⟨i, hi, h⟩
    split at h
    · rename_i q d h1 h2
      cases h
      exact ⟨i, d, hi, h1, h2⟩
    · cases h
  · rintro ⟨i, d, hi, h1, h2⟩
    exact ⟨i, hi, by rw [h1, h2]⟩
theorem EnvOk.io_some (k : EnvOk K T E ω G H σ ρ) {p : Addr} (hp : p ∈ E.I) : ∃ i d, i ∈ ω ∧ σ[i]? = some (some (.ref p)) ∧ ρ[i]? = some (some d) := by
  obtain ⟨i, a, b, c⟩ := k.io1 hp
  cases hr : ρ[i]? with
  | none =>
    have l := k.len
    rw [List.getElem?_eq_none_iff] at hr
    have := (List.getElem?_eq_some_iff.mp b).1
    omega
  | some u =>
    cases u with
    | none => exact absurd hr c
    | some d => exact ⟨i, d, a, b, hr⟩
theorem EnvOk.ownAt (k : EnvOk K T E ω G H σ ρ) {p : Addr} (hp : p ∈ ownA ω σ ρ) : G p = none ∧ p ∉ T ∧ (E.H p = none ∨ p ∈ E.I) ∧ ∃ d, Own K G H d p := by
  obtain ⟨i, d, hi, h1, h2⟩ := mem_ownA.mp hp
  obtain ⟨q, a, b, c, e, w⟩ := k.ow i d hi h2
  rw [h1] at a
  cases a
  exact ⟨b, c, e, d, w⟩

/-! ### borrowing: every own thing is seen and can't change -/
def seeA (as : List Addr) (G H : Hp) : Hp := fun a => if a ∈ as then H a else G a
def hideA (as : List Addr) (G : Hp) : Hp := fun a => if a ∈ as then none else G a
theorem seeA_in {as : List Addr} {a : Addr} (h : a ∈ as) : seeA as G H a = H a := if_pos h
theorem seeA_out {as : List Addr} {a : Addr} (h : a ∉ as) : seeA as G H a = G a := if_neg h
theorem hideA_in {as : List Addr} {a : Addr} (h : a ∈ as) : hideA as G a = none := if_pos h
theorem hideA_out {as : List Addr} {a : Addr} (h : a ∉ as) : hideA as G a = G a := if_neg h
theorem EnvOk.exSee (k : EnvOk K T E ω G H σ ρ) : Ex G (seeA (ownA ω σ ρ) G H) := fun a o h => by
  by_cases ha : a ∈ ownA ω σ ρ
  · rw [(k.ownAt ha).1] at h
    cases h
  · rw [seeA_out ha]
    exact h
theorem Own.seen {as : List Addr} {d : D} {p : Addr} (hp : p ∈ as) (e : Ex G (seeA as G H)) : Own K G H d p → Rp K (seeA as G H) d (.ref p)
  | .lst h r => .lst (SqL.of (by rw [seeA_in hp]; exact h)) (r.mono e)
  | .dic h c r => .dic (by rw [seeA_in hp]; exact h) c (r.mono e)
theorem EnvOk.lend (k : EnvOk K T E ω G H σ ρ) : EnvOk K T ⟨seeA (ownA ω σ ρ) G H, H, []⟩ [] (seeA (ownA ω σ ρ) G H) H σ ρ where
  sub := fun a o h => by
    by_cases ha : a ∈ ownA ω σ ρ
    · rw [seeA_in ha] at h
      exact h
    · rw [seeA_out ha] at h
      exact k.sub a o h
  g0 := Ex.refl _
  h0 := fun p o h g => ⟨g, fun _ _ => h⟩
  tab := fun P hP => ⟨(k.tab P hP).1, by
    have n : P ∉ ownA ω σ ρ := fun z => (k.ownAt z).2.1 hP
    rw [seeA_out n]
    exact (k.tab P hP).2⟩
  len := k.len
  sh := fun i d _ hd => by
    by_cases hi : i ∈ ω
    · obtain ⟨p, a, b, c, e, w⟩ := k.ow i d hi hd
      exact ⟨_, a, w.seen (mem_ownA.mpr ⟨i, d, hi, a, hd⟩) k.exSee⟩
    · obtain ⟨v, a, b⟩ := k.sh i d hi hd
      exact ⟨v, a, b.mono k.exSee⟩
  ow := fun i d hi _ => by cases hi
  dj := fun i j p hi _ _ _ _ _ => by cases hi
  io := fun i p hp => by cases hp
theorem EnvOk.back (k : EnvOk K T E ω G H σ ρ) (k2 : EnvOk K T ⟨seeA (ownA ω σ ρ) G H, H, []⟩ [] G' H' σ ρ') : Ex G (hideA (ownA ω σ ρ) G') ∧ EnvOk K T E ω (hideA (ownA ω σ ρ) G') H' σ ρ := by
  have e : Ex G (hideA (ownA ω σ ρ) G') := fun a o h => by
    have n : a ∉ ownA ω σ ρ := fun z => by
      rw [(k.ownAt z).1] at h
      cases h
    rw [hideA_out n]
    exact k2.g0 a o (k.exSee a o h)
  have kept : ∀ p, p ∈ ownA ω σ ρ → ∀ o, H p = some o → H' p = some o := fun p hp o h =>
    k2.sub p o (k2.g0 p o (by show seeA _ G H p = _; rw [seeA_in hp]; exact h))
  refine ⟨e, ⟨fun a o h => ?_, k.g0.trans e, fun p o h g => ?_, fun P hP => ⟨(k2.tab P hP).1, ?_⟩, k.len, fun i d hi hd => ?_, fun i d hi hd => ?_, k.dj, k.io⟩⟩
  · by_cases ha : a ∈ ownA ω σ ρ
    · rw [hideA_in ha] at h
      cases h
    · rw [hideA_out ha] at h
      exact k2.sub a o h
  · obtain ⟨h1, h2⟩ := k.h0 p o h g
    by_cases ha : p ∈ ownA ω σ ρ
    · refine ⟨hideA_in ha, fun nI nT => kept p ha o (h2 nI nT)⟩
    · rw [hideA_out ha]
      by_cases hT : p ∈ T
      · exact ⟨(k2.tab p hT).2, fun _ z => absurd hT z⟩
      · by_cases hI : p ∈ E.I
        · obtain ⟨i, d, a, b, c⟩ := k.io_some hI
          exact absurd (mem_ownA.mpr ⟨i, d, a, b, c⟩) ha
        · have hp := h2 hI hT
          have hs : seeA (ownA ω σ ρ) G H p = none := by rw [seeA_out ha]; exact h1
          obtain ⟨x, y⟩ := k2.h0 p o hp hs
          exact ⟨x, fun _ nT => y (by intro z; cases z) nT⟩
  · by_cases ha : P ∈ ownA ω σ ρ
    · exact hideA_in ha
    · rw [hideA_out ha]
      exact (k2.tab P hP).2
  · obtain ⟨v, a, b⟩ := k.sh i d hi hd
    exact ⟨v, a, b.mono e⟩
  · obtain ⟨p, a, b, c, e', w⟩ := k.ow i d hi hd
    have hp : p ∈ ownA ω σ ρ := mem_ownA.mpr ⟨i, d, hi, a, hd⟩
    refine ⟨p, a, hideA_in hp, c, e', ?_⟩
    cases w with
    | lst h r => exact .lst (kept p hp _ h) (r.mono e)
    | dic h q r => exact .dic (kept p hp _ h) q (r.mono e)
/-- what is plain data stays when the own things are hidden again -/
theorem EnvOk.ex1 (k : EnvOk K T E ω G H σ ρ) (k2 : EnvOk K T ⟨seeA (ownA ω σ ρ) G H, H, []⟩ [] G' H' σ ρ') : Ex1 G' (hideA (ownA ω σ ρ) G') := fun a o h n1 n2 => by
  have n : a ∉ ownA ω σ ρ := fun z => by
    obtain ⟨_, _, _, d, w⟩ := k.ownAt z
    have hs : ∀ o', H a = some o' → G' a = some o' := fun o' h' => k2.g0 a o' (by show seeA _ G H a = _; rw [seeA_in z]; exact h')
    cases w with
    | lst h' r =>
      rw [hs _ h'] at h
      cases h
      exact n1 _ rfl
    | dic h' q r =>
      rw [hs _ h'] at h
      cases h
      exact n2 _ rfl
  rw [hideA_out n]
  exact h
def eBor (f : M) : M := fun ρ => (f ρ).bind fun p => if p.1.lf = true then some (p.1, ρ) else none
def tBor (f : MT) : MT := fun ρ => (f ρ).map fun p => (p.1, ρ)
def D.lf1 : D → Bool
  | .lst ds => D.lfs ds
  | .dic _ ds => D.lfs ds
  | _ => false
def eBorL (f : M) : M := fun ρ => (f ρ).bind fun p => if p.1.lf1 = true then some (p.1, ρ) else none
theorem de_bor (h : PE X e (teOf X.K T [] f)) : PE X e (teOf X.K T ω (eBor f)) := PEi h fun σ H Q ⟨E, G, ρ, d, ρ', k, hf, q⟩ => by
  obtain ⟨⟨x, ρ1⟩, h1, hf⟩ := Option.bind_eq_some_iff.mp hf
  by_cases hl : x.lf = true
  · rw [if_pos hl] at hf
    cases hf
    refine ⟨_, _, ρ, x, ρ1, k.lend, h1, fun v G' H' e k2 r => ?_⟩
    obtain ⟨e3, k3⟩ := k.back k2
    exact q v _ H' e3 k3 (r.lf (k.ex1 k2) hl)
  · rw [if_neg hl] at hf
    cases hf
theorem dt_bor {g : MT} (h : PT X e (ttOf X.K T [] g)) : PT X e (ttOf X.K T ω (tBor g)) := PTi h fun σ H Q ⟨E, G, ρ, d, ρ', k, hf, q⟩ => by
  obtain ⟨⟨x, ρ1⟩, h1, hf⟩ := Option.map_eq_some_iff.mp hf
  cases hf
  refine ⟨_, _, ρ, x, ρ1, k.lend, h1, fun G' H' e k2 => ?_⟩
  obtain ⟨e3, k3⟩ := k.back k2
  exact q _ H' e3 k3
theorem Own.lf1 (e : Ex1 G G') {d : D} {p : Addr} (h : d.lf1 = true) : Own K G H d p → Own K G' H d p
  | .lst a r => .lst a (Rps.lf e h r)
  | .dic a c r => .dic a c (Rps.lf e h r)
theorem dl_bor (h : PE X e (tlOf X.K T [] f)) : PE X e (tlOf X.K T ω (eBorL f)) := PEi h fun σ H Q ⟨E, G, ρ, d, ρ', k, hf, q⟩ => by
  obtain ⟨⟨x, ρ1⟩, h1, hf⟩ := Option.bind_eq_some_iff.mp hf
  by_cases hl : x.lf1 = true
  · rw [if_pos hl] at hf
    cases hf
    refine ⟨_, _, ρ, x, ρ1, k.lend, h1, fun p G' H' e k2 w fr => ?_⟩
    obtain ⟨e3, k3⟩ := k.back k2
    have hp : H p = none := fr.e
    have n : p ∉ ownA ω σ ρ := fun z => by
      obtain ⟨_, _, _, d, w⟩ := k.ownAt z
      obtain ⟨o, ho⟩ := w.has
      rw [hp] at ho
      cases ho
    refine q p _ H' e3 k3 (w.lf1 (k.ex1 k2) hl) ⟨by rw [hideA_out n]; exact fr.g, fr.t, ?_, fun i hi hn z => ?_⟩
    · exact (k.own (o := .lst []) hp).2.e
    · exact (k.own (o := .lst []) hp).2.o i hi hn z
  · rw [if_neg hl] at hf
    cases hf

/-! ### promises -/
/-- a def that changes nothing that stands: f says what it gives -/
def spP (K : PySem.W.Frag) (T : List Addr) (n : Nat) (f : List D → Option D) : Sp := fun vs H Q _ => ∃ (G : Hp) (ds : List D) (d : D), vs.length = n ∧ Ex G H ∧ TabOk T G H ∧ Rps K G ds vs ∧ f ds = some d ∧
  ∀ v G' H', Step T G H G' H' → Rp K G' d v → Q v H'
/-- .. a new list or dict is given -/
def spF (K : PySem.W.Frag) (T : List Addr) (n : Nat) (f : List D → Option D) : Sp := fun vs H Q _ => ∃ (G : Hp) (ds : List D) (d : D), vs.length = n ∧ Ex G H ∧ TabOk T G H ∧ Rps K G ds vs ∧ f ds = some d ∧
  ∀ p G' H', Step T G H G' H' → H p = none → G' p = none → p ∉ T → Own K G' H' d p → Q (.ref p) H'
/-- .. its first argument, an own list or dict, may be changed -/
def spI (K : PySem.W.Frag) (T : List Addr) (n : Nat) (f : D → List D → Option (D × D)) : Sp := fun vs H Q _ => ∃ (G : Hp) (p : Addr) (us : List V) (c : D) (ds : List D) (d c' : D), vs = .ref p :: us ∧ us.length = n ∧ Ex G H ∧ TabOk T G H ∧ G p = none ∧ p ∉ T ∧ Own K G H c p ∧ Rps K G ds us ∧ f c ds = some (d, c') ∧
  ∀ v G' H', Ex G G' → Ex G' H' → TabOk T G' H' → (∀ q o, H q = some o → G q = none → G' q = none ∧ (q ≠ p → q ∉ T → H' q = some o)) → Own K G' H' c' p → Rp K G' d v → Q v H'
theorem de_call {n : Nat} {fs : MA} {g : List D → Option D} (h : PE X e (tCall (spP X.K T n g) [] E0 (taOf X.K T ω fs))) (hn : ∀ ρ ds ρ', fs ρ = some (ds, ρ') → ds.length = n) : PE X e (teOf X.K T ω (eCa g fs)) := PEi h fun σ H Q ⟨E, G, ρ, d, ρ', k, hf, q⟩ => by
  obtain ⟨⟨x, ρ1⟩, h1, hf⟩ := Option.bind_eq_some_iff.mp hf
  obtain ⟨d', h3, hf⟩ := Option.map_eq_some_iff.mp hf
  cases hf
  refine ⟨E, G, ρ, x, ρ1, k, h1, fun u G1 H1 e1 k1 r1 => ?_⟩
  show spP X.K T n g (u ++ []) H1 Q E0
  rw [List.append_nil]
  exact ⟨G1, x, d, by rw [← r1.len]; exact hn _ _ _ h1, k1.sub, k1.tab, r1, h3, fun v G' H' s r => q v G' H' (e1.trans s.g) (k1.step s) r⟩
theorem dl_call {n : Nat} {fs : MA} {g : List D → Option D} (h : PE X e (tCall (spF X.K T n g) [] E0 (taOf X.K T ω fs))) (hn : ∀ ρ ds ρ', fs ρ = some (ds, ρ') → ds.length = n) : PE X e (tlOf X.K T ω (eCa g fs)) := PEi h fun σ H Q ⟨E, G, ρ, d, ρ', k, hf, q⟩ => by
  obtain ⟨⟨x, ρ1⟩, h1, hf⟩ := Option.bind_eq_some_iff.mp hf
  obtain ⟨d', h3, hf⟩ := Option.map_eq_some_iff.mp hf
  cases hf
  refine ⟨E, G, ρ, x, ρ1, k, h1, fun u G1 H1 e1 k1 r1 => ?_⟩
  show spF X.K T n g (u ++ []) H1 Q E0
  rw [List.append_nil]
  refine ⟨G1, x, d, by rw [← r1.len]; exact hn _ _ _ h1, k1.sub, k1.tab, r1, h3, fun p G' H' s hp g' t' w => ?_⟩
  have fr := (k1.own (o := .lst []) hp).2
  exact q p G' H' (e1.trans s.g) (k1.step s) w ⟨g', t', fr.e, fr.o⟩
theorem an_nil : ∀ ρ ds ρ', aNil ρ = some (ds, ρ') → ds.length = 0 := fun ρ ds ρ' h => by
  cases h
  rfl
theorem an_cons {n : Nat} {fs : MA} (h : ∀ ρ ds ρ', fs ρ = some (ds, ρ') → ds.length = n) : ∀ ρ ds ρ', aCons fa fs ρ = some (ds, ρ') → ds.length = n + 1 := fun ρ ds ρ' hf => by
  obtain ⟨⟨x, ρ1⟩, h1, hf⟩ := Option.bind_eq_some_iff.mp hf
  obtain ⟨⟨ys, ρ2⟩, h2, hf⟩ := Option.map_eq_some_iff.mp hf
  cases hf
  rw [List.length_cons, h _ _ _ h2]
def eCaI (i : Nat) (g : D → List D → Option (D × D)) (fs : MA) : M := fun ρ => (eVar i ρ).bind fun _ => (fs ρ).bind fun p => match p.2[i]? with
  | some (some c) => (g c p.1).map fun r => (r.1, p.2.set i (some r.2))
  | _ => none
theorem de_callI {n i : Nat} {fs : MA} {g : D → List D → Option (D × D)} (h : PE X e (tCall (spI X.K T n g) [] E0 (tCons (tVar i) (taOf X.K T ω fs)))) (hn : ∀ ρ ds ρ', fs ρ = some (ds, ρ') → ds.length = n) (hi : ω.contains i = true) : PE X e (teOf X.K T ω (eCaI i g fs)) := PEi h fun σ H Q ⟨E, G, ρ, d, ρ', k, hf, q⟩ => by
  obtain ⟨⟨z0, ρ0⟩, h0, hf⟩ := Option.bind_eq_some_iff.mp hf
  obtain ⟨⟨x, ρ1⟩, h1, hf⟩ := Option.bind_eq_some_iff.mp hf
  have hi : i ∈ ω := List.contains_iff_mem.mp hi
  obtain ⟨h0, _⟩ := eVar_some h0
  obtain ⟨p, hp, _⟩ := k.ow i z0 hi h0
  have hx : ∃ c, ρ1[i]? = some (some c) ∧ (g c x).map (fun r => (r.1, ρ1.set i (some r.2))) = some (d, ρ') := by
    cases hc : ρ1[i]? with
    | none => simp only [hc] at hf; cases hf
    | some u =>
      cases u with
      | none => simp only [hc] at hf; cases hf
      | some c =>
        simp only [hc] at hf
        exact ⟨c, rfl, hf⟩
  obtain ⟨c, hc, hf⟩ := hx
  obtain ⟨⟨d', c'⟩, h3, hf⟩ := Option.map_eq_some_iff.mp hf
  cases hf
  refine ⟨.ref p, hp, E, G, ρ, x, ρ1, k, h1, fun us G1 H1 e1 k1 r1 => ?_⟩
  obtain ⟨p', a, b, cT, eo, w⟩ := k1.ow i c hi hc
  rw [hp] at a
  cases a
  show spI X.K T n g (.ref p :: us ++ []) H1 Q E0
  rw [List.append_nil]
  refine ⟨G1, p, us, c, x, d', c', rfl, by rw [← r1.len]; exact hn _ _ _ h1, k1.sub, k1.tab, b, cT, w, r1, h3, fun v G' H' ge se tb hid w' r' => ?_⟩
  have gp : G' p = none := (hid p _ w.has.choose_spec b).1
  refine q v G' H' (e1.trans ge) ⟨se, k1.g0.trans ge, fun z o hz gz => ?_, tb, by rw [List.length_set]; exact k1.len, fun j d2 hj hd2 => ?_, fun j d2 hj hd2 => ?_, fun j l z hj hl n1 n2 s1 s2 => ?_, fun j z hz => ?_⟩ r'
  · obtain ⟨y1, y2⟩ := k1.h0 z o hz gz
    by_cases hT : z ∈ T
    · exact ⟨(tb z hT).2, fun _ nt => absurd hT nt⟩
    · by_cases hI : z ∈ E.I
      · obtain ⟨j, dj, x1, x2, x3⟩ := k1.io_some hI
        obtain ⟨z', w1, w2, w3, w4, w5⟩ := k1.ow j dj x1 x3
        rw [x2] at w1
        cases w1
        exact ⟨(hid z _ w5.has.choose_spec w2).1, fun nI => absurd hI nI⟩
      · have hz1 := y2 hI hT
        obtain ⟨y3, y4⟩ := hid z o hz1 y1
        refine ⟨y3, fun _ nT => y4 (fun ez => ?_) nT⟩
        subst ez
        rcases eo with eo | eo
        · rw [hz] at eo; cases eo
        · exact hI eo
  · by_cases hji : j = i
    · subst hji
      exact absurd hi hj
    · rw [List.getElem?_set_ne (Ne.symm hji)] at hd2
      obtain ⟨v2, s1, s2⟩ := k1.sh j d2 hj hd2
      exact ⟨v2, s1, s2.mono ge⟩
  · by_cases hji : j = i
    · subst hji
      have hlt : j < ρ1.length := (List.getElem?_eq_some_iff.mp hc).1
      rw [List.getElem?_set_self hlt] at hd2
      cases hd2
      exact ⟨p, hp, gp, cT, eo, w'⟩
    · rw [List.getElem?_set_ne (Ne.symm hji)] at hd2
      obtain ⟨z, s1, s2, s3, s4, s5⟩ := k1.ow j d2 hj hd2
      have hzp : z ≠ p := fun ez => by
        subst ez
        exact hji (k1.dj j i z hj hi (by rw [hd2]; simp) (by rw [hc]; simp) s1 hp)
      refine ⟨z, s1, (hid z _ s5.has.choose_spec s2).1, s3, s4, ?_⟩
      cases s5 with
      | lst y1 y2 => exact .lst ((hid z _ y1 s2).2 hzp s3) (y2.mono ge)
      | dic y1 y2 y3 => exact .dic ((hid z _ y1 s2).2 hzp s3) y2 (y3.mono ge)
  · have key : ∀ m, (ρ1.set i (some c'))[m]? ≠ some none → ρ1[m]? ≠ some none := fun m hm hz => by
      by_cases hmi : m = i
      · subst hmi
        rw [hc] at hz
        cases hz
      · rw [List.getElem?_set_ne (Ne.symm hmi)] at hm
        exact hm hz
    exact k1.dj j l z hj hl (key j n1) (key l n2) s1 s2
  · obtain ⟨x1, x2, x3⟩ := k1.io j z hz
    refine ⟨x1, x2, fun hm => ?_⟩
    by_cases hmi : j = i
    · subst hmi
      have hlt : j < ρ1.length := (List.getElem?_eq_some_iff.mp hc).1
      rw [List.getElem?_set_self hlt] at hm
      cases hm
    · rw [List.getElem?_set_ne (Ne.symm hmi)] at hm
      exact x3 hm
end
end Z
/-! Built-ins by data. -/
namespace L2
open PySem PySem.Spec PyProof.Rows
theorem tuple_mul1 (l : Addr) (items : Array Value) (n : Nat) (dd : Option Addr) (sl : Array (Option Value)) (u : Tok) :
    Meets (Builtin.«tuple.__mul__» ⟨[.ref l, .int 1 u], []⟩) (fun _ R s => s.heap.get? l = some { cls := .type "tuple", dict := dd, data := .seq items n, slots := sl } ∧ R (.ok (.ret (Value.ref l))) s) :=
  .of_wp fun prog w A R s h => by
    obtain ⟨hp, g, d, tk, os⟩ := s
    obtain ⟨hl, h⟩ := h
    have f1 := AutoSeq1.idx_int
    have c0 : (decide ((1 : Int) < -(2 ^ 63)) || decide ((1 : Int) ≥ 2 ^ 63)) = false := by decide
    have c1 : (items.isEmpty || (1 : Int) == 1) = true := by simp
    wp_walk using wpAny_loadPart' hl
    exact ⟨_, rfl, h⟩
def rRep1 (K : PySem.W.Frag) : R2 := fun x y H Q => ∃ l xs, x = .ref l ∧ y = .int 1 ∧ SqT K H l xs ∧ Q (.ref l) H
theorem op_rep1 {X : Cx} : OpR X (binaryOp .Mult) (rRep1 X.K) := by
  intro pins s σ H x y v u Q I rx ry h
  obtain ⟨l, xs, rfl, rfl, hT, q⟩ := h
  cases rx
  obtain ⟨t, rfl⟩ := ry
  obtain ⟨its, r, ⟨⟨cls, dd, data, sl⟩, ho, hc, n, hd⟩, hs⟩ := I.tuple hT
  simp only at hc hd
  subst hc hd
  refine wpAny_binaryOp_repeat_ref (T := "tuple") (U := "int") (by decide) ⟨_, ho, rfl⟩ (fun s' => typeIs_int s' 1 t) noFill_tuple_mul F.fills_int_mul F.slot_int_rmul repeat_tuple F.slot_int_index.lookup
    (call_meets F.slot_int_rmul (typeIs_int s 1 t) F.entry_int_rmul (F.args_int_rmul_2 _ _) (int_rmul_tuple 1 t l its.toArray n dd sl)
      ⟨ho, rfl, ⟨_, ho, rfl⟩, call_meets F.slot_tuple_mul ⟨_, ho, rfl⟩ F.entry_tuple_mul (F.args_tuple_mul_2 _ _) (tuple_mul1 l its.toArray n dd sl t) ⟨ho, ?_⟩⟩)
  exact ⟨.ref l, H, I, rfl, q⟩
end L2
namespace Z
open PySem L2
section
variable {K : PySem.W.Frag} {T : List Addr} {X : Cx} {ω : List Nat} {e : Expr} {fa fb : M}
/-! ### t * n -/
theorem Rps.flatten {G : Hp} {ds : List D} {vs : List V} (r : Rps K G ds vs) : ∀ n : Nat, Rps K G (List.replicate n ds).flatten (List.replicate n vs).flatten
  | 0 => .nil
  | n + 1 => by
    rw [List.replicate_succ, List.replicate_succ, List.flatten_cons, List.flatten_cons]
    exact r.app (Rps.flatten r n)
abbrev rRepA (K : PySem.W.Frag) : R2 := fun x y H Q => rRep1 K x y H Q ∨ rRepT K x y H Q
theorem op_repA : OpR X (binaryOp .Mult) (rRepA X.K) := OpR.or op_rep1 op_repT
theorem ops_rep : OpS K T (rRepA K) repD := by
  intro x y d h G H u v s t ru rv Q q
  cases ru with
  | @tup p vs ds g r => cases rv with
    | int k =>
      simp only [repD] at h
      by_cases hc : ds ≠ [] ∧ 1 ≤ k ∧ k ≤ 1000 ∧ ds.length ≤ 1000
      · rw [if_pos hc] at h
        cases h
        obtain ⟨h1, h2, h3, h4⟩ := hc
        by_cases hk : k = 1
        · subst hk
          refine .inl ⟨p, vs, rfl, rfl, SqT.of (s _ _ g), stepD s t (.tup g (?_ : Rps K G _ vs)) q⟩
          show Rps K G (List.replicate 1 ds).flatten vs
          simpa using r
        · refine .inr ⟨p, k, vs, rfl, rfl, SqT.of (s _ _ g), fun e => ?_, by omega, h3, by rw [← r.len]; exact h4, fun p hp => newT s t hp (r.flatten _) q⟩
          subst e
          cases r
          exact h1 rfl
      · rw [if_neg hc] at h; cases h
    | _ => cases h
  | _ => cases rv <;> cases h
/-! ### len, int, max, min, sum, tuple, gcd, lcm, all, any -/
def lenD : List D → Option D
  | [.str z] => if z.length ≤ 100000 then some (.int (z.length : Nat)) else none
  | [.tup ds] => some (.int (ds.length : Nat))
  | [.lst ds] => some (.int (ds.length : Nat))
  | [.pt ds] => some (.int (ds.length : Nat))
  | _ => none
abbrev rLenA (K : PySem.W.Frag) : List V → Hp → VK → Prop := fun xs H Q => ∃ x n, xs = [x] ∧ LenV K x H n ∧ Q (.int n) H
theorem cas_len : CaS K T (rLenA K) lenD := by
  intro xs d h G H us s t r Q q
  match xs, r, h with
  | [.str z], .cons r1 .nil, h =>
    cases r1
    simp only [lenD] at h
    by_cases hl : z.length ≤ 100000
    · rw [if_pos hl] at h
      cases h
      exact ⟨_, _, rfl, ⟨line_of hl, rfl⟩, stepD s t (.int _) q⟩
    · rw [if_neg hl] at h; cases h
  | [.tup ds], .cons r1 .nil, h =>
    cases h
    cases r1 with
    | @tup p vs _ g r => exact ⟨.ref p, vs.length, rfl, .inr ⟨vs, SqT.of (s _ _ g), rfl⟩, by rw [← r.len]; exact stepD s t (.int _) q⟩
  | [.pt ds], .cons r1 .nil, h =>
    cases h
    cases r1 with
    | @pt p ob vs _ g _ r => exact ⟨.ref p, vs.length, rfl, .inr ⟨vs, .inl (.inr ⟨ob, s _ _ g⟩), rfl⟩, by rw [← r.len]; exact stepD s t (.int _) q⟩
  | [.lst ds], .cons r1 .nil, h =>
    cases h
    cases r1 with
    | @lst p vs _ g r => exact ⟨.ref p, vs.length, rfl, .inl ⟨vs, ex_l s g, rfl⟩, by rw [← r.len]; exact stepD s t (.int _) q⟩
def intD : List D → Option D
  | [.int i] => some (.int i)
  | [.bl b] => some (.int (if b then 1 else 0))
  | _ => none
abbrev rInt1 : List V → Hp → VK → Prop := fun xs H Q => (∃ i, xs = [.int i] ∧ Q (.int i) H) ∨ ∃ k, xs = [.bl k] ∧ Q (.int (if k then 1 else 0)) H
theorem cas_int : CaS K T rInt1 intD := by
  intro xs d h G H us s t r Q q
  match xs, r, h with
  | [.int i], .cons r1 .nil, h =>
    cases r1
    cases h
    exact .inl ⟨i, rfl, stepD s t (.int _) q⟩
  | [.bl b], .cons r1 .nil, h =>
    cases r1
    cases h
    exact .inr ⟨b, rfl, stepD s t (.int _) q⟩
def max2D : List D → Option D
  | [.int i, .int j] => some (.int (if j > i then j else i))
  | _ => none
def min2D : List D → Option D
  | [.int i, .int j] => some (.int (if j < i then j else i))
  | _ => none
abbrev rMax2 : List V → Hp → VK → Prop := fun xs H Q => ∃ i j, xs = [.int i, .int j] ∧ Q (.int (if j > i then j else i)) H
abbrev rMin2 : List V → Hp → VK → Prop := fun xs H Q => ∃ i j, xs = [.int i, .int j] ∧ Q (.int (if j < i then j else i)) H
theorem cas_max2 : CaS K T rMax2 max2D := by
  intro xs d h G H us s t r Q q
  match xs, r, h with
  | [.int i, .int j], .cons r1 (.cons r2 .nil), h =>
    cases r1
    cases r2
    cases h
    exact ⟨i, j, rfl, stepD s t (.int _) q⟩
theorem cas_min2 : CaS K T rMin2 min2D := by
  intro xs d h G H us s t r Q q
  match xs, r, h with
  | [.int i, .int j], .cons r1 (.cons r2 .nil), h =>
    cases r1
    cases r2
    cases h
    exact ⟨i, j, rfl, stepD s t (.int _) q⟩
/-- a list of ints | of truths -/
def intsD : List D → Option (List Int)
  | [] => some []
  | .int i :: ds => (intsD ds).map fun r => i :: r
  | _ => none
def blsD : List D → Option (List Bool)
  | [] => some []
  | .bl i :: ds => (blsD ds).map fun r => i :: r
  | _ => none
def strsD : List D → Option (List Str)
  | [] => some []
  | .str i :: ds => (strsD ds).map fun r => i :: r
  | _ => none
theorem intsD_ok {G : Hp} : ∀ {ds : List D} {vs : List V} {ns : List Int}, intsD ds = some ns → Rps K G ds vs → vs = ns.map V.int
  | [], _, _, h, .nil => by cases h; rfl
  | .int i :: ds, _, _, h, .cons r rs => by
    obtain ⟨ms, h1, h2⟩ := Option.map_eq_some_iff.mp h
    cases h2
    cases r
    rw [List.map_cons, intsD_ok h1 rs]
theorem blsD_ok {G : Hp} : ∀ {ds : List D} {vs : List V} {ns : List Bool}, blsD ds = some ns → Rps K G ds vs → vs = ns.map V.bl
  | [], _, _, h, .nil => by cases h; rfl
  | .bl i :: ds, _, _, h, .cons r rs => by
    obtain ⟨ms, h1, h2⟩ := Option.map_eq_some_iff.mp h
    cases h2
    cases r
    rw [List.map_cons, blsD_ok h1 rs]
theorem strsD_ok {G : Hp} : ∀ {ds : List D} {vs : List V} {ns : List Str}, strsD ds = some ns → Rps K G ds vs → vs = ns.map V.str
  | [], _, _, h, .nil => by cases h; rfl
  | .str i :: ds, _, _, h, .cons r rs => by
    obtain ⟨ms, h1, h2⟩ := Option.map_eq_some_iff.mp h
    cases h2
    cases r
    rw [List.map_cons, strsD_ok h1 rs]
def sumD : List D → Option D
  | [.lst ds] => (intsD ds).map fun ns => .int ns.sum
  | _ => none
theorem cas_sum : CaS K T (rSum K) sumD := by
  intro xs d h G H us s t r Q q
  match xs, r, h with
  | [.lst ds], .cons r1 .nil, h =>
    obtain ⟨ns, h1, h2⟩ := Option.map_eq_some_iff.mp h
    cases h2
    cases r1 with
    | @lst p vs _ g r =>
      have e := intsD_ok h1 r
      subst e
      exact ⟨p, ns, rfl, ex_l s g, stepD s t (.int _) q⟩
def allD : List D → Option D
  | [.lst ds] => (blsD ds).map fun ns => .bl (ns.all id)
  | _ => none
def anyD : List D → Option D
  | [.lst ds] => (blsD ds).map fun ns => .bl (ns.any id)
  | _ => none
theorem cas_all : CaS K T (rAll K) allD := by
  intro xs d h G H us s t r Q q
  match xs, r, h with
  | [.lst ds], .cons r1 .nil, h =>
    obtain ⟨ns, h1, h2⟩ := Option.map_eq_some_iff.mp h
    cases h2
    cases r1 with
    | @lst p vs _ g r =>
      have e := blsD_ok h1 r
      subst e
      exact ⟨p, ns, rfl, ex_l s g, stepD s t (.bl _) q⟩
theorem cas_any : CaS K T (rAny K) anyD := by
  intro xs d h G H us s t r Q q
  match xs, r, h with
  | [.lst ds], .cons r1 .nil, h =>
    obtain ⟨ns, h1, h2⟩ := Option.map_eq_some_iff.mp h
    cases h2
    cases r1 with
    | @lst p vs _ g r =>
      have e := blsD_ok h1 r
      subst e
      exact ⟨p, ns, rfl, ex_l s g, stepD s t (.bl _) q⟩
def tupleD : List D → Option D
  | [.lst ds] => some (.tup ds)
  | [.tup ds] => some (.tup ds)
  | _ => none
abbrev rTupA (K : PySem.W.Frag) : List V → Hp → VK → Prop := fun xs H Q => ∃ p ys, xs = [.ref p] ∧ ((SqL K H p ys ∧ ∀ l, H l = none → Q (.ref l) (upd H l (.tup ys))) ∨ (SqT K H p ys ∧ Q (.ref p) H))
theorem cas_tuple : CaS K T (rTupA K) tupleD := by
  intro xs d h G H us s t r Q q
  match xs, r, h with
  | [.lst ds], .cons r1 .nil, h =>
    cases h
    cases r1 with
    | @lst p vs _ g r => exact ⟨p, vs, rfl, .inl ⟨ex_l s g, fun l hl => newT s t hl r q⟩⟩
  | [.tup ds], .cons r1 .nil, h =>
    cases h
    cases r1 with
    | @tup p vs _ g r => exact ⟨p, vs, rfl, .inr ⟨SqT.of (s _ _ g), stepD s t (.tup g r) q⟩⟩
def gcdD : List D → Option D
  | [.int i, .int j] => some (.int ((Nat.gcd i.natAbs j.natAbs : Nat) : Int))
  | _ => none
theorem cas_gcd : CaS K T rGcd gcdD := by
  intro xs d h G H us s t r Q q
  match xs, r, h with
  | [.int i, .int j], .cons r1 (.cons r2 .nil), h =>
    cases r1
    cases r2
    cases h
    exact ⟨i, j, rfl, stepD s t (.int _) q⟩
def lcmD : List D → Option D
  | [.int i, .int j] => if i.natAbs < 2 ^ 64 ∧ j.natAbs < 2 ^ 64 then some (.int ((Nat.lcm i.natAbs j.natAbs : Nat) : Int)) else none
  | _ => none
abbrev rLcm : List V → Hp → VK → Prop := fun xs H Q => ∃ a b : Int, xs = [.int a, .int b] ∧ a.natAbs < 2 ^ 64 ∧ b.natAbs < 2 ^ 64 ∧ Q (.int ((Nat.lcm a.natAbs b.natAbs : Nat) : Int)) H
theorem lcm_one (a : Nat) : Nat.lcm 1 a = a := by simp [Nat.lcm]
theorem cr_lcm : CallR X (.builtin "math.lcm") rLcm := by
  intro pins s σ H vs us Q I r h
  obtain ⟨a, b, rfl, ha, hb, q⟩ := h
  obtain ⟨t, u, rfl⟩ := Vals.int2 r
  have hl : Nat.lcm a.natAbs b.natAbs < 2 ^ 128 := by
    have h1 : Nat.lcm a.natAbs b.natAbs ≤ a.natAbs * b.natAbs := by
      unfold Nat.lcm
      exact Nat.div_le_self _ _
    have h2 : a.natAbs * b.natAbs < 2 ^ 64 * 2 ^ 64 := Nat.mul_lt_mul'' ha hb
    have e : (2 : Nat) ^ 64 * 2 ^ 64 = 2 ^ 128 := by decide
    omega
  have hz : (((Nat.lcm a.natAbs b.natAbs : Nat) : Int)).natAbs.log2 < bitsLine := by
    have h3 := PySem.Flt.log2_lt_of (n := ((Nat.lcm a.natAbs b.natAbs : Nat) : Int).natAbs) (k := 128) (by decide) (by rw [Int.natAbs_natCast]; exact hl)
    have e : bitsLine = 134217728 := by decide
    omega
  refine PySem.W.mg_lcm_v ha hb (c := ((Nat.lcm a.natAbs b.natAbs : Nat) : Int)) (by rw [lcm_one]) hz ?_
  exact ⟨.int _, H, I.tok _, ⟨_, rfl⟩, q⟩
theorem cas_lcm : CaS K T rLcm lcmD := by
  intro xs d h G H us s t r Q q
  match xs, r, h with
  | [.int i, .int j], .cons r1 (.cons r2 .nil), h =>
    cases r1
    cases r2
    simp only [lcmD] at h
    by_cases hc : i.natAbs < 2 ^ 64 ∧ j.natAbs < 2 ^ 64
    · rw [if_pos hc] at h
      cases h
      exact ⟨i, j, rfl, hc.1, hc.2, stepD s t (.int _) q⟩
    · rw [if_neg hc] at h; cases h
/-! ### isinstance -/
def isiD (a : String) : D → Option D
  | .non => some (.bl false)
  | .bl _ => some (.bl (a == "int" || a == "bool"))
  | .int _ => some (.bl (a == "int"))
  | .str _ => some (.bl (a == "str"))
  | .tup _ => some (.bl (a == "tuple"))
  | .pt _ => some (.bl (a == "tuple"))
  | .lst _ => some (.bl false)
  | _ => none
/-- the answers of isinstance by a built-in type -/
structure IsiT (a : String) : Prop where
  non : kitB "NoneType" a = some false
  bl : kitB "bool" a = some (a == "int" || a == "bool")
  int : kitB "int" a = some (a == "int")
  str : kitB "str" a = some (a == "str")
  tup : kitB "tuple" a = some (a == "tuple")
  lst : kitB "list" a = some false
theorem isi_int : IsiT "int" := ⟨by decide +kernel, by decide +kernel, by decide +kernel, by decide +kernel, by decide +kernel, by decide +kernel⟩
theorem isi_bool : IsiT "bool" := ⟨by decide +kernel, by decide +kernel, by decide +kernel, by decide +kernel, by decide +kernel, by decide +kernel⟩
theorem isi_str : IsiT "str" := ⟨by decide +kernel, by decide +kernel, by decide +kernel, by decide +kernel, by decide +kernel, by decide +kernel⟩
theorem isi_tuple : IsiT "tuple" := ⟨by decide +kernel, by decide +kernel, by decide +kernel, by decide +kernel, by decide +kernel, by decide +kernel⟩
theorem lst_ty {H : Hp} {a : Addr} {vs : List V} (h : SqL K H a vs) : TyX K H (.ref a) (.type "list") := by
  rcases h with (h | ⟨o, h⟩) | ⟨o, its, n, h, c, _⟩
  · exact .base (.lst h)
  · exact .base (.frz h)
  · exact .kList h c
theorem de_isi {a : String} (c : IsiT a) (h : PE X e (tCB (rIsi X.K) (tCons (teOf X.K T ω fa) (tCons (tC (.ty a)) tNil)))) : PE X e (teOf X.K T ω (eUn (isiD a) fa)) := PEi h fun σ H Q ⟨E, G, ρ, d, ρ', k, hf, q⟩ => by
  obtain ⟨⟨x, ρ1⟩, h1, hf⟩ := Option.bind_eq_some_iff.mp hf
  obtain ⟨d', h3, hf⟩ := Option.map_eq_some_iff.mp hf
  cases hf
  refine ⟨E, G, ρ, x, ρ1, k, h1, fun u G1 H1 e1 k1 r1 => ?_⟩
  cases r1 with
  | non => cases h3; exact ⟨_, _, _, _, _, rfl, .ty a, .base .non, kit_ty c.non, q _ G1 H1 e1 k1 (.bl _)⟩
  | bl b => cases h3; exact ⟨_, _, _, _, _, rfl, .ty a, .base (.bl b), kit_ty c.bl, q _ G1 H1 e1 k1 (.bl _)⟩
  | int b => cases h3; exact ⟨_, _, _, _, _, rfl, .ty a, .base (.int b), kit_ty c.int, q _ G1 H1 e1 k1 (.bl _)⟩
  | str b => cases h3; exact ⟨_, _, _, _, _, rfl, .ty a, .base (.str b), kit_ty c.str, q _ G1 H1 e1 k1 (.bl _)⟩
  | tup g r => cases h3; exact ⟨_, _, _, _, _, rfl, .ty a, .base (.tup (k1.sub _ _ g)), kit_ty c.tup, q _ G1 H1 e1 k1 (.bl _)⟩
  | lst g r => cases h3; exact ⟨_, _, _, _, _, rfl, .ty a, lst_ty (ex_l k1.sub g), kit_ty c.lst, q _ G1 H1 e1 k1 (.bl _)⟩
  | pt g _ r => cases h3; exact ⟨_, _, _, _, _, rfl, .ty a, .fTuple (k1.sub _ _ g), kit_ty c.tup, q _ G1 H1 e1 k1 (.bl _)⟩
  | dic _ _ _ => cases h3
  | ins _ _ _ => cases h3
/-! ### new lists from built-ins: list(..), sorted(..) -/
def CaL (K : PySem.W.Frag) (r : List V → Hp → VK → Prop) (op : List D → Option D) : Prop :=
  ∀ (xs : List D) (d : D), op xs = some d → ∃ ds, d = .lst ds ∧ ∀ (G H : Hp) (us : List V), Ex G H → Rps K G xs us → ∀ Q : VK, (∀ p vs, H p = none → Rps K G ds vs → Q (.ref p) (upd H p (.lst vs))) → r us H Q
theorem dl_ca {fs : MA} {r : List V → Hp → VK → Prop} {op : List D → Option D} (h : PE X e (tCB r (taOf X.K T ω fs))) (os : CaL X.K r op) : PE X e (tlOf X.K T ω (eCa op fs)) := PEi h fun σ H Q ⟨E, G, ρ, d, ρ', k, hf, q⟩ => by
  obtain ⟨⟨x, ρ1⟩, h1, hf⟩ := Option.bind_eq_some_iff.mp hf
  obtain ⟨d', h3, hf⟩ := Option.map_eq_some_iff.mp hf
  cases hf
  obtain ⟨ds, rfl, hr⟩ := os x d h3
  refine ⟨E, G, ρ, x, ρ1, k, h1, fun u G1 H1 e1 k1 r1 => hr G1 H1 u k1.sub r1 Q fun p vs hp rv => ?_⟩
  obtain ⟨k2, f2⟩ := k1.own (o := .lst vs) hp
  exact q p G1 _ e1 k2 (.lst upd_same rv) f2
def listD : List D → Option D
  | [.lst ds] => some (.lst ds)
  | [.tup ds] => some (.lst ds)
  | _ => none
abbrev rListA (K : PySem.W.Frag) : List V → Hp → VK → Prop := fun xs H Q => ∃ p ys, xs = [.ref p] ∧ (SqL K H p ys ∨ SqT K H p ys) ∧ ∀ l, H l = none → Q (.ref l) (upd H l (.lst ys))
theorem cal_list : CaL K (rListA K) listD := by
  intro xs d h
  match xs, h with
  | [.lst ds], h =>
    cases h
    refine ⟨ds, rfl, fun G H us s r Q q => ?_⟩
    match us, r with
    | [_], .cons (.lst g r1) .nil => exact ⟨_, _, rfl, .inl (ex_l s g), fun l hl => q l _ hl r1⟩
  | [.tup ds], h =>
    cases h
    refine ⟨ds, rfl, fun G H us s r Q q => ?_⟩
    match us, r with
    | [_], .cons (.tup g r1) .nil => exact ⟨_, _, rfl, .inr (SqT.of (s _ _ g)), fun l hl => q l _ hl r1⟩
/-- sorting ints -/
def insI (i : Int) : List Int → List Int
  | [] => [i]
  | j :: js => if i ≤ j then i :: j :: js else j :: insI i js
def sortI : List Int → List Int
  | [] => []
  | i :: is => insI i (sortI is)
theorem insI_perm (i : Int) : ∀ js : List Int, (insI i js).Perm (i :: js)
  | [] => .refl _
  | j :: js => by
    unfold insI
    split
    · exact .refl _
    · exact ((insI_perm i js).cons j).trans (.swap i j js)
theorem sortI_perm : ∀ js : List Int, (sortI js).Perm js
  | [] => .refl _
  | i :: is => (insI_perm i _).trans ((sortI_perm is).cons i)
theorem insI_sorted (i : Int) : ∀ js : List Int, js.Pairwise (· ≤ ·) → (insI i js).Pairwise (· ≤ ·)
  | [], _ => by simp [insI]
  | j :: js, h => by
    have h' := List.pairwise_cons.mp h
    unfold insI
    split
    · rename_i hij
      exact List.pairwise_cons.mpr ⟨fun x hx => by
        rcases List.mem_cons.mp hx with rfl | hx
        · exact hij
        · exact Int.le_trans hij (h'.1 x hx), h⟩
    · rename_i hij
      refine List.pairwise_cons.mpr ⟨fun x hx => ?_, insI_sorted i js h'.2⟩
      rcases List.mem_cons.mp ((insI_perm i js).mem_iff.mp hx) with rfl | hx
      · omega
      · exact h'.1 x hx
theorem sortI_sorted : ∀ js : List Int, (sortI js).Pairwise (· ≤ ·)
  | [] => .nil
  | i :: is => insI_sorted i _ (sortI_sorted is)
theorem sorted_uniq : ∀ {as bs : List Int}, as.Perm bs → as.Pairwise (· ≤ ·) → bs.Pairwise (· ≤ ·) → as = bs
  | [], bs, p, _, _ => (List.nil_perm.mp p).symm
  | a :: as, [], p, _, _ => absurd p.length_eq (by simp)
  | a :: as, b :: bs, p, ha, hb => by
    have ha' := List.pairwise_cons.mp ha
    have hb' := List.pairwise_cons.mp hb
    have hab : a = b := by
      have m1 : a ∈ b :: bs := p.mem_iff.mp (List.mem_cons_self ..)
      have m2 : b ∈ a :: as := p.mem_iff.mpr (List.mem_cons_self ..)
      rcases List.mem_cons.mp m1 with h | h
      · exact h
      · rcases List.mem_cons.mp m2 with h2 | h2
        · exact h2.symm
        · have := hb'.1 a h
          have := ha'.1 b h2
          omega
    subst hab
    rw [sorted_uniq (List.Perm.cons_inv p) ha'.2 hb'.2]
/-- sorted(a dict with int keys) -/
def keysI : List Key → Option (List Int)
  | [] => some []
  | .inl i :: ks => (keysI ks).map fun r => i :: r
  | _ => none
theorem keysI_ok : ∀ {ks : List Key} {ns : List Int}, keysI ks = some ns → ks = ns.map Sum.inl
  | [], _, h => by cases h; rfl
  | .inl i :: ks, _, h => by
    obtain ⟨ms, h1, h2⟩ := Option.map_eq_some_iff.mp h
    cases h2
    rw [List.map_cons, keysI_ok h1]
def sortDD : List D → Option D
  | [.dic ks _] => (keysI ks).bind fun ns => if ns.length < 64 then some (.lst ((sortI ns).map D.int)) else none
  | _ => none
abbrev rSortDI (K : PySem.W.Frag) : List V → Hp → VK → Prop := fun xs H Q => ∃ (a : Addr) (kvs : List (Key × V)) (ks : List Int), xs = [.ref a] ∧ Rd H a (.dK kvs) ∧ kvs.map (·.1) = ks.map Sum.inl ∧ ks.length < 64 ∧
    ∀ (ys : List Int) (p : Addr), ys.Perm ks → ys.Pairwise (· ≤ ·) → H p = none → Q (.ref p) (upd H p (.lst (ys.map V.int)))
theorem Rps.ints {G : Hp} : ∀ ns : List Int, Rps K G (ns.map D.int) (ns.map V.int)
  | [] => .nil
  | n :: ns => .cons (.int n) (Rps.ints ns)
theorem cal_sortDD : CaL K (rSortDI K) sortDD := by
  intro xs d h
  match xs, h with
  | [.dic ks ds], h =>
    obtain ⟨ns, h1, h2⟩ := Option.bind_eq_some_iff.mp (show ((keysI ks).bind fun ns => if ns.length < 64 then some (D.lst ((sortI ns).map D.int)) else none) = some d from h)
    by_cases hl : ns.length < 64
    · rw [if_pos hl] at h2
      cases h2
      refine ⟨_, rfl, fun G H us s r Q q => ?_⟩
      match us, r with
      | [_], .cons (.dic g hk r1) .nil =>
        refine ⟨_, _, ns, rfl, .inl (s _ _ g), by rw [hk]; exact keysI_ok h1, hl, fun ys p hp hs hn => ?_⟩
        have e : ys = sortI ns := sorted_uniq (hp.trans (sortI_perm ns).symm) hs (sortI_sorted ns)
        rw [e]
        exact q p _ hn (Rps.ints _)
    · rw [if_neg hl] at h2; cases h2
/-! ### join -/
def joinD : D → List D → Option D
  | .str a, [.lst ds] => (strsD ds).bind fun ys => if (ys.map (·.length)).sum + ys.length * a.length ≤ 100000 then some (.str (Txt.join a ys)) else none
  | _, _ => none
/-! ### attributes -/
def attD (cn f : Str) : D → Option D
  | .ins c ns ds => if c = cn then (lookD (.inr f) (ns.map Sum.inr) ds) else none
  | _ => none
theorem lookF_ok {G : Hp} {f : Str} : ∀ {fs : List (Str × V)} {ds : List D} {d : D}, Rps K G ds (fs.map (·.2)) → lookD (.inr f) ((fs.map (·.1)).map Sum.inr) ds = some d → ∃ v, fs.lookup f = some v ∧ Rp K G d v
  | [], _, _, .nil, h => by cases h
  | (j, v) :: fs, d :: ds, _, .cons r rs, h => by
    by_cases e : j = f
    · subst e
      simp only [List.map_cons, lookD, if_pos rfl] at h
      cases h
      exact ⟨v, by simp [List.lookup], r⟩
    · have ne : ¬ (Sum.inr j : Key) = Sum.inr f := fun z => e (Sum.inr.inj z)
      simp only [List.map_cons, lookD, if_neg ne] at h
      obtain ⟨w, h1, h2⟩ := lookF_ok rs h
      have ef : (f == j) = false := by
        rw [beq_eq_false_iff_ne]
        exact fun z => e z.symm
      exact ⟨w, by rw [List.lookup_cons, ef]; exact h1, h2⟩
theorem de_att {a : Expr} {cn f : Str} {pos : Pos} (c : Cls X.K (He.ga X.K cn)) (n : NoAttr X.K (He.ga X.K cn) f) (ha : PE X a (teOf X.K T ω fa)) (hb : attributeBase a f X.env (eval a X.env) = eval a X.env := by rfl) : PE X (.Attribute a f pos) (teOf X.K T ω (eUn (attD cn f) fa)) :=
  PEi (pe_fld ha hb) fun σ H Q ⟨E, G, ρ, d, ρ', k, hf, q⟩ => by
    obtain ⟨⟨x, ρ1⟩, h1, hf⟩ := Option.bind_eq_some_iff.mp hf
    obtain ⟨d', h3, hf⟩ := Option.map_eq_some_iff.mp hf
    cases hf
    refine ⟨E, G, ρ, x, ρ1, k, h1, fun u G1 H1 e1 k1 r1 => ?_⟩
    cases r1 with
    | @ins p dx c' fs ns ds g hn r =>
      simp only [attD] at h3
      by_cases hc : c' = cn
      · rw [if_pos hc] at h3
        subst hc
        subst hn
        obtain ⟨v, h4, h5⟩ := lookF_ok r h3
        exact ⟨p, _, dx, fs, v, rfl, k1.sub _ _ g, c, n, h4, q v G1 H1 e1 k1 h5⟩
      · rw [if_neg hc] at h3; cases h3
    | _ => cases h3
end
end Z
/-! Statements. -/
namespace Z
open PySem L2

inductive Out where
  | nx (ρ : Env) | rt (d : D) (ρ : Env) | rf (d : D) (ρ : Env)
abbrev MS := Env → Option Out
def IoE (io : Bool) (E : Ent) : Prop := match io with
  | true => ∃ p, E.J = [(0, p)]
  | false => E.J = []
def Post (K : PySem.W.Frag) (T : List Addr) (E : Ent) (G : Hp) (ω : List Nat) (Dn : Ends) : Out → Prop
  | .nx ρ => ∀ σ' G' H', Ex G G' → EnvOk K T E ω G' H' σ' ρ → Dn.nx σ' H'
  | .rt d ρ => ∀ v ω' σ' G' H', Ex G G' → EnvOk K T E ω' G' H' σ' ρ → Rp K G' d v → Dn.rt v H'
  | .rf d ρ => ∀ p ω' σ' G' H', Ex G G' → EnvOk K T E ω' G' H' σ' ρ → Own K G' H' d p → E.H p = none → G' p = none → p ∉ T → Dn.rt (.ref p) H'
def tsOf (K : PySem.W.Frag) (T : List Addr) (io : Bool) (ω ω' : List Nat) (g : MS) : TS := fun Dn σ H => ∃ (E : Ent) (G : Hp) (ρ : Env) (o : Out), EnvOk K T E ω G H σ ρ ∧ IoE io E ∧ g ρ = some o ∧ Post K T E G ω' Dn o
section
variable {K : PySem.W.Frag} {T : List Addr} {X : Cx} {io : Bool} {ω ω' ω1 ω2 : List Nat} {E : Ent} {G H G' H' : Hp} {σ : L2.St} {ρ : Env} {e : Expr} {st : Stmt} {rest : List Stmt} {f fa fb : M} {g g1 g2 : MS} {i j : Nat} {d : D} {v : V} {Dn : Ends} {o : Out} {p : Addr}
theorem Post.mono (e : Ex G G') (h : Post K T E G ω Dn o) : Post K T E G' ω Dn o := by
  cases o with
  | nx ρ => exact fun σ' G2 H2 e2 k => h σ' G2 H2 (e.trans e2) k
  | rt d ρ => exact fun v w σ' G2 H2 e2 k r => h v w σ' G2 H2 (e.trans e2) k r
  | rf d ρ => exact fun p w σ' G2 H2 e2 k r => h p w σ' G2 H2 (e.trans e2) k r

/-! ### blocks -/
def sNil : MS := fun ρ => some (.nx ρ)
def sSeq (g1 g2 : MS) : MS := fun ρ => (g1 ρ).bind fun o => match o with
  | .nx ρ1 => g2 ρ1
  | .rt d ρ1 => some (.rt d ρ1)
  | .rf d ρ1 => some (.rf d ρ1)
theorem dss_nil : PSs X [] (tsOf X.K T io ω ω sNil) := PSsi pss_nil fun Dn σ H ⟨E, G, ρ, o, k, hi, hg, q⟩ => by
  cases hg
  exact q σ G H (Ex.refl G) k
theorem dss_one (h : PS X st (tsOf X.K T io ω ω' g)) : PSs X [st] (tsOf X.K T io ω ω' g) := pss_one h
theorem dss_cons (h1 : PS X st (tsOf X.K T io ω ω1 g1)) (h2 : PSs X rest (tsOf X.K T io ω1 ω2 g2)) : PSs X (st :: rest) (tsOf X.K T io ω ω2 (sSeq g1 g2)) :=
  PSsi (pss_cons h1 h2) fun Dn σ H ⟨E, G, ρ, o, k, hi, hg, q⟩ => by
    obtain ⟨o1, h3, h4⟩ := Option.bind_eq_some_iff.mp hg
    refine ⟨E, G, ρ, o1, k, hi, h3, ?_⟩
    cases o1 with
    | nx ρ1 => exact fun σ' G' H' e' k' => ⟨E, G', ρ1, o, k', hi, h4, q.mono e'⟩
    | rt d ρ1 =>
      cases h4
      exact q
    | rf d ρ1 =>
      cases h4
      exact q
/-! ### return -/
def sRet (f : M) : MS := fun ρ => (f ρ).map fun p => .rt p.1 p.2
def sRetF (f : M) : MS := fun ρ => (f ρ).map fun p => .rf p.1 p.2
theorem ds_ret {pos : Pos} (h : PE X e (teOf X.K T ω f)) : PS X (.Return (some e) pos) (tsOf X.K T io ω ω' (sRet f)) := PSi (ps_ret h) fun Dn σ H ⟨E, G, ρ, o, k, hi, hg, q⟩ => by
  obtain ⟨⟨d, ρ1⟩, h1, h2⟩ := Option.map_eq_some_iff.mp hg
  cases h2
  exact ⟨E, G, ρ, d, ρ1, k, h1, fun v G' H' e' k' r => q v ω σ G' H' e' k' r⟩
theorem ds_retF {pos : Pos} (h : PE X e (tlOf X.K T ω f)) : PS X (.Return (some e) pos) (tsOf X.K T io ω ω' (sRetF f)) := PSi (ps_ret h) fun Dn σ H ⟨E, G, ρ, o, k, hi, hg, q⟩ => by
  obtain ⟨⟨d, ρ1⟩, h1, h2⟩ := Option.map_eq_some_iff.mp hg
  cases h2
  exact ⟨E, G, ρ, d, ρ1, k, h1, fun p G' H' e' k' w fr => q p ω σ G' H' e' k' w fr.e fr.g fr.t⟩
/-- return of an own list by its name -/
def sRetO (i : Nat) : MS := fun ρ => (eVar i ρ).map fun p => .rf p.1 p.2
theorem IoE.not0 (h : IoE io E) (hi : io = false ∨ i ≠ 0) : ∀ p, (i, p) ∉ E.J := fun p hp => by
  cases io with
  | false =>
    rw [show E.J = [] from h] at hp
    cases hp
  | true =>
    obtain ⟨q, hq⟩ := h
    rw [hq] at hp
    rcases hi with hi | hi
    · cases hi
    · rcases List.mem_singleton.mp hp with z
      cases z
      exact hi rfl
theorem EnvOk.ownE (k : EnvOk K T E ω G H σ ρ) (hi : i ∈ ω) (hJ : ∀ p, (i, p) ∉ E.J) (hd : ρ[i]? = some (some d)) : ∃ p, σ[i]? = some (some (.ref p)) ∧ G p = none ∧ p ∉ T ∧ E.H p = none ∧ Own K G H d p := by
  obtain ⟨p, a, b, c, e, w⟩ := k.ow i d hi hd
  refine ⟨p, a, b, c, ?_, w⟩
  rcases e with e | e
  · exact e
  · obtain ⟨⟨j, q⟩, h1, h2⟩ := List.mem_map.mp e
    cases h2
    obtain ⟨x, y, z⟩ := k.io j _ h1
    have : j = i := k.dj j i _ x hi z (by rw [hd]; simp) y a
    subst this
    exact absurd h1 (hJ _)
theorem ds_retO {pos : Pos} (h : PE X e (tVar i)) (hi : ω.contains i = true) (h0 : io = false ∨ i ≠ 0) : PS X (.Return (some e) pos) (tsOf X.K T io ω ω' (sRetO i)) := PSi (ps_ret h) fun Dn σ H ⟨E, G, ρ, o, k, hi', hg, q⟩ => by
  obtain ⟨⟨d, ρ1⟩, h1, h2⟩ := Option.map_eq_some_iff.mp hg
  cases h2
  obtain ⟨h1, h3⟩ := eVar_some h1
  subst h3
  obtain ⟨p, a, b, c, e', w⟩ := k.ownE (List.contains_iff_mem.mp hi) (hi'.not0 h0) h1
  exact ⟨_, a, q p ω σ G H (Ex.refl G) k w e' b c⟩
/-! ### if, never -/
def sIf (t : MT) (g1 g2 : MS) : MS := fun ρ => (t ρ).bind fun p => if p.1 = true then g1 p.2 else g2 p.2
theorem ds_if {c : Expr} {a b : List Stmt} {t : MT} {pos : Pos} (hc : PT X c (ttOf X.K T ω t)) (ha : PSs X a (tsOf X.K T io ω ω' g1)) (hb : PSs X b (tsOf X.K T io ω ω' g2)) : PS X (.If c a b pos) (tsOf X.K T io ω ω' (sIf t g1 g2)) :=
  PSi (ps_if hc ha hb) fun Dn σ H ⟨E, G, ρ, o, k, hi, hg, q⟩ => by
    obtain ⟨⟨x, ρ1⟩, h1, h2⟩ := Option.bind_eq_some_iff.mp hg
    refine ⟨E, G, ρ, x, ρ1, k, h1, fun G1 H1 e1 k1 => ?_⟩
    cases x with
    | true =>
      show (tsOf X.K T io ω ω' g1) Dn σ H1
      exact ⟨E, G1, ρ1, o, k1, hi, h2, q.mono e1⟩
    | false =>
      show (tsOf X.K T io ω ω' g2) Dn σ H1
      exact ⟨E, G1, ρ1, o, k1, hi, h2, q.mono e1⟩
def sNever : MS := fun _ => none
theorem ds_never : PS X st (tsOf X.K T io ω ω' sNever) := PSi ps_never fun Dn σ H ⟨E, G, ρ, o, k, hi, hg, q⟩ => by cases hg
theorem ds_pass {pos : Pos} : PS X (.Pass pos) (tsOf X.K T io ω ω sNil) := PSi ps_pass fun Dn σ H ⟨E, G, ρ, o, k, hi, hg, q⟩ => by
  cases hg
  exact q σ G H (Ex.refl G) k
/-! ### a dropped expression -/
def sDrop (f : M) : MS := fun ρ => (f ρ).map fun p => .nx p.2
theorem ds_drop {pos : Pos} (h : PE X e (teOf X.K T ω f)) (hs : swapsWith e none pos.line X.env = pure false := by rfl) : PS X (.Expr e pos) (tsOf X.K T io ω ω (sDrop f)) := PSi (ps_expr h hs) fun Dn σ H ⟨E, G, ρ, o, k, hi, hg, q⟩ => by
  obtain ⟨⟨d, ρ1⟩, h1, h2⟩ := Option.map_eq_some_iff.mp hg
  cases h2
  exact ⟨E, G, ρ, d, ρ1, k, h1, fun v G' H' e' k' r => q σ G' H' e' k'⟩
/-! ### stores -/
theorem EnvOk.setS (k : EnvOk K T E ω G H σ ρ) (hi : i ∉ ω) (r : Rp K G d v) : EnvOk K T E ω G H (σ.set i (some v)) (ρ.set i (some d)) where
  sub := k.sub
  g0 := k.g0
  h0 := k.h0
  tab := k.tab
  len := by rw [List.length_set, List.length_set]; exact k.len
  sh := fun j d' hj hd => by
    by_cases e : i = j
    · subst e
      have hl : i < ρ.length := by
        have := (List.getElem?_eq_some_iff.mp hd).1
        rwa [List.length_set] at this
      rw [List.getElem?_set_self hl] at hd
      cases hd
      exact ⟨v, by rw [List.getElem?_set_self (by rw [k.len]; exact hl)], r⟩
    · rw [List.getElem?_set_ne e] at hd
      rw [List.getElem?_set_ne e]
      exact k.sh j d' hj hd
  ow := fun j d' hj hd => by
    have e : i ≠ j := fun z => hi (z ▸ hj)
    rw [List.getElem?_set_ne e] at hd
    rw [List.getElem?_set_ne e]
    exact k.ow j d' hj hd
  dj := fun j l p hj hl n1 n2 s1 s2 => by
    have e1 : i ≠ j := fun z => hi (z ▸ hj)
    have e2 : i ≠ l := fun z => hi (z ▸ hl)
    rw [List.getElem?_set_ne e1] at n1 s1
    rw [List.getElem?_set_ne e2] at n2 s2
    exact k.dj j l p hj hl n1 n2 s1 s2
  io := fun j p hp => by
    obtain ⟨a, b, c⟩ := k.io j p hp
    have e : i ≠ j := fun z => hi (z ▸ a)
    rw [List.getElem?_set_ne e, List.getElem?_set_ne e]
    exact ⟨a, b, c⟩
theorem EnvOk.setO (k : EnvOk K T E ω G H σ ρ) (hi : i ∉ ω) (w : Own K G H d p) (f : Fresh T ω E G σ ρ p) : EnvOk K T E (i :: ω) G H (σ.set i (some (.ref p))) (ρ.set i (some d)) where
  sub := k.sub
  g0 := k.g0
  h0 := k.h0
  tab := k.tab
  len := by rw [List.length_set, List.length_set]; exact k.len
  sh := fun j d' hj hd => by
    rw [List.mem_cons, not_or] at hj
    have e : i ≠ j := fun z => hj.1 z.symm
    rw [List.getElem?_set_ne e] at hd
    rw [List.getElem?_set_ne e]
    exact k.sh j d' hj.2 hd
  ow := fun j d' hj hd => by
    by_cases e : i = j
    · subst e
      have hl : i < ρ.length := by
        have := (List.getElem?_eq_some_iff.mp hd).1
        rwa [List.length_set] at this
      rw [List.getElem?_set_self hl] at hd
      cases hd
      exact ⟨p, by rw [List.getElem?_set_self (by rw [k.len]; exact hl)], f.g, f.t, .inl f.e, w⟩
    · rw [List.getElem?_set_ne e] at hd
      rw [List.getElem?_set_ne e]
      have hj' : j ∈ ω := by
        rcases List.mem_cons.mp hj with z | z
        · exact absurd z.symm e
        · exact z
      exact k.ow j d' hj' hd
  dj := fun j l q hj hl n1 n2 s1 s2 => by
    by_cases e1 : i = j
    · by_cases e2 : i = l
      · rw [← e1, ← e2]
      · exfalso
        subst e1
        have hl' : l ∈ ω := by
          rcases List.mem_cons.mp hl with z | z
          · exact absurd z.symm e2
          · exact z
        rw [List.getElem?_set_ne e2] at n2 s2
        have : i < σ.length := by
          have := (List.getElem?_eq_some_iff.mp s1).1
          rwa [List.length_set] at this
        rw [List.getElem?_set_self this] at s1
        cases s1
        exact f.o l hl' n2 s2
    · have hj' : j ∈ ω := by
        rcases List.mem_cons.mp hj with z | z
        · exact absurd z.symm e1
        · exact z
      rw [List.getElem?_set_ne e1] at n1 s1
      by_cases e2 : i = l
      · exfalso
        subst e2
        have : i < σ.length := by
          have := (List.getElem?_eq_some_iff.mp s2).1
          rwa [List.length_set] at this
        rw [List.getElem?_set_self this] at s2
        cases s2
        exact f.o j hj' n1 s1
      · have hl' : l ∈ ω := by
          rcases List.mem_cons.mp hl with z | z
          · exact absurd z.symm e2
          · exact z
        rw [List.getElem?_set_ne e2] at n2 s2
        exact k.dj j l q hj' hl' n1 n2 s1 s2
  io := fun j p hp => by
    obtain ⟨a, b, c⟩ := k.io j p hp
    have e : i ≠ j := fun z => hi (z ▸ a)
    rw [List.getElem?_set_ne e, List.getElem?_set_ne e]
    exact ⟨List.mem_cons_of_mem _ a, b, c⟩
def sSet (i : Nat) (f : M) : MS := fun ρ => (f ρ).map fun p => .nx (p.2.set i (some p.1))
theorem notmem_of {ω : List Nat} {i : Nat} (h : ω.contains i = false) : i ∉ ω := fun hm => by
  rw [List.contains_iff_mem.mpr hm] at h
  cases h
theorem set_imp {te : TE} (hi : ω.contains i = false) (i1 : ∀ σ H Q, teOf K T ω f σ H Q → te σ H Q) {Dn : Ends} {σ : L2.St} {H : Hp} (h : tsOf K T io ω ω (sSet i f) Dn σ H) : tAsg te (gName i) Dn σ H := by
  obtain ⟨E, G, ρ, o, k, hi', hg, q⟩ := h
  obtain ⟨⟨d, ρ1⟩, h1, h2⟩ := Option.map_eq_some_iff.mp hg
  cases h2
  exact i1 σ H _ ⟨E, G, ρ, d, ρ1, k, h1, fun v G' H' e' k' r => q _ G' H' e' (k'.setS (notmem_of hi) r)⟩
theorem own_imp {te : TE} (hi : ω.contains i = false) (i1 : ∀ σ H Q, tlOf K T ω f σ H Q → te σ H Q) {Dn : Ends} {σ : L2.St} {H : Hp} (h : tsOf K T io ω (i :: ω) (sSet i f) Dn σ H) : tAsg te (gName i) Dn σ H := by
  obtain ⟨E, G, ρ, o, k, hi', hg, q⟩ := h
  obtain ⟨⟨d, ρ1⟩, h1, h2⟩ := Option.map_eq_some_iff.mp hg
  cases h2
  exact i1 σ H _ ⟨E, G, ρ, d, ρ1, k, h1, fun p G' H' e' k' w fr => q _ G' H' e' (k'.setO (notmem_of hi) w fr)⟩
/-- x = e -/
theorem ds_set (h : PS X st (tAsg (teOf X.K T ω f) (gName i))) (hi : ω.contains i = false) : PS X st (tsOf X.K T io ω ω (sSet i f)) := PSi h fun _ _ _ h => set_imp hi (fun _ _ _ z => z) h
/-- x = a new list or dict -/
theorem ds_own (h : PS X st (tAsg (tlOf X.K T ω f) (gName i))) (hi : ω.contains i = false) : PS X st (tsOf X.K T io ω (i :: ω) (sSet i f)) := PSi h fun _ _ _ h => own_imp hi (fun _ _ _ z => z) h
/-! ### an own thing is no longer changed -/
def dropN (ω : List Nat) (i : Nat) : List Nat := ω.filter fun j => j != i
theorem mem_dropN {ω : List Nat} {i j : Nat} : j ∈ dropN ω i ↔ j ∈ ω ∧ j ≠ i := by simp [dropN]
theorem EnvOk.frz (k : EnvOk K T E ω G H σ ρ) (hi : i ∈ ω) (hJ : ∀ p, (i, p) ∉ E.J) : ∃ G', Ex G G' ∧ EnvOk K T E (dropN ω i) G' H σ ρ := by
  have io' : ∀ j p, (j, p) ∈ E.J → j ∈ dropN ω i ∧ σ[j]? = some (some (.ref p)) ∧ ρ[j]? ≠ some none := fun j p hp => by
    obtain ⟨a, b, c⟩ := k.io j p hp
    exact ⟨mem_dropN.mpr ⟨a, fun e => hJ p (e ▸ hp)⟩, b, c⟩
  have dj' : ∀ j l p, j ∈ dropN ω i → l ∈ dropN ω i → ρ[j]? ≠ some none → ρ[l]? ≠ some none → σ[j]? = some (some (.ref p)) → σ[l]? = some (some (.ref p)) → j = l :=
    fun j l p hj hl => k.dj j l p (mem_dropN.mp hj).1 (mem_dropN.mp hl).1
  by_cases hd : ∃ d, ρ[i]? = some (some d)
  · obtain ⟨d, hd⟩ := hd
    obtain ⟨p, a, b, c, e, w⟩ := k.ownE hi hJ hd
    obtain ⟨o, ho, r⟩ := w.see b
    refine ⟨upd G p o, Ex.new b, ⟨fun x u h => ?_, k.g0.trans (Ex.new b), fun q u h g => ?_, k.tab.updG c, k.len, fun j d' hj hd' => ?_, fun j d' hj hd' => ?_, dj', io'⟩⟩
    · by_cases z : x = p
      · subst z
        rw [upd_same] at h
        rw [ho]
        exact h
      · rw [upd_ne z] at h
        exact k.sub x u h
    · have n : q ≠ p := ne_of_none h e
      rw [upd_ne n]
      exact k.h0 q u h g
    · by_cases z : j = i
      · subst z
        rw [hd] at hd'
        cases hd'
        exact ⟨_, a, r⟩
      · have hj' : j ∉ ω := fun m => hj (mem_dropN.mpr ⟨m, z⟩)
        obtain ⟨v, x, y⟩ := k.sh j d' hj' hd'
        exact ⟨v, x, y.mono (Ex.new b)⟩
    · obtain ⟨hj1, hj2⟩ := mem_dropN.mp hj
      obtain ⟨q, x, y, z, t, u⟩ := k.ow j d' hj1 hd'
      have n : q ≠ p := fun e => hj2 (k.dj j i p hj1 hi (by rw [hd']; simp) (by rw [hd]; simp) (e ▸ x) a)
      refine ⟨q, x, by rw [upd_ne n]; exact y, z, t, ?_⟩
      cases u with
      | lst a' b' => exact .lst a' (b'.mono (Ex.new b))
      | dic a' b' c' => exact .dic a' b' (c'.mono (Ex.new b))
  · refine ⟨G, Ex.refl G, ⟨k.sub, k.g0, k.h0, k.tab, k.len, fun j d' hj hd' => ?_, fun j d' hj hd' => k.ow j d' (mem_dropN.mp hj).1 hd', dj', io'⟩⟩
    by_cases z : j = i
    · subst z
      exact absurd ⟨d', hd'⟩ hd
    · exact k.sh j d' (fun m => hj (mem_dropN.mpr ⟨m, z⟩)) hd'
theorem frz_imp {t : TS} (hi : ω.contains i = true) (h0 : io = false ∨ i ≠ 0) (h : ∀ Dn σ H, tsOf K T io (dropN ω i) ω' g Dn σ H → t Dn σ H) : ∀ Dn σ H, tsOf K T io ω ω' g Dn σ H → t Dn σ H := fun Dn σ H ⟨E, G, ρ, o, k, hio, hg, q⟩ => by
  obtain ⟨G', e', k'⟩ := k.frz (List.contains_iff_mem.mp hi) (hio.not0 h0)
  exact h Dn σ H ⟨E, G', ρ, o, k', hio, hg, q.mono e'⟩
theorem ds_frz (i : Nat) (hi : ω.contains i = true) (h0 : io = false ∨ i ≠ 0) (h : PS X st (tsOf X.K T io (dropN ω i) ω' g)) : PS X st (tsOf X.K T io ω ω' g) := PSi h (frz_imp hi h0 fun _ _ _ z => z)
theorem dss_frz (i : Nat) (hi : ω.contains i = true) (h0 : io = false ∨ i ≠ 0) (h : PSs X rest (tsOf X.K T io (dropN ω i) ω' g)) : PSs X rest (tsOf X.K T io ω ω' g) := PSsi h (frz_imp hi h0 fun _ _ _ z => z)
/-! ### changes of own lists and dicts -/
theorem EnvOk.wr (k : EnvOk K T E ω G H σ ρ) {o' : HO} {d' : D} (hi : i ∈ ω) (hp : σ[i]? = some (some (.ref p))) (hd : ρ[i]? = some (some d)) (w : Own K G (upd H p o') d' p) : EnvOk K T E ω G (upd H p o') σ (ρ.set i (some d')) := by
  obtain ⟨p', a, b, c, e, w0⟩ := k.ow i d hi hd
  rw [hp] at a
  cases a
  have hlt : i < ρ.length := (List.getElem?_eq_some_iff.mp hd).1
  have key : ∀ m, (ρ.set i (some d'))[m]? ≠ some none → ρ[m]? ≠ some none := fun m hm hz => by
    by_cases hmi : i = m
    · subst hmi
      rw [hd] at hz
      cases hz
    · rw [List.getElem?_set_ne hmi] at hm
      exact hm hz
  refine ⟨fun a u h => ?_, k.g0, fun q u h g => ?_, k.tab.upd c, by rw [List.length_set]; exact k.len, fun j d2 hj hd2 => ?_, fun j d2 hj hd2 => ?_, fun j l z hj hl n1 n2 => k.dj j l z hj hl (key j n1) (key l n2), fun j z hz => ?_⟩
  · have n : a ≠ p := ne_of_none h b
    rw [upd_ne n]
    exact k.sub a u h
  · obtain ⟨x, y⟩ := k.h0 q u h g
    refine ⟨x, fun nI nT => ?_⟩
    have n : q ≠ p := fun z => by
      subst z
      rcases e with e | e
      · rw [h] at e; cases e
      · exact nI e
    rw [upd_ne n]
    exact y nI nT
  · have n : i ≠ j := fun z => hj (z ▸ hi)
    rw [List.getElem?_set_ne n] at hd2
    exact k.sh j d2 hj hd2
  · by_cases n : i = j
    · subst n
      rw [List.getElem?_set_self hlt] at hd2
      cases hd2
      exact ⟨p, hp, b, c, e, w⟩
    · rw [List.getElem?_set_ne n] at hd2
      obtain ⟨z, s1, s2, s3, s4, s5⟩ := k.ow j d2 hj hd2
      have hzp : z ≠ p := fun ez => by
        subst ez
        exact n (k.dj i j z hi hj (by rw [hd]; simp) (by rw [hd2]; simp) hp s1)
      refine ⟨z, s1, s2, s3, s4, ?_⟩
      cases s5 with
      | lst y1 y2 => exact .lst (by rw [upd_ne hzp]; exact y1) y2
      | dic y1 y2 y3 => exact .dic (by rw [upd_ne hzp]; exact y1) y2 y3
  · obtain ⟨x1, x2, x3⟩ := k.io j z hz
    refine ⟨x1, x2, fun hm => ?_⟩
    by_cases n : i = j
    · subst n
      rw [List.getElem?_set_self hlt] at hm
      cases hm
    · rw [List.getElem?_set_ne n] at hm
      exact x3 hm
/-- the own list in a slot -/
def lstAt (i : Nat) (ρ : Env) : Option (List D) := match ρ[i]? with
  | some (some (.lst ds)) => some ds
  | _ => none
theorem lstAt_some {ds : List D} (h : lstAt i ρ = some ds) : ρ[i]? = some (some (.lst ds)) := by
  unfold lstAt at h
  split at h
  · rename_i e
    cases h
    exact e
  · cases h
theorem EnvOk.lst (k : EnvOk K T E ω G H σ ρ) (hi : i ∈ ω) {ds : List D} (h : lstAt i ρ = some ds) : ∃ p vs, σ[i]? = some (some (.ref p)) ∧ H p = some (.lst vs) ∧ Rps K G ds vs := by
  obtain ⟨p, a, b, c, e, w⟩ := k.ow i _ hi (lstAt_some h)
  cases w with
  | lst x y => exact ⟨p, _, a, x, y⟩
def sApp (i : Nat) (f : M) : MS := fun ρ => (lstAt i ρ).bind fun _ => (f ρ).bind fun q => (lstAt i q.2).bind fun ds => if ds.length < 100000 then some (.nx (q.2.set i (some (.lst (ds ++ [q.1]))))) else none
theorem lt_line {n : Nat} (h : n < 100000) : n < sizeLine := Nat.lt_of_lt_of_le h (by decide)
/-- x.append(e) -/
theorem ds_app (h : PS X st (tDrop (tBM X.K "list" rAppend (tVar i) (tCons (teOf X.K T ω f) tNil)))) (hi : ω.contains i = true) : PS X st (tsOf X.K T io ω ω (sApp i f)) := PSi h fun Dn σ H ⟨E, G, ρ, o, k, hio, hg, q⟩ => by
  obtain ⟨ds0, h0, hg⟩ := Option.bind_eq_some_iff.mp hg
  obtain ⟨⟨d, ρ1⟩, h1, hg⟩ := Option.bind_eq_some_iff.mp hg
  obtain ⟨ds, h2, hg⟩ := Option.bind_eq_some_iff.mp hg
  have hm := List.contains_iff_mem.mp hi
  obtain ⟨p, vs0, a0, b0, r0⟩ := k.lst hm h0
  by_cases hl : ds.length < 100000
  · rw [if_pos hl] at hg
    cases hg
    refine ⟨_, a0, .inl ⟨rfl, _, SqL.of b0⟩, E, G, ρ, d, ρ1, k, h1, fun v G1 H1 e1 k1 r1 => ?_⟩
    obtain ⟨p', vs, a, b, r⟩ := k1.lst hm h2
    rw [a0] at a
    cases a
    refine ⟨p, vs, v, rfl, rfl, b, by rw [← r.len]; exact lt_line hl, q σ G1 _ e1 (k1.wr hm a0 (lstAt_some h2) (.lst upd_same (r.app (Rps.one r1))))⟩
  · rw [if_neg hl] at hg
    cases hg
def sExt (i : Nat) (f : M) : MS := fun ρ => (lstAt i ρ).bind fun _ => (f ρ).bind fun q => (lstAt i q.2).bind fun ds => match q.1 with
  | .lst es => if ds.length + es.length ≤ 100000 then some (.nx (q.2.set i (some (.lst (ds ++ es))))) else none
  | _ => none
end
end Z
namespace L2
open PySem PySem.Spec PyProof.Rows
def rExtS (K : PySem.W.Frag) : V → List V → Hp → VK → Prop := fun x vs H Q => ∃ l b xs zs, x = .ref l ∧ vs = [.ref b] ∧ H l = some (.lst xs) ∧ SqL K H b zs ∧ xs.length + zs.length ≤ sizeLine ∧ Q .non (upd H l (.lst (xs ++ zs)))
end L2
/-! More statements: extend, pop, stores into own lists and dicts, several targets. -/
namespace L2
open PySem PySem.Spec PyProof.Rows
theorem list_extend_slots (l : Addr) (items : Array Value) (n : Nat) (b : Addr) (items2 : Array Value) (n2 : Nat) (sl : Array (Option Value)) (hc0 : ¬(!items.isEmpty && Builtin.List.listTooLong (items.size + items2.size)) = true) (hc1 : items.size ≤ sizeLine) (hs2 : items.size + items2.size ≤ sizeLine + 1) :
    Meets (Builtin.«list.extend» ⟨[.ref l, .ref b], []⟩) (fun _ R s => s.heap.get? l = some { cls := .type "list", dict := none, data := .seq items n, slots := #[] } ∧ s.heap.get? b = some { cls := .type "list", dict := none, data := .seq items2 n2, slots := sl } ∧ R (.ok (.ret Value.none)) { s with heap := s.heap.update l (Obj.mapSeq fun x => x ++ items2), toks := s.toks }) :=
  .of_wp fun prog w A R s h => by
    obtain ⟨hp, g, d, tk, os⟩ := s; obtain ⟨hl, hb, h⟩ := h; have f1 := AutoSeq1.idx_int; have f2 := AutoSeq1.sub_tuple_tuple; have f3 := AutoSeq1.sub_list_list; have f4 := AutoSeq1.sub_tuple_list; have f5 := AutoSeq1.sub_list_tuple;
    have hz' : (items ++ items2).size ≤ sizeLine + 1 := by rw [Array.size_append]; exact hs2
    wp_walk using (wpAny_updateSeq hl rfl (hz := hc1) (_hz' := hz')), AutoSeq1.wpAny_loadPart' hl, AutoSeq1.wpAny_loadPart' hb; exact ⟨_, rfl, h⟩
theorem mt_extS {X : Cx} : MtM X "list.extend" (rExtS X.K) := by
  intro pins s σ H x vs v us Q I rx rv h
  obtain ⟨l, b, xs, zs, rfl, rfl, hH, hB, hz, q⟩ := h
  cases rx
  obtain ⟨u, rfl, ru⟩ := rv.one
  cases ru
  obtain ⟨z, its, n, r, hl, e⟩ := I.lstM hH
  obtain ⟨its2, r2, ⟨⟨c2, d2, dt2, sl2⟩, n2, e2, hc2, hd2, hdt2⟩, hz2⟩ := I.list hB
  simp only at hc2 hd2 hdt2
  subst hc2 hd2 hdt2
  have hl2 := r2.length
  have hsz : its.toArray.size + its2.toArray.size ≤ sizeLine := by rw [List.size_toArray, List.size_toArray]; omega
  have hlong : ¬ (!its.toArray.isEmpty && Builtin.List.listTooLong (its.toArray.size + its2.toArray.size)) = true := by
    rw [notLongL hsz, Bool.and_false]
    exact Bool.false_ne_true
  refine call_meets F.slot_list_extend ⟨_, e, rfl⟩ F.entry_list_extend (F.args_list_extend_2 _ _)
    (list_extend_slots l its.toArray n b its2.toArray n2 sl2 hlong (by rw [List.size_toArray]; omega) (by omega)) ⟨e, e2, ?_⟩
  refine ⟨.non, _, I.lset (its' := its ++ its2) hH e (by simp) (r.append r2) ?_, rfl, q⟩
  rw [List.length_append]
  omega
end L2
namespace Z
open PySem L2
section
variable {K : PySem.W.Frag} {T : List Addr} {X : Cx} {io : Bool} {ω ω' ω1 ω2 : List Nat} {E : Ent} {G H G' H' : Hp} {σ : L2.St} {ρ : Env} {e : Expr} {st : Stmt} {rest : List Stmt} {f fa fb : M} {g g1 g2 : MS} {i j : Nat} {d : D} {v : V} {Dn : Ends} {o : Out} {p : Addr}
theorem ds_ext (h : PS X st (tDrop (tBM X.K "list" (rExtS X.K) (tVar i) (tCons (teOf X.K T ω f) tNil)))) (hi : ω.contains i = true) : PS X st (tsOf X.K T io ω ω (sExt i f)) := PSi h fun Dn σ H ⟨E, G, ρ, o, k, hio, hg, q⟩ => by
  obtain ⟨ds0, h0, hg⟩ := Option.bind_eq_some_iff.mp hg
  obtain ⟨⟨d, ρ1⟩, h1, hg⟩ := Option.bind_eq_some_iff.mp hg
  obtain ⟨ds, h2, hg⟩ := Option.bind_eq_some_iff.mp hg
  have hm := List.contains_iff_mem.mp hi
  obtain ⟨p, vs0, a0, b0, r0⟩ := k.lst hm h0
  refine ⟨_, a0, .inl ⟨rfl, _, SqL.of b0⟩, E, G, ρ, d, ρ1, k, h1, fun v G1 H1 e1 k1 r1 => ?_⟩
  cases r1 with
  | @lst pb zs es gb rb =>
    by_cases hl : ds.length + es.length ≤ 100000
    · simp only [if_pos hl] at hg
      cases hg
      obtain ⟨p', vs, a, b, r⟩ := k1.lst hm h2
      rw [a0] at a
      cases a
      exact ⟨p, pb, vs, zs, rfl, rfl, b, ex_l k1.sub gb, by rw [← r.len, ← rb.len]; exact line_of hl, q σ G1 _ e1 (k1.wr hm a0 (lstAt_some h2) (.lst upd_same (r.app rb)))⟩
    · simp only [if_neg hl] at hg
      cases hg
  | _ => cases hg
/-- x.pop() as a value -/
def ePop (i : Nat) : M := fun ρ => (lstAt i ρ).bind fun ds => (ds[ds.length - 1]?).map fun d => (d, ρ.set i (some (.lst ds.dropLast)))
theorem Rps.dropLast : ∀ {ds : List D} {vs : List V}, Rps K G ds vs → Rps K G ds.dropLast vs.dropLast
  | _, _, .nil => .nil
  | _, _, .cons _ .nil => .nil
  | _, _, .cons h (.cons h2 r) => .cons h (Rps.dropLast (.cons h2 r))
theorem de_pop (h : PE X e (tBM0 X.K "list" rPop (tVar i))) (hi : ω.contains i = true) : PE X e (teOf X.K T ω (ePop i)) := PEi h fun σ H Q ⟨E, G, ρ, d, ρ', k, hf, q⟩ => by
  obtain ⟨ds, h1, hf⟩ := Option.bind_eq_some_iff.mp hf
  obtain ⟨d', h2, hf⟩ := Option.map_eq_some_iff.mp hf
  cases hf
  have hm := List.contains_iff_mem.mp hi
  obtain ⟨p, vs, a, b, r⟩ := k.lst hm h1
  obtain ⟨w, hw, rw'⟩ := r.get h2
  exact ⟨_, a, .inl ⟨rfl, _, SqL.of b⟩, p, vs, w, rfl, rfl, b, by rw [← r.len]; exact hw, q w G _ (Ex.refl G) (k.wr hm a (lstAt_some h1) (.lst upd_same r.dropLast)) rw'⟩
/-- x.pop(e) -/
def ePopAt (i : Nat) (f : M) : M := fun ρ => (lstAt i ρ).bind fun _ => (f ρ).bind fun q => (lstAt i q.2).bind fun ds => match q.1 with
  | .int n => if -(2 ^ 63) ≤ n ∧ n < 2 ^ 63 then (seqIndex? n ds.length).bind fun k => (ds[k]?).map fun d => (d, q.2.set i (some (.lst (ds.eraseIdx k)))) else none
  | _ => none
theorem Rps.eraseIdx : ∀ {ds : List D} {vs : List V} (n : Nat), Rps K G ds vs → Rps K G (ds.eraseIdx n) (vs.eraseIdx n)
  | _, _, _, .nil => .nil
  | _, _, 0, .cons _ r => r
  | _, _, n + 1, .cons h r => .cons h (Rps.eraseIdx n r)
theorem de_popAt (h : PE X e (tBM X.K "list" rPopAt (tVar i) (tCons (teOf X.K T ω f) tNil))) (hi : ω.contains i = true) : PE X e (teOf X.K T ω (ePopAt i f)) := PEi h fun σ H Q ⟨E, G, ρ, d, ρ', k, hf, q⟩ => by
  obtain ⟨ds0, h0, hf⟩ := Option.bind_eq_some_iff.mp hf
  obtain ⟨⟨x, ρ1⟩, h1, hf⟩ := Option.bind_eq_some_iff.mp hf
  obtain ⟨ds, h2, hf⟩ := Option.bind_eq_some_iff.mp hf
  have hm := List.contains_iff_mem.mp hi
  obtain ⟨p, vs0, a0, b0, r0⟩ := k.lst hm h0
  refine ⟨_, a0, .inl ⟨rfl, _, SqL.of b0⟩, E, G, ρ, x, ρ1, k, h1, fun v G1 H1 e1 k1 r1 => ?_⟩
  cases r1 with
  | int n =>
    by_cases hl : -(2 ^ 63) ≤ n ∧ n < 2 ^ 63
    · simp only [if_pos hl] at hf
      obtain ⟨m, h3, hf⟩ := Option.bind_eq_some_iff.mp hf
      obtain ⟨d', h4, hf⟩ := Option.map_eq_some_iff.mp hf
      cases hf
      obtain ⟨p', vs, a, b, r⟩ := k1.lst hm h2
      rw [a0] at a
      cases a
      obtain ⟨w, hw, rw'⟩ := r.get h4
      exact ⟨p, vs, n, m, w, rfl, rfl, b, hl.1, hl.2, by rw [← r.len]; exact h3, hw, q w G1 _ e1 (k1.wr hm a0 (lstAt_some h2) (.lst upd_same (r.eraseIdx m))) rw'⟩
    · simp only [if_neg hl] at hf
      cases hf
  | _ => cases hf
/-- x[n] = e, x an own list -/
def sPut (i : Nat) (fv fi : M) : MS := fun ρ => (fv ρ).bind fun p => (lstAt i p.2).bind fun _ => (fi p.2).bind fun q => (lstAt i q.2).bind fun ds => match q.1 with
  | .int n => (ixN ds.length n).map fun j => .nx (q.2.set i (some (.lst (ds.set j p.1))))
  | _ => none
theorem ds_put {fv fi : M} (h : PS X st (tAsg (teOf X.K T ω fv) (gSub (tVar i) (teOf X.K T ω fi) rSetL))) (hi : ω.contains i = true) : PS X st (tsOf X.K T io ω ω (sPut i fv fi)) := PSi h fun Dn σ H ⟨E, G, ρ, o, k, hio, hg, q⟩ => by
  obtain ⟨⟨x, ρ1⟩, h1, hg⟩ := Option.bind_eq_some_iff.mp hg
  obtain ⟨ds0, h0, hg⟩ := Option.bind_eq_some_iff.mp hg
  obtain ⟨⟨y, ρ2⟩, h2, hg⟩ := Option.bind_eq_some_iff.mp hg
  obtain ⟨ds, h3, hg⟩ := Option.bind_eq_some_iff.mp hg
  have hm := List.contains_iff_mem.mp hi
  refine ⟨E, G, ρ, x, ρ1, k, h1, fun v G1 H1 e1 k1 r1 => ?_⟩
  obtain ⟨p, vs0, a0, b0, r0⟩ := k1.lst hm h0
  refine ⟨_, a0, E, G1, ρ1, y, ρ2, k1, h2, fun u G2 H2 e2 k2 r2 => ?_⟩
  cases r2 with
  | int n =>
    obtain ⟨j, h4, hg⟩ := Option.map_eq_some_iff.mp hg
    cases hg
    obtain ⟨p', vs, a, b, r⟩ := k2.lst hm h3
    rw [a0] at a
    cases a
    exact ⟨p, vs, n, j, rfl, rfl, b, by rw [← r.len]; exact h4, q σ G2 _ (e1.trans e2) (k2.wr hm a0 (lstAt_some h3) (.lst upd_same (r.set (r1.mono e2) j)))⟩
  | _ => cases hg
/-- the own dict in a slot -/
def dicAt (i : Nat) (ρ : Env) : Option (List Key × List D) := match ρ[i]? with
  | some (some (.dic ks ds)) => some (ks, ds)
  | _ => none
theorem dicAt_some {ks : List Key} {ds : List D} (h : dicAt i ρ = some (ks, ds)) : ρ[i]? = some (some (.dic ks ds)) := by
  unfold dicAt at h
  split at h
  · rename_i e
    cases h
    exact e
  · cases h
theorem EnvOk.dic (k : EnvOk K T E ω G H σ ρ) (hi : i ∈ ω) {ks : List Key} {ds : List D} (h : dicAt i ρ = some (ks, ds)) : ∃ p kvs, σ[i]? = some (some (.ref p)) ∧ H p = some (.dK kvs) ∧ kvs.map (·.1) = ks ∧ Rps K G ds (kvs.map (·.2)) := by
  obtain ⟨p, a, b, c, e, w⟩ := k.ow i _ hi (dicAt_some h)
  cases w with
  | dic x y z => exact ⟨p, _, a, x, y, z⟩
/-- d[k] = x on keys and values -/
def repKD (k : Key) (x : D) : List Key → List D → List D
  | j :: js, d :: ds => (if j = k then x else d) :: repKD k x js ds
  | _, _ => []
def putKD (k : Key) (x : D) (ks : List Key) (ds : List D) : List Key × List D := if (ks.any fun j => decide (j = k)) = true then (ks, repKD k x ks ds) else (ks ++ [k], ds ++ [x])
theorem repKD_ok {k : Key} {x : D} {v : V} (r : Rp K G x v) : ∀ {kvs : List (Key × V)} {ds : List D}, Rps K G ds (kvs.map (·.2)) → Rps K G (repKD k x (kvs.map (·.1)) ds) ((kvs.map fun kv => if kv.1 = k then (kv.1, v) else kv).map (·.2))
  | [], _, .nil => .nil
  | (j, w) :: kvs, _, .cons h rs => by
    by_cases e : j = k
    · simp only [List.map_cons, repKD, if_pos e]
      exact .cons r (repKD_ok r rs)
    · simp only [List.map_cons, repKD, if_neg e]
      exact .cons h (repKD_ok r rs)
theorem putKD_ok {k : Key} {x : D} {v : V} (r : Rp K G x v) {kvs : List (Key × V)} {ds : List D} (h : Rps K G ds (kvs.map (·.2))) : (putK kvs k v).map (·.1) = (putKD k x (kvs.map (·.1)) ds).1 ∧ Rps K G (putKD k x (kvs.map (·.1)) ds).2 ((putK kvs k v).map (·.2)) := by
  have ea : ((kvs.map (·.1)).any fun j => decide (j = k)) = kvs.any fun kv => decide (kv.1 = k) := by rw [List.any_map]; rfl
  unfold putK putKD
  rw [ea]
  by_cases c : (kvs.any fun kv => decide (kv.1 = k)) = true
  · rw [if_pos c, if_pos c]
    refine ⟨?_, repKD_ok r h⟩
    rw [List.map_map]
    refine List.map_congr_left fun p _ => ?_
    show (if p.1 = k then (p.1, v) else p).1 = p.1
    split <;> rfl
  · rw [if_neg c, if_neg c]
    refine ⟨by simp, ?_⟩
    rw [List.map_append]
    exact h.app (Rps.one r)
def sDPutM (i : Nat) (fv fk : M) : MS := fun ρ => (fv ρ).bind fun p => (dicAt i p.2).bind fun _ => (fk p.2).bind fun q => (dicAt i q.2).bind fun kd => (keyD q.1).bind fun k =>
  if kd.1.length < 100000 then some (.nx (q.2.set i (some (.dic (putKD k p.1 kd.1 kd.2).1 (putKD k p.1 kd.1 kd.2).2)))) else none
/-- x[k] = e, x an own dict -/
theorem ds_dput {fv fk : M} (h : PS X st (sDPut (tVar i) (teOf X.K T ω fk) (teOf X.K T ω fv))) (hi : ω.contains i = true) : PS X st (tsOf X.K T io ω ω (sDPutM i fv fk)) := PSi h fun Dn σ H ⟨E, G, ρ, o, k, hio, hg, q⟩ => by
  obtain ⟨⟨x, ρ1⟩, h1, hg⟩ := Option.bind_eq_some_iff.mp hg
  obtain ⟨⟨ks0, ds0⟩, h0, hg⟩ := Option.bind_eq_some_iff.mp hg
  obtain ⟨⟨y, ρ2⟩, h2, hg⟩ := Option.bind_eq_some_iff.mp hg
  obtain ⟨⟨ks, ds⟩, h3, hg⟩ := Option.bind_eq_some_iff.mp hg
  obtain ⟨key, h4, hg⟩ := Option.bind_eq_some_iff.mp hg
  have hm := List.contains_iff_mem.mp hi
  by_cases hl : ks.length < 100000
  · rw [if_pos hl] at hg
    cases hg
    refine ⟨E, G, ρ, x, ρ1, k, h1, fun v G1 H1 e1 k1 r1 => ?_⟩
    obtain ⟨p, kvs0, a0, b0, c0, r0⟩ := k1.dic hm h0
    refine ⟨_, a0, E, G1, ρ1, y, ρ2, k1, h2, fun u G2 H2 e2 k2 r2 => ?_⟩
    obtain ⟨p', kvs, a, b, c, r⟩ := k2.dic hm h3
    rw [a0] at a
    cases a
    have ev := keyD_ok h4 r2
    subst ev
    have hlen : kvs.length < 100000 := by
      rw [← c, List.length_map] at hl
      exact hl
    refine ⟨p, _, rfl, DPut.k b (lt_line hlen), q σ G2 _ (e1.trans e2) (k2.wr hm a0 (dicAt_some h3) ?_)⟩
    obtain ⟨z1, z2⟩ := putKD_ok (k := key) (r1.mono e2) r
    rw [c] at z1 z2
    exact .dic upd_same z1 z2
  · rw [if_neg hl] at hg
    cases hg
/-- {} -/
def eDic0 : M := fun ρ => some (.dic [] [], ρ)
theorem dl_dic0 {pos : Pos} : PE X (.Dict [] [] pos) (tlOf X.K T ω eDic0) := PEi pe_dnewK fun σ H Q ⟨E, G, ρ, d, ρ', k, hf, q⟩ => by
  cases hf
  intro p hp
  obtain ⟨k2, f2⟩ := k.own (o := .dK []) hp
  exact q p G _ (Ex.refl G) k2 (.dic upd_same rfl .nil) f2

/-! ### targets -/
def tgOf (K : PySem.W.Frag) (T : List Addr) (ts ω : List Nat) (gt : D → Env → Option Env) : TG := fun v σ H Q => ∃ (E : Ent) (G : Hp) (ρ : Env) (d : D) (ρ' : Env), EnvOk K T E ω G H σ ρ ∧ Rp K G d v ∧ gt d ρ = some ρ' ∧
  ∀ σ', EnvOk K T E ω G H σ' ρ' → σ'.length = σ.length → (∀ j, j ∉ ts → σ'[j]? = σ[j]?) → Q σ' H
def tgsOf (K : PySem.W.Frag) (T : List Addr) (ts ω : List Nat) (gt : List D → Env → Option Env) : TGs := fun v σ H Q => ∃ (E : Ent) (G : Hp) (ρ : Env) (d : List D) (ρ' : Env), EnvOk K T E ω G H σ ρ ∧ Rps K G d v ∧ gt d ρ = some ρ' ∧
  ∀ σ', EnvOk K T E ω G H σ' ρ' → σ'.length = σ.length → (∀ j, j ∉ ts → σ'[j]? = σ[j]?) → Q σ' H
def gtN (i : Nat) : D → Env → Option Env := fun d ρ => some (ρ.set i (some d))
def gtNil : List D → Env → Option Env := fun ds ρ => match ds with
  | [] => some ρ
  | _ => none
def gtCons (a : D → Env → Option Env) (b : List D → Env → Option Env) : List D → Env → Option Env := fun ds ρ => match ds with
  | d :: ds => (a d ρ).bind fun ρ1 => b ds ρ1
  | [] => none
def gtT (n : Nat) (b : List D → Env → Option Env) : D → Env → Option Env := fun d ρ => match d with
  | .tup ds => if ds.length = n then b ds ρ else none
  | _ => none
variable {tg : Expr} {tgs : List Expr} {ts us : List Nat} {gt ga gb : D → Env → Option Env} {hs : List D → Env → Option Env}
theorem dg_name (h : PG X tg (gName i)) (hi : ω.contains i = false) : PG X tg (tgOf X.K T [i] ω (gtN i)) := PGi h fun v σ H Q ⟨E, G, ρ, d, ρ', k, r, hg, q⟩ => by
  cases hg
  refine q _ (k.setS (notmem_of hi) r) (by rw [List.length_set]) fun j hj => ?_
  rw [List.getElem?_set_ne (fun e => hj (by rw [e]; exact List.mem_singleton.mpr rfl))]
theorem dgs_nil : PGs X [] (tgsOf X.K T [] ω gtNil) := PGsi pgs_nil fun v σ H Q ⟨E, G, ρ, d, ρ', k, r, hg, q⟩ => by
  cases r with
  | nil =>
    cases hg
    exact ⟨rfl, q σ k rfl fun _ _ => rfl⟩
  | cons _ _ => cases hg
theorem dgs_cons (h1 : PG X tg (tgOf X.K T ts ω ga)) (h2 : PGs X tgs (tgsOf X.K T us ω hs)) (hx : (assignEach (tg :: tgs) X.env).map (·.2) = assign tg X.env :: (assignEach tgs X.env).map (·.2) := by rfl) : PGs X (tg :: tgs) (tgsOf X.K T (ts ++ us) ω (gtCons ga hs)) :=
  PGsi (pgs_cons h1 h2 hx) fun v σ H Q ⟨E, G, ρ, d, ρ', k, r, hg, q⟩ => by
    cases r with
    | nil => cases hg
    | cons r rs =>
      obtain ⟨ρ1, h3, h4⟩ := Option.bind_eq_some_iff.mp hg
      exact ⟨_, _, rfl, E, G, ρ, _, ρ1, k, r, h3, fun σ1 k1 l1 z1 => ⟨E, G, ρ1, _, ρ', k1, rs, h4, fun σ2 k2 l2 z2 => q σ2 k2 (l2.trans l1) fun j hj => by
        rw [List.mem_append, not_or] at hj
        rw [z2 j hj.2, z1 j hj.1]⟩⟩
theorem dg_tup {es : List Expr} {kk n : Nat} {pos : Pos} (hc : X.calm = true) (h : PGs X es (tgsOf X.K T ts ω hs)) (hn : (assignEach es X.env).length = n := by rfl) (hst : (assignEach es X.env).findIdx? (·.1) = none := by rfl) : PG X (.Tuple es kk pos) (tgOf X.K T ts ω (gtT n hs)) :=
  PGi (pg_tup hc h hn hst) fun v σ H Q ⟨E, G, ρ, d, ρ', k, r, hg, q⟩ => by
    cases r with
    | @tup p vs ds g rs =>
      simp only [gtT] at hg
      by_cases hl : ds.length = n
      · rw [if_pos hl] at hg
        exact ⟨p, vs, rfl, SqT.of (k.sub _ _ g), by rw [← rs.len]; exact hl, E, G, ρ, ds, ρ', k, rs, hg, q⟩
      · rw [if_neg hl] at hg
        cases hg
    | _ => cases hg
/-- a, b = e -/
def sTgt (gt : D → Env → Option Env) (f : M) : MS := fun ρ => (f ρ).bind fun p => (gt p.1 p.2).map fun ρ' => .nx ρ'
theorem ds_tgt (h : PS X st (tAsg (teOf X.K T ω f) (tgOf X.K T ts ω gt))) : PS X st (tsOf X.K T io ω ω (sTgt gt f)) := PSi h fun Dn σ H ⟨E, G, ρ, o, k, hio, hg, q⟩ => by
  obtain ⟨⟨x, ρ1⟩, h1, hg⟩ := Option.bind_eq_some_iff.mp hg
  obtain ⟨ρ2, h2, hg⟩ := Option.map_eq_some_iff.mp hg
  cases hg
  exact ⟨E, G, ρ, x, ρ1, k, h1, fun v G1 H1 e1 k1 r1 => ⟨E, G1, ρ1, x, ρ2, k1, r1, h2, fun σ' k2 _ _ => q σ' G1 H1 e1 k2⟩⟩
end
end Z
/-! Re-based entries; several stores at once; loops; comprehensions. -/
namespace Z
open PySem L2
section
variable {K : PySem.W.Frag} {T : List Addr} {X : Cx} {io : Bool} {ω ω' ω1 ω2 : List Nat} {E : Ent} {G H G' H' : Hp} {σ : L2.St} {ρ ρ' : Env} {e : Expr} {st : Stmt} {rest : List Stmt} {f fa fb : M} {g g1 g2 : MS} {i j : Nat} {d : D} {v : V} {Dn : Ends} {o : Out} {p : Addr}
/-! ### the same state, seen as an entry -/
def ownJ (ω : List Nat) (σ : L2.St) (ρ : Env) : List (Nat × Addr) := ω.filterMap fun i => match σ[i]?, ρ[i]? with
  | some (some (V.ref p)), some (some _) => some (i, p)
  | _, _ => none
theorem mem_ownJ {i : Nat} {p : Addr} : (i, p) ∈ ownJ ω σ ρ ↔ i ∈ ω ∧ σ[i]? = some (some (.ref p)) ∧ ∃ d, ρ[i]? = some (some d) := by
  unfold ownJ
  rw [List.mem_filterMap]
  constructor
  · rintro ⟨j, hj, h⟩
    split at h
    · rename_i q d h1 h2
      cases h
      exact ⟨hj, h1, d, h2⟩
    · cases h
  · rintro ⟨hi, h1, d, h2⟩
    exact ⟨i, hi, by rw [h1, h2]⟩
abbrev reb (ω : List Nat) (σ : L2.St) (ρ : Env) (G H : Hp) : Ent := ⟨G, H, ownJ ω σ ρ⟩
theorem mem_rebI {q : Addr} : q ∈ (reb ω σ ρ G H).I ↔ ∃ i d, i ∈ ω ∧ σ[i]? = some (some (.ref q)) ∧ ρ[i]? = some (some d) := by
  show q ∈ (ownJ ω σ ρ).map (·.2) ↔ _
  rw [List.mem_map]
  constructor
  · rintro ⟨⟨i, p⟩, h1, h2⟩
    cases h2
    obtain ⟨a, b, d, c⟩ := mem_ownJ.mp h1
    exact ⟨i, d, a, b, c⟩
  · rintro ⟨i, d, a, b, c⟩
    exact ⟨(i, q), mem_ownJ.mpr ⟨a, b, d, c⟩, rfl⟩
theorem EnvOk.reb (k : EnvOk K T E ω G H σ ρ) : EnvOk K T (reb ω σ ρ G H) ω G H σ ρ where
  sub := k.sub
  g0 := Ex.refl G
  h0 := fun p o h g => ⟨g, fun _ _ => h⟩
  tab := k.tab
  len := k.len
  sh := k.sh
  ow := fun i d hi hd => by
    obtain ⟨p, a, b, c, e, w⟩ := k.ow i d hi hd
    exact ⟨p, a, b, c, .inr (mem_rebI.mpr ⟨i, d, hi, a, hd⟩), w⟩
  dj := k.dj
  io := fun i p h => by
    obtain ⟨a, b, d, c⟩ := mem_ownJ.mp h
    exact ⟨a, b, by rw [c]; simp⟩
theorem EnvOk.unreb (k : EnvOk K T E ω G H σ ρ) (k2 : EnvOk K T (Z.reb ω σ ρ G H) ω G' H' σ ρ') : EnvOk K T E ω G' H' σ ρ' where
  sub := k2.sub
  g0 := k.g0.trans k2.g0
  h0 := fun p o h g => by
    obtain ⟨h1, h2⟩ := k.h0 p o h g
    by_cases hT : p ∈ T
    · exact ⟨(k2.tab p hT).2, fun _ z => absurd hT z⟩
    · by_cases hI : p ∈ E.I
      · obtain ⟨i, d, a, b, c⟩ := k.io_some hI
        obtain ⟨p', a', b', c', e', w⟩ := k.ow i d a c
        rw [b] at a'
        cases a'
        obtain ⟨o', ho'⟩ := w.has
        exact ⟨(k2.h0 p o' ho' h1).1, fun z => absurd hI z⟩
      · have hp := h2 hI hT
        obtain ⟨x, y⟩ := k2.h0 p o hp h1
        refine ⟨x, fun _ nT => y (fun z => ?_) nT⟩
        obtain ⟨i, d, a, b, c⟩ := mem_rebI.mp z
        obtain ⟨p', a', b', c', e', w⟩ := k.ow i d a c
        rw [b] at a'
        cases a'
        rcases e' with e' | e'
        · rw [h] at e'; cases e'
        · exact hI e'
  tab := k2.tab
  len := k2.len
  sh := k2.sh
  ow := fun i d hi hd => by
    obtain ⟨p, a, b, c, e, w⟩ := k2.ow i d hi hd
    refine ⟨p, a, b, c, ?_, w⟩
    rcases e with e | e
    · have hp : H p = none := e
      exact .inl (k.own (o := .lst []) hp).2.e
    · obtain ⟨j, d', a', b', c'⟩ := mem_rebI.mp e
      obtain ⟨p', a2, b2, c2, e2, w2⟩ := k.ow j d' a' c'
      rw [b'] at a2
      cases a2
      exact e2
  dj := fun i j p hi hj n1 n2 s1 s2 => k2.dj i j p hi hj n1 n2 s1 s2
  io := fun i p hp => by
    obtain ⟨a, b, c⟩ := k.io i p hp
    have : ∃ d, ρ[i]? = some (some d) := by
      obtain ⟨i', d, x, y, z⟩ := k.io_some (List.mem_map.mpr ⟨(i, p), hp, rfl⟩)
      cases hr : ρ[i]? with
      | none =>
        have l := k.len
        rw [List.getElem?_eq_none_iff] at hr
        have := (List.getElem?_eq_some_iff.mp b).1
        omega
      | some u =>
        cases u with
        | none => exact absurd hr c
        | some d => exact ⟨d, rfl⟩
    exact k2.io i p (mem_ownJ.mpr ⟨a, b, this⟩)
/-- what lies hidden and is no own thing stays -/
theorem EnvOk.stay (k : EnvOk K T E ω G H σ ρ) (k2 : EnvOk K T (Z.reb ω σ ρ G H) ω G' H' σ ρ') {q : Addr} {u : HO} (fr : Fresh T ω E G σ ρ q) (hq : H q = some u) : G' q = none ∧ H' q = some u := by
  obtain ⟨x, y⟩ := k2.h0 q u hq fr.g
  refine ⟨x, y (fun z => ?_) fr.t⟩
  obtain ⟨i, d, a, b, c⟩ := mem_rebI.mp z
  exact fr.o i a (by rw [c]; simp) b
/-! ### arguments, some of them new own things -/
inductive Mix (K : PySem.W.Frag) (T : List Addr) (ω : List Nat) (E : Ent) (G H : Hp) (σ : L2.St) (ρ : Env) : List Bool → List D → List V → List Addr → Prop
  | nil : Mix K T ω E G H σ ρ [] [] [] []
  | sh {fl : List Bool} {d : D} {ds : List D} {v : V} {vs : List V} {ps : List Addr} : Rp K G d v → Mix K T ω E G H σ ρ fl ds vs ps → Mix K T ω E G H σ ρ (false :: fl) (d :: ds) (v :: vs) ps
  | ow {fl : List Bool} {d : D} {ds : List D} {p : Addr} {vs : List V} {ps : List Addr} : Own K G H d p → Fresh T ω E G σ ρ p → p ∉ ps → Mix K T ω E G H σ ρ fl ds vs ps → Mix K T ω E G H σ ρ (true :: fl) (d :: ds) (.ref p :: vs) (p :: ps)
variable {fl : List Bool} {ds : List D} {vs : List V} {ps : List Addr}
theorem Mix.has : ∀ {fl ds vs ps}, Mix K T ω E G H σ ρ fl ds vs ps → ∀ q ∈ ps, ∃ u, H q = some u
  | _, _, _, _, .nil, q, h => by cases h
  | _, _, _, _, .sh _ m, q, h => m.has q h
  | _, _, _, _, .ow w _ _ m, q, h => by
    rcases List.mem_cons.mp h with rfl | h
    · exact w.has
    · exact m.has q h
theorem Mix.len : ∀ {fl ds vs ps}, Mix K T ω E G H σ ρ fl ds vs ps → ds.length = vs.length
  | _, _, _, _, .nil => rfl
  | _, _, _, _, .sh _ m => by rw [List.length_cons, List.length_cons, m.len]
  | _, _, _, _, .ow _ _ _ m => by rw [List.length_cons, List.length_cons, m.len]
theorem Fresh.unreb (k : EnvOk K T E ω G H σ ρ) (k2 : EnvOk K T (Z.reb ω σ ρ G H) ω G' H' σ ρ') (fr : Fresh T ω (Z.reb ω σ ρ G H) G' σ ρ' p) : Fresh T ω E G' σ ρ' p :=
  ⟨fr.g, fr.t, (k.own (o := .lst []) (show H p = none from fr.e)).2.e, fr.o⟩
theorem Mix.unreb (k : EnvOk K T E ω G H σ ρ) (k2 : EnvOk K T (Z.reb ω σ ρ G H) ω G' H' σ ρ') : ∀ {fl ds vs ps}, Mix K T ω (Z.reb ω σ ρ G H) G' H' σ ρ' fl ds vs ps → Mix K T ω E G' H' σ ρ' fl ds vs ps ∧ ∀ q ∈ ps, H q = none
  | _, _, _, _, .nil => ⟨.nil, fun q h => by cases h⟩
  | _, _, _, _, .sh r m => ⟨.sh r (m.unreb k k2).1, (m.unreb k k2).2⟩
  | _, _, _, _, .ow w f n m => ⟨.ow w (f.unreb k k2) n (m.unreb k k2).1, fun q h => by
    rcases List.mem_cons.mp h with rfl | h
    · exact f.e
    · exact (m.unreb k k2).2 q h⟩
def taxOf (K : PySem.W.Frag) (T : List Addr) (ω : List Nat) (fl : List Bool) (f : MA) : TA := fun σ H Q => ∃ (E : Ent) (G : Hp) (ρ : Env) (d : List D) (ρ' : Env), EnvOk K T E ω G H σ ρ ∧ f ρ = some (d, ρ') ∧
  ∀ vs ps G' H', Ex G G' → EnvOk K T E ω G' H' σ ρ' → Mix K T ω E G' H' σ ρ' fl d vs ps → Q vs H'
variable {es : List Expr} {fs : MA}
theorem dax_nil : PA X [] (taxOf X.K T ω [] aNil) := PAi pa_nil fun σ H Q ⟨E, G, ρ, d, ρ', k, hf, q⟩ => by
  cases hf
  exact q [] [] G H (Ex.refl G) k .nil
theorem dax_sh (ha : PE X e (teOf X.K T ω fa)) (hr : PA X es (taxOf X.K T ω fl fs)) (hs : starEach (e :: es) X.env = (false, eval e X.env) :: starEach es X.env := by rfl) : PA X (e :: es) (taxOf X.K T ω (false :: fl) (aCons fa fs)) :=
  PAi (pa_cons ha hr hs) fun σ H Q ⟨E, G, ρ, d, ρ', k, hf, q⟩ => by
    obtain ⟨⟨x, ρ1⟩, h1, hf⟩ := Option.bind_eq_some_iff.mp hf
    obtain ⟨⟨ys, ρ2⟩, h2, hf⟩ := Option.map_eq_some_iff.mp hf
    cases hf
    exact ⟨E, G, ρ, x, ρ1, k, h1, fun u G1 H1 e1 k1 r1 => ⟨E, G1, ρ1, ys, _, k1, h2, fun vs ps G2 H2 e2 k2 m => q (u :: vs) ps G2 H2 (e1.trans e2) k2 (.sh (r1.mono e2) m)⟩⟩
theorem dax_ow (ha : PE X e (tlOf X.K T ω fa)) (hr : PA X es (taxOf X.K T ω fl fs)) (hs : starEach (e :: es) X.env = (false, eval e X.env) :: starEach es X.env := by rfl) : PA X (e :: es) (taxOf X.K T ω (true :: fl) (aCons fa fs)) :=
  PAi (pa_cons ha hr hs) fun σ H Q ⟨E, G, ρ, d, ρ', k, hf, q⟩ => by
    obtain ⟨⟨x, ρ1⟩, h1, hf⟩ := Option.bind_eq_some_iff.mp hf
    obtain ⟨⟨ys, ρ2⟩, h2, hf⟩ := Option.map_eq_some_iff.mp hf
    cases hf
    refine ⟨E, G, ρ, x, ρ1, k, h1, fun p G1 H1 e1 k1 w fr => ⟨Z.reb ω σ ρ1 G1 H1, G1, ρ1, ys, _, k1.reb, h2, fun vs ps G2 H2 e2 k2 m => ?_⟩⟩
    obtain ⟨m', hn⟩ := m.unreb k1 k2
    have k2' := k1.unreb k2
    obtain ⟨u, hu⟩ := w.has
    have hnp : p ∉ ps := fun z => by
      rw [hn p z] at hu
      cases hu
    have fr2 : Fresh T ω E G2 σ ρ2 p := by
      obtain ⟨g2, _⟩ := k1.stay k2 fr hu
      refine ⟨g2, fr.t, fr.e, fun i hi hn' z => ?_⟩
      cases hr : ρ2[i]? with
      | none =>
        have l := k2.len
        rw [List.getElem?_eq_none_iff] at hr
        have := (List.getElem?_eq_some_iff.mp z).1
        omega
      | some u' =>
        cases u' with
        | none => exact hn' hr
        | some dd =>
          obtain ⟨q', a, b, c, e', w'⟩ := k2.ow i dd hi hr
          rw [z] at a
          cases a
          rcases e' with e' | e'
          · rw [show H1 p = none from e'] at hu
            cases hu
          · obtain ⟨j, dj, x1, x2, x3⟩ := mem_rebI.mp e'
            exact fr.o j x1 (by rw [x3]; simp) x2
    refine q (.ref p :: vs) (p :: ps) G2 H2 (e1.trans e2) k2' (.ow ?_ fr2 hnp m')
    cases w with
    | lst a b => exact .lst (k1.stay k2 fr a).2 (b.mono e2)
    | dic a b c => exact .dic (k1.stay k2 fr a).2 b (c.mono e2)
/-! ### storing them -/
def setVs : List Nat → List V → L2.St → L2.St
  | i :: is, v :: vs, σ => setVs is vs (σ.set i (some v))
  | _, _, σ => σ
def setDs : List Nat → List D → Env → Env
  | i :: is, d :: ds, ρ => setDs is ds (ρ.set i (some d))
  | _, _, ρ => ρ
def addO : List Nat → List Bool → List Nat → List Nat
  | i :: is, b :: bs, ω => addO is bs (if b = true then i :: ω else ω)
  | _, _, ω => ω
def parOk : List Nat → List Bool → List Nat → Bool
  | i :: is, b :: bs, ω => !ω.contains i && parOk is bs (if b = true then i :: ω else ω)
  | [], [], _ => true
  | _, _, _ => false
theorem Fresh.setS (fr : Fresh T ω E G σ ρ p) (hi : i ∉ ω) : Fresh T ω E G (σ.set i (some v)) (ρ.set i (some d)) p := ⟨fr.g, fr.t, fr.e, fun j hj hn => by
  have e : i ≠ j := fun z => hi (z ▸ hj)
  rw [List.getElem?_set_ne e] at hn ⊢
  exact fr.o j hj hn⟩
theorem Fresh.setO {q : Addr} (fr : Fresh T ω E G σ ρ p) (hi : i ∉ ω) (hq : p ≠ q) : Fresh T (i :: ω) E G (σ.set i (some (.ref q))) (ρ.set i (some d)) p := ⟨fr.g, fr.t, fr.e, fun j hj hn z => by
  by_cases e : i = j
  · subst e
    have hl : i < σ.length := by
      have := (List.getElem?_eq_some_iff.mp z).1
      rwa [List.length_set] at this
    rw [List.getElem?_set_self hl] at z
    cases z
    exact hq rfl
  · rw [List.getElem?_set_ne e] at hn z
    rcases List.mem_cons.mp hj with h | h
    · exact e h.symm
    · exact fr.o j h hn z⟩
theorem Mix.setS (hi : i ∉ ω) : ∀ {fl ds vs ps}, Mix K T ω E G H σ ρ fl ds vs ps → Mix K T ω E G H (σ.set i (some v)) (ρ.set i (some d)) fl ds vs ps
  | _, _, _, _, .nil => .nil
  | _, _, _, _, .sh r m => .sh r (m.setS hi)
  | _, _, _, _, .ow w f n m => .ow w (f.setS hi) n (m.setS hi)
theorem Mix.setO {q : Addr} (hi : i ∉ ω) : ∀ {fl ds vs ps}, q ∉ ps → Mix K T ω E G H σ ρ fl ds vs ps → Mix K T (i :: ω) E G H (σ.set i (some (.ref q))) (ρ.set i (some d)) fl ds vs ps
  | _, _, _, _, _, .nil => .nil
  | _, _, _, _, h, .sh r m => .sh r (m.setO hi h)
  | _, _, _, _, h, .ow w f n m => .ow w (f.setO hi fun e => h (by rw [e]; exact List.mem_cons_self ..)) n (m.setO hi fun z => h (List.mem_cons_of_mem _ z))
theorem Mix.store : ∀ {is : List Nat} {fl ds vs ps} {ω : List Nat} {σ : L2.St} {ρ : Env}, parOk is fl ω = true → EnvOk K T E ω G H σ ρ → Mix K T ω E G H σ ρ fl ds vs ps → EnvOk K T E (addO is fl ω) G H (setVs is vs σ) (setDs is ds ρ)
  | [], _, _, _, _, _, _, _, h, k, .nil => k
  | [], _, _, _, _, _, _, _, h, k, .sh _ _ => by cases h
  | [], _, _, _, _, _, _, _, h, k, .ow _ _ _ _ => by cases h
  | i :: is, _, _, _, _, _, _, _, h, k, .nil => by cases h
  | i :: is, _, _, _, _, ω, σ, ρ, h, k, .sh r m => by
    have h' := Bool.and_eq_true_iff.mp (show (!ω.contains i && parOk is _ ω) = true from h)
    have hi : i ∉ ω := notmem_of (by simpa using h'.1)
    exact Mix.store (is := is) h'.2 (k.setS hi r) (m.setS hi)
  | i :: is, _, _, _, _, ω, σ, ρ, h, k, .ow w f n m => by
    have h' := Bool.and_eq_true_iff.mp (show (!ω.contains i && parOk is _ (i :: ω)) = true from h)
    have hi : i ∉ ω := notmem_of (by simpa using h'.1)
    exact Mix.store (is := is) h'.2 (k.setO hi w f) (m.setO hi n)
def sPar (is : List Nat) (fs : MA) : MS := fun ρ => (fs ρ).map fun p => .nx (setDs is p.1 p.2)
theorem parOk_len : ∀ {is : List Nat} {fl : List Bool} {ω : List Nat}, parOk is fl ω = true → is.length = fl.length
  | [], [], _, _ => rfl
  | [], _ :: _, _, h => by cases h
  | _ :: _, [], _, h => by cases h
  | i :: is, b :: bs, ω, h => by
    have h' := Bool.and_eq_true_iff.mp (show (!ω.contains i && parOk is bs (if b = true then i :: ω else ω)) = true from h)
    rw [List.length_cons, List.length_cons, parOk_len h'.2]
theorem Mix.lenF : ∀ {fl ds vs ps}, Mix K T ω E G H σ ρ fl ds vs ps → fl.length = vs.length
  | _, _, _, _, .nil => rfl
  | _, _, _, _, .sh _ m => by rw [List.length_cons, List.length_cons, m.lenF]
  | _, _, _, _, .ow _ _ _ m => by rw [List.length_cons, List.length_cons, m.lenF]
/-- a, b = e1, e2 (two local names) -/
theorem ds_par2 (h : PS X st (tPar i j (taxOf X.K T ω fl fs))) (hp : parOk [i, j] fl ω = true) : PS X st (tsOf X.K T io ω (addO [i, j] fl ω) (sPar [i, j] fs)) := PSi h fun Dn σ H ⟨E, G, ρ, o, k, hio, hg, q⟩ => by
  obtain ⟨⟨ds, ρ1⟩, h1, hg⟩ := Option.map_eq_some_iff.mp hg
  cases hg
  refine ⟨E, G, ρ, ds, ρ1, k, h1, fun vs ps G1 H1 e1 k1 m => ?_⟩
  have hl : ∃ v w, vs = [v, w] := by
    have hlv : vs.length = 2 := by
      rw [← m.lenF, ← parOk_len hp]
      rfl
    match vs, hlv with
    | [v, w], _ => exact ⟨v, w, rfl⟩
  obtain ⟨v, w, rfl⟩ := hl
  exact ⟨v, w, rfl, q _ G1 H1 e1 (m.store hp k1)⟩
/-- a, b, .. = e1, e2, .. by a tuple that is made and taken apart -/
def gNames : List Nat → TGs
  | [] => gNil
  | i :: is => gCons (gName i) (gNames is)
theorem gNames_ok {Q : L2.St → Hp → Prop} : ∀ {is : List Nat} {vs : List V} {σ : L2.St}, is.length = vs.length → Q (setVs is vs σ) H → gNames is vs σ H Q
  | [], [], _, _, q => ⟨rfl, q⟩
  | i :: is, v :: vs, σ, h, q => ⟨v, vs, rfl, gNames_ok (is := is) (by simpa using h) q⟩
theorem Mix.new {u : HO} {t : Addr} (ht : H t = none) : ∀ {fl ds vs ps}, Mix K T ω E G H σ ρ fl ds vs ps → Mix K T ω E G (upd H t u) σ ρ fl ds vs ps
  | _, _, _, _, .nil => .nil
  | _, _, _, _, .sh r m => .sh r (m.new ht)
  | _, _, _, _, .ow w f n m => by
    obtain ⟨u', hu⟩ := w.has
    have ne : _ ≠ t := ne_of_none hu ht
    refine .ow ?_ f n (m.new ht)
    cases w with
    | lst a b => exact .lst (by rw [upd_ne ne]; exact a) b
    | dic a b c => exact .dic (by rw [upd_ne ne]; exact a) b c
theorem ds_parU {is : List Nat} (h : PS X st (tAsg (tTup (taxOf X.K T ω fl fs)) (gTup X.K is.length (gNames is)))) (hp : parOk is fl ω = true) (hz : is.length ≤ 1000 := by decide) : PS X st (tsOf X.K T io ω (addO is fl ω) (sPar is fs)) := PSi h fun Dn σ H ⟨E, G, ρ, o, k, hio, hg, q⟩ => by
  obtain ⟨⟨ds, ρ1⟩, h1, hg⟩ := Option.map_eq_some_iff.mp hg
  cases hg
  refine ⟨E, G, ρ, ds, ρ1, k, h1, fun vs ps G1 H1 e1 k1 m => ?_⟩
  have hl : is.length = vs.length := (parOk_len hp).trans m.lenF
  refine ⟨by rw [← hl]; exact line_of (by omega), fun t ht => ⟨t, vs, rfl, SqT.of upd_same, hl.symm, gNames_ok hl ?_⟩⟩
  exact q _ G1 _ e1 ((m.new ht).store hp (k1.own ht).1)
end
end Z
/-! Loops and comprehensions. -/
namespace Z
open PySem L2 RZ
section
variable {K : PySem.W.Frag} {T : List Addr} {X : Cx} {io : Bool} {ω ω' ω1 ω2 : List Nat} {E : Ent} {G H G' H' : Hp} {σ : L2.St} {ρ ρ' : Env} {e tg iter : Expr} {st : Stmt} {rest body : List Stmt} {f fa fb : M} {g g1 g2 gb : MS} {i j : Nat} {d : D} {v : V} {Dn : Ends} {o : Out} {p : Addr} {ts : List Nat} {gt : D → Env → Option Env}
/-! ### what is walked -/
abbrev MI := Env → Option (List D × Env)
/-- whatever is seen behind G: the turns give ds -/
def WalkD (K : PySem.W.Frag) (T : List Addr) (J : It) (G : Hp) (ds : List D) : Prop := ∀ G2 H2, Ex G G2 → Ex G2 H2 → TabOk T G2 H2 →
  (∀ i, i < ds.length → J.go i H2) ∧ (∀ i x H3, i < ds.length → J.yld i H2 x H3 → ∃ d G3, ds[i]? = some d ∧ Step T G2 H2 G3 H3 ∧ Rp K G3 d x) ∧ J.stop ds.length H2
def siOf (K : PySem.W.Frag) (T : List Addr) (ω : List Nat) (f : MI) : TI := fun σ H R => ∃ (E : Ent) (G : Hp) (ρ : Env) (ds : List D) (ρ' : Env), EnvOk K T E ω G H σ ρ ∧ f ρ = some (ds, ρ') ∧
  ∀ J G' H', Ex G G' → EnvOk K T E ω G' H' σ ρ' → WalkD K T J G' ds → R J H'
def iSeq (f : M) : MI := fun ρ => (f ρ).bind fun p => match p.1 with
  | .lst ds => some (ds, p.2)
  | .tup ds => some (ds, p.2)
  | .pt ds => some (ds, p.2)
  | _ => none
theorem walkD_list {a : Addr} {vs : List V} {ds : List D} (g : SqL K G a vs) (r : Rps K G ds vs) : WalkD K T (Itl K a) G ds := fun G2 H2 e s t => by
  have gl : SqL K H2 a vs := ex_l s (ex_l e g)
  refine ⟨fun i hi => ⟨vs, vs[i]'(by rw [← r.len]; exact hi), gl, by simp⟩, fun i x H3 hi y => ?_, ⟨vs, gl, by rw [r.len]; exact Nat.le_refl _⟩⟩
  obtain ⟨rfl, y⟩ := y
  have hx := y vs gl
  obtain ⟨w, hw, rw'⟩ := r.get (List.getElem?_eq_getElem hi)
  rw [hx] at hw
  cases hw
  exact ⟨_, G2, List.getElem?_eq_getElem hi, Step.refl s t, rw'.mono e⟩
theorem walkD_tup {a : Addr} {vs : List V} {ds : List D} (g : G a = some (.tup vs)) (r : Rps K G ds vs) : WalkD K T (Itt K a) G ds := fun G2 H2 e s t => by
  have gl : SqT K H2 a vs := SqT.of (s _ _ (e _ _ g))
  refine ⟨fun i hi => ⟨vs, vs[i]'(by rw [← r.len]; exact hi), gl, by simp⟩, fun i x H3 hi y => ?_, ⟨vs, gl, by rw [r.len]; exact Nat.le_refl _⟩⟩
  obtain ⟨rfl, y⟩ := y
  have hx := y vs gl
  obtain ⟨w, hw, rw'⟩ := r.get (List.getElem?_eq_getElem hi)
  rw [hx] at hw
  cases hw
  exact ⟨_, G2, List.getElem?_eq_getElem hi, Step.refl s t, rw'.mono e⟩
theorem PIor {t t' : TI} (h : PI X tg iter t) (h' : PI X tg iter t') : PI X tg iter (fun σ H R => t σ H R ∨ t' σ H R) := ⟨fun pins s σ H R I hw => by
  rcases hw with hw | hw
  · exact h.run pins s σ H R I hw
  · exact h'.run pins s σ H R I hw⟩
theorem walkD_pt {a : Addr} {ob : Obj} {vs : List V} {ds : List D} (g : G a = some (.frz ob (.tup vs))) (r : Rps K G ds vs) : WalkD K T (Itt K a) G ds := fun G2 H2 e s t => by
  have gl : SqT K H2 a vs := .inl (.inr ⟨ob, s _ _ (e _ _ g)⟩)
  refine ⟨fun i hi => ⟨vs, vs[i]'(by rw [← r.len]; exact hi), gl, by simp⟩, fun i x H3 hi y => ?_, ⟨vs, gl, by rw [r.len]; exact Nat.le_refl _⟩⟩
  obtain ⟨rfl, y⟩ := y
  have hx := y vs gl
  obtain ⟨w, hw, rw'⟩ := r.get (List.getElem?_eq_getElem hi)
  rw [hx] at hw
  cases hw
  exact ⟨_, G2, List.getElem?_eq_getElem hi, Step.refl s t, rw'.mono e⟩
/-- a list or a tuple -/
theorem di_seq (h : PE X iter (teOf X.K T ω f)) : PI X tg iter (siOf X.K T ω (iSeq f)) := PIi (PIor (pi_list h) (pi_tup h)) fun σ H R ⟨E, G, ρ, ds, ρ', k, hf, q⟩ => by
  obtain ⟨⟨x, ρ1⟩, h1, hf⟩ := Option.bind_eq_some_iff.mp hf
  cases x with
  | lst es =>
    cases hf
    refine .inl ⟨E, G, ρ, _, _, k, h1, fun v G1 H1 e1 k1 r1 => ?_⟩
    cases r1 with
    | lst g r => exact ⟨_, rfl, ⟨_, ex_l k1.sub g⟩, q _ G1 H1 e1 k1 (walkD_list g r)⟩
  | tup es =>
    cases hf
    refine .inr ⟨E, G, ρ, _, _, k, h1, fun v G1 H1 e1 k1 r1 => ?_⟩
    cases r1 with
    | tup g r => exact ⟨_, rfl, ⟨_, SqT.of (k1.sub _ _ g)⟩, q _ G1 H1 e1 k1 (walkD_tup g r)⟩
  | pt es =>
    cases hf
    refine .inr ⟨E, G, ρ, _, _, k, h1, fun v G1 H1 e1 k1 r1 => ?_⟩
    cases r1 with
    | pt g o r => exact ⟨_, rfl, ⟨_, .inl (.inr ⟨_, k1.sub _ _ g⟩)⟩, q _ G1 H1 e1 k1 (walkD_pt g r)⟩
  | _ => cases hf
/-- range(n), range(a, b) -/
def rngL (lo : Int) (n : Nat) : List D := (List.range n).map fun i => .int (lo + (i : Nat))
theorem walkD_rng {lo : Int} {n : Nat} : WalkD K T (Itr lo n) G (rngL lo n) := fun G2 H2 e s t => by
  have hl : (rngL lo n).length = n := by simp [rngL]
  rw [hl]
  refine ⟨fun i hi => hi, fun i x H3 hi y => ?_, Nat.le_refl _⟩
  obtain ⟨rfl, rfl⟩ := y
  refine ⟨.int (lo + (i : Nat)), G2, ?_, Step.refl s t, .int _⟩
  simp [rngL, hi]
def P62 : Int := 2 ^ 62
def iRngM (fs : MA) : MI := fun ρ => (fs ρ).bind fun p => match p.1 with
  | [.int n] => if -P62 ≤ n ∧ n < P62 then some (rngL 0 n.toNat, p.2) else none
  | [.int a, .int b] => if -P62 ≤ a ∧ a < P62 ∧ -P62 ≤ b ∧ b < P62 then some (rngL a (b - a).toNat, p.2) else none
  | _ => none
theorem di_rng1 {fs : MA} (h : PI X tg iter (iRng1 (taOf X.K T ω fs))) (hn : ∀ ρ ds ρ', fs ρ = some (ds, ρ') → ds.length = 1) : PI X tg iter (siOf X.K T ω (iRngM fs)) := PIi h fun σ H R ⟨E, G, ρ, ds, ρ', k, hf, q⟩ => by
  obtain ⟨⟨xs, ρ1⟩, h1, hf⟩ := Option.bind_eq_some_iff.mp hf
  refine ⟨E, G, ρ, xs, ρ1, k, h1, fun us G1 H1 e1 k1 r1 => ?_⟩
  match xs, r1, hf with
  | [.int n], .cons (.int _) .nil, hf =>
    simp only at hf
    by_cases hc : -P62 ≤ n ∧ n < P62
    · rw [if_pos hc] at hf
      cases hf
      exact ⟨n, rfl, hc.1, hc.2, q _ G1 H1 e1 k1 walkD_rng⟩
    · rw [if_neg hc] at hf
      cases hf
  | [.int a, .int b], _, _ =>
    have := hn _ _ _ h1
    cases this
theorem di_rng2 {fs : MA} (h : PI X tg iter (iRng2 (taOf X.K T ω fs))) (hn : ∀ ρ ds ρ', fs ρ = some (ds, ρ') → ds.length = 2) : PI X tg iter (siOf X.K T ω (iRngM fs)) := PIi h fun σ H R ⟨E, G, ρ, ds, ρ', k, hf, q⟩ => by
  obtain ⟨⟨xs, ρ1⟩, h1, hf⟩ := Option.bind_eq_some_iff.mp hf
  refine ⟨E, G, ρ, xs, ρ1, k, h1, fun us G1 H1 e1 k1 r1 => ?_⟩
  match xs, r1, hf with
  | [.int a, .int b], .cons (.int _) (.cons (.int _) .nil), hf =>
    simp only at hf
    by_cases hc : -P62 ≤ a ∧ a < P62 ∧ -P62 ≤ b ∧ b < P62
    · rw [if_pos hc] at hf
      cases hf
      exact ⟨a, b, rfl, hc, q _ G1 H1 e1 k1 walkD_rng⟩
    · rw [if_neg hc] at hf
      cases hf
  | [.int n], _, _ =>
    have := hn _ _ _ h1
    cases this
/-! ### pairs: enumerate, zip -/
def enumL (n : Nat) : List D → List D
  | [] => []
  | d :: ds => .tup [.int (n : Nat), d] :: enumL (n + 1) ds
theorem enumL_get : ∀ {ds : List D} {n i : Nat} {d : D}, ds[i]? = some d → (enumL n ds)[i]? = some (.tup [.int ((n + i : Nat) : Int), d])
  | [], _, _, _, h => by simp at h
  | d :: ds, n, 0, _, h => by
    simp at h
    subst h
    simp [enumL]
  | d :: ds, n, i + 1, _, h => by
    have := enumL_get (ds := ds) (n := n + 1) (i := i) (by simpa using h)
    simp only [enumL, List.getElem?_cons_succ]
    rw [this]
    have e : n + 1 + i = n + (i + 1) := by omega
    rw [e]
theorem enumL_len : ∀ (ds : List D) (n : Nat), (enumL n ds).length = ds.length
  | [], _ => rfl
  | _ :: ds, n => by simp [enumL, enumL_len ds]
theorem newPair {G2 H2 : Hp} {x y : V} {a b : D} {t : Addr} (s : Ex G2 H2) (tb : TabOk T G2 H2) (ht : H2 t = none) (r1 : Rp K G2 a x) (r2 : Rp K G2 b y) : ∃ G3, Step T G2 H2 G3 (upd H2 t (.tup [x, y])) ∧ Rp K G3 (.tup [a, b]) (.ref t) := by
  have st := Step.new (o := .tup [x, y]) s tb ht
  exact ⟨_, st, .tup upd_same (.cons (r1.mono st.g) (.cons (r2.mono st.g) .nil))⟩
theorem walkD_enum {a : Addr} {vs : List V} {ds : List D} (g : SqL K G a vs) (r : Rps K G ds vs) : WalkD K T (Ite K a) G (enumL 0 ds) := fun G2 H2 e s t => by
  have gl : SqL K H2 a vs := ex_l s (ex_l e g)
  rw [enumL_len]
  refine ⟨fun i hi => ⟨vs, vs[i]'(by rw [← r.len]; exact hi), gl, by simp⟩, fun i x H3 hi y => ?_, ⟨vs, gl, by rw [r.len]; exact Nat.le_refl _⟩⟩
  obtain ⟨t', w, rfl, ht, rfl, hw⟩ := y
  obtain ⟨w', hw', rw'⟩ := r.get (List.getElem?_eq_getElem hi)
  rw [hw vs gl] at hw'
  cases hw'
  obtain ⟨G3, s3, r3⟩ := newPair (x := .int (i : Nat)) s t ht (.int (i : Nat)) (rw'.mono e)
  exact ⟨_, G3, by have := enumL_get (n := 0) (List.getElem?_eq_getElem hi); rw [this, Nat.zero_add], s3, r3⟩
def zipL : List D → List D → List D
  | a :: as, b :: bs => .tup [a, b] :: zipL as bs
  | _, _ => []
theorem zipL_len : ∀ (as bs : List D), (zipL as bs).length = min as.length bs.length
  | [], _ => by simp [zipL]
  | _ :: _, [] => by simp [zipL]
  | a :: as, b :: bs => by
    simp only [zipL, List.length_cons, zipL_len as bs]
    omega
theorem zipL_get : ∀ {as bs : List D} {i : Nat} {a b : D}, as[i]? = some a → bs[i]? = some b → (zipL as bs)[i]? = some (.tup [a, b])
  | [], _, _, _, _, h, _ => by simp at h
  | _ :: _, [], _, _, _, _, h => by simp at h
  | a :: as, b :: bs, 0, _, _, h1, h2 => by
    simp at h1 h2
    subst h1 h2
    simp [zipL]
  | a :: as, b :: bs, i + 1, _, _, h1, h2 => by
    simp only [zipL, List.getElem?_cons_succ]
    exact zipL_get (by simpa using h1) (by simpa using h2)
theorem walkD_zip {a b : Addr} {vs us : List V} {ds es : List D} (g : SqL K G a vs) (r : Rps K G ds vs) (g2 : SqL K G b us) (r2 : Rps K G es us) : WalkD K T (Itz K a b) G (zipL ds es) := fun G2 H2 e s t => by
  have gl : SqL K H2 a vs := ex_l s (ex_l e g)
  have gl2 : SqL K H2 b us := ex_l s (ex_l e g2)
  rw [zipL_len]
  have l1 := r.len
  have l2 := r2.len
  refine ⟨fun i hi => ⟨vs, us, vs[i]'(by omega), us[i]'(by omega), gl, gl2, by simp, by simp⟩, fun i x H3 hi y => ?_, ⟨vs, us, gl, gl2, by omega⟩⟩
  obtain ⟨t', w, w2, rfl, ht, rfl, hw, hw2⟩ := y
  have hi1 : i < ds.length := by omega
  have hi2 : i < es.length := by omega
  obtain ⟨w', hw', rw'⟩ := r.get (List.getElem?_eq_getElem hi1)
  rw [hw vs gl] at hw'
  cases hw'
  obtain ⟨w2', hw2', rw2'⟩ := r2.get (List.getElem?_eq_getElem hi2)
  rw [hw2 us gl2] at hw2'
  cases hw2'
  obtain ⟨G3, s3, r3⟩ := newPair s t ht (rw'.mono e) (rw2'.mono e)
  exact ⟨_, G3, zipL_get (List.getElem?_eq_getElem hi1) (List.getElem?_eq_getElem hi2), s3, r3⟩
theorem walkD_zipT {a b : Addr} {vs us : List V} {ds es : List D} (g : G a = some (.tup vs)) (r : Rps K G ds vs) (g2 : G b = some (.tup us)) (r2 : Rps K G es us) : WalkD K T (ItzT K a b) G (zipL ds es) := fun G2 H2 e s t => by
  have gl : SqT K H2 a vs := SqT.of (s _ _ (e _ _ g))
  have gl2 : SqT K H2 b us := SqT.of (s _ _ (e _ _ g2))
  rw [zipL_len]
  have l1 := r.len
  have l2 := r2.len
  refine ⟨fun i hi => ⟨vs, us, vs[i]'(by omega), us[i]'(by omega), gl, gl2, by simp, by simp⟩, fun i x H3 hi y => ?_, ⟨vs, us, gl, gl2, by omega⟩⟩
  obtain ⟨t', w, w2, rfl, ht, rfl, hw, hw2⟩ := y
  have hi1 : i < ds.length := by omega
  have hi2 : i < es.length := by omega
  obtain ⟨w', hw', rw'⟩ := r.get (List.getElem?_eq_getElem hi1)
  rw [hw vs gl] at hw'
  cases hw'
  obtain ⟨w2', hw2', rw2'⟩ := r2.get (List.getElem?_eq_getElem hi2)
  rw [hw2 us gl2] at hw2'
  cases hw2'
  obtain ⟨G3, s3, r3⟩ := newPair s t ht (rw'.mono e) (rw2'.mono e)
  exact ⟨_, G3, zipL_get (List.getElem?_eq_getElem hi1) (List.getElem?_eq_getElem hi2), s3, r3⟩
def iZipM (fs : MA) : MI := fun ρ => (fs ρ).bind fun p => match p.1 with
  | [.lst as, .lst bs] => some (zipL as bs, p.2)
  | [.tup as, .tup bs] => some (zipL as bs, p.2)
  | _ => none
theorem di_zip {fs : MA} (h : PI X tg iter (iZipA X.K (taOf X.K T ω fs))) : PI X tg iter (siOf X.K T ω (iZipM fs)) := PIi h fun σ H R ⟨E, G, ρ, ds, ρ', k, hf, q⟩ => by
  obtain ⟨⟨xs, ρ1⟩, h1, hf⟩ := Option.bind_eq_some_iff.mp hf
  refine ⟨E, G, ρ, xs, ρ1, k, h1, fun us G1 H1 e1 k1 r1 => ?_⟩
  match xs, r1, hf with
  | [.lst as, .lst bs], .cons (.lst g r) (.cons (.lst g2 r2) .nil), hf =>
    cases hf
    exact ⟨_, _, _, _, rfl, .inl ⟨ex_l k1.sub g, ex_l k1.sub g2, q _ G1 H1 e1 k1 (walkD_zip g r g2 r2)⟩⟩
  | [.tup as, .tup bs], .cons (.tup g r) (.cons (.tup g2 r2) .nil), hf =>
    cases hf
    exact ⟨_, _, _, _, rfl, .inr ⟨SqT.of (k1.sub _ _ g), SqT.of (k1.sub _ _ g2), q _ G1 H1 e1 k1 (walkD_zipT g r g2 r2)⟩⟩
/-- the signs of a text -/
def signsL (z : Str) : List D := z.cps.toList.map fun c => .str ⟨#[c]⟩
def iSgn (f : M) : MI := fun ρ => (f ρ).bind fun p => match p.1 with
  | .str z => some (signsL z, p.2)
  | _ => none

/-! ### for -/
def forG (gt : D → Env → Option Env) (gb : MS) : List D → MS
  | [], ρ => some (.nx ρ)
  | d :: ds, ρ => (gt d ρ).bind fun ρ1 => (gb ρ1).bind fun o => match o with
    | .nx ρ2 => forG gt gb ds ρ2
    | .rt d ρ2 => some (.rt d ρ2)
    | .rf d ρ2 => some (.rf d ρ2)
def sFor (fi : MI) (gt : D → Env → Option Env) (gb : MS) : MS := fun ρ => (fi ρ).bind fun p => forG gt gb p.1 p.2
theorem ds_for {fi : MI} {pos : Pos} (hp : PassesOwn (model X.prog X.w) X.A X.env X.xe) (hc : X.calm = true) (hi : PI X tg iter (siOf X.K T ω fi)) (hg : PG X tg (tgOf X.K T ts ω gt)) (hb : PSs X body (tsOf X.K T io ω ω gb))
    (hs : ∀ x, foldedSetIterable iter X.env x = pure x := by intro _; rfl) : PS X (.For tg iter body [] pos) (tsOf X.K T io ω ω (sFor fi gt gb)) := PSi (ps_for hp hc hi hg hb hs) fun Dn σ H ⟨E, G, ρ, o, k, hio, hf, q⟩ => by
  obtain ⟨⟨ds, ρ1⟩, h1, hf⟩ := Option.bind_eq_some_iff.mp hf
  refine ⟨E, G, ρ, ds, ρ1, k, h1, fun J G1 H1 e1 k1 wk => ?_⟩
  let W : Nat → Nat → L2.St → Hp → Prop := fun i m σ H => m = ds.length - i ∧ i ≤ ds.length ∧ ∃ G2 ρ2, Ex G1 G2 ∧ EnvOk X.K T E ω G2 H σ ρ2 ∧ forG gt gb (ds.drop i) ρ2 = some o
  refine ⟨W, ⟨ds.length, rfl, Nat.zero_le _, G1, ρ1, Ex.refl G1, k1, hf⟩, ?_⟩
  rintro i m σ2 H2 ⟨rfl, hle, G2, ρ2, e2, k2, hf2⟩
  obtain ⟨w1, w2, w3⟩ := wk G2 H2 e2 k2.sub k2.tab
  by_cases hlt : i < ds.length
  · refine .inr ⟨w1 i hlt, fun σ' H' => W (i + 1) (ds.length - (i + 1)) σ' H', fun σ' H' h => ⟨_, by omega, h⟩, fun x H3 y => ?_⟩
    obtain ⟨d, G3, hd, s3, r3⟩ := w2 i x H3 hlt y
    have k3 := k2.step s3
    have hdrop : ds.drop i = d :: ds.drop (i + 1) := by
      rw [List.drop_eq_getElem_cons hlt]
      rw [List.getElem?_eq_getElem hlt] at hd
      rw [Option.some.inj hd]
    rw [hdrop] at hf2
    obtain ⟨ρ3, h3, hf2⟩ := Option.bind_eq_some_iff.mp hf2
    obtain ⟨o3, h4, hf2⟩ := Option.bind_eq_some_iff.mp hf2
    refine ⟨E, G3, ρ2, d, ρ3, k3, r3, h3, fun σ4 k4 _ _ => ⟨E, G3, ρ3, o3, k4, hio, h4, ?_⟩⟩
    cases o3 with
    | nx ρ5 => exact fun σ' G' H' e' k' => ⟨rfl, hlt, G', ρ5, ((e2.trans s3.g).trans e'), k', hf2⟩
    | rt d ρ5 =>
      cases hf2
      exact Post.mono ((e1.trans e2).trans s3.g) q
    | rf d ρ5 =>
      cases hf2
      exact Post.mono ((e1.trans e2).trans s3.g) q
  · have hi' : i = ds.length := by omega
    subst hi'
    rw [List.drop_length] at hf2
    cases hf2
    exact .inl ⟨w3, q σ2 G2 H2 (e1.trans e2) k2⟩
/-! ### while -/
def whileG (t : MT) (gb : MS) : Nat → MS
  | 0, _ => none
  | n + 1, ρ => (t ρ).bind fun p => if p.1 = true then (gb p.2).bind fun o => match o with
    | .nx ρ2 => whileG t gb n ρ2
    | .rt d ρ2 => some (.rt d ρ2)
    | .rf d ρ2 => some (.rf d ρ2) else some (.nx p.2)
def FUEL : Nat := 10 ^ 100
def sWhile (t : MT) (gb : MS) : MS := fun ρ => whileG t gb FUEL ρ
theorem ds_while {c : Expr} {t : MT} {pos : Pos} (hp : PassesOwn (model X.prog X.w) X.A X.env X.xe) (hc : PT X c (ttOf X.K T ω t)) (hb : PSs X body (tsOf X.K T io ω ω gb)) : PS X (.While c body [] pos) (tsOf X.K T io ω ω (sWhile t gb)) := PSi (ps_while hp hc hb) fun Dn σ H ⟨E, G, ρ, o, k, hio, hf, q⟩ => by
  refine ⟨fun m σ H => ∃ G2 ρ2, Ex G G2 ∧ EnvOk X.K T E ω G2 H σ ρ2 ∧ whileG t gb m ρ2 = some o, ⟨FUEL, G, ρ, Ex.refl G, k, hf⟩, ?_⟩
  rintro m σ2 H2 ⟨G2, ρ2, e2, k2, hf2⟩
  cases m with
  | zero => cases hf2
  | succ m =>
    obtain ⟨⟨b, ρ3⟩, h3, hf2⟩ := Option.bind_eq_some_iff.mp hf2
    refine ⟨E, G2, ρ2, b, ρ3, k2, h3, fun G3 H3 e3 k3 => ?_⟩
    cases b with
    | true =>
      simp only [if_true] at hf2 ⊢
      obtain ⟨o4, h4, hf2⟩ := Option.bind_eq_some_iff.mp hf2
      refine ⟨fun σ' H' => ∃ G4 ρ4, Ex G G4 ∧ EnvOk X.K T E ω G4 H' σ' ρ4 ∧ whileG t gb m ρ4 = some o, fun σ' H' h => ⟨m, Nat.lt_succ_self _, h⟩, E, G3, ρ3, o4, k3, hio, h4, ?_⟩
      cases o4 with
      | nx ρ5 => exact fun σ' G' H' e' k' => ⟨G', ρ5, ((e2.trans e3).trans e'), k', hf2⟩
      | rt d ρ5 =>
        cases hf2
        exact Post.mono (e2.trans e3) q
      | rf d ρ5 =>
        cases hf2
        exact Post.mono (e2.trans e3) q
    | false =>
      cases hf2
      show Dn.nx σ2 H3
      exact q σ2 G3 H3 (e2.trans e3) k3
/-! ### list comprehensions -/
def wipeE : List Nat → Env → Env
  | [], ρ => ρ
  | v :: vs, ρ => (wipeE vs ρ).set v none
/-- the slots vs as they were in ρ0 -/
def restE : List Nat → Env → Env → Env
  | [], _, ρ => ρ
  | v :: vs, ρ0, ρ => match ρ0[v]? with
    | some x => (restE vs ρ0 ρ).set v x
    | none => restE vs ρ0 ρ
def compG (vs : List Nat) (gt : D → Env → Option Env) (t : MT) (f : M) : List D → Env → Option (List D × Env)
  | [], ρ => some ([], ρ)
  | d :: ds, ρ => (gt d (wipeE vs ρ)).bind fun ρ1 => (t ρ1).bind fun b => if b.1 = true then (f b.2).bind fun x => (compG vs gt t f ds x.2).map fun r => (x.1 :: r.1, r.2) else compG vs gt t f ds b.2
def eLc (fi : MI) (vs : List Nat) (gt : D → Env → Option Env) (t : MT) (f : M) : M := fun ρ => (fi ρ).bind fun p => (compG vs gt t f p.1 p.2).bind fun r => if p.1.length ≤ 100000 then some (.lst r.1, restE vs p.2 r.2) else none
def tTrue : MT := fun ρ => some (true, ρ)
theorem dts_nil : PTs X [] (ttOf X.K T ω tTrue) := PTsi pts_nil fun σ H Q ⟨E, G, ρ, d, ρ', k, hf, q⟩ => by
  cases hf
  exact q G H (Ex.refl G) k
theorem dts_one {c : Expr} {t : MT} (h : PT X c (ttOf X.K T ω t)) : PTs X [c] (ttOf X.K T ω t) := pts_one h
theorem wipeE_len : ∀ (vs : List Nat) (ρ : Env), (wipeE vs ρ).length = ρ.length
  | [], _ => rfl
  | v :: vs, ρ => by unfold wipeE; rw [List.length_set, wipeE_len vs ρ]
theorem wipeE_out {i : Nat} : ∀ {vs : List Nat}, i ∉ vs → (wipeE vs ρ)[i]? = ρ[i]?
  | [], _ => rfl
  | v :: vs, h => by
    rw [List.mem_cons, not_or] at h
    unfold wipeE
    rw [List.getElem?_set_ne (fun e => h.1 e.symm), wipeE_out h.2]
theorem wipeE_in {i : Nat} : ∀ {vs : List Nat}, i ∈ vs → ∀ d, (wipeE vs ρ)[i]? ≠ some (some d)
  | v :: vs, h, d => by
    unfold wipeE
    by_cases e : v = i
    · subst e
      by_cases hl : v < (wipeE vs ρ).length
      · rw [List.getElem?_set_self hl]
        intro z
        cases z
      · rw [List.getElem?_eq_none (by rw [List.length_set]; omega)]
        intro z
        cases z
    · rw [List.getElem?_set_ne e]
      rcases List.mem_cons.mp h with z | z
      · exact absurd z.symm e
      · exact wipeE_in z d
theorem wipe_out' {i : Nat} : ∀ {vs : List Nat}, i ∉ vs → (wipe σ vs)[i]? = σ[i]?
  | [], _ => rfl
  | v :: vs, h => by
    rw [List.mem_cons, not_or] at h
    unfold wipe
    rw [List.getElem?_set_ne (fun e => h.1 e.symm), wipe_out' h.2]
/-- a block's frame -/
theorem EnvOk.blk {vs : List Nat} (k : EnvOk K T E ω G H σ ρ) (hv : ∀ i ∈ vs, i ∉ ω) : EnvOk K T E ω G H (wipe σ vs) (wipeE vs ρ) where
  sub := k.sub
  g0 := k.g0
  h0 := k.h0
  tab := k.tab
  len := by rw [wipe_length, wipeE_len]; exact k.len
  sh := fun i d hi hd => by
    by_cases h : i ∈ vs
    · exact absurd hd (wipeE_in h d)
    · rw [wipeE_out h] at hd
      rw [wipe_out' h]
      exact k.sh i d hi hd
  ow := fun i d hi hd => by
    have h : i ∉ vs := fun z => hv i z hi
    rw [wipeE_out h] at hd
    rw [wipe_out' h]
    exact k.ow i d hi hd
  dj := fun i j p hi hj n1 n2 s1 s2 => by
    have h1 : i ∉ vs := fun z => hv i z hi
    have h2 : j ∉ vs := fun z => hv j z hj
    rw [wipeE_out h1] at n1
    rw [wipeE_out h2] at n2
    rw [wipe_out' h1] at s1
    rw [wipe_out' h2] at s2
    exact k.dj i j p hi hj n1 n2 s1 s2
  io := fun i p hp => by
    obtain ⟨a, b, c⟩ := k.io i p hp
    have h : i ∉ vs := fun z => hv i z a
    rw [wipeE_out h, wipe_out' h]
    exact ⟨a, b, c⟩
theorem restE_len {ρ0 : Env} : ∀ vs : List Nat, (restE vs ρ0 ρ).length = ρ.length
  | [] => rfl
  | v :: vs => by
    unfold restE
    cases ρ0[v]? with
    | none => exact restE_len vs
    | some x => simp only [List.length_set]; exact restE_len vs
theorem restE_out {ρ0 : Env} {i : Nat} : ∀ {vs : List Nat}, i ∉ vs → (restE vs ρ0 ρ)[i]? = ρ[i]?
  | [], _ => rfl
  | v :: vs, h => by
    rw [List.mem_cons, not_or] at h
    unfold restE
    cases ρ0[v]? with
    | none => exact restE_out h.2
    | some x =>
      simp only
      rw [List.getElem?_set_ne (fun e => h.1 e.symm)]
      exact restE_out h.2
theorem restE_in {ρ0 : Env} {i : Nat} (hl : ρ.length = ρ0.length) : ∀ {vs : List Nat}, i ∈ vs → (restE vs ρ0 ρ)[i]? = ρ0[i]?
  | v :: vs, h => by
    unfold restE
    by_cases e : v = i
    · subst e
      cases hx : ρ0[v]? with
      | none =>
        simp only
        rw [List.getElem?_eq_none_iff] at hx ⊢
        rw [restE_len]
        omega
      | some x =>
        simp only
        have := (List.getElem?_eq_some_iff.mp hx).1
        rw [List.getElem?_set_self (by rw [restE_len]; omega)]
    · have h' : i ∈ vs := by
        rcases List.mem_cons.mp h with z | z
        · exact absurd z.symm e
        · exact z
      cases hx : ρ0[v]? with
      | none =>
        simp only
        exact restE_in hl h'
      | some x =>
        simp only
        rw [List.getElem?_set_ne e]
        exact restE_in hl h'
/-- behind a block: its names' slots are as they were -/
theorem EnvOk.unblk {vs : List Nat} {ρ2 : Env} (k : EnvOk K T E ω G H σ ρ) (hv : ∀ i ∈ vs, i ∉ ω) (e : Ex G G') (k2 : EnvOk K T E ω G' H' (wipe σ vs) (wipeE vs ρ2)) (hl : ρ2.length = ρ.length) : EnvOk K T E ω G' H' σ (restE vs ρ ρ2) where
  sub := k2.sub
  g0 := k2.g0
  h0 := k2.h0
  tab := k2.tab
  len := by rw [restE_len, hl]; exact k.len
  sh := fun i d hi hd => by
    by_cases h : i ∈ vs
    · rw [restE_in hl h] at hd
      obtain ⟨v, a, b⟩ := k.sh i d hi hd
      exact ⟨v, a, b.mono e⟩
    · rw [restE_out h, ← wipeE_out h] at hd
      have := k2.sh i d hi hd
      rw [wipe_out' h] at this
      exact this
  ow := fun i d hi hd => by
    have h : i ∉ vs := fun z => hv i z hi
    rw [restE_out h, ← wipeE_out h] at hd
    have := k2.ow i d hi hd
    rw [wipe_out' h] at this
    exact this
  dj := fun i j p hi hj n1 n2 s1 s2 => by
    have h1 : i ∉ vs := fun z => hv i z hi
    have h2 : j ∉ vs := fun z => hv j z hj
    rw [restE_out h1, ← wipeE_out h1] at n1
    rw [restE_out h2, ← wipeE_out h2] at n2
    rw [← wipe_out' h1] at s1
    rw [← wipe_out' h2] at s2
    exact k2.dj i j p hi hj n1 n2 s1 s2
  io := fun i p hp => by
    obtain ⟨a, b, c⟩ := k2.io i p hp
    have h : i ∉ vs := fun z => hv i z a
    rw [wipe_out' h] at b
    rw [wipeE_out h] at c
    rw [restE_out h]
    exact ⟨a, b, c⟩
end
end Z
/-! List comprehensions; a def's body. -/
namespace Z
open PySem L2 RZ
section
variable {K : PySem.W.Frag} {T : List Addr} {X : Cx} {io : Bool} {ω ω' ω1 ω2 : List Nat} {E : Ent} {G H G' H' : Hp} {σ : L2.St} {ρ ρ' : Env} {e elt tg iter : Expr} {st : Stmt} {rest body : List Stmt} {f fa fb : M} {g g1 g2 gb : MS} {i j : Nat} {d : D} {v : V} {Dn : Ends} {o : Out} {p : Addr} {ts : List Nat} {gt : D → Env → Option Env}
theorem Fresh.keep (k : EnvOk K T E ω G H σ ρ) (k2 : EnvOk K T (Z.reb ω σ ρ G H) ω G' H' σ ρ') {q : Addr} {u : HO} (fr : Fresh T ω E G σ ρ q) (hq : H q = some u) : Fresh T ω E G' σ ρ' q := by
  obtain ⟨g2, _⟩ := k.stay k2 fr hq
  refine ⟨g2, fr.t, fr.e, fun i hi hn' z => ?_⟩
  cases hr : ρ'[i]? with
  | none =>
    have l := k2.len
    rw [List.getElem?_eq_none_iff] at hr
    have := (List.getElem?_eq_some_iff.mp z).1
    omega
  | some u' =>
    cases u' with
    | none => exact hn' hr
    | some dd =>
      obtain ⟨q', a, b, c, e', w'⟩ := k2.ow i dd hi hr
      rw [z] at a
      cases a
      rcases e' with e' | e'
      · rw [show H q = none from e'] at hq
        cases hq
      · obtain ⟨j, dj, x1, x2, x3⟩ := mem_rebI.mp e'
        exact fr.o j x1 (by rw [x3]; simp) x2
theorem Fresh.step (s : Step T G H G' H') {u : HO} (fr : Fresh T ω E G σ ρ p) (hp : H p = some u) : Fresh T ω E G' σ ρ p ∧ H' p = some u :=
  ⟨⟨(s.hid p u hp fr.g).1, fr.t, fr.e, fr.o⟩, (s.hid p u hp fr.g).2 fr.t⟩
theorem EnvOk.wrF (k : EnvOk K T E ω G H σ ρ) {o' : HO} (fr : Fresh T ω E G σ ρ p) : EnvOk K T E ω G (upd H p o') σ ρ := by
  refine ⟨fun a u h => ?_, k.g0, fun q u h g => ?_, k.tab.upd fr.t, k.len, k.sh, fun j d2 hj hd2 => ?_, k.dj, k.io⟩
  · have n : a ≠ p := ne_of_none h fr.g
    rw [upd_ne n]
    exact k.sub a u h
  · obtain ⟨x, y⟩ := k.h0 q u h g
    refine ⟨x, fun nI nT => ?_⟩
    have n : q ≠ p := ne_of_none h fr.e
    rw [upd_ne n]
    exact y nI nT
  · obtain ⟨z, s1, s2, s3, s4, s5⟩ := k.ow j d2 hj hd2
    have hzp : z ≠ p := fun ez => by
      subst ez
      exact fr.o j hj (by rw [hd2]; simp) s1
    refine ⟨z, s1, s2, s3, s4, ?_⟩
    cases s5 with
    | lst y1 y2 => exact .lst (by rw [upd_ne hzp]; exact y1) y2
    | dic y1 y2 y3 => exact .dic (by rw [upd_ne hzp]; exact y1) y2 y3
theorem te_tl {f : M} {Q : VK} (h : teOf K T ω f σ H Q) : tlOf K T ω f σ H Q := by
  obtain ⟨E, G, ρ, d, ρ', k, hf, q⟩ := h
  refine ⟨E, G, ρ, d, ρ', k, hf, fun p G' H' e k' w f => ?_⟩
  obtain ⟨o, hp, r⟩ := w.see f.g
  exact q _ _ _ (e.trans (Ex.new f.g)) (k'.see hp f) r
theorem wipe_in {i : Nat} : ∀ {vs : List Nat}, i ∈ vs → (wipe σ vs)[i]? = if i < σ.length then some none else none
  | v :: vs, h => by
    unfold wipe
    by_cases e : v = i
    · subst e
      by_cases hl : v < σ.length
      · rw [List.getElem?_set_self (by rw [wipe_length]; exact hl), if_pos hl]
      · rw [List.getElem?_eq_none (by rw [List.length_set, wipe_length]; omega), if_neg hl]
    · rw [List.getElem?_set_ne e]
      rcases List.mem_cons.mp h with z | z
      · exact absurd z.symm e
      · exact wipe_in z
theorem wipe_eq {σ4 : L2.St} {vs : List Nat} (hl : σ4.length = (wipe σ vs).length) (h : ∀ j, j ∉ vs → σ4[j]? = (wipe σ vs)[j]?) : wipe σ4 vs = wipe σ vs := by
  rw [wipe_length] at hl
  refine List.ext_getElem? fun j => ?_
  by_cases hj : j ∈ vs
  · rw [wipe_in hj, wipe_in hj, hl]
  · rw [wipe_out' hj, h j hj]
theorem Fresh.blk {vs : List Nat} (hv : ∀ i ∈ vs, i ∉ ω) : Fresh T ω E G σ ρ p ↔ Fresh T ω E G (wipe σ vs) (wipeE vs ρ) p := by
  constructor
  · intro fr
    refine ⟨fr.g, fr.t, fr.e, fun i hi => ?_⟩
    have h : i ∉ vs := fun z => hv i z hi
    rw [wipe_out' h, wipeE_out h]
    exact fr.o i hi
  · intro fr
    refine ⟨fr.g, fr.t, fr.e, fun i hi => ?_⟩
    have h : i ∉ vs := fun z => hv i z hi
    have := fr.o i hi
    rw [wipe_out' h, wipeE_out h] at this
    exact this
theorem lc_imp {fi : MI} {t : MT} {vs : List Nat} (hv : ∀ i ∈ vs, i ∉ ω) (hts : ∀ i ∈ ts, i ∈ vs) {Q : VK} (h : tlOf K T ω (eLc fi vs gt t f) σ H Q) : tLc (siOf K T ω fi) (tgOf K T ts ω gt) (ttOf K T ω t) (teOf K T ω f) vs σ H Q := by
  obtain ⟨E, G, ρ, d, ρ', k, hf, q⟩ := h
  obtain ⟨⟨ds, ρ1⟩, h1, hf⟩ := Option.bind_eq_some_iff.mp hf
  obtain ⟨⟨r, ρ2⟩, h2, hf⟩ := Option.bind_eq_some_iff.mp hf
  by_cases hz : ds.length ≤ 100000
  case neg =>
    rw [if_neg hz] at hf
    cases hf
  rw [if_pos hz] at hf
  cases hf
  refine ⟨E, G, ρ, ds, ρ1, k, h1, fun J G1 H1 e1 k1 wk => fun Dl hD => ?_⟩
  let W : Nat → Nat → Hp → Prop := fun i m H => m = ds.length - i ∧ i ≤ ds.length ∧ ∃ (G2 : Hp) (ρc : Env) (acc : List V) (xs r' : List D), Ex G1 G2 ∧ EnvOk K T E ω G2 H (wipe σ vs) (wipeE vs ρc) ∧ Fresh T ω E G2 (wipe σ vs) (wipeE vs ρc) Dl ∧
    H Dl = some (.lst acc) ∧ Rps K G2 xs acc ∧ xs.length ≤ i ∧ compG vs gt t f (ds.drop i) ρc = some (r', ρ2) ∧ r = xs ++ r'
  obtain ⟨k1o, fr1⟩ := k1.own (o := .lst []) hD
  refine ⟨W, ⟨ds.length, rfl, Nat.zero_le _, G1, ρ1, [], [], r, Ex.refl G1, k1o.blk hv, (Fresh.blk hv).mp fr1, upd_same, .nil, Nat.le_refl _, h2, rfl⟩, ?_⟩
  rintro i m H2 ⟨rfl, hle, G2, ρc, acc, xs, r', e2, k2, fr2, hacc, rx, hxl, hc, hr⟩
  obtain ⟨w1, w2, w3⟩ := wk G2 H2 e2 k2.sub k2.tab
  by_cases hlt : i < ds.length
  · refine .inr ⟨w1 i hlt, fun H' => W (i + 1) (ds.length - (i + 1)) H', fun H' h => ⟨_, by omega, h⟩, fun x H3 y => ?_⟩
    obtain ⟨dd, G3, hd, s3, r3⟩ := w2 i x H3 hlt y
    have k3 := k2.step s3
    obtain ⟨fr3, hacc3⟩ := fr2.step s3 hacc
    have hdrop : ds.drop i = dd :: ds.drop (i + 1) := by
      rw [List.drop_eq_getElem_cons hlt]
      rw [List.getElem?_eq_getElem hlt] at hd
      rw [Option.some.inj hd]
    rw [hdrop] at hc
    obtain ⟨ρ4, h4, hc⟩ := Option.bind_eq_some_iff.mp hc
    obtain ⟨⟨b, ρ5⟩, h5, hc⟩ := Option.bind_eq_some_iff.mp hc
    refine ⟨Z.reb ω (wipe σ vs) (wipeE vs ρc) G3 H3, G3, wipeE vs ρc, dd, ρ4, k3.reb, r3, h4, fun σ4 k4 l4 z4 => ?_⟩
    have hw : wipe σ4 vs = wipe σ vs := wipe_eq l4 fun j hj => z4 j fun hm => hj (hts j hm)
    refine ⟨hw, _, G3, ρ4, b, ρ5, k4, h5, fun G5 H5 e5 k5 => ?_⟩
    cases b with
    | true =>
      simp only [if_true] at hc ⊢
      obtain ⟨⟨x6, ρ6⟩, h6, hc⟩ := Option.bind_eq_some_iff.mp hc
      obtain ⟨⟨r7, ρ7⟩, h7, hc⟩ := Option.map_eq_some_iff.mp hc
      cases hc
      refine ⟨_, G5, ρ5, x6, ρ6, k5, h6, fun y6 G6 H6 e6 k6 r6 => ?_⟩
      have k6' : EnvOk K T (Z.reb ω (wipe σ vs) (wipeE vs ρc) G3 H3) ω G6 H6 (wipe σ vs) (wipeE vs ρ6) := by
        have := k6.blk hv
        rw [hw] at this
        exact this
      obtain ⟨_, hacc6⟩ := k3.stay k6' fr3 hacc3
      have fr6 := fr3.keep k3 k6' hacc3
      have k7 := k3.unreb k6'
      have e36 : Ex G2 G6 := (s3.g.trans e5).trans e6
      refine ⟨acc, hacc6, lt_line (by rw [← rx.len]; omega), rfl, hlt, G6, ρ6, acc ++ [y6], xs ++ [x6], r7, e2.trans e36, k7.wrF fr6, fr6, upd_same, (rx.mono e36).app (Rps.one r6), by rw [List.length_append]; simp; omega, h7, by rw [hr]; simp⟩
    | false =>
      simp only [Bool.false_eq_true, if_false] at hc ⊢
      have k5' : EnvOk K T (Z.reb ω (wipe σ vs) (wipeE vs ρc) G3 H3) ω G5 H5 (wipe σ vs) (wipeE vs ρ5) := by
        have := k5.blk hv
        rw [hw] at this
        exact this
      obtain ⟨_, hacc5⟩ := k3.stay k5' fr3 hacc3
      have fr5 := fr3.keep k3 k5' hacc3
      have e35 : Ex G2 G5 := s3.g.trans e5
      exact ⟨rfl, hlt, G5, ρ5, acc, xs, r', e2.trans e35, k3.unreb k5', fr5, hacc5, rx.mono e35, by omega, hc, hr⟩
  · have hi' : i = ds.length := by omega
    subst hi'
    rw [List.drop_length] at hc
    cases hc
    rw [List.append_nil] at hr
    subst hr
    refine .inl ⟨w3, ?_⟩
    have hlen : ρ2.length = ρ1.length := by
      have a := k2.len
      have b := k1.len
      rw [wipe_length, wipeE_len] at a
      omega
    refine q Dl G2 H2 (e1.trans e2) (k1.unblk hv e2 k2 hlen) (.lst hacc rx) ⟨fr2.g, fr2.t, fr2.e, fun i hi => ?_⟩
    have h : i ∉ vs := fun z => hv i z hi
    have := fr2.o i hi
    rw [wipe_out' h, wipeE_out h] at this
    rw [restE_out h]
    exact this
def disj (vs ω : List Nat) : Bool := vs.all fun i => !ω.contains i
theorem disj_ok {vs ω : List Nat} (h : disj vs ω = true) : ∀ i ∈ vs, i ∉ ω := fun i hi => notmem_of (by
  have := List.all_eq_true.mp h i hi
  simpa using this)
def subs (ts vs : List Nat) : Bool := ts.all fun i => vs.contains i
theorem subs_ok {ts vs : List Nat} (h : subs ts vs = true) : ∀ i ∈ ts, i ∈ vs := fun i hi => List.contains_iff_mem.mp (List.all_eq_true.mp h i hi)
/-- [elt for tg in iter if ..], new -/
theorem dl_lc {ifs : List Expr} {scope : Scope} {own : List (Str × Nat)} {pos : Pos} {fi : MI} {t : MT} (hc : X.calm = true) (hN : X.N.Nodup) (hi : PI X tg iter (siOf X.K T ω fi)) (ok : BlkOk X.N X.env.scope scope own)
    (hg : ∀ (s : Shared) (H : Hp) (C : Addr) (cl : List (Str × Addr)) (fp : List Addr), PG (X.blk s H scope (compEnvC scope cl C X.env) fp) tg (tgOf X.K T ts ω gt)) (ht : ∀ (s : Shared) (H : Hp) (C : Addr) (cl : List (Str × Addr)) (fp : List Addr), PTs (X.blk s H scope (compEnvC scope cl C X.env) fp) ifs (ttOf X.K T ω t))
    (he : ∀ (s : Shared) (H : Hp) (C : Addr) (cl : List (Str × Addr)) (fp : List Addr), PE (X.blk s H scope (compEnvC scope cl C X.env) fp) elt (teOf X.K T ω f)) (hv : disj (own.map (·.2)) ω = true) (hts : subs ts (own.map (·.2)) = true) (hs : ∀ x, foldedSetIterable iter X.env x = pure x := by intro _; rfl) :
    PE X (.ListComp elt [⟨tg, iter, ifs, 0⟩] scope pos) (tlOf X.K T ω (eLc fi (own.map (·.2)) gt t f)) := PEi (pe_lc hc hN hi ok hg ht he hs) fun _ _ _ h => lc_imp (disj_ok hv) (subs_ok hts) h
/-- name = [..], seen | own -/
theorem ds_setLc {i : Nat} {y : Str} {py : Pos} {ifs : List Expr} {scope : Scope} {own : List (Str × Nat)} {pos spos : Pos} {fi : MI} {t : MT} (hc : X.calm = true) (hN : X.N.Nodup) (hy : X.N[i]? = some y) (hyl : X.env.scope.names.lookup y = some .local)
    (hsw : swapsWith (.ListComp elt [⟨tg, iter, ifs, 0⟩] scope pos) (some (.Name y py)) spos.line X.env = pure true) (hi : PI X tg iter (siOf X.K T ω fi)) (ok : BlkOk X.N X.env.scope scope own)
    (hg : ∀ (s : Shared) (H : Hp) (C : Addr) (cl : List (Str × Addr)) (fp : List Addr), PG (X.blk s H scope (compEnvC scope cl C X.env) fp) tg (tgOf X.K T ts ω gt)) (ht : ∀ (s : Shared) (H : Hp) (C : Addr) (cl : List (Str × Addr)) (fp : List Addr), PTs (X.blk s H scope (compEnvC scope cl C X.env) fp) ifs (ttOf X.K T ω t))
    (he : ∀ (s : Shared) (H : Hp) (C : Addr) (cl : List (Str × Addr)) (fp : List Addr), PE (X.blk s H scope (compEnvC scope cl C X.env) fp) elt (teOf X.K T ω f)) (hv : disj (own.map (·.2)) ω = true) (hts : subs ts (own.map (·.2)) = true) (hio : ω.contains i = false) (hs : ∀ x, foldedSetIterable iter X.env x = pure x := by intro _; rfl) :
    PS X (.Assign [.Name y py] (.ListComp elt [⟨tg, iter, ifs, 0⟩] scope pos) spos) (tsOf X.K T io ω ω (sSet i (eLc fi (own.map (·.2)) gt t f))) :=
  PSi (ps_setLc hc hN hy hyl hsw hi ok hg ht he hs) fun _ _ _ h => set_imp hio (fun _ _ _ z => lc_imp (disj_ok hv) (subs_ok hts) (te_tl z)) h
theorem ds_ownLc {i : Nat} {y : Str} {py : Pos} {ifs : List Expr} {scope : Scope} {own : List (Str × Nat)} {pos spos : Pos} {fi : MI} {t : MT} (hc : X.calm = true) (hN : X.N.Nodup) (hy : X.N[i]? = some y) (hyl : X.env.scope.names.lookup y = some .local)
    (hsw : swapsWith (.ListComp elt [⟨tg, iter, ifs, 0⟩] scope pos) (some (.Name y py)) spos.line X.env = pure true) (hi : PI X tg iter (siOf X.K T ω fi)) (ok : BlkOk X.N X.env.scope scope own)
    (hg : ∀ (s : Shared) (H : Hp) (C : Addr) (cl : List (Str × Addr)) (fp : List Addr), PG (X.blk s H scope (compEnvC scope cl C X.env) fp) tg (tgOf X.K T ts ω gt)) (ht : ∀ (s : Shared) (H : Hp) (C : Addr) (cl : List (Str × Addr)) (fp : List Addr), PTs (X.blk s H scope (compEnvC scope cl C X.env) fp) ifs (ttOf X.K T ω t))
    (he : ∀ (s : Shared) (H : Hp) (C : Addr) (cl : List (Str × Addr)) (fp : List Addr), PE (X.blk s H scope (compEnvC scope cl C X.env) fp) elt (teOf X.K T ω f)) (hv : disj (own.map (·.2)) ω = true) (hts : subs ts (own.map (·.2)) = true) (hio : ω.contains i = false) (hs : ∀ x, foldedSetIterable iter X.env x = pure x := by intro _; rfl) :
    PS X (.Assign [.Name y py] (.ListComp elt [⟨tg, iter, ifs, 0⟩] scope pos) spos) (tsOf X.K T io ω (i :: ω) (sSet i (eLc fi (own.map (·.2)) gt t f))) :=
  PSi (ps_setLc hc hN hy hyl hsw hi ok hg ht he hs) fun _ _ _ h => own_imp hio (fun _ _ _ z => lc_imp (disj_ok hv) (subs_ok hts) z) h
end
end Z
/-! A def's promise from its body. -/
namespace Z
open PySem L2 RZ PyProof.Rows
def envOf (m : Nat) (ds : List D) : Env := ds.map some ++ List.replicate m none
def runP (m : Nat) (g : MS) : List D → Option D := fun ds => match g (envOf m ds) with
  | some (.rt d _) => some d
  | some (.rf d _) => some d
  | some (.nx _) => some .non
  | none => none
def runF (m : Nat) (g : MS) : List D → Option D := fun ds => match g (envOf m ds) with
  | some (.rf d _) => some d
  | _ => none
def runI (m : Nat) (g : MS) : D → List D → Option (D × D) := fun c ds => match g (envOf m (c :: ds)) with
  | some (.rt d ρ) => match ρ[0]? with
    | some (some c') => some (d, c')
    | _ => none
  | some (.nx ρ) => match ρ[0]? with
    | some (some c') => some (.non, c')
    | _ => none
  | _ => none
section
variable {P : Program} {w : World} {K : PySem.W.Frag} {T : List Addr} {mg : Str → Option Value} {base : Heap} {x qual : Str} {params : Arguments} {body : List Stmt} {scope : Scope} {f : Addr} {fd : FuncData} {N ps : List Str} {k : Nat} {ω' : List Nat} {g : MS} {G H G' H' : Hp} {E : Ent} {ω : List Nat} {σ : L2.St} {ρ : Env} {d : D} {p : Addr}
theorem env_get (m : Nat) : ∀ {ds : List D} {i : Nat} {d : D}, (envOf m ds)[i]? = some (some d) → ds[i]? = some d := fun {ds i d} h => by
  unfold envOf at h
  by_cases hi : i < ds.length
  · rw [List.getElem?_append_left (by rw [List.length_map]; exact hi), List.getElem?_map] at h
    cases e : ds[i]? with
    | none => rw [e] at h; cases h
    | some x =>
      rw [e] at h
      cases h
      rfl
  · rw [List.getElem?_append_right (by rw [List.length_map]; omega)] at h
    have := List.mem_of_getElem? h
    rw [List.mem_replicate] at this
    cases this.2
theorem start_get {vs : List V} {i : Nat} {v : V} (h : vs[i]? = some v) : (L2.start N vs)[i]? = some (some v) := by
  unfold L2.start
  have hi := (List.getElem?_eq_some_iff.mp h).1
  rw [List.getElem?_append_left (by rw [List.length_map]; exact hi), List.getElem?_map, h]
  rfl
theorem entry {vs : List V} {ds : List D} {m : Nat} (s : Ex G H) (t : TabOk T G H) (r : Rps K G ds vs) (hm : N.length - vs.length = m) : EnvOk K T ⟨G, H, []⟩ [] G H (L2.start N vs) (envOf m ds) where
  sub := s
  g0 := Ex.refl G
  h0 := fun p o h g => ⟨g, fun _ _ => h⟩
  tab := t
  len := by
    unfold L2.start envOf
    simp only [List.length_append, List.length_map, List.length_replicate]
    rw [r.len, hm]
  sh := fun i d _ hd => by
    obtain ⟨v, h1, h2⟩ := r.get (env_get m hd)
    exact ⟨v, start_get h1, h2⟩
  ow := fun i d hi _ => by cases hi
  dj := fun i j p hi _ _ _ _ _ => by cases hi
  io := fun i p hp => by cases hp
theorem EnvOk.exit (k : EnvOk K T ⟨G, H, []⟩ ω G' H' σ ρ) : Step T G H G' H' := ⟨k.g0, k.sub, k.tab, fun p o h g => by
  obtain ⟨a, b⟩ := k.h0 p o h g
  exact ⟨a, b (by intro z; cases z)⟩⟩
/-- a new own thing, seen at the end -/
theorem exit_see (k : EnvOk K T ⟨G, H, []⟩ ω G' H' σ ρ) (wn : Own K G' H' d p) (he : H p = none) (hg : G' p = none) (ht : p ∉ T) : ∃ G2, Step T G H G2 H' ∧ Rp K G2 d (.ref p) := by
  obtain ⟨o, ho, r⟩ := wn.see hg
  refine ⟨upd G' p o, ⟨k.g0.trans (Ex.new hg), fun a u h => ?_, k.tab.updG ht, fun q u h g => ?_⟩, r⟩
  · by_cases z : a = p
    · subst z
      rw [upd_same] at h
      rw [ho]
      exact h
    · rw [upd_ne z] at h
      exact k.sub a u h
  · have n : q ≠ p := ne_of_none h he
    obtain ⟨a, b⟩ := k.h0 q u h g
    exact ⟨by rw [upd_ne n]; exact a, b (by intro z; cases z)⟩
theorem fnP (F : FunD K x qual params body scope [] [] f fd) (S : FnScope N ps scope) {n m : Nat} (hn : ps.length = n) (hm : N.length - n = m)
    (hbody : ∀ (cdv : Value) (A : Around) (outer : List PySem.Env) (s : Shared) (H : Hp) (E : XK), Room k (A.deeper (envOfC qual scope s.heap.objs.size f cdv)) → ∃ ω', PSs (cxOf CX0 P w K mg base N qual scope f cdv A outer s H E).nox body (tsOf K T false [] ω' g)) :
    FnOk P w K mg base CX0 (k + 1) f fd ps (spP K T n (runP m g)) := by
  refine F.ok S (fun vs H Q E h => ?_) (fun cdv A outer s H vs Q E hr h => ?_)
  · obtain ⟨_, _, _, hl, _⟩ := h
    rw [hl, hn]
  · obtain ⟨G, ds, d, hl, se, tb, r, hf, q⟩ := h
    obtain ⟨ω', hb⟩ := hbody cdv A outer s H E hr
    refine ⟨_, PSs.nox hb, ⟨G, H, []⟩, G, envOf m ds, ?_⟩
    have k0 : EnvOk K T ⟨G, H, []⟩ [] G H (L2.start N vs) (envOf m ds) := entry se tb r (by rw [hl]; exact hm)
    unfold runP at hf
    cases hg : g (envOf m ds) with
    | none => rw [hg] at hf; cases hf
    | some o =>
      rw [hg] at hf
      refine ⟨o, k0, rfl, rfl, ?_⟩
      cases o with
      | nx ρ =>
        cases hf
        exact fun σ' G' H' _ k' => q .non G' H' k'.exit .non
      | rt d' ρ =>
        cases hf
        exact fun v ω'' σ' G' H' _ k' r' => q v G' H' k'.exit r'
      | rf d' ρ =>
        cases hf
        exact fun p ω'' σ' G' H' _ k' wn he hg' ht => by
          obtain ⟨G2, st, r2⟩ := exit_see k' wn he hg' ht
          exact q _ G2 H' st r2
theorem fnF (F : FunD K x qual params body scope [] [] f fd) (S : FnScope N ps scope) {n m : Nat} (hn : ps.length = n) (hm : N.length - n = m)
    (hbody : ∀ (cdv : Value) (A : Around) (outer : List PySem.Env) (s : Shared) (H : Hp) (E : XK), Room k (A.deeper (envOfC qual scope s.heap.objs.size f cdv)) → ∃ ω', PSs (cxOf CX0 P w K mg base N qual scope f cdv A outer s H E).nox body (tsOf K T false [] ω' g)) :
    FnOk P w K mg base CX0 (k + 1) f fd ps (spF K T n (runF m g)) := by
  refine F.ok S (fun vs H Q E h => ?_) (fun cdv A outer s H vs Q E hr h => ?_)
  · obtain ⟨_, _, _, hl, _⟩ := h
    rw [hl, hn]
  · obtain ⟨G, ds, d, hl, se, tb, r, hf, q⟩ := h
    obtain ⟨ω', hb⟩ := hbody cdv A outer s H E hr
    refine ⟨_, PSs.nox hb, ⟨G, H, []⟩, G, envOf m ds, ?_⟩
    have k0 : EnvOk K T ⟨G, H, []⟩ [] G H (L2.start N vs) (envOf m ds) := entry se tb r (by rw [hl]; exact hm)
    unfold runF at hf
    cases hg : g (envOf m ds) with
    | none => rw [hg] at hf; cases hf
    | some o =>
      rw [hg] at hf
      refine ⟨o, k0, rfl, rfl, ?_⟩
      cases o with
      | nx ρ => cases hf
      | rt d' ρ => cases hf
      | rf d' ρ =>
        cases hf
        exact fun p ω'' σ' G' H' _ k' wn he hg' ht => q p G' H' k'.exit he hg' ht wn
theorem fnI (F : FunD K x qual params body scope [] [] f fd) (S : FnScope N ps scope) {n m : Nat} (hn : ps.length = n + 1) (hm : N.length - (n + 1) = m)
    (hbody : ∀ (cdv : Value) (A : Around) (outer : List PySem.Env) (s : Shared) (H : Hp) (E : XK), Room k (A.deeper (envOfC qual scope s.heap.objs.size f cdv)) → ∃ ω', PSs (cxOf CX0 P w K mg base N qual scope f cdv A outer s H E).nox body (tsOf K T true [0] ω' g)) :
    FnOk P w K mg base CX0 (k + 1) f fd ps (spI K T n (runI m g)) := by
  refine F.ok S (fun vs H Q E h => ?_) (fun cdv A outer s H vs Q E hr h => ?_)
  · obtain ⟨_, _, _, _, _, _, _, e, hl, _⟩ := h
    rw [e, List.length_cons, hl, hn]
  · obtain ⟨G, p, us, c, ds, d, c', e, hl, se, tb, gp, tp, wn, r, hf, q⟩ := h
    subst e
    obtain ⟨ω', hb⟩ := hbody cdv A outer s H E hr
    refine ⟨_, PSs.nox hb, ⟨G, H, [(0, p)]⟩, G, envOf m (c :: ds), ?_⟩
    have k0 : EnvOk K T ⟨G, H, [(0, p)]⟩ [0] G H (L2.start N (.ref p :: us)) (envOf m (c :: ds)) := by
      refine ⟨se, Ex.refl G, fun q o h g => ⟨g, fun _ _ => h⟩, tb, ?_, fun i d hi hd => ?_, fun i d hi hd => ?_, fun i j q hi hj _ _ _ _ => ?_, fun i q hq => ?_⟩
      · unfold L2.start envOf
        simp only [List.length_append, List.length_map, List.length_replicate, List.length_cons]
        have := r.len
        omega
      · cases i with
        | zero => exact absurd (List.mem_singleton.mpr rfl) hi
        | succ i =>
          have hd' := env_get m hd
          rw [List.getElem?_cons_succ] at hd'
          obtain ⟨v, h1, h2⟩ := r.get hd'
          exact ⟨v, start_get (by rw [List.getElem?_cons_succ]; exact h1), h2⟩
      · rw [List.mem_singleton.mp hi] at hd ⊢
        have hd' := env_get m hd
        rw [List.getElem?_cons_zero] at hd'
        cases hd'
        exact ⟨p, start_get rfl, gp, tp, .inr (by show p ∈ [(0, p)].map (·.2); simp), wn⟩
      · rw [List.mem_singleton.mp hi, List.mem_singleton.mp hj]
      · rcases List.mem_singleton.mp hq with z
        cases z
        exact ⟨List.mem_singleton.mpr rfl, start_get rfl, by unfold envOf; simp⟩
    have fin : ∀ {ω'' : List Nat} {σ' : L2.St} {G' H' : Hp} {ρ : Env} {v : V} {dd : D}, EnvOk K T ⟨G, H, [(0, p)]⟩ ω'' G' H' σ' ρ → Rp K G' dd v → (match ρ[0]? with | some (some c') => some (dd, c') | _ => none) = some (d, c') → Q v H' := fun {ω'' σ' G' H' ρ v dd} k' r' h => by
      split at h
      · rename_i c2 h0
        cases h
        obtain ⟨a, b, _⟩ := k'.io 0 p (List.mem_singleton.mpr rfl)
        obtain ⟨p', x1, x2, x3, x4, x5⟩ := k'.ow 0 _ a h0
        rw [b] at x1
        cases x1
        refine q v G' H' k'.g0 k'.sub k'.tab (fun z o hz gz => ?_) x5 r'
        obtain ⟨y1, y2⟩ := k'.h0 z o hz gz
        refine ⟨y1, fun n1 n2 => y2 (fun hm => ?_) n2⟩
        have h3 : p = z := by simpa using hm
        exact n1 h3.symm
      · cases h
    unfold runI at hf
    cases hg : g (envOf m (c :: ds)) with
    | none => rw [hg] at hf; cases hf
    | some o =>
      rw [hg] at hf
      refine ⟨o, k0, ⟨p, rfl⟩, rfl, ?_⟩
      cases o with
      | nx ρ => exact fun σ' G' H' _ k' => fin k' .non hf
      | rt d' ρ => exact fun v ω'' σ' G' H' _ k' r' => fin k' r' hf
      | rf d' ρ => cases hf
end
end Z
/-! enumerate(a tuple). -/
namespace PySem
open Sem (wp)
theorem Zmeets_enumerate_new {v : Value} {o : Obj} {H : Heap → Prop} (B : Begins v o H) :
    Meets (Builtin.«enumerate.__new__» ⟨[.type "enumerate", v], []⟩) (fun _ R s => H s.heap ∧
      R (.ok (.ret (.ref (s.heap.push o).objs.size))) { s with heap := (s.heap.push o).push { cls := .type "enumerate", data := .fields #[.none, .bool false, .ref s.heap.objs.size, rawInt 0, .none, .none] } }) :=
  .of_wp fun prog w A R s h => by
    obtain ⟨hp, g, d, tk, os⟩ := s; obtain ⟨h1, h⟩ := h
    have hsub := sub_enumerate
    have q1 : ∀ {A' : Around} {E : Value → Shared → Prop} {Q : Value → Shared → Prop}, Q (.ref hp.objs.size) ⟨hp.push o, g, d, tk, os⟩ → wpAny (model prog w) A' (pyIter v) Q E ⟨hp, g, d, tk, os⟩ :=
      fun q => B.iter prog w _ _ ⟨hp, g, d, tk, os⟩ _ h1 q
    wp_walk using q1
    refine wpAny_stack_any fun st => wpAny_pure ?_
    split
    · rename_i c _ _ _ _ _
      cases (c == Value.type "enumerate")
      · wp_walk using q1
        exact ⟨_, rfl, h⟩
      · wp_walk using q1
        exact ⟨_, rfl, h⟩
    · wp_walk using q1
      exact ⟨_, rfl, h⟩
section
variable {prog : Program} {w : World} {A : Around} {E : Value → Shared → Prop} {s : Shared}
theorem Zcall_enumerate {v : Value} {o : Obj} {H : Heap → Prop} {Q : Value → Shared → Prop} (B : Begins v o H) (h1 : H s.heap)
    (h : ∀ h', IsEnum h' (s.heap.objs.size + 1) s.heap.objs.size 0 .none → h'.get? s.heap.objs.size = some o → h'.objs.size = s.heap.objs.size + 2 →
      (∀ b o, s.heap.get? b = some o → h'.get? b = some o) → Q (.ref (s.heap.objs.size + 1)) { s with heap := h' }) :
    wpAny (model prog w) A (call (.type "enumerate") [v]) Q E s := by
  refine callType_new F.called_enumerate (by decide) (F.typeCall_enumerate_1 _) (F.newCall_enumerate_1 _) (fun obj => F.args_object_init_2 obj _) F.entry_enumerate_new
    (Zmeets_enumerate_new B) ⟨h1, ?_⟩
  have hz : (s.heap.push o).objs.size = s.heap.objs.size + 1 := Heap.size_push ..
  show _ ∧ _
  rw [hz]
  have he : IsEnum ((s.heap.push o).push { cls := .type "enumerate", data := .fields #[.none, .bool false, .ref s.heap.objs.size, rawInt 0, .none, .none] }) (s.heap.objs.size + 1) s.heap.objs.size 0 .none := by
    have := Heap.get?_push_size (s.heap.push o) (o := { cls := .type "enumerate", data := .fields #[.none, .bool false, .ref s.heap.objs.size, rawInt 0, .none, .none] }) rfl
    rw [hz] at this; exact this
  refine ⟨⟨_, he, rfl⟩, h _ he (Heap.get?_push_of_some _ (Heap.get?_push_size _ B.free)) (by rw [Heap.size_push, hz]) fun b o x => Heap.get?_push_of_some _ (Heap.get?_push_of_some _ x)⟩
end
end PySem
namespace Z
open PySem PySem.Spec PyProof.Rows L2 RZ
/-- the tuple at a, each item in a new pair -/
def IteT (K : PySem.W.Frag) (a : Addr) : It :=
  ⟨fun i H => ∃ (xs : List V) (x : V), SqT K H a xs ∧ xs[i]? = some x, fun i H v H' => ∃ T x, v = .ref T ∧ H T = none ∧ H' = upd H T (.tup [.int (i : Nat), x]) ∧ ∀ xs, SqT K H a xs → xs[i]? = some x, fun i H => ∃ xs : List V, SqT K H a xs ∧ xs.length ≤ i⟩
theorem turn_enumT {P : Program} {w : World} {K : PySem.W.Frag} {elts : List Expr} {kk : Nat} {tpos : Pos} (a e it : Addr) :
    Turn P w K (.Tuple elts kk tpos) (IteT K a) [e, it] e (fun i h => (∃ old, IsEnum h e it ((i : Nat) : Int) old) ∧ h.IsTupleIter it a i ∧ (e ≠ it ∧ a ≠ it ∧ e ≠ a)) where
  mem := by simp
  obj := fun i h st b hb => by
    obtain ⟨⟨old, he⟩, ⟨o, ho, hc, hd⟩, _⟩ := st
    have e' : b = e ∨ b = it := by simpa using hb
    rcases e' with z | z
    · rw [z]; exact ⟨_, he, fun v q => nomatch q⟩
    · rw [z]; exact ⟨o, ho, fun v q => by rw [hd] at q; cases q⟩
  keep := fun i h h' st k => let ⟨⟨old, he⟩, hi, hne⟩ := st; ⟨⟨old, k e (by simp) _ he⟩, hi.at fun o q => k it (by simp) o q, hne⟩
  item := by
    intro X hP hw hK hc i pins s σ H E I hf st hg
    subst hP hw hK
    obtain ⟨⟨old, he⟩, hit, hne, hai, hea⟩ := st
    obtain ⟨xs, x, hq, hx⟩ := hg
    obtain ⟨its, rv, p, hz⟩ := I.tuple hq
    obtain ⟨u, hu, ru⟩ := rv.get hx
    have hel : e < s.heap.objs.size := Heap.lt_size he
    have hil : it < s.heap.objs.size := by obtain ⟨_, q, _⟩ := hit; exact Heap.lt_size q
    have hlt : i < its.toArray.size := by
      have := (List.getElem?_eq_some_iff.mp hu).1
      simpa using this
    refine wpAny_pyNext_enum_itemD (Draws.tuple (show X.A.in1.handled = none from I.ok.hd hc) it a hai its.toArray) he ⟨hit, show s.heap.IsTuple a its.toArray from p⟩ hlt hne (by simp [hne, hea]) fun x' h' tk hP' ho hit' hT hsz hk => ?_
    have hxu : x' = u := by
      have h1 : its[i]? = some x' := by simpa using hP'
      rw [hu] at h1
      exact (Option.some.inj h1).symm
    subst hxu
    refine ⟨_, rfl, wpAny_letOwnedTupleGo_enum (s := { s with heap := h', toks := tk + 1 }) ho fun h'' he' sb => ?_⟩
    have hT2 : h''.get? s.heap.objs.size = some { cls := .type "tuple", data := .seq #[.int i tk, x'] } := (sb.2 _ (Nat.ne_of_gt hel)).trans hT
    have new : ObjOk X.prog X.w (upd H s.heap.objs.size (.tup [.int (i : Nat), x])) h'' s.heap.objs.size (.tup [.int (i : Nat), x]) :=
      ⟨by show 2 ≤ sizeLine; decide, [.int i tk, x'], .cons ⟨_, rfl⟩ (.cons ru .nil), ⟨_, hT2, rfl, _, rfl⟩⟩
    have I1 : Inv X pins σ (upd H s.heap.objs.size (.tup [.int (i : Nat), x])) { s with heap := h'', toks := tk + 1 } :=
      I.turnedNew (ch := [e, it]) (fun b ob hb q => (sb.2 b (fun z => hb (by simp [z]))).trans (hk b ob (fun z => hb (by simp [z])) (fun z => hb (by simp [z])) q)) hf (Nat.le_refl _) new
    refine ⟨.ref s.heap.objs.size, _, I1, rfl, ⟨_, x, rfl, I.hok.fresh (Nat.le_refl _), rfl, fun ys hy => by rw [I.tuple_inj hy hq]; exact hx⟩, ⟨⟨x', ?_⟩, hit'.1.at fun o q => (sb.2 it (Ne.symm hne)).trans q, hne, hai, hea⟩, fun b hb => ?_⟩
    · have e1 : ((i + 1 : Nat) : Int) = (i : Int) + 1 := by omega
      rw [e1]; exact he'
    · have hb' : b < s.heap.objs.size := by
        have e' : b = e ∨ b = it := by simpa using hb
        rcases e' with z | z
        · rw [z]; exact hel
        · rw [z]; exact hil
      rw [upd_ne (Nat.ne_of_lt hb')]
      exact (hf b hb).1
  done := by
    intro X hP hw hK hc i pins s σ H E I hf st hg
    subst hP hw hK
    obtain ⟨⟨old, he⟩, hit, hne, hai, hea⟩ := st
    obtain ⟨xs, hq, hx⟩ := hg
    obtain ⟨its, rv, p, hz⟩ := I.tuple hq
    obtain ⟨f0, f1, f2, f3, f4, f5⟩ := hf it (by simp)
    have hl := rv.length
    have hi : (its.toArray[i]? : Option Value) = none := by simp; omega
    have hT : s.TypeIs (.ref e) "enumerate" := ⟨_, he, rfl⟩
    unfold pyNext
    refine wpAny_bind (wpAny_attempt (wpAny_callSpecial?_slot (name := Str.ofString "__next__") hT F.slot_enumerate_next
      (wpAny_call_entry F.slot_enumerate_next hT F.entry_enumerate_next ?_ (F.args_enumerate_next_1 _))))
    show wpAny _ _ (field (.ref e) 2 >>= _) _ _ _
    refine wpAny_bind (wpAny_field he rfl (x := .ref it) rfl ?_)
    refine wpAny_bind (wpAny_nextOf_tuple_end (show X.A.in1.handled = none from I.ok.hd hc) hit (show s.heap.IsTuple a its.toArray from p) hi fun h' x he' hx' => ?_)
    obtain ⟨o, ho, hc'⟩ := hx'
    refine wpAny_bind (wpAny_isInstance (T := "StopIteration") (b := true) ⟨o, ho, hc'⟩ isSubtype_stop ?_)
    exact wpAny_pure ⟨rfl, I.turned (t' := s.toks) (fun b o hb q => he' b o hb q) f0 f1 f3 f4 f5⟩
  self := fun A i s Q E st h => let ⟨⟨_, he⟩, _⟩ := st; wpAny_pyIter_enum he h
def iEnumT (K : PySem.W.Frag) (ta : TA) : TI := fun σ H R => ta σ H fun vs H1 => ∃ a xs, vs = [.ref a] ∧ SqT K H1 a xs ∧ R (IteT K a) H1
theorem pi_enumT {X : Cx} {e : Expr} {ta : TA} {p pos tpos : Pos} {elts : List Expr} {kk : Nat} (hg : Gl X "enumerate") (hm : X.mg "enumerate" = none) (ha : PA X [e] ta) (hs : starEach [e] X.env = [(false, eval e X.env)] := by rfl) :
    PI X (.Tuple elts kk tpos) (.Call (.Name "enumerate" p) [e] [] pos) (iEnumT X.K ta) := by
  refine ⟨fun pins s σ H R I h => ?_⟩
  refine Call_ (ld_blt I hg hm boot_enumerate (PyProof.Rows.callWith_type1 (thn (ha.run pos pins s σ H _ I h) fun us s1 ⟨vs, H1, I1, r1, q1⟩ => ?_) hs rfl))
  obtain ⟨a, xs, ex, hq, q⟩ := q1
  subst ex
  cases r1 with
  | cons r rr =>
    cases rr
    cases r
    obtain ⟨its, rv, p', hz⟩ := I1.tuple hq
    have hal : a < s1.heap.objs.size := by
      obtain ⟨o, ho, _⟩ := (show s1.heap.IsTuple a its.toArray from p')
      exact Heap.lt_size ho
    refine Zcall_enumerate (begins_tuple a its.toArray) (show s1.heap.IsTuple a its.toArray from p') fun h' he hit hsz hk => wpAny_pyIter_enum he ?_
    have I2 : Inv X pins σ H1 { s1 with heap := h' } := I1.kept (t' := s1.toks) hk
    refine ⟨s1.heap.objs.size + 1, [s1.heap.objs.size + 1, s1.heap.objs.size], _, _, H1, rfl, I2, turn_enumT a (s1.heap.objs.size + 1) s1.heap.objs.size, ⟨⟨.none, he⟩, ⟨_, hit, rfl, rfl⟩, Nat.succ_ne_self _, Nat.ne_of_lt hal, Nat.ne_of_gt (Nat.lt_succ_of_lt hal)⟩, fun b hb => ?_, q⟩
    have e' : b = s1.heap.objs.size + 1 ∨ b = s1.heap.objs.size := by simpa using hb
    have hle : s1.heap.objs.size ≤ b := by
      rcases e' with z | z
      · rw [z]; exact Nat.le_add_right _ _
      · rw [z]; exact Nat.le_refl _
    exact I1.fpOk hle (I1.hok.fresh hle)
section
variable {K : PySem.W.Frag} {T : List Addr} {X : Cx} {ω : List Nat} {G : Hp} {e tg iter : Expr} {f : M}
theorem walkD_enumT {a : Addr} {vs : List V} {ds : List D} (g : G a = some (.tup vs)) (r : Rps K G ds vs) : WalkD K T (IteT K a) G (enumL 0 ds) := fun G2 H2 e s t => by
  have gl : SqT K H2 a vs := SqT.of (s _ _ (e _ _ g))
  rw [enumL_len]
  refine ⟨fun i hi => ⟨vs, vs[i]'(by rw [← r.len]; exact hi), gl, by simp⟩, fun i x H3 hi y => ?_, ⟨vs, gl, by rw [r.len]; exact Nat.le_refl _⟩⟩
  obtain ⟨t', w, rfl, ht, rfl, hw⟩ := y
  obtain ⟨w', hw', rw'⟩ := r.get (List.getElem?_eq_getElem hi)
  rw [hw vs gl] at hw'
  cases hw'
  obtain ⟨G3, s3, r3⟩ := newPair (x := .int (i : Nat)) s t ht (.int (i : Nat)) (rw'.mono e)
  exact ⟨_, G3, by have := enumL_get (n := 0) (List.getElem?_eq_getElem hi); rw [this, Nat.zero_add], s3, r3⟩
def iEnumM (f : M) : MI := fun ρ => (f ρ).bind fun p => match p.1 with
  | .lst ds => some (enumL 0 ds, p.2)
  | .tup ds => some (enumL 0 ds, p.2)
  | _ => none
/-- enumerate(a list or a tuple) -/
theorem di_enum {p pos tpos : Pos} {elts : List Expr} {kk : Nat} (hg : Gl X "enumerate") (hm : X.mg "enumerate" = none) (h : PE X e (teOf X.K T ω f)) (hs : starEach [e] X.env = [(false, eval e X.env)] := by rfl) :
    PI X (.Tuple elts kk tpos) (.Call (.Name "enumerate" p) [e] [] pos) (siOf X.K T ω (iEnumM f)) := by
  have ha : PA X [e] (tCons (teOf X.K T ω f) tNil) := pa_cons h pa_nil hs
  refine PIi (PIor (pi_enum hg hm ha hs) (pi_enumT hg hm ha hs)) fun σ H R ⟨E, G, ρ, ds, ρ', k, hf, q⟩ => ?_
  obtain ⟨⟨x, ρ1⟩, h1, hf⟩ := Option.bind_eq_some_iff.mp hf
  cases x with
  | lst es =>
    cases hf
    refine .inl ⟨E, G, ρ, _, _, k, h1, fun v G1 H1 e1 k1 r1 => ?_⟩
    cases r1 with
    | lst g r => exact ⟨_, _, rfl, ex_l k1.sub g, q _ G1 H1 e1 k1 (walkD_enum g r)⟩
  | tup es =>
    cases hf
    refine .inr ⟨E, G, ρ, _, _, k, h1, fun v G1 H1 e1 k1 r1 => ?_⟩
    cases r1 with
    | tup g r => exact ⟨_, _, rfl, SqT.of (k1.sub _ _ g), q _ G1 H1 e1 k1 (walkD_enumT g r)⟩
  | _ => cases hf
end
end Z
/-! Two clauses; keywords; join; a list and a list. -/
namespace Z
open PySem PySem.Spec PyProof.Rows L2 RZ
section
variable {K : PySem.W.Frag} {T : List Addr} {X : Cx} {io : Bool} {ω ω' ω1 ω2 : List Nat} {E E' : Ent} {G H G' H' : Hp} {σ σ4 : L2.St} {ρ ρ' ρ4 : Env} {e elt tg iter tg1 iter1 : Expr} {f fa fb : M} {i j : Nat} {d x : D} {v y : V} {p Dl : Addr} {ts ts1 vs vs1 : List Nat} {gt gt1 : D → Env → Option Env} {acc : List V} {xs : List D}
structure Acc (K : PySem.W.Frag) (T : List Addr) (E : Ent) (ω : List Nat) (G H : Hp) (σ : L2.St) (ρ : Env) (Dl : Addr) (acc : List V) (xs : List D) : Prop where
  k : EnvOk K T E ω G H σ ρ
  fr : Fresh T ω E G σ ρ Dl
  at_ : H Dl = some (.lst acc)
  r : Rps K G xs acc
theorem Acc.step (a : Acc K T E ω G H σ ρ Dl acc xs) (k2 : EnvOk K T (Z.reb ω σ ρ G H) ω G' H' σ ρ') : Acc K T E ω G' H' σ ρ' Dl acc xs :=
  ⟨a.k.unreb k2, a.fr.keep a.k k2 a.at_, (a.k.stay k2 a.fr a.at_).2, a.r.mono k2.g0⟩
theorem Acc.walk (a : Acc K T E ω G H σ ρ Dl acc xs) (s : Step T G H G' H') : Acc K T E ω G' H' σ ρ Dl acc xs :=
  ⟨a.k.step s, (a.fr.step s a.at_).1, (a.fr.step s a.at_).2, a.r.mono s.g⟩
theorem Acc.app (a : Acc K T E ω G H σ ρ Dl acc xs) (r : Rp K G x y) : Acc K T E ω G (upd H Dl (.lst (acc ++ [y]))) σ ρ Dl (acc ++ [y]) (xs ++ [x]) :=
  ⟨a.k.wrF a.fr, a.fr, upd_same, a.r.app (Rps.one r)⟩
theorem Acc.wipe (a : Acc K T E ω G H σ ρ Dl acc xs) (hv : ∀ i ∈ vs, i ∉ ω) : Acc K T E ω G H (L2.wipe σ vs) (wipeE vs ρ) Dl acc xs :=
  ⟨a.k.blk hv, (Fresh.blk hv).mp a.fr, a.at_, a.r⟩
theorem EnvOk.mixE (hv : ∀ i ∈ vs, i ∉ ω) (a : EnvOk K T E ω G H (L2.wipe σ vs) (wipeE vs ρ)) (b : EnvOk K T E' ω G H σ ρ) : EnvOk K T E ω G H σ ρ where
  sub := a.sub
  g0 := a.g0
  h0 := a.h0
  tab := a.tab
  len := b.len
  sh := b.sh
  ow := fun i d hi hd => by
    have h : i ∉ vs := fun z => hv i z hi
    have := a.ow i d hi (by rw [wipeE_out h]; exact hd)
    rw [wipe_out' h] at this
    exact this
  dj := b.dj
  io := fun i p hp => by
    obtain ⟨x, y, z⟩ := a.io i p hp
    have h : i ∉ vs := fun z => hv i z x
    rw [wipe_out' h] at y
    rw [wipeE_out h] at z
    exact ⟨x, y, z⟩
theorem Acc.store (hv : ∀ i ∈ vs, i ∉ ω) (a : Acc K T E ω G H (L2.wipe σ vs) (wipeE vs ρ) Dl acc xs) (k4 : EnvOk K T (Z.reb ω (L2.wipe σ vs) (wipeE vs ρ) G H) ω G H σ4 ρ4) (hw : L2.wipe σ4 vs = L2.wipe σ vs) : Acc K T E ω G H σ4 ρ4 Dl acc xs := by
  have kb : EnvOk K T (Z.reb ω (L2.wipe σ vs) (wipeE vs ρ) G H) ω G H (L2.wipe σ vs) (wipeE vs ρ4) := by
    have := k4.blk hv
    rw [hw] at this
    exact this
  have a2 := a.step kb
  refine ⟨EnvOk.mixE (σ := σ4) (ρ := ρ4) hv (by rw [hw]; exact a2.k) k4, (Fresh.blk hv).mpr (by rw [hw]; exact a2.fr), a2.at_, a2.r⟩
theorem wipe_wipe (h : ∀ i ∈ vs1, i ∈ vs) : L2.wipe (L2.wipe σ vs1) vs = L2.wipe σ vs := by
  refine List.ext_getElem? fun j => ?_
  by_cases hj : j ∈ vs
  · rw [wipe_in hj, wipe_in hj, wipe_length]
  · rw [wipe_out' hj, wipe_out' hj, wipe_out' fun z => hj (h j z)]
theorem wipeE_in' {i : Nat} : ∀ {vs : List Nat}, i ∈ vs → (wipeE vs ρ)[i]? = if i < ρ.length then some none else none
  | v :: vs, h => by
    unfold wipeE
    by_cases e : v = i
    · subst e
      by_cases hl : v < ρ.length
      · rw [List.getElem?_set_self (by rw [wipeE_len]; exact hl), if_pos hl]
      · rw [List.getElem?_eq_none (by rw [List.length_set, wipeE_len]; omega), if_neg hl]
    · rw [List.getElem?_set_ne e]
      rcases List.mem_cons.mp h with z | z
      · exact absurd z.symm e
      · exact wipeE_in' z
theorem wipeE_wipeE (h : ∀ i ∈ vs1, i ∈ vs) : wipeE vs (wipeE vs1 ρ) = wipeE vs ρ := by
  refine List.ext_getElem? fun j => ?_
  by_cases hj : j ∈ vs
  · rw [wipeE_in' hj, wipeE_in' hj, wipeE_len]
  · rw [wipeE_out hj, wipeE_out hj, wipeE_out fun z => hj (h j z)]
/-- behind the first clause's turns: the second's -/
def comp2G (vs : List Nat) (gt : D → Env → Option Env) (t : MT) (fi1 : MI) (vs1 : List Nat) (gt1 : D → Env → Option Env) (t1 : MT) (f : M) : List D → Env → Option (List D × Env)
  | [], ρ => some ([], ρ)
  | d :: ds, ρ => (gt d (wipeE vs ρ)).bind fun ρ1 => (t ρ1).bind fun b => if b.1 = true then
      (fi1 b.2).bind fun p => (compG vs1 gt1 t1 f p.1 p.2).bind fun r => (comp2G vs gt t fi1 vs1 gt1 t1 f ds r.2).map fun s => (r.1 ++ s.1, s.2)
    else comp2G vs gt t fi1 vs1 gt1 t1 f ds b.2
def eLc2 (fi : MI) (vs : List Nat) (gt : D → Env → Option Env) (t : MT) (fi1 : MI) (vs1 : List Nat) (gt1 : D → Env → Option Env) (t1 : MT) (f : M) : M := fun ρ => (fi ρ).bind fun p => (comp2G vs gt t fi1 vs1 gt1 t1 f p.1 p.2).bind fun r =>
  if r.1.length ≤ 100000 then some (.lst r.1, restE vs p.2 r.2) else none
theorem lc2_imp {fi fi1 : MI} {t t1 : MT} (hv : ∀ i ∈ vs, i ∉ ω) (hts : ∀ i ∈ ts, i ∈ vs) (hv1 : ∀ i ∈ vs1, i ∈ vs) (hts1 : ∀ i ∈ ts1, i ∈ vs1) {Q : VK} (h : tlOf K T ω (eLc2 fi vs gt t fi1 vs1 gt1 t1 f) σ H Q) :
    tLc2 (siOf K T ω fi) (tgOf K T ts ω gt) (ttOf K T ω t) (siOf K T ω fi1) (tgOf K T ts1 ω gt1) (ttOf K T ω t1) (teOf K T ω f) vs vs1 σ H Q := by
  obtain ⟨E, G, ρ, d, ρ', k, hf, q⟩ := h
  obtain ⟨⟨ds, ρ1⟩, h1, hf⟩ := Option.bind_eq_some_iff.mp hf
  obtain ⟨⟨r, ρ2⟩, h2, hf⟩ := Option.bind_eq_some_iff.mp hf
  by_cases hz : r.length ≤ 100000
  case neg =>
    rw [if_neg hz] at hf
    cases hf
  rw [if_pos hz] at hf
  cases hf
  have hvv1 : ∀ i ∈ vs1, i ∉ ω := fun i hi => hv i (hv1 i hi)
  refine ⟨E, G, ρ, ds, ρ1, k, h1, fun J G1 H1 e1 k1 wk => fun Dl hD => ?_⟩
  let W : Nat → Nat → Hp → Prop := fun i m H => m = ds.length - i ∧ i ≤ ds.length ∧ ∃ (G2 : Hp) (ρc : Env) (acc : List V) (xs r' : List D), Ex G1 G2 ∧ Acc K T E ω G2 H (L2.wipe σ vs) (wipeE vs ρc) Dl acc xs ∧
    comp2G vs gt t fi1 vs1 gt1 t1 f (ds.drop i) ρc = some (r', ρ2) ∧ r = xs ++ r'
  obtain ⟨k1o, fr1⟩ := k1.own (o := .lst []) hD
  refine ⟨W, ⟨ds.length, rfl, Nat.zero_le _, G1, ρ1, [], [], r, Ex.refl G1, ⟨k1o.blk hv, (Fresh.blk hv).mp fr1, upd_same, .nil⟩, h2, rfl⟩, ?_⟩
  rintro i m H2 ⟨rfl, hle, G2, ρc, acc, xs, r', e2, a2, hc, hr⟩
  obtain ⟨w1, w2, w3⟩ := wk G2 H2 e2 a2.k.sub a2.k.tab
  by_cases hlt : i < ds.length
  · refine .inr ⟨w1 i hlt, fun H' => W (i + 1) (ds.length - (i + 1)) H', fun H' h => ⟨_, by omega, h⟩, fun x H3 y => ?_⟩
    obtain ⟨dd, G3, hd, s3, r3⟩ := w2 i x H3 hlt y
    have a3 := a2.walk s3
    have hdrop : ds.drop i = dd :: ds.drop (i + 1) := by
      rw [List.drop_eq_getElem_cons hlt]
      rw [List.getElem?_eq_getElem hlt] at hd
      rw [Option.some.inj hd]
    rw [hdrop] at hc
    obtain ⟨ρ4, h4, hc⟩ := Option.bind_eq_some_iff.mp hc
    obtain ⟨⟨b, ρ5⟩, h5, hc⟩ := Option.bind_eq_some_iff.mp hc
    refine ⟨Z.reb ω (L2.wipe σ vs) (wipeE vs ρc) G3 H3, G3, wipeE vs ρc, dd, ρ4, a3.k.reb, r3, h4, fun σ4 k4 l4 z4 => ?_⟩
    have hw : L2.wipe σ4 vs = L2.wipe σ vs := wipe_eq l4 fun j hj => z4 j fun hm => hj (hts j hm)
    have a4 := a3.store hv k4 hw
    refine ⟨hw, Z.reb ω σ4 ρ4 G3 H3, G3, ρ4, b, ρ5, a4.k.reb, h5, fun G5 H5 e5 k5 => ?_⟩
    have a5 := a4.step k5
    cases b with
    | true =>
      simp only [if_true] at hc ⊢
      obtain ⟨⟨ds1, ρ6⟩, h6, hc⟩ := Option.bind_eq_some_iff.mp hc
      obtain ⟨⟨r7, ρ7⟩, h7, hc⟩ := Option.bind_eq_some_iff.mp hc
      obtain ⟨⟨r8, ρ8⟩, h8, hc⟩ := Option.map_eq_some_iff.mp hc
      cases hc
      refine ⟨Z.reb ω σ4 ρ5 G5 H5, G5, ρ5, ds1, ρ6, a5.k.reb, h6, fun J1 G6 H6 e6 k6 wk1 => ?_⟩
      have a6 := a5.step k6
      have e26 : Ex G1 G6 := ((e2.trans s3.g).trans e5).trans e6
      let W1 : Nat → Nat → Hp → Prop := fun j m H => m = ds1.length - j ∧ j ≤ ds1.length ∧ ∃ (G7 : Hp) (ρd : Env) (acc : List V) (xs r' : List D), Ex G6 G7 ∧ Acc K T E ω G7 H (L2.wipe σ4 vs1) (wipeE vs1 ρd) Dl acc xs ∧
        compG vs1 gt1 t1 f (ds1.drop j) ρd = some (r', ρ7) ∧ r = xs ++ r' ++ r8
      refine ⟨W1, ⟨ds1.length, rfl, Nat.zero_le _, G6, ρ6, acc, xs, r7, Ex.refl G6, a6.wipe hvv1, h7, by rw [hr, List.append_assoc]⟩, ?_⟩
      rintro j m H7 ⟨rfl, hle1, G7, ρd, acc7, xs7, r', e7, a7, hc7, hr7⟩
      obtain ⟨v1, v2, v3⟩ := wk1 G7 H7 e7 a7.k.sub a7.k.tab
      by_cases hlt1 : j < ds1.length
      · refine .inr ⟨v1 j hlt1, fun H' => W1 (j + 1) (ds1.length - (j + 1)) H', fun H' h => ⟨_, by omega, h⟩, fun x1 H9 y1 => ?_⟩
        obtain ⟨dd1, G9, hd1, s9, r9⟩ := v2 j x1 H9 hlt1 y1
        have a9 := a7.walk s9
        have hdrop1 : ds1.drop j = dd1 :: ds1.drop (j + 1) := by
          rw [List.drop_eq_getElem_cons hlt1]
          rw [List.getElem?_eq_getElem hlt1] at hd1
          rw [Option.some.inj hd1]
        rw [hdrop1] at hc7
        obtain ⟨ρ10, h10, hc7⟩ := Option.bind_eq_some_iff.mp hc7
        obtain ⟨⟨b1, ρ11⟩, h11, hc7⟩ := Option.bind_eq_some_iff.mp hc7
        refine ⟨Z.reb ω (L2.wipe σ4 vs1) (wipeE vs1 ρd) G9 H9, G9, wipeE vs1 ρd, dd1, ρ10, a9.k.reb, r9, h10, fun σ10 k10 l10 z10 => ?_⟩
        have hw1 : L2.wipe σ10 vs1 = L2.wipe σ4 vs1 := wipe_eq l10 fun j hj => z10 j fun hm => hj (hts1 j hm)
        have a10 := a9.store hvv1 k10 hw1
        refine ⟨hw1, Z.reb ω σ10 ρ10 G9 H9, G9, ρ10, b1, ρ11, a10.k.reb, h11, fun G11 H11 e11 k11 => ?_⟩
        have a11 := a10.step k11
        cases b1 with
        | true =>
          simp only [if_true] at hc7 ⊢
          obtain ⟨⟨x12, ρ12⟩, h12, hc7⟩ := Option.bind_eq_some_iff.mp hc7
          obtain ⟨⟨r13, ρ13⟩, h13, hc7⟩ := Option.map_eq_some_iff.mp hc7
          cases hc7
          refine ⟨Z.reb ω σ10 ρ11 G11 H11, G11, ρ11, x12, ρ12, a11.k.reb, h12, fun y12 G12 H12 e12 k12 r12 => ?_⟩
          have a12 := a11.step k12
          have a13 := (a12.app r12).wipe hvv1
          rw [hw1] at a13
          have hlen : xs7.length < 100000 := by
            have h1 := congrArg List.length hr7
            simp only [List.length_append, List.length_cons] at h1
            omega
          refine ⟨acc7, a12.at_, lt_line (by rw [← a12.r.len]; exact hlen), rfl, hlt1, G12, ρ12, _, _, r13, ((e7.trans s9.g).trans e11).trans e12, a13, h13, by rw [hr7]; simp⟩
        | false =>
          simp only [Bool.false_eq_true, if_false] at hc7 ⊢
          have a13 := a11.wipe hvv1
          rw [hw1] at a13
          exact ⟨rfl, hlt1, G11, ρ11, acc7, xs7, r', (e7.trans s9.g).trans e11, a13, hc7, hr7⟩
      · have hi' : j = ds1.length := by omega
        subst hi'
        rw [List.drop_length] at hc7
        cases hc7
        rw [List.append_nil] at hr7
        have a8 := a7.wipe hv
        rw [wipe_wipe hv1, wipeE_wipeE hv1, hw] at a8
        exact .inl ⟨v3, rfl, hlt, G7, _, acc7, xs7, r8, e26.trans e7, a8, h8, hr7⟩
    | false =>
      simp only [Bool.false_eq_true, if_false] at hc ⊢
      have a6 := a5.wipe hv
      rw [hw] at a6
      exact ⟨rfl, hlt, G5, ρ5, acc, xs, r', (e2.trans s3.g).trans e5, a6, hc, hr⟩
  · have hi' : i = ds.length := by omega
    subst hi'
    rw [List.drop_length] at hc
    cases hc
    rw [List.append_nil] at hr
    subst hr
    refine .inl ⟨w3, ?_⟩
    have k2 := a2.k
    have hlen : ρ2.length = ρ1.length := by
      have a := k2.len
      have b := k1.len
      rw [wipe_length, wipeE_len] at a
      omega
    refine q Dl G2 H2 (e1.trans e2) (k1.unblk hv e2 k2 hlen) (.lst a2.at_ a2.r) ⟨a2.fr.g, a2.fr.t, a2.fr.e, fun i hi => ?_⟩
    have h : i ∉ vs := fun z => hv i z hi
    have := a2.fr.o i hi
    rw [wipe_out' h, wipeE_out h] at this
    rw [restE_out h]
    exact this
/-- [elt for tg in iter if .. for tg1 in iter1 if ..], new -/
theorem dl_lc2 {ifs ifs1 : List Expr} {scope : Scope} {own : List (Str × Nat)} {pos : Pos} {fi fi1 : MI} {t t1 : MT} (hc : X.calm = true) (hN : X.N.Nodup) (hi : PI X tg iter (siOf X.K T ω fi)) (ok : BlkOk X.N X.env.scope scope own)
    (hg : ∀ (s : Shared) (H : Hp) (C : Addr) (cl : List (Str × Addr)) (fp : List Addr), PG (X.blk s H scope (compEnvC scope cl C X.env) fp) tg (tgOf X.K T ts ω gt)) (ht : ∀ (s : Shared) (H : Hp) (C : Addr) (cl : List (Str × Addr)) (fp : List Addr), PTs (X.blk s H scope (compEnvC scope cl C X.env) fp) ifs (ttOf X.K T ω t))
    (hi1 : ∀ (s : Shared) (H : Hp) (C : Addr) (cl : List (Str × Addr)) (fp : List Addr), PI (X.blk s H scope (compEnvC scope cl C X.env) fp) tg1 iter1 (siOf X.K T ω fi1))
    (hg1 : ∀ (s : Shared) (H : Hp) (C : Addr) (cl : List (Str × Addr)) (fp : List Addr), PG (X.blk s H scope (compEnvC scope cl C X.env) fp) tg1 (tgOf X.K T ts1 ω gt1)) (ht1 : ∀ (s : Shared) (H : Hp) (C : Addr) (cl : List (Str × Addr)) (fp : List Addr), PTs (X.blk s H scope (compEnvC scope cl C X.env) fp) ifs1 (ttOf X.K T ω t1))
    (he : ∀ (s : Shared) (H : Hp) (C : Addr) (cl : List (Str × Addr)) (fp : List Addr), PE (X.blk s H scope (compEnvC scope cl C X.env) fp) elt (teOf X.K T ω f)) (hv : disj (own.map (·.2)) ω = true) (hts : subs ts (own.map (·.2)) = true) (hv1 : subs vs1 (own.map (·.2)) = true) (hts1 : subs ts1 vs1 = true)
    (hs : ∀ x, foldedSetIterable iter X.env x = pure x := by intro _; rfl) (hs1 : ∀ env x, foldedSetIterable iter1 env x = pure x := by intro _ _; rfl) :
    PE X (.ListComp elt [⟨tg, iter, ifs, 0⟩, ⟨tg1, iter1, ifs1, 0⟩] scope pos) (tlOf X.K T ω (eLc2 fi (own.map (·.2)) gt t fi1 vs1 gt1 t1 f)) :=
  PEi (pe_lc2 hc hN hi ok (subs_ok hv1) hg ht hi1 hg1 ht1 he hs hs1) fun _ _ _ h => lc2_imp (disj_ok hv) (subs_ok hts) (subs_ok hv1) (subs_ok hts1) h

/-! ### join -/
def eJoin (fo fe : M) : M := fun ρ => (fo ρ).bind fun p => match p.1 with
  | .str a => (fe p.2).bind fun q => (joinD (.str a) [q.1]).map fun d => (d, q.2)
  | _ => none
theorem de_join {o : Expr} {fo fe : M} {apos pos : Pos} (ho : PE X o (teOf X.K T ω fo)) (he : PE X e (teOf X.K T ω fe)) (hs : starEach [e] X.env = [(false, eval e X.env)] := by rfl) (hbase : attributeBase o "join" X.env (eval o X.env) = eval o X.env := by rfl) (hline : (apos.endLine == pos.line) = true := by rfl) :
    PE X (.Call (.Attribute o "join" apos) [e] [] pos) (teOf X.K T ω (eJoin fo fe)) := PEi (pe_join ho he hs hbase hline) fun σ H Q ⟨E, G, ρ, d, ρ', k, hf, q⟩ => by
  obtain ⟨⟨x, ρ1⟩, h1, hf⟩ := Option.bind_eq_some_iff.mp hf
  cases x with
  | str a =>
    obtain ⟨⟨y, ρ2⟩, h2, hf⟩ := Option.bind_eq_some_iff.mp hf
    obtain ⟨z, h3, hf⟩ := Option.map_eq_some_iff.mp hf
    cases hf
    refine ⟨E, G, ρ, _, ρ1, k, h1, fun u G1 H1 e1 k1 r1 => ?_⟩
    cases r1
    refine ⟨⟨a, rfl⟩, E, G1, ρ1, y, ρ2, k1, h2, fun w G2 H2 e2 k2 r2 => ?_⟩
    cases y with
    | lst ds =>
      obtain ⟨ys, h4, h5⟩ := Option.bind_eq_some_iff.mp (show ((strsD ds).bind fun ys => if (ys.map (·.length)).sum + ys.length * a.length ≤ 100000 then some (D.str (Txt.join a ys)) else none) = some d from h3)
      by_cases hl : (ys.map (·.length)).sum + ys.length * a.length ≤ 100000
      · rw [if_pos hl] at h5
        cases h5
        cases r2 with
        | lst g r =>
          have ev := strsD_ok h4 r
          subst ev
          exact ⟨a, _, ys, rfl, rfl, .inl (ex_l k2.sub g), Nat.le_trans hl (by decide), q _ G2 H2 (e1.trans e2) k2 (.str _)⟩
      · rw [if_neg hl] at h5
        cases h5
    | _ => cases h3
  | _ => cases hf
/-! ### a list and a list -/
def eCat (fa fb : M) : M := fun ρ => (fa ρ).bind fun p => match p.1 with
  | .lst as => (fb p.2).bind fun q => match q.1 with
    | .lst bs => if as.length + bs.length ≤ 100000 then some (.lst (as ++ bs), q.2) else none
    | _ => none
  | _ => none
theorem dl_cat (h : PE X e (tOp rCat (tlOf X.K T ω fa) (tlOf X.K T ω fb))) : PE X e (tlOf X.K T ω (eCat fa fb)) := PEi h fun σ H Q ⟨E, G, ρ, d, ρ', k, hf, q⟩ => by
  obtain ⟨⟨x, ρ1⟩, h1, hf⟩ := Option.bind_eq_some_iff.mp hf
  cases x with
  | lst as =>
    obtain ⟨⟨y, ρ2⟩, h2, hf⟩ := Option.bind_eq_some_iff.mp hf
    cases y with
    | lst bs =>
      by_cases hl : as.length + bs.length ≤ 100000
      · simp only [if_pos hl] at hf
        cases hf
        refine ⟨E, G, ρ, _, ρ1, k, h1, fun p1 G1 H1 e1 k1 w1 f1 => ?_⟩
        cases w1 with
        | @lst _ vs1 _ g1 r1 =>
          have a1 : Acc X.K T E ω G1 H1 σ ρ1 p1 vs1 as := ⟨k1, f1, g1, r1⟩
          refine ⟨Z.reb ω σ ρ1 G1 H1, G1, ρ1, _, _, k1.reb, h2, fun p2 G2 H2 e2 k2 w2 f2 => ?_⟩
          have a2 := a1.step k2
          cases w2 with
          | @lst _ vs2 _ g2 r2 =>
            refine ⟨p1, p2, vs1, vs2, rfl, rfl, a2.at_, g2, ?_, fun p hp => ?_⟩
            · rw [← r1.len, ← r2.len]
              exact line_of hl
            · obtain ⟨k3, f3⟩ := a2.k.own (o := .lst (vs1 ++ vs2)) hp
              exact q p G2 _ (e1.trans e2) k3 (.lst upd_same (a2.r.app r2)) f3
      · simp only [if_neg hl] at hf
        cases hf
    | _ => cases hf
  | _ => cases hf
end
end Z
/-! any, all of a generator expression: over a text's signs, over a tuple. -/
namespace Z
open PySem PySem.Spec PyProof.Rows L2 RZ GxR
section
variable {X : Cx} {pins : List (Addr × Obj)} {σ : L2.St} {H : Hp} {s : Shared}
/-- pyIter u at s: a new iterator that walks n₀ things, Pf of them -/
def Bgn (X : Cx) (P : Addr) (s1 : Shared) (u : Value) (n₀ : Nat) (Pf : Nat → Value → Prop) : Prop :=
  ∀ (Q : Value → Shared → Prop) (E : Value → Shared → Prop), (∀ (o : Obj) (ex : List Addr) (St : Nat → Heap → Prop), (∀ A' : Around, A'.handled = none → Walks X.prog X.w A' s1.heap.objs.size (s1.heap.objs.size :: ex) [s1.heap.objs.size] n₀ Pf St) → St 0 (s1.heap.push o) → (∀ b ∈ ex, b < s1.heap.objs.size ∧ b ≠ P) →
    Q (.ref s1.heap.objs.size) { s1 with heap := s1.heap.push o }) → wpAny (model X.prog X.w) X.A (pyIter u) Q E s1
/-- the element at a turn: a truth; nothing that stands is changed -/
def Elt (X : Cx) (P : Addr) (scope : Scope) (x : Str) (elt : Expr) (s1 : Shared) (Pf : Nat → Value → Prop) (n₀ : Nat) (pb : Nat → Bool) : Prop :=
  ∀ (C : Addr) (code : Value) (A' : Around) (E' : Value → Shared → Prop) (i : Nat) (v : Value) (s₂ : Shared) (m₂ : Str → Option Value), A'.handled = none → i < n₀ → Pf i v → s₂.heap.Ns C m₂ → m₂ x = some v → (∀ b o, s1.heap.get? b = some o → b ≠ P → b ≠ s1.heap.objs.size → s₂.heap.get? b = some o) →
    wpAny (model X.prog X.w) A' (eval elt (genEnv scope (cloFrom X.env.cells scope.names []) C code builtinsNs X.env)) (fun y s₃ => y = .bool (pb i) ∧ Keeps s₂ s₃) E' s₂
/-- the generator g over n₀ things, ready to be walked, in the state s5; H1: what was held before -/
def ReadyG (X : Cx) (pins : List (Addr × Obj)) (σ : L2.St) (H1 : Hp) (P : Addr) (n₀ : Nat) (pb : Nat → Bool) (g : Addr) (s5 : Shared) : Prop :=
  ∃ (fp wr : List Addr) (G : Array GenState → Array GenState → Prop) (F : Nat → Value → Prop) (St : Nat → Shared → Prop),
    WalksS X.prog X.w X.A.in1 g fp wr G n₀ F St ∧ St 0 s5 ∧
    TruthOf X.prog X.w X.A.in1 F pb ∧
    ∀ s', Moved wr G s5 s' → ∃ H2, Tabbed P H1 H2 ∧ Inv X pins σ H2 s'
theorem gen_G {c P : Addr} {elt iter : Expr} {x : Str} {px gpos : Pos} {scope : Scope} {te : TE} {k : Nat} {Q' : Value → Shared → Prop} {R : Nat → (Nat → Bool) → V → Hp → Prop}
    (hr : Room k X.A) (TB : TabB X.base X.mg c P) (hcode : X.env.code = .ref c) (S : GenS X.env scope x) (hi : PE X iter te)
    (hs : ∀ v, genFold iter X.env v = pure v) (I : Inv X pins σ H s) (h : te σ H fun v H1 => ∃ n₀ pb, TabG H1 P ∧ R n₀ pb v H1)
    (hw : ∀ n₀ pb v H1 s1 u, R n₀ pb v H1 → TabG H1 P → Inv X pins σ H1 s1 → RelV v u → ∃ Pf, Bgn X P s1 u n₀ Pf ∧ Elt X P scope x elt s1 Pf n₀ pb)
    (hQ : ∀ n₀ pb v H1 g s5, R n₀ pb v H1 → ReadyG X pins σ H1 P n₀ pb g s5 → Q' (.ref g) s5) :
    wpAny (model X.prog X.w) X.A (eval (.GeneratorExp elt [⟨.Name x px, iter, [], 0⟩] scope gpos) X.env) Q' X.xe s := by
  refine wpAny_GeneratorExp_walksQ hr.hd S.co (closure_ok S.free) S.cell S.dot S.loc S.kind (by have := hr.dp; omega) ?_ hs
  refine thn (hi.run pins s σ H _ I h) fun xv s1 ⟨v, H1, I1, r1, q1⟩ => ?_
  obtain ⟨n₀, pb, tg, q1⟩ := q1
  obtain ⟨Pf, hb, hel⟩ := hw n₀ pb v H1 s1 xv q1 tg I1 r1
  obtain ⟨ps, hP, ht⟩ := tg
  refine hb _ _ fun o ex St W hst hex => ?_
  have hPs : s1.heap.get? P = some { cls := .none, data := .fields ps } := I1.hok P _ hP
  have hPlt : P < s1.heap.objs.size := Heap.lt_size hPs
  have hP2 : (s1.heap.push o).get? P = some { cls := .none, data := .fields ps } := Heap.get?_push_of_some _ hPs
  have cd : PySem.W.CodeHd (s1.heap.push o) c P := TB.code.keeps fun b u e => Heap.get?_push_of_some _ (I1.bk b u e)
  have lim2 : (s1.heap.push o).NoLimit := I1.nolimit.push o
  have cont : ∀ (code : Value) (h3 : Heap) (tk : Nat) (ps' : Array Value), Heap.ExtBut P (s1.heap.push o) h3 → (s1.heap.push o).objs.size ≤ h3.objs.size → h3.get? P = some { cls := .none, data := .fields ps' } → (∃ more, ps' = ps ++ more) → TriplesOk ps'.toList →
      wpAny (model X.prog X.w) X.A (builtinsFor X.env.globals X.env.builtins) (fun bi s₄ =>
        ∃ Ia fp wr n₀ Pf St₀ pz F, Value.ref s1.heap.objs.size = .ref Ia ∧ (∀ A' : Around, A'.handled = none → Walks X.prog X.w A' Ia fp wr n₀ Pf St₀) ∧ St₀ 0 s₄.heap ∧ (∀ b ∈ fp, b < s₄.heap.objs.size) ∧ s₄.heap.NoLimit ∧ cStatics ∉ wr ∧
          (∀ href : Heap, (∀ b o, s₄.heap.get? b = some o → href.get? b = some o) →
            QuietGen X.prog X.w (genEnv scope (cloFrom X.env.cells scope.names []) s₄.heap.objs.size code bi X.env) x [] elt (List.range s₄.heap.objs.size) wr Pf pz F href) ∧
          (∀ a h₅ tk gs, gs.bare = true → s₄.heap.objs.size < a → h₅.objs.size = a + 1 → (∀ b o, s₄.heap.get? b = some o → h₅.get? b = some o) →
            WalksS X.prog X.w X.A.in4 a (a :: s₄.heap.objs.size :: List.range s₄.heap.objs.size) (s₄.heap.objs.size :: wr) (GenOnlyQ s₄.gens.size) (passing pz n₀ 0).length
              (fun j y => ∃ i, (passing pz n₀ 0)[j]? = some i ∧ F i y) (GenAt X.prog X.w X.A.in4 a s₄.gens.size s₄.heap.objs.size (List.range s₄.heap.objs.size) wr pz n₀ F) →
            GenAt X.prog X.w X.A.in4 a s₄.gens.size s₄.heap.objs.size (List.range s₄.heap.objs.size) wr pz n₀ F 0 { s₄ with gens := s₄.gens.push gs, toks := tk, heap := h₅ } →
            Q' (.ref a) { s₄ with gens := s₄.gens.push gs, toks := tk, heap := h₅ })) X.xe { s1 with heap := h3, toks := tk } := by
    intro code h3 tk ps' hx hsz hP3 hmore ht3
    obtain ⟨bm, ob, e1, e2, e3, e4, e5, e6, e7, e8⟩ := TB.bm
    have hcP : cStatics ≠ P := fun e => by
      obtain ⟨_, hns, _⟩ := I1.nolimit
      obtain ⟨o', es, ep, ho, hd, _⟩ := hns
      rw [e, hPs] at ho
      cases ho
      cases hd
    have hcl : cStatics < s1.heap.objs.size := let ⟨_, hns, _⟩ := I1.nolimit; hns.lt
    have sz2 : (s1.heap.push o).objs.size = s1.heap.objs.size + 1 := Heap.size_push ..
    have keep3 : ∀ b u, b ≠ P → s1.heap.get? b = some u → h3.get? b = some u := fun b u hb e => hx b u hb (Heap.get?_push_of_some _ e)
    refine wpAny_builtinsFor (m := X.mg) (by rw [I1.ok.glob]; exact ((I1.mod.glob.keeps I1.bk).push o).extBut hx TB.gP) e1 e2 (keep3 _ _ e4 (I1.bk _ _ e5)) e6 e7 e8 ?_
    refine ⟨s1.heap.objs.size, s1.heap.objs.size :: ex, [s1.heap.objs.size], n₀, fun i v => i < n₀ ∧ Pf i v, St, (fun _ => true), (fun i y => y = .bool (pb i)), rfl, fun A' hA => ?_, ?_, ?_, lim2.extBut hx hcP, ?_, ?_, ?_⟩
    · have W' := W A' hA
      exact ⟨W'.sub, W'.frame, fun i s Q E hi st hQ => W'.item i s Q E hi st fun v h' tk hP => hQ v h' tk ⟨hi, hP⟩, W'.done, W'.self⟩
    · refine (W X.A hr.hd).frame _ _ _ hst fun b hb u e => hx b u (fun z => ?_) e
      rcases List.mem_cons.mp hb with z2 | z2
      · exact Nat.ne_of_lt hPlt (z.symm.trans z2)
      · exact (hex b z2).2 z
    · intro b hb
      rcases List.mem_cons.mp hb with z | z
      · rw [z]
        show s1.heap.objs.size < h3.objs.size
        omega
      · exact Nat.lt_of_lt_of_le (hex b z).1 (show s1.heap.objs.size ≤ h3.objs.size by omega)
    · intro z
      rcases List.mem_cons.mp z with z | z
      · exact Nat.ne_of_lt hcl z
      · cases z
    · intro href hhref
      refine ⟨fun A' E' i v s₂ m₂ hA hPv hn hm hk => ?_, fun A' E' i v s₂ m₂ hA hPv hp hn hm hk => ?_⟩
      · simp only [List.forIn_nil]
        exact wpAny_pure ⟨rfl, keeps_refl _⟩
      · refine hel _ code A' E' i v s₂ m₂ hA hPv.1 hPv.2 hn hm fun b u e hbP hbI => ?_
        have e3' := keep3 b u hbP e
        exact hk b (List.mem_range.mpr (Heap.lt_size e3')) (by simpa using hbI) u (hhref b u e3')
    · intro g h5 tk5 gs hgb hag hsz5 hk5 W5 hat
      simp only [GxR.passing_true, List.length_range] at W5
      refine hQ n₀ pb v H1 g _ q1 ⟨_, _, _, _, _, W5.in4_1, hat, ?_, fun s' hm => ?_⟩
      · intro j y sj Qj Ej hy hQj
        obtain ⟨i, hij, rfl⟩ := hy
        obtain ⟨hj, ej⟩ := List.getElem?_eq_some_iff.mp hij
        rw [List.getElem_range] at ej
        subst ej
        exact wpAny_truthy_bool hQj
      · obtain ⟨more, em⟩ := hmore
        have nwr : ∀ b u, s1.heap.get? b = some u → b ∉ h3.objs.size :: [s1.heap.objs.size] := fun b u e hb => by
          have hl := Heap.lt_size e
          rcases List.mem_cons.mp hb with z | z
          · rw [z] at hl
            have h9 : (h3.objs.size : Nat) < s1.heap.objs.size := hl
            omega
          · rcases List.mem_cons.mp z with z | z
            · rw [z] at hl
              exact Nat.lt_irrefl _ hl
            · cases z
        have J := inv_tab (more := more) (h' := s'.heap) (g' := s'.gens) (d' := s'.drawn) (t' := s'.toks) I1 hP (fun b u hb e => hm.heap b u (nwr b u e) (hk5 b u (keep3 b u hb e)))
          (by rw [← em]; exact hm.heap P _ (nwr P _ hPs) (hk5 P _ hP3)) (AllBare.movedS (I1.bare.push hgb) hm)
        rw [sh_eta s1 s' hm.os] at J
        refine ⟨upd H1 P (.tbl (ps ++ more)), ⟨⟨ps ++ more, upd_same, by rw [← em]; exact ht3⟩, fun b hb => upd_ne hb⟩, J⟩
  refine ⟨lim2, ?_⟩
  cases hf : codeAmong gpos ps.toList with
  | none =>
    refine wpAny_genexprCodeX hcode (cd.code hP2 ht) (cd.tab hP2) hf fun c' h' tk hx hge hlt hco' _ htab' _ => ?_
    obtain ⟨o1, vs, f1, tf, fl, tg, inF, tx, tt, op, _, _, _, _, _, _, _, _, _, htr, _⟩ := hco'
    exact cont _ h' tk _ hx (Nat.le_trans hge (Nat.le_of_lt hlt)) htab'.2 ⟨_, rfl⟩ htr
  | some cv =>
    refine wpAny_genexprCode_hit hcode (cd.code hP2 ht) hf ?_
    exact cont cv (s1.heap.push o) s1.toks ps (Heap.ExtBut.refl _ _) (Nat.le_refl _) hP2 ⟨#[], by simp⟩ ht
/-- all(test for x in e), any(..): told by the number of things and their tests -/
def tGen (P : Addr) (fin : Nat → (Nat → Bool) → Bool) (R : L2.St → Nat → (Nat → Bool) → V → Hp → Prop) (te : TE) : TE := fun σ H Q => te σ H fun v H1 => ∃ n₀ pb, TabG H1 P ∧ R σ n₀ pb v H1 ∧ ∀ H2, Tabbed P H1 H2 → Q (.bl (fin n₀ pb)) H2
def allN (n : Nat) (pb : Nat → Bool) : Bool := (List.range n).all pb
def anyN (n : Nat) (pb : Nat → Bool) : Bool := (List.range n).any pb
/-- what is walked, and the element's test -/
def GenOk (X : Cx) (P : Addr) (scope : Scope) (x : Str) (elt : Expr) (R : L2.St → Nat → (Nat → Bool) → V → Hp → Prop) : Prop :=
  ∀ (pins : List (Addr × Obj)) (σ : L2.St) n₀ pb v H1 s1 u, R σ n₀ pb v H1 → TabG H1 P → Inv X pins σ H1 s1 → RelV v u → ∃ Pf, Bgn X P s1 u n₀ Pf ∧ Elt X P scope x elt s1 Pf n₀ pb
theorem pe_allG {c P : Addr} {elt iter : Expr} {x : Str} {px p pos gpos : Pos} {scope : Scope} {te : TE} {k : Nat} {R : L2.St → Nat → (Nat → Bool) → V → Hp → Prop}
    (hr : Room k X.A) (hg : Gl X "all") (hm : X.mg "all" = none) (TB : TabB X.base X.mg c P) (hcode : X.env.code = .ref c) (S : GenS X.env scope x) (hi : PE X iter te) (hel : GenOk X P scope x elt R)
    (hb : bootBuiltins "all" = some (.builtin "all") := by first | rfl | kernel_rfl) (hs : ∀ v, genFold iter X.env v = pure v := by intro _; rfl)
    (he : starEach [.GeneratorExp elt [⟨.Name x px, iter, [], 0⟩] scope gpos] X.env = (false, eval (.GeneratorExp elt [⟨.Name x px, iter, [], 0⟩] scope gpos) X.env) :: starEach [] X.env := by rfl) :
    PE X (.Call (.Name "all" p) [.GeneratorExp elt [⟨.Name x px, iter, [], 0⟩] scope gpos] [] pos) (tGen P allN R te) := by
  refine ⟨fun pins s σ H Q I h => ?_⟩
  refine wpAny_Call_Name_kw (ld_blt I hg hm hb ?_)
  refine PyProof.Rows.callWith_builtin1 ?_ he (by rfl)
  rw [he]
  show wpAny _ _ (spliced ((false, eval (.GeneratorExp elt [⟨.Name x px, iter, [], 0⟩] scope gpos) X.env) :: backTo pos (starEach [] X.env))) _ _ s
  refine Calls.spliced_cons (gen_G (R := fun n₀ pb v H1 => R σ n₀ pb v H1 ∧ ∀ H2, Tabbed P H1 H2 → Q (.bl (allN n₀ pb)) H2) hr TB hcode S hi hs I h (fun n₀ pb v H1 s1 u hR tg I1 r => hel pins σ n₀ pb v H1 s1 u hR.1 tg I1 r) fun n₀ pb v H1 g s5 hR hG => ?_)
  obtain ⟨fp, wr, G, F, St, W, hst, htr, hI⟩ := hG
  refine Calls.spliced_nil ?_
  refine call_all_walkS (W.self 0 _ _ _ hst ⟨g, fp, wr, G, _, F, St, _, rfl, W, hst, htr, fun s' hmv => ?_⟩)
  obtain ⟨H2, hT, J⟩ := hI s' hmv
  exact ⟨.bl _, H2, J, rfl, hR.2 H2 hT⟩
theorem pe_anyG {c P : Addr} {elt iter : Expr} {x : Str} {px p pos gpos : Pos} {scope : Scope} {te : TE} {k : Nat} {R : L2.St → Nat → (Nat → Bool) → V → Hp → Prop}
    (hr : Room k X.A) (hg : Gl X "any") (hm : X.mg "any" = none) (TB : TabB X.base X.mg c P) (hcode : X.env.code = .ref c) (S : GenS X.env scope x) (hi : PE X iter te) (hel : GenOk X P scope x elt R)
    (hs : ∀ v, genFold iter X.env v = pure v := by intro _; rfl)
    (he : starEach [.GeneratorExp elt [⟨.Name x px, iter, [], 0⟩] scope gpos] X.env = (false, eval (.GeneratorExp elt [⟨.Name x px, iter, [], 0⟩] scope gpos) X.env) :: starEach [] X.env := by rfl) :
    PE X (.Call (.Name "any" p) [.GeneratorExp elt [⟨.Name x px, iter, [], 0⟩] scope gpos] [] pos) (tGen P anyN R te) := by
  refine ⟨fun pins s σ H Q I h => ?_⟩
  refine wpAny_Call_Name_kw (ld_blt I hg hm boot_any ?_)
  refine PyProof.Rows.callWith_builtin1 ?_ he (by rfl)
  rw [he]
  show wpAny _ _ (spliced ((false, eval (.GeneratorExp elt [⟨.Name x px, iter, [], 0⟩] scope gpos) X.env) :: backTo pos (starEach [] X.env))) _ _ s
  refine Calls.spliced_cons (gen_G (R := fun n₀ pb v H1 => R σ n₀ pb v H1 ∧ ∀ H2, Tabbed P H1 H2 → Q (.bl (anyN n₀ pb)) H2) hr TB hcode S hi hs I h (fun n₀ pb v H1 s1 u hR tg I1 r => hel pins σ n₀ pb v H1 s1 u hR.1 tg I1 r) fun n₀ pb v H1 g s5 hR hG => ?_)
  obtain ⟨fp, wr, G, F, St, W, hst, htr, hI⟩ := hG
  refine Calls.spliced_nil ?_
  refine call_any_walkS (W.self 0 _ _ _ hst ⟨g, fp, wr, G, _, F, St, _, rfl, W, hst, htr, fun s' hmv => ?_⟩)
  obtain ⟨H2, hT, J⟩ := hI s' hmv
  exact ⟨.bl _, H2, J, rfl, hR.2 H2 hT⟩

/-! ### the two kinds of elements -/
variable {K : PySem.W.Frag} {T : List Addr} {ω : List Nat} {E : Ent} {G G' H' : Hp} {ρ ρ' : Env}
theorem base_keep {P : Addr} {s1 s₂ : Shared} (I : Inv X pins σ H s1) (tg : TabG H P) (hk : ∀ b o, s1.heap.get? b = some o → b ≠ P → b ≠ s1.heap.objs.size → s₂.heap.get? b = some o) : ∀ b o, X.base.get? b = some o → b ≠ P → s₂.heap.get? b = some o := fun b o e n =>
  hk b o (I.bk b o e) n (Nat.ne_of_lt (Heap.lt_size (I.bk b o e)))
/-- for x in a text: x in a global text -/
def RSgn (l : PySem.Str) : L2.St → Nat → (Nat → Bool) → V → Hp → Prop := fun _ n₀ pb v _ => ∃ z : PySem.Str, v = .str z ∧ n₀ = z.cps.size ∧ ∀ i c, z.cps[i]? = some c → pb i = decide (c ∈ l.cps.toList)
theorem gen_in {c P : Addr} {scope : Scope} {x g l : PySem.Str} {gt : Tok} {p1 p2 p3 : Pos} (TB : TabB X.base X.mg c P) (S : GenS X.env scope x) (hgl : scope.names.lookup g = some .globalImplicit) (hm : X.mg g = some (.str l gt)) (hd : (x == ("__debug__" : PySem.Str)) = false := by decide) (hd2 : (g == ("__debug__" : PySem.Str)) = false := by decide) :
    GenOk X P scope x (.Compare (.Name x p1) [.In] [.Name g p2] p3) (RSgn l) := by
  intro pins σ n₀ pb v H1 s1 u hR tg I r
  obtain ⟨z, rfl, rfl, hpb⟩ := hR
  obtain ⟨t, rfl⟩ := _root_.id r
  refine ⟨SignAt z, fun Q E q => wpAny_pyIter_str fun o St W hst => q o [] St W hst fun b hb => absurd hb (by simp), ?_⟩
  intro C code A' E' i v s₂ m₂ hA hi hv hn hx hk
  obtain ⟨cc, uu, hc, rfl⟩ := hv
  refine wpAny_Compare1 (wpAny_Name (wpAny_loadName_local (by exact S.kind) (by exact S.loc) hn hx ?_) hd)
  refine Calls.Name_function_global (by exact S.kind) (by exact hgl) (Calls.loadGlobal_global (mg := X.mg) ?_ hm ?_) hd2
  · show s₂.heap.Ns X.env.globals X.mg
    rw [I.ok.glob]
    exact I.mod.glob.at' fun o e => base_keep I tg hk _ o e TB.gP
  · refine PyProof.Rows.in_str ⟨?_, keeps_refl _⟩
    rw [PySem.StrLaws.found_one, hpb i cc hc]
/-- for x in a tuple of tuples: len(x) != y -/
def RLen (K : PySem.W.Frag) (j : Nat) : L2.St → Nat → (Nat → Bool) → V → Hp → Prop := fun σ n₀ pb v H => ∃ (a : Addr) (rows : List V) (m : Int), v = .ref a ∧ SqT K H a rows ∧ n₀ = rows.length ∧ σ[j]? = some (some (.int m)) ∧
  ∀ i r, rows[i]? = some r → ∃ b xs, r = .ref b ∧ SqT K H b xs ∧ pb i = decide ((xs.length : Int) ≠ m)
theorem tup_ne {a P : Addr} {s1 : Shared} {items : Array Value} (I : Inv X pins σ H s1) (tg : TabG H P) (h : s1.heap.IsTuple a items) : a ≠ P := fun e => by
  obtain ⟨ps, hP, _⟩ := tg
  have hPs : s1.heap.get? P = some { cls := .none, data := .fields ps } := I.hok P _ hP
  obtain ⟨o, ho, _, _, hd⟩ := h
  rw [e, hPs] at ho
  cases ho
  cases hd
theorem gen_len {c P : Addr} {scope : Scope} {x y : PySem.Str} {j : Nat} {p0 p1 p2 p3 p4 : Pos} (TB : TabB X.base X.mg c P) (S : GenS X.env scope x) (hlen : scope.names.lookup ("len" : PySem.Str) = some .globalImplicit) (hml : X.mg "len" = none) (hy : scope.names.lookup y = some .free)
    (hcl : (cloFrom X.env.cells scope.names []).lookup y = some ((X.env.cells.lookup y).getD 0)) (hN : X.N[j]? = some y) (hyc : X.env.scope.names.lookup y = some .cell) (hd : (x == ("__debug__" : PySem.Str)) = false := by decide) (hd2 : (y == ("__debug__" : PySem.Str)) = false := by decide) (hd3 : (y == ("__classdict__" : PySem.Str)) = false := by decide) :
    GenOk X P scope x (.Compare (.Call (.Name "len" p0) [.Name x p1] [] p2) [.NotEq] [.Name y p3] p4) (RLen X.K j) := by
  intro pins σ n₀ pb v H1 s1 u hR tg I r
  obtain ⟨a, rows, m, rfl, ha, rfl, hm, hrows⟩ := hR
  cases r
  obtain ⟨its, rv, p, hz⟩ := I.tuple ha
  have hit : s1.heap.IsTuple a its.toArray := p
  have hal : a < s1.heap.objs.size := by
    obtain ⟨o, ho, _⟩ := hit
    exact Heap.lt_size ho
  have hlen2 := rv.length
  refine ⟨fun i v => its.toArray[i]? = some v, fun Q E q => wpAny_pyIter_tuple hit ?_, ?_⟩
  · refine q _ [a] (fun i h => h.IsTupleIter s1.heap.objs.size a i ∧ h.IsTuple a its.toArray) (fun A' hA => ?_) ⟨⟨_, Heap.get?_push_size _ rfl, rfl, rfl⟩, hit.at fun o e => Heap.get?_push_of_some _ e⟩ fun b hb => ?_
    · have e : rows.length = its.toArray.size := by rw [List.size_toArray]; exact hlen2
      rw [e]
      exact Walks.tuple hA s1.heap.objs.size a (Nat.ne_of_lt hal) its.toArray
    · rw [List.mem_singleton.mp hb]
      exact ⟨hal, tup_ne I tg hit⟩
  intro C code A' E' i v s₂ m₂ hA hi hv hn hx hk
  have hv' : its[i]? = some v := by simpa using hv
  have hgt : rows[i]? = some rows[i] := List.getElem?_eq_getElem hi
  obtain ⟨b, xs, hb, hxs, hpb⟩ := hrows i rows[i] hgt
  obtain ⟨u2, hu2, ru2⟩ := rv.get hgt
  rw [hv'] at hu2
  cases hu2
  rw [hb] at ru2
  cases ru2
  obtain ⟨its2, rv2, p2', hz2⟩ := I.tuple hxs
  have hit2 : s1.heap.IsTuple b its2.toArray := p2'
  have hbl : b < s1.heap.objs.size := by
    obtain ⟨o, ho, _⟩ := hit2
    exact Heap.lt_size ho
  have hit3 : s₂.heap.IsTuple b its2.toArray := hit2.at fun o e => hk b o e (tup_ne I tg hit2) (Nat.ne_of_lt hbl)
  obtain ⟨mb, hmb, hbb⟩ := I.mod.blt
  have hP : builtinsNs ≠ P := fun e => by
    obtain ⟨o, es, ep, ho, _⟩ := hmb
    have h0 := (I.bs _ o ho).2
    obtain ⟨ps, hp, _⟩ := tg
    rw [e, hp] at h0
    cases h0
  have hl2 := rv2.length
  have ls : sizeLine = 16777216 := sizeLine_eq
  obtain ⟨mm, hmm, hvis⟩ := I.loc
  obtain ⟨w, rw', lk⟩ := hvis j y (.int m) hN hm (.inr (.inl hyc))
  obtain ⟨tk, rfl⟩ := rw'
  have hcell : ∃ cc, X.env.cells.lookup y = some cc ∧ s1.heap.IsCell cc (some (.int m tk)) := by
    rcases lk with ⟨q, _⟩ | ⟨_, q⟩
    · rw [show X.env.kindOf y = some .cell from hyc] at q
      cases q
    · exact q
  obtain ⟨cc, hcc, hcv⟩ := hcell
  rw [hcc] at hcl
  refine wpAny_Compare1 (wpAny_Call_Name_kw (Calls.Name_function_global (by exact S.kind) (by exact hlen) (Calls.loadGlobal_builtin (mg := X.mg) (mb := mb) (v := .builtin "len") ?_ hml ?_ ((hbb "len" (by decide)).trans (by first | rfl | kernel_rfl)) ?_)))
  · show s₂.heap.Ns X.env.globals X.mg
    rw [I.ok.glob]
    exact I.mod.glob.at' fun o e => base_keep I tg hk _ o e TB.gP
  · show s₂.heap.Ns builtinsNs mb
    exact hmb.at' fun o e => base_keep I tg hk _ o e hP
  refine PyProof.Rows.callWith_builtin1 ?_ (by rfl) (by rfl)
  show wpAny _ _ (spliced ((false, eval (.Name x p1) _) :: backTo p2 (starEach [] _))) _ _ _
  refine Calls.spliced_cons (wpAny_Name (wpAny_loadName_local (by exact S.kind) (by exact S.loc) hn hx ?_) hd)
  refine Calls.spliced_nil ?_
  refine len_tuple (show IsTup s₂.heap b its2.toArray from hit3) (by simp only [List.size_toArray]; omega) ?_
  refine wpAny_Name (wpAny_loadName_free (by exact S.kind) (by exact hy) (by exact hcl) (v := .int m tk) ?_ ?_ hd3) hd2
  · have h9 : s₂.heap.IsCell cc (some (.int m tk)) := by
      obtain ⟨o, ho, hdt⟩ := hcv
      refine ⟨o, hk cc o ho (fun e => ?_) (Nat.ne_of_lt (Heap.lt_size ho)), hdt⟩
      obtain ⟨ps, hPp, _⟩ := tg
      have hPs : s1.heap.get? P = some { cls := .none, data := .fields ps } := I.hok P _ hPp
      rw [e, hPs] at ho
      cases ho
      cases hdt
    exact h9
  · refine PyProof.Rows.ne_int ⟨?_, keeps_tok _ _⟩
    rw [hpb, List.size_toArray, ← hl2]
    congr 1
    by_cases h : (xs.length : Int) = m <;> simp [h, bne]
end
end Z
/-! any, all on data; keywords. -/
namespace Z
open PySem PySem.Spec PyProof.Rows L2 RZ GxR
section
variable {K : PySem.W.Frag} {T : List Addr} {X : Cx} {ω : List Nat} {E : Ent} {G H G' H' : Hp} {σ : L2.St} {ρ ρ' : Env} {e : Expr} {f fi : M} {P : Addr}
theorem EnvOk.tabbed (k : EnvOk K T E ω G H σ ρ) (hP : P ∈ T) (t : Tabbed P H H') : EnvOk K T E ω G H' σ ρ where
  sub := fun a o h => by
    have n : a ≠ P := fun z => by
      rw [z, (k.tab P hP).2] at h
      cases h
    rw [t.2 a n]
    exact k.sub a o h
  g0 := k.g0
  h0 := fun p o h g => by
    obtain ⟨x, y⟩ := k.h0 p o h g
    refine ⟨x, fun nI nT => ?_⟩
    rw [t.2 p fun z => nT (z ▸ hP)]
    exact y nI nT
  tab := fun p hp => by
    by_cases z : p = P
    · subst z
      exact ⟨t.1, (k.tab p hp).2⟩
    · obtain ⟨⟨ps, a, b⟩, c⟩ := k.tab p hp
      exact ⟨⟨ps, by rw [t.2 p z]; exact a, b⟩, c⟩
  len := k.len
  sh := k.sh
  ow := fun i d hi hd => by
    obtain ⟨p, a, b, c, e, w⟩ := k.ow i d hi hd
    have n : p ≠ P := fun z => c (z ▸ hP)
    refine ⟨p, a, b, c, e, ?_⟩
    cases w with
    | lst x y => exact .lst (by rw [t.2 p n]; exact x) y
    | dic x y z => exact .dic (by rw [t.2 p n]; exact x) y z
  dj := k.dj
  io := k.io
/-- all signs of a text are in l -/
def allInD (l : PySem.Str) : D → Option D
  | .str z => some (.bl (z.cps.toList.all fun c => decide (c ∈ l.cps.toList)))
  | _ => none
theorem range_all {n : Nat} {pb : Nat → Bool} {l : List Bool} (hl : l.length = n) (h : ∀ i, i < n → l[i]? = some (pb i)) : (List.range n).all pb = l.all id := by
  have e : l = (List.range n).map pb := by
    refine List.ext_getElem? fun i => ?_
    by_cases hi : i < n
    · rw [h i hi, List.getElem?_map, List.getElem?_range hi]
      rfl
    · rw [List.getElem?_eq_none (by omega), List.getElem?_eq_none (by rw [List.length_map, List.length_range]; omega)]
  rw [e, List.all_map]
  rfl
theorem range_any {n : Nat} {pb : Nat → Bool} {l : List Bool} (hl : l.length = n) (h : ∀ i, i < n → l[i]? = some (pb i)) : (List.range n).any pb = l.any id := by
  have e : l = (List.range n).map pb := by
    refine List.ext_getElem? fun i => ?_
    by_cases hi : i < n
    · rw [h i hi, List.getElem?_map, List.getElem?_range hi]
      rfl
    · rw [List.getElem?_eq_none (by omega), List.getElem?_eq_none (by rw [List.length_map, List.length_range]; omega)]
  rw [e, List.any_map]
  rfl
theorem de_allIn {l : PySem.Str} (h : PE X e (tGen P allN (RSgn l) (teOf X.K T ω fi))) (hP : P ∈ T) : PE X e (teOf X.K T ω (eUn (allInD l) fi)) := PEi h fun σ H Q ⟨E, G, ρ, d, ρ', k, hf, q⟩ => by
  obtain ⟨⟨x, ρ1⟩, h1, hf⟩ := Option.bind_eq_some_iff.mp hf
  obtain ⟨d', h3, hf⟩ := Option.map_eq_some_iff.mp hf
  cases hf
  refine ⟨E, G, ρ, x, ρ1, k, h1, fun u G1 H1 e1 k1 r1 => ?_⟩
  cases x with
  | str z =>
    cases r1
    simp only [allInD] at h3
    refine ⟨z.cps.size, fun i => match z.cps[i]? with
      | some c => decide (c ∈ l.cps.toList)
      | none => true, (k1.tab P hP).1, ⟨z, rfl, rfl, fun i c hc => by simp only [hc]⟩, fun H2 t => ?_⟩
    have k2 := k1.tabbed hP t
    refine q _ G1 H2 e1 k2 ?_
    have e2 : allN z.cps.size (fun i => match z.cps[i]? with
      | some c => decide (c ∈ l.cps.toList)
      | none => true) = z.cps.toList.all fun c => decide (c ∈ l.cps.toList) := by
      unfold allN
      rw [range_all (l := z.cps.toList.map fun c => decide (c ∈ l.cps.toList)) (by simp) fun i hi => ?_, List.all_map]
      · rfl
      · rw [List.getElem?_map, Array.getElem?_toList]
        simp only [Array.getElem?_eq_getElem hi]
        rfl
    rw [e2]
    cases h3
    exact .bl _
  | _ => cases h3
/-- the lengths of tuples -/
def lensD : List D → Option (List Nat)
  | [] => some []
  | .tup ds :: r => (lensD r).map fun ns => ds.length :: ns
  | _ => none
theorem lensD_ok {G : Hp} : ∀ {ds : List D} {vs : List V} {ns : List Nat}, lensD ds = some ns → Rps K G ds vs → ns.length = vs.length ∧ ∀ (i : Nat) (r : V), vs[i]? = some r → ∃ (b : Addr) (xs : List V), r = V.ref b ∧ G b = some (.tup xs) ∧ ns[i]? = some xs.length
  | [], _, _, h, .nil => by
    cases h
    exact ⟨rfl, fun i r hr => by simp at hr⟩
  | .tup es :: ds, _, _, h, .cons r rs => by
    obtain ⟨ms, h1, h2⟩ := Option.map_eq_some_iff.mp h
    cases h2
    obtain ⟨h3, h4⟩ := lensD_ok h1 rs
    cases r with
    | tup g r =>
      refine ⟨by simp [h3], fun i r hr => ?_⟩
      cases i with
      | zero =>
        simp at hr
        subst hr
        exact ⟨_, _, rfl, g, by simp [r.len]⟩
      | succ i => exact h4 i r (by simpa using hr)
def eAnyLen (j : Nat) (fi : M) : M := fun ρ => (fi ρ).bind fun p => match p.1, p.2[j]? with
  | .tup ds, some (some (.int m)) => (lensD ds).map fun ns => (.bl (ns.any fun n : Nat => decide ((n : Int) ≠ m)), p.2)
  | _, _ => none
theorem de_anyLen {j : Nat} (h : PE X e (tGen P anyN (RLen X.K j) (teOf X.K T ω fi))) (hP : P ∈ T) (hj : ω.contains j = false) : PE X e (teOf X.K T ω (eAnyLen j fi)) := PEi h fun σ H Q ⟨E, G, ρ, d, ρ', k, hf, q⟩ => by
  obtain ⟨⟨x, ρ1⟩, h1, hf⟩ := Option.bind_eq_some_iff.mp hf
  refine ⟨E, G, ρ, x, ρ1, k, h1, fun u G1 H1 e1 k1 r1 => ?_⟩
  split at hf
  · rename_i ds m hx hm
    obtain ⟨ns, h3, hf⟩ := Option.map_eq_some_iff.mp hf
    cases hf
    subst hx
    obtain ⟨v, hv, rv⟩ := k1.sh j _ (notmem_of hj) hm
    cases rv
    cases r1 with
    | @tup a vs _ g r =>
      obtain ⟨h4, h5⟩ := lensD_ok h3 r
      refine ⟨vs.length, fun i => match ns[i]? with
        | some n => decide ((n : Int) ≠ m)
        | none => true, (k1.tab P hP).1, ⟨a, vs, m, rfl, SqT.of (k1.sub _ _ g), rfl, hv, fun i r hr => ?_⟩, fun H2 t => ?_⟩
      · obtain ⟨b, xs, h6, h7, h8⟩ := h5 i r hr
        exact ⟨b, xs, h6, SqT.of (k1.sub _ _ h7), by simp only [h8]⟩
      · have k2 := k1.tabbed hP t
        refine q _ G1 H2 e1 k2 ?_
        have e2 : anyN vs.length (fun i => match ns[i]? with
          | some n => decide ((n : Int) ≠ m)
          | none => true) = ns.any fun n : Nat => decide ((n : Int) ≠ m) := by
          unfold anyN
          rw [range_any (l := ns.map fun n : Nat => decide ((n : Int) ≠ m)) (by rw [List.length_map]; exact h4) fun i hi => ?_, List.any_map]
          · rfl
          · rw [List.getElem?_map]
            have hi' : i < ns.length := by omega
            simp only [List.getElem?_eq_getElem hi']
            rfl
        rw [e2]
        exact .bl _
  · cases hf

/-! ### keywords -/
def permL {α : Type} (perm : List Nat) (xs : List α) : List α := perm.filterMap fun i => xs[i]?
theorem Rps.perm {ds : List D} {vs : List V} (r : Rps K G ds vs) : ∀ perm : List Nat, Rps K G (permL perm ds) (permL perm vs)
  | [] => .nil
  | i :: is => by
    unfold permL
    cases hd : ds[i]? with
    | none =>
      have hv : vs[i]? = none := by
        rw [List.getElem?_eq_none_iff] at hd ⊢
        rw [← r.len]
        exact hd
      rw [List.filterMap_cons_none hd, List.filterMap_cons_none hv]
      exact Rps.perm r is
    | some d =>
      obtain ⟨v, hv, rv⟩ := r.get hd
      rw [List.filterMap_cons_some hd, List.filterMap_cons_some hv]
      exact .cons rv (Rps.perm r is)
theorem Vals.perm {vs : List V} {us : List Value} (r : Vals vs us) : ∀ perm : List Nat, Vals (permL perm vs) (permL perm us)
  | [] => .nil
  | i :: is => by
    unfold permL
    cases hd : vs[i]? with
    | none =>
      have hv : us[i]? = none := by
        rw [List.getElem?_eq_none_iff] at hd ⊢
        rw [← r.length]
        exact hd
      rw [List.filterMap_cons_none hd, List.filterMap_cons_none hv]
      exact Vals.perm r is
    | some d =>
      obtain ⟨v, hv, rv⟩ := r.get hd
      rw [List.filterMap_cons_some hd, List.filterMap_cons_some hv]
      exact .cons rv (Vals.perm r is)
section
variable {x qual : PySem.Str} {params : Arguments} {body : List Stmt} {scope : Scope} {fa : Addr} {fd : FuncData} {ps : List PySem.Str}
theorem kbindsA (F : FunD K x qual params body scope [] [] fa fd) (n : Nat) (ks : List PySem.Str) (perm : List Nat)
    (h : ∀ (kV doc pm : Value) (an : Option Addr) (cdv ct : Value) (us ws : List Value), us.length = n → ws.length = ks.length → bindArgs (PySem.W.fnOf x qual params body scope .none kV doc pm an cdv ct) ⟨us, ks.zip ws⟩ = pure (ps.zip (permL perm (us ++ ws)))) : KBn K fd ps n ks (fun us ws => permL perm (us ++ ws)) (fun vs zs => permL perm (vs ++ zs)) := by
  obtain ⟨oc, od, dV, kV, doc, pm, an, cdv, ct, osl, rfl, lk, hcd, hD, hK⟩ := F.ex
  rcases hD with ⟨_, rfl⟩ | ⟨e, _⟩
  · exact ⟨fun s us ws X l1 l2 => BindsTo.of_eq (h kV doc pm an cdv ct us ws l1 l2), fun r1 r2 => Vals.perm (r1.append r2) perm⟩
  · exact absurd rfl e
end
theorem pe_callN0 {CX : CXT} {k : Nat} {fa : Addr} {fd : FuncData} {ps ks : List PySem.Str} {sp : Sp} {E : XK} {x : PySem.Str} {p pos : Pos} {kws : List Keyword} {tk : TA} {g : List Value → List Value → List Value} {gV : List V → List V → List V}
    (F : FnOk X.prog X.w X.K X.mg X.base CX k fa fd ps sp) (hr : Room k X.A) (hg : Gl X x) (hm : X.mg x = some (.ref fa)) (hk : PySem.W.keepIn X.K (.ref fa) = true) (hb : KBn X.K fd ps 0 ks g gV) (hx : Passes CX X E)
    (hkw : PK X kws tk) (hall : (backToKw pos (keywordEach kws X.env)).all (·.1.isSome) = true := by rfl) (hks : (backToKw pos (keywordEach kws X.env)).filterMap (·.1) = ks := by rfl)
    (hdb : (x == ("__debug__" : PySem.Str)) = false := by decide)
    (hpl : ((backTo pos (starEach [] X.env)).any (·.1) || (backToKw pos (keywordEach kws X.env)).any (·.1.isNone)) = false := by rfl) :
    PE X (.Call (.Name x p) [] kws pos) (tCallN 0 ks.length sp gV E tNil tk) := by
  refine ⟨fun pins s σ H Q I h => ?_⟩
  refine wpAny_Call_Name_kw (ld_glob I hg hm ?_ hdb)
  refine PySem.W.callWith_KW0 (h₀ := X.base) I.ok.mod.kin hk hall (thn (hkw.run pos pins s σ H _ I h) fun ws s2 ⟨zs, H2, I2, rz, l1, l2, q2⟩ => ⟨I2.kIn, ?_⟩) hpl
  rw [hks]
  exact run_fnN (us := []) F hr hb hx I2 .nil rz l1 l2 q2
variable {kws : List Keyword} {fs fk : MA}
theorem PKi {t t' : TA} (h : PK X kws t) (i : ∀ σ H Q, t' σ H Q → t σ H Q) : PK X kws t' := ⟨fun pos pins s σ H Q I hw => h.run pos pins s σ H Q I (i _ _ _ hw)⟩
theorem dk_nil : PK X [] (taOf X.K T ω aNil) := PKi pk_nil fun σ H Q ⟨E, G, ρ, d, ρ', k, hf, q⟩ => by
  cases hf
  exact q [] G H (Ex.refl G) k .nil
theorem dk_cons {nm : Option PySem.Str} {kpos : Pos} {fa : M} (ha : PE X e (teOf X.K T ω fa)) (hr : PK X kws (taOf X.K T ω fs)) : PK X (⟨nm, e, kpos⟩ :: kws) (taOf X.K T ω (aCons fa fs)) :=
  PKi (pk_cons ha hr) fun σ H Q ⟨E, G, ρ, d, ρ', k, hf, q⟩ => by
    obtain ⟨⟨x, ρ1⟩, h1, hf⟩ := Option.bind_eq_some_iff.mp hf
    obtain ⟨⟨ys, ρ2⟩, h2, hf⟩ := Option.map_eq_some_iff.mp hf
    cases hf
    exact ⟨E, G, ρ, x, ρ1, k, h1, fun u G1 H1 e1 k1 r1 => ⟨E, G1, ρ1, ys, _, k1, h2, fun v G2 H2 e2 k2 r2 => q (u :: v) G2 H2 (e1.trans e2) k2 (.cons (r1.mono e2) r2)⟩⟩
/-- f(e, .., k = v, ..): the values in the parameters' order -/
def eCaK (perm : List Nat) (g : List D → Option D) (fs fk : MA) : M := fun ρ => (fs ρ).bind fun p => (fk p.2).bind fun q => (g (permL perm (p.1 ++ q.1))).map fun d => (d, q.2)
theorem de_callK {n a m : Nat} {perm : List Nat} {g : List D → Option D} (h : PE X e (tCallN a m (spP X.K T n g) (fun vs zs => permL perm (vs ++ zs)) E0 (taOf X.K T ω fs) (taOf X.K T ω fk))) (hn : ∀ ρ ds ρ', fs ρ = some (ds, ρ') → ds.length = a) (hk : ∀ ρ ds ρ', fk ρ = some (ds, ρ') → ds.length = m)
    (hp : ∀ zs : List D, zs.length = a + m → (permL perm zs).length = n) : PE X e (teOf X.K T ω (eCaK perm g fs fk)) := PEi h fun σ H Q ⟨E, G, ρ, d, ρ', k, hf, q⟩ => by
  obtain ⟨⟨x, ρ1⟩, h1, hf⟩ := Option.bind_eq_some_iff.mp hf
  obtain ⟨⟨y, ρ2⟩, h2, hf⟩ := Option.bind_eq_some_iff.mp hf
  obtain ⟨d', h3, hf⟩ := Option.map_eq_some_iff.mp hf
  cases hf
  refine ⟨E, G, ρ, x, ρ1, k, h1, fun u G1 H1 e1 k1 r1 => ⟨E, G1, ρ1, y, ρ2, k1, h2, fun w G2 H2 e2 k2 r2 => ⟨by rw [← r1.len]; exact hn _ _ _ h1, by rw [← r2.len]; exact hk _ _ _ h2, ?_⟩⟩⟩
  have rr := ((r1.mono e2).app r2).perm perm
  refine ⟨G2, _, d, ?_, k2.sub, k2.tab, rr, h3, fun v G' H' s r => q v G' H' ((e1.trans e2).trans s.g) (k2.step s) r⟩
  rw [← rr.len]
  exact hp _ (by rw [List.length_append, hn _ _ _ h1, hk _ _ _ h2])
theorem ak_nil : ∀ ρ ds ρ', aNil ρ = some (ds, ρ') → ds.length = 0 := an_nil
end
end Z
/-! A new instance of an own class whose fields are set once. -/
namespace Z
open PySem PySem.Spec PyProof.Rows L2 RZ GxR
/-- __init__ of a new instance of the class at C: g says the fields -/
def spMk (K : PySem.W.Frag) (T : List Addr) (C : Addr) (n : Nat) (g : List D → Option (List PySem.Str × List D)) : Sp := fun vs H Q _ => ∃ (G : Hp) (x dx : Addr) (us : List V) (ds : List D) (ns : List PySem.Str) (fs : List D), vs = .ref x :: us ∧ us.length = n ∧
  H x = some (.ins C dx []) ∧ G x = none ∧ x ∉ T ∧ Ex G H ∧ TabOk T G H ∧ Rps K G ds us ∧ g ds = some (ns, fs) ∧
  ∀ (fv : List (PySem.Str × V)) (G' H' : Hp), Ex G G' → Ex G' H' → TabOk T G' H' → H' x = some (.ins C dx fv) → G' x = none → fv.map (·.1) = ns → Rps K G' fs (fv.map (·.2)) → (∀ q o, H q = some o → G q = none → q ≠ x → G' q = none ∧ (q ∉ T → H' q = some o)) → Q .non H'
section
variable {K : PySem.W.Frag} {T : List Addr} {X : Cx} {ω : List Nat} {e : Expr} {fs : MA} {C : Addr} {n : Nat} {cn : PySem.Str} {g : List D → Option (List PySem.Str × List D)}
def mkD (cn : PySem.Str) (g : List D → Option (List PySem.Str × List D)) : List D → Option D := fun ds => (g ds).map fun r => .ins cn r.1 r.2
theorem de_make (h : PE X e (tMake (He.ga X.K cn) (spMk X.K T (He.ga X.K cn) n g) [] E0 (taOf X.K T ω fs))) (hn : ∀ ρ ds ρ', fs ρ = some (ds, ρ') → ds.length = n) : PE X e (teOf X.K T ω (eCa (mkD cn g) fs)) := PEi h fun σ H Q ⟨E, G, ρ, d, ρ', k, hf, q⟩ => by
  obtain ⟨⟨x, ρ1⟩, h1, hf⟩ := Option.bind_eq_some_iff.mp hf
  obtain ⟨d', h3, hf⟩ := Option.map_eq_some_iff.mp hf
  cases hf
  obtain ⟨⟨ns, fs'⟩, h4, h5⟩ := Option.map_eq_some_iff.mp h3
  cases h5
  refine ⟨E, G, ρ, x, ρ1, k, h1, fun u G1 H1 e1 k1 r1 => fun xa dx hx hdx ne => ?_⟩
  have gx : G1 xa = none := k1.sub.back hx
  have gdx : G1 dx = none := k1.sub.back hdx
  have tx : xa ∉ T := k1.tab.ne hx
  have tdx : dx ∉ T := k1.tab.ne hdx
  rw [List.append_nil]
  refine ⟨G1, xa, dx, u, x, ns, fs', rfl, by rw [← r1.len]; exact hn _ _ _ h1, upd_same, gx, tx, ?_, ?_, r1, h4, fun fv G' H' eg es tb hfv gx' hns rf hid => ⟨rfl, ?_⟩⟩
  · intro a o ha
    rw [upd_ne (ne_of_none ha gx), upd_ne (ne_of_none ha gdx)]
    exact k1.sub a o ha
  · exact (k1.tab.upd tdx).upd tx
  · have ex1 : Ex G' (upd G' xa (.ins (He.ga X.K cn) dx fv)) := Ex.new gx'
    have st : Step T G1 H1 (upd G' xa (.ins (He.ga X.K cn) dx fv)) H' := by
      refine ⟨eg.trans ex1, fun a o ha => ?_, tb.updG tx, fun q o hq gq => ?_⟩
      · by_cases z : a = xa
        · subst z
          rw [upd_same] at ha
          rw [hfv]
          exact ha
        · rw [upd_ne z] at ha
          exact es a o ha
      · have n1 : q ≠ xa := ne_of_none hq hx
        have n2 : q ≠ dx := ne_of_none hq hdx
        obtain ⟨y1, y2⟩ := hid q o (by rw [upd_ne n1, upd_ne n2]; exact hq) gq n1
        exact ⟨by rw [upd_ne n1]; exact y1, y2⟩
    exact q _ _ H' (e1.trans st.g) (k1.step st) (.ins upd_same hns (rf.mono ex1))
/-! ### a board -/
def gBoard : List D → Option (List PySem.Str × List D)
  | [p, q] => (lenD [p]).map fun n => (["size", "pays", "plays"], [n, p, q])
  | _ => none
abbrev rLn (K : PySem.W.Frag) : List V → Hp → VK → Prop := fun xs H Q => ∃ x n, xs = [x] ∧ LenV K x H n ∧ Q (.int n) H
theorem lenD_ok {G H : Hp} {d : D} {n : D} {v : V} (s : Ex G H) (h : lenD [d] = some n) (r : Rp K G d v) : ∃ m : Nat, n = .int m ∧ LenV K v H m := by
  cases r with
  | str z =>
    simp only [lenD] at h
    split at h
    · rename_i hl
      cases h
      exact ⟨_, rfl, line_of hl, rfl⟩
    · cases h
  | pt g o r =>
    cases h
    exact ⟨_, rfl, .inr ⟨_, .inl (.inr ⟨_, s _ _ g⟩), by rw [r.len]⟩⟩
  | tup g r =>
    cases h
    exact ⟨_, rfl, .inr ⟨_, SqT.of (s _ _ g), r.len⟩⟩
  | lst g r =>
    cases h
    exact ⟨_, rfl, .inl ⟨_, ex_l s g, r.len⟩⟩
  | _ => cases h
theorem board_body {st1 st2 st3 : Stmt} (c : Cls X.K C) (n1 : NoAttr X.K C "size") (n2 : NoAttr X.K C "pays") (n3 : NoAttr X.K C "plays") (h1 : PS X st1 (sFld X.K (tVar 0) (tCB (rLn X.K) (tCons (tVar 1) tNil)) "size")) (h2 : PS X st2 (sFld X.K (tVar 0) (tVar 1) "pays")) (h3 : PS X st3 (sFld X.K (tVar 0) (tVar 2) "plays")) :
    PSs X [st1, st2, st3] (fun Dn σ H => ∃ x u v dx n, σ[0]? = some (some (.ref x)) ∧ σ[1]? = some (some u) ∧ σ[2]? = some (some v) ∧ H x = some (.ins C dx []) ∧ LenV X.K u H n ∧ Dn.nx σ (upd (upd (upd H x (.ins C dx [("size", .int n)])) x (.ins C dx [("size", .int n), ("pays", u)])) x (.ins C dx [("size", .int n), ("pays", u), ("plays", v)]))) :=
  PSsi (pss_cons h1 (pss_cons h2 (pss_one h3))) fun Dn σ H ⟨x, u, v, dx, n, s0, s1, s2, hx, hl, q⟩ => by
    refine ⟨u, s1, u, n, rfl, hl, ?_⟩
    refine ⟨.ref x, s0, x, C, dx, [], rfl, hx, c, n1, by decide, ?_⟩
    refine ⟨u, s1, .ref x, s0, x, C, dx, _, rfl, upd_same, c, n2, by show 1 < 1000; decide, ?_⟩
    refine ⟨v, s2, .ref x, s0, x, C, dx, _, rfl, upd_same, c, n3, by show 2 < 1000; decide, ?_⟩
    exact q
end
section
variable {P : Program} {w : World} {K : PySem.W.Frag} {T : List Addr} {mg : PySem.Str → Option Value} {base : Heap} {x qual : PySem.Str} {params : Arguments} {body : List Stmt} {scope : Scope} {f C : Addr} {fd : FuncData} {N ps : List PySem.Str} {k : Nat}
theorem upd_upd {H : Hp} {a : Addr} {o o' : HO} : upd (upd H a o) a o' = upd H a o' := by
  funext b
  by_cases h : b = a
  · subst h
    rw [upd_same, upd_same]
  · rw [upd_ne h, upd_ne h, upd_ne h]
theorem fnBoard (F : FunD K x qual params body scope [] [] f fd) (S : FnScope N ps scope) (hn : ps.length = 3) (hN : N.length = 3)
    (hbody : ∀ (cdv : Value) (A : Around) (outer : List PySem.Env) (s : Shared) (H : Hp) (E : XK), Room k (A.deeper (envOfC qual scope s.heap.objs.size f cdv)) → PSs (cxOf CX0 P w K mg base N qual scope f cdv A outer s H E).nox body (fun Dn σ H => ∃ x u v dx n, σ[0]? = some (some (.ref x)) ∧ σ[1]? = some (some u) ∧ σ[2]? = some (some v) ∧ H x = some (.ins C dx []) ∧ LenV K u H n ∧ Dn.nx σ (upd (upd (upd H x (.ins C dx [("size", .int n)])) x (.ins C dx [("size", .int n), ("pays", u)])) x (.ins C dx [("size", .int n), ("pays", u), ("plays", v)])))) :
    FnOk P w K mg base CX0 (k + 1) f fd ps (spMk K T C 2 gBoard) := by
  refine F.ok S (fun vs H Q E h => ?_) (fun cdv A outer s H vs Q E hr h => ?_)
  · obtain ⟨_, _, _, us, _, _, _, e, hl, _⟩ := h
    rw [e, List.length_cons, hl, hn]
  · obtain ⟨G, xa, dx, us, ds, ns, fs, e, hl, hx, gx, tx, se, tb, r, hg, q⟩ := h
    subst e
    refine ⟨_, PSs.nox (hbody cdv A outer s H E hr), ?_⟩
    match ds, us, r, hg, hl with
    | [p, p2], [u, v], .cons r1 (.cons r2 .nil), hg, _ =>
      obtain ⟨n, h1, h2⟩ := Option.map_eq_some_iff.mp (show (lenD [p]).map (fun n => (([("size" : PySem.Str), "pays", "plays"] : List PySem.Str), [n, p, p2])) = some (ns, fs) from hg)
      cases h2
      obtain ⟨m, hm, lv⟩ := lenD_ok se h1 r1
      subst hm
      refine ⟨xa, u, v, dx, m, start_get rfl, start_get rfl, start_get rfl, hx, lv, ?_⟩
      rw [upd_upd, upd_upd]
      refine q [("size", .int m), ("pays", u), ("plays", v)] G _ (Ex.refl G) (fun a o ha => ?_) (tb.upd tx) upd_same gx rfl (.cons (.int _) (.cons r1 (.cons r2 .nil))) fun q' o hq gq nq => ⟨gq, fun _ => by rw [upd_ne nq]; exact hq⟩
      rw [upd_ne (ne_of_none ha gx)]
      exact se a o ha
end
end Z
/-! A list of lists that are all changed. -/
namespace Z
open PySem PySem.Spec PyProof.Rows L2 RZ GxR
structure Hid (T : List Addr) (E : Ent) (G : Hp) (q : Addr) : Prop where
  g : G q = none
  t : q ∉ T
  e : E.H q = none
structure Nst (K : PySem.W.Frag) (T : List Addr) (E : Ent) (G H : Hp) (p : Addr) (dss : List (List D)) (ps : List Addr) : Prop where
  at_ : H p = some (.lst (ps.map V.ref))
  hid : Hid T E G p
  nd : ps.Nodup
  nin : p ∉ ps
  len : ps.length = dss.length
  each : ∀ (i : Nat) (q : Addr), ps[i]? = some q → Hid T E G q ∧ ∃ (vs : List V) (ds : List D), dss[i]? = some ds ∧ H q = some (.lst vs) ∧ Rps K G ds vs
section
variable {K : PySem.W.Frag} {T : List Addr} {X : Cx} {E : Ent} {G H G' H' : Hp} {σ σ' : L2.St} {ρ ρ' : Env} {e iter tg : Expr} {st st1 st2 st3 : Stmt} {body : List Stmt} {p q : Addr} {ps : List Addr} {dss : List (List D)} {i : Nat} {ts vs : List Nat} {gt : D → Env → Option Env}
theorem Hid.fresh (h : Hid T E G q) : Fresh T [] E G σ ρ q := ⟨h.g, h.t, h.e, fun i hi => by cases hi⟩
theorem Nst.step (n : Nst K T E G H p dss ps) (k2 : EnvOk K T (Z.reb [] σ ρ G H) [] G' H' σ' ρ') : Nst K T E G' H' p dss ps := by
  have key : ∀ q o, Hid T E G q → H q = some o → Hid T E G' q ∧ H' q = some o := fun q o h hq => by
    obtain ⟨a, b⟩ := k2.h0 q o hq h.g
    exact ⟨⟨a, h.t, h.e⟩, b (by intro z; cases z) h.t⟩
  obtain ⟨h1, h2⟩ := key p _ n.hid n.at_
  refine ⟨h2, h1, n.nd, n.nin, n.len, fun i q hq => ?_⟩
  obtain ⟨a, vs, ds, b, c, d⟩ := n.each i q hq
  obtain ⟨h3, h4⟩ := key q _ a c
  exact ⟨h3, vs, ds, b, h4, d.mono k2.g0⟩
theorem nodup_get {ps : List Addr} (h : ps.Nodup) {i j : Nat} {q : Addr} (a : ps[i]? = some q) (b : ps[j]? = some q) : i = j := by
  obtain ⟨hi, a⟩ := List.getElem?_eq_some_iff.mp a
  obtain ⟨hj, b⟩ := List.getElem?_eq_some_iff.mp b
  rcases Nat.lt_trichotomy i j with h1 | h1 | h1
  · exact absurd (a.trans b.symm) (List.pairwise_iff_getElem.mp h i j hi hj h1)
  · exact h1
  · exact absurd (b.trans a.symm) (List.pairwise_iff_getElem.mp h j i hj hi h1)
theorem Nst.app (n : Nst K T E G H p dss ps) {j : Nat} {ds : List D} {vs : List V} {d : D} {v : V} (hq : ps[j]? = some q) (hd : dss[j]? = some ds) (hv : H q = some (.lst vs)) (r : Rp K G d v) : Nst K T E G (upd H q (.lst (vs ++ [v]))) p (dss.set j (ds ++ [d])) ps := by
  have npq : p ≠ q := fun z => n.nin (z ▸ List.mem_of_getElem? hq)
  refine ⟨by rw [upd_ne npq]; exact n.at_, n.hid, n.nd, n.nin, by rw [List.length_set]; exact n.len, fun i q' hq' => ?_⟩
  obtain ⟨a, vs', ds', b, c, d'⟩ := n.each i q' hq'
  refine ⟨a, ?_⟩
  by_cases z : q' = q
  · subst z
    have e : i = j := nodup_get n.nd hq' hq
    subst e
    rw [hd] at b
    cases b
    rw [hv] at c
    cases c
    have hlt := (List.getElem?_eq_some_iff.mp hd).1
    exact ⟨_, _, by rw [List.getElem?_set_self hlt], upd_same, d'.app (Rps.one r)⟩
  · have e : j ≠ i := fun z' => by
      subst z'
      rw [hq] at hq'
      exact z (Option.some.inj hq').symm
    exact ⟨vs', ds', by rw [List.getElem?_set_ne e]; exact b, by rw [upd_ne z]; exact c, d'⟩
abbrev NF := Env → List (List D) → Option (Env × List (List D))
def tnOf (K : PySem.W.Frag) (T : List Addr) (i : Nat) (f : NF) : TS := fun Dn σ H => ∃ (E : Ent) (G : Hp) (ρ : Env) (dss : List (List D)) (ps : List Addr) (p : Addr) (ρ' : Env) (dss' : List (List D)), EnvOk K T E [] G H σ ρ ∧ E.J = [] ∧ σ[i]? = some (some (.ref p)) ∧ Nst K T E G H p dss ps ∧ f ρ dss = some (ρ', dss') ∧
  ∀ σ' G' H', Ex G G' → EnvOk K T E [] G' H' σ' ρ' → σ'[i]? = some (some (.ref p)) → Nst K T E G' H' p dss' ps → Dn.nx σ' H'
def nApp (fy fx : M) : NF := fun ρ s => (fy ρ).bind fun y => match y.1 with
  | .int j => (fx y.2).bind fun x => (s[j.toNat]?).bind fun ds => if 0 ≤ j ∧ ds.length < 100000 then some (x.2, s.set j.toNat (ds ++ [x.1])) else none
  | _ => none
theorem dn_app {fy fx : M} (h : PS X st (tDrop (tBM X.K "list" rAppend (tOp (rIx X.K) (tVar i) (teOf X.K T [] fy)) (tCons (teOf X.K T [] fx) tNil)))) : PS X st (tnOf X.K T i (nApp fy fx)) := PSi h fun Dn σ H ⟨E, G, ρ, dss, ps, p, ρ', dss', k, hJ, hp, n, hf, q⟩ => by
  obtain ⟨⟨y, ρ1⟩, h1, hf⟩ := Option.bind_eq_some_iff.mp hf
  cases y with
  | int j =>
    obtain ⟨⟨x, ρ2⟩, h2, hf⟩ := Option.bind_eq_some_iff.mp hf
    obtain ⟨ds, h3, hf⟩ := Option.bind_eq_some_iff.mp hf
    by_cases hc : 0 ≤ j ∧ ds.length < 100000
    · rw [if_pos hc] at hf
      cases hf
      have hlt : j.toNat < ps.length := by
        rw [n.len]
        exact (List.getElem?_eq_some_iff.mp h3).1
      have hps : ps[j.toNat]? = some ps[j.toNat] := List.getElem?_eq_getElem hlt
      refine ⟨.ref p, hp, Z.reb [] σ ρ G H, G, ρ, _, ρ1, k.reb, h1, fun v G1 H1 e1 k1 r1 => ?_⟩
      have n1 := n.step k1
      have k1' := k.unreb k1
      cases r1
      obtain ⟨hq, vs, ds1, b, c, d⟩ := n1.each _ _ hps
      rw [h3] at b
      cases b
      have hidx : L2.atI (ps.map V.ref) j = some (.ref ps[j.toNat]) := by
        have e1 : ((j.toNat : Nat) : Int) = j := by omega
        have h9 : L2.atI (ps.map V.ref) ((j.toNat : Nat) : Int) = some (.ref ps[j.toNat]) := atI_nat (by rw [List.getElem?_map, hps]; rfl)
        rw [e1] at h9
        exact h9
      refine .inl ⟨p, _, j, .ref ps[j.toNat], rfl, rfl, SqL.of n1.at_, hidx, ?_⟩
      refine ⟨.inl ⟨rfl, _, SqL.of c⟩, Z.reb [] σ ρ1 G1 H1, G1, ρ1, x, _, k1'.reb, h2, fun v2 G2 H2 e2 k2 r2 => ?_⟩
      have n2 := n1.step k2
      have k2' := k1'.unreb k2
      obtain ⟨hq2, vs2, ds2, b2, c2, d2⟩ := n2.each _ _ hps
      rw [h3] at b2
      cases b2
      refine ⟨_, vs2, v2, rfl, rfl, c2, by rw [← d2.len]; exact lt_line hc.2, ?_⟩
      exact q σ G2 _ (e1.trans e2) (k2'.wrF hq2.fresh) hp (n2.app hps h3 c2 r2)
    · rw [if_neg hc] at hf
      cases hf
  | _ => cases hf
def forN (gt : D → Env → Option Env) (gb : NF) : List D → NF
  | [], ρ, s => some (ρ, s)
  | d :: ds, ρ, s => (gt d ρ).bind fun ρ1 => (gb ρ1 s).bind fun r => forN gt gb ds r.1 r.2
def nFor (fi : MI) (gt : D → Env → Option Env) (gb : NF) : NF := fun ρ s => (fi ρ).bind fun p => forN gt gb p.1 p.2 s
theorem dn_for {fi : MI} {gb : NF} {pos : Pos} (hp : PassesOwn (model X.prog X.w) X.A X.env X.xe) (hc : X.calm = true) (hi : PI X tg iter (siOf X.K T [] fi)) (hg : PG X tg (tgOf X.K T ts [] gt)) (hb : PSs X body (tnOf X.K T i gb)) (hts : ts.contains i = false)
    (hs : ∀ x, foldedSetIterable iter X.env x = pure x := by intro _; rfl) : PS X (.For tg iter body [] pos) (tnOf X.K T i (nFor fi gt gb)) := PSi (ps_for hp hc hi hg hb hs) fun Dn σ H ⟨E, G, ρ, dss, ps, p, ρ', dss', k, hJ, hp, n, hf, q⟩ => by
  obtain ⟨⟨ds, ρ1⟩, h1, hf⟩ := Option.bind_eq_some_iff.mp hf
  have nts : i ∉ ts := notmem_of hts
  refine ⟨Z.reb [] σ ρ G H, G, ρ, ds, ρ1, k.reb, h1, fun J G1 H1 e1 k1 wk => ?_⟩
  have n1 := n.step k1
  have k1' := k.unreb k1
  let W : Nat → Nat → L2.St → Hp → Prop := fun j m σ H => m = ds.length - j ∧ j ≤ ds.length ∧ ∃ G2 ρ2 dss2, Ex G1 G2 ∧ EnvOk X.K T E [] G2 H σ ρ2 ∧ σ[i]? = some (some (.ref p)) ∧ Nst X.K T E G2 H p dss2 ps ∧ forN gt gb (ds.drop j) ρ2 dss2 = some (ρ', dss')
  refine ⟨W, ⟨ds.length, rfl, Nat.zero_le _, G1, ρ1, dss, Ex.refl G1, k1', hp, n1, hf⟩, ?_⟩
  rintro j m σ2 H2 ⟨rfl, hle, G2, ρ2, dss2, e2, k2, hp2, n2, hf2⟩
  obtain ⟨w1, w2, w3⟩ := wk G2 H2 e2 k2.sub k2.tab
  by_cases hlt : j < ds.length
  · refine .inr ⟨w1 j hlt, fun σ' H' => W (j + 1) (ds.length - (j + 1)) σ' H', fun σ' H' h => ⟨_, by omega, h⟩, fun x H3 y => ?_⟩
    obtain ⟨d, G3, hd, s3, r3⟩ := w2 j x H3 hlt y
    have k3 := k2.step s3
    have n3 : Nst X.K T E G3 H3 p dss2 ps := n2.step (k2.reb.step s3)
    have hdrop : ds.drop j = d :: ds.drop (j + 1) := by
      rw [List.drop_eq_getElem_cons hlt]
      rw [List.getElem?_eq_getElem hlt] at hd
      rw [Option.some.inj hd]
    rw [hdrop] at hf2
    obtain ⟨ρ3, h3, hf2⟩ := Option.bind_eq_some_iff.mp hf2
    obtain ⟨⟨ρ4, dss4⟩, h4, hf2⟩ := Option.bind_eq_some_iff.mp hf2
    refine ⟨E, G3, ρ2, d, ρ3, k3, r3, h3, fun σ4 k4 _ z4 => ⟨E, G3, ρ3, dss2, ps, p, ρ4, dss4, k4, hJ, by rw [z4 i nts]; exact hp2, n3, h4, fun σ' G' H' e' k' hp' n' => ?_⟩⟩
    exact ⟨rfl, hlt, G', ρ4, dss4, (e2.trans s3.g).trans e', k', hp', n', hf2⟩
  · have hi' : j = ds.length := by omega
    subst hi'
    rw [List.drop_length] at hf2
    cases hf2
    exact .inl ⟨w3, q σ2 G2 H2 (e1.trans e2) k2 hp2 n2⟩
theorem dns_one {f : NF} (h : PS X st (tnOf X.K T i f)) : PSs X [st] (tnOf X.K T i f) := pss_one h
/-- the lists are seen, the list of them is one's own -/
theorem Nst.done (k : EnvOk K T E [] G H σ ρ) (hJ : E.J = []) (n : Nst K T E G H p dss ps) : ∃ G2, Ex G G2 ∧ EnvOk K T E [] G2 H σ ρ ∧ Own K G2 H (.lst (dss.map D.lst)) p ∧ G2 p = none := by
  have hidden : ∀ q ∈ ps, Hid T E G q ∧ ∃ vs ds, H q = some (.lst vs) ∧ Rps K G ds vs := fun q hq => by
    obtain ⟨i, hi, e⟩ := List.getElem_of_mem hq
    obtain ⟨a, vs, ds, b, c, d⟩ := n.each i q (by rw [List.getElem?_eq_getElem hi, e])
    exact ⟨a, vs, ds, c, d⟩
  have ex : Ex G (seeA ps G H) := fun a o h => by
    by_cases ha : a ∈ ps
    · rw [(hidden a ha).1.g] at h
      cases h
    · rw [seeA_out ha]
      exact h
  refine ⟨seeA ps G H, ex, ⟨fun a o h => ?_, k.g0.trans ex, fun q o h g => ?_, fun P hP => ?_, k.len, fun i d hi hd => ?_, (fun i d hi _ => by cases hi), (fun i j p hi _ _ _ _ _ => by cases hi), (fun i p hp => by rw [hJ] at hp; cases hp)⟩, ?_, ?_⟩
  · by_cases ha : a ∈ ps
    · rw [seeA_in ha] at h
      exact h
    · rw [seeA_out ha] at h
      exact k.sub a o h
  · obtain ⟨x, y⟩ := k.h0 q o h g
    have nq : q ∉ ps := fun hq => by
      rw [(hidden q hq).1.e] at h
      cases h
    exact ⟨by rw [seeA_out nq]; exact x, y⟩
  · have nq : P ∉ ps := fun hq => (hidden P hq).1.t hP
    exact ⟨(k.tab P hP).1, by rw [seeA_out nq]; exact (k.tab P hP).2⟩
  · obtain ⟨v, a, b⟩ := k.sh i d hi hd
    exact ⟨v, a, b.mono ex⟩
  · refine .lst n.at_ ?_
    have main : ∀ (dss : List (List D)) (qs : List Addr), qs.length = dss.length → (∀ (i : Nat) (q : Addr), qs[i]? = some q → q ∈ ps ∧ ∃ vs ds, dss[i]? = some ds ∧ H q = some (.lst vs) ∧ Rps K G ds vs) → Rps K (seeA ps G H) (dss.map D.lst) (qs.map V.ref) := by
      intro dss
      induction dss with
      | nil =>
        intro qs hl _
        cases qs with
        | nil => exact .nil
        | cons _ _ => cases hl
      | cons ds dss ih =>
        intro qs hl h
        cases qs with
        | nil => cases hl
        | cons q qs =>
          refine .cons ?_ (ih qs (by simpa using hl) fun i q' hq => ?_)
          · obtain ⟨a, vs, ds', b, c, d⟩ := h 0 q rfl
            cases b
            exact .lst (SqL.of (by rw [seeA_in a]; exact c)) (d.mono ex)
          · obtain ⟨a, vs, ds', b, c⟩ := h (i + 1) q' (by simpa using hq)
            exact ⟨a, vs, ds', by simpa using b, c⟩
    exact main dss ps n.len fun i q hq => ⟨List.mem_of_getElem? hq, by
      obtain ⟨_, vs, ds, b, c, d⟩ := n.each i q hq
      exact ⟨vs, ds, b, c, d⟩⟩
  · rw [seeA_out n.nin]
    exact n.hid.g
def eDum : M := fun ρ => some (.non, ρ)
/-- found = [[] for ..]; f; return found -/
def sNst (i : Nat) (fi : MI) (vs : List Nat) (gt : D → Env → Option Env) (f : NF) : MS := fun ρ => (fi ρ).bind fun p => if p.1.length ≤ 100000 ∧ i < p.2.length then (compG vs gt tTrue eDum p.1 p.2).bind fun r =>
  (f ((restE vs p.2 r.2).set i none) (List.replicate p.1.length [])).map fun s => .rf (.lst (s.2.map D.lst)) s.1 else none
theorem Nst.add (k : EnvOk K T E [] G H σ ρ) (n : Nst K T E G H p dss ps) (hq : H q = none) : EnvOk K T E [] G (upd (upd H q (.lst [])) p (.lst (ps.map V.ref ++ [V.ref q]))) σ ρ ∧ (upd H q (.lst [])) p = some (.lst (ps.map V.ref)) ∧ Nst K T E G (upd (upd H q (.lst [])) p (.lst (ps.map V.ref ++ [V.ref q]))) p (dss ++ [[]]) (ps ++ [q]) := by
  have npq : p ≠ q := ne_of_none n.at_ hq
  obtain ⟨k1, f1⟩ := k.own (o := .lst []) hq
  have hin : q ∉ ps := fun hm => by
    obtain ⟨i, hi, e⟩ := List.getElem_of_mem hm
    obtain ⟨a, vs, ds, b, c, d⟩ := n.each i q (by rw [List.getElem?_eq_getElem hi, e])
    rw [hq] at c
    cases c
  refine ⟨k1.wrF n.hid.fresh, by rw [upd_ne npq]; exact n.at_, ⟨by rw [upd_same, List.map_append]; rfl, n.hid, ?_, ?_, by rw [List.length_append, List.length_append, n.len]; rfl, fun i q' hq' => ?_⟩⟩
  · rw [List.nodup_append]
    refine ⟨n.nd, by simp, fun a ha b hb => ?_⟩
    rw [List.mem_singleton.mp hb]
    exact fun z => hin (z ▸ ha)
  · rw [List.mem_append, not_or]
    exact ⟨n.nin, by simpa using npq⟩
  · by_cases hi : i < ps.length
    · rw [List.getElem?_append_left hi] at hq'
      obtain ⟨a, vs, ds, b, c, d⟩ := n.each i q' hq'
      have n1 : q' ≠ q := ne_of_none c hq
      have n2 : q' ≠ p := fun z => n.nin (z ▸ List.mem_of_getElem? hq')
      exact ⟨a, vs, ds, by rw [List.getElem?_append_left (by rw [← n.len]; exact hi)]; exact b, by rw [upd_ne n2, upd_ne n1]; exact c, d⟩
    · rw [List.getElem?_append_right (by omega)] at hq'
      have hi0 : i - ps.length = 0 := by
        have := (List.getElem?_eq_some_iff.mp hq').1
        simp at this
        omega
      rw [hi0] at hq'
      simp at hq'
      subst hq'
      refine ⟨⟨f1.g, f1.t, f1.e⟩, [], [], ?_, by rw [upd_ne (Ne.symm npq), upd_same], .nil⟩
      rw [List.getElem?_append_right (by rw [← n.len]; omega), ← n.len, hi0]
      rfl
theorem EnvOk.setN {x : Option V} (k : EnvOk K T E [] G H σ ρ) (hJ : E.J = []) : EnvOk K T E [] G H (σ.set i x) (ρ.set i none) where
  sub := k.sub
  g0 := k.g0
  h0 := k.h0
  tab := k.tab
  len := by rw [List.length_set, List.length_set]; exact k.len
  sh := fun j d hj hd => by
    by_cases e : i = j
    · subst e
      have hl : i < ρ.length := by
        have := (List.getElem?_eq_some_iff.mp hd).1
        rwa [List.length_set] at this
      rw [List.getElem?_set_self hl] at hd
      cases hd
    · rw [List.getElem?_set_ne e] at hd
      rw [List.getElem?_set_ne e]
      exact k.sh j d hj hd
  ow := fun i d hi _ => by cases hi
  dj := fun i j p hi _ _ _ _ _ => by cases hi
  io := fun i p hp => by
    rw [hJ] at hp
    cases hp
theorem dss_nst {ω' : List Nat} {fi : MI} {f : NF} (h1 : PS X st1 (tAsg (tLc (siOf X.K T [] fi) (tgOf X.K T ts [] gt) (ttOf X.K T [] tTrue) (tLst tNil) vs) (gName i))) (h2 : PS X st2 (tnOf X.K T i f)) (h3 : PS X st3 (tRet (tVar i))) (hts : subs ts vs = true) :
    PSs X [st1, st2, st3] (tsOf X.K T false [] ω' (sNst i fi vs gt f)) := PSsi (pss_cons h1 (pss_cons h2 (pss_one h3))) fun Dn σ H ⟨E, G, ρ, o, k, hio, hg, q⟩ => by
  have hJ : E.J = [] := hio
  have hts := subs_ok hts
  obtain ⟨⟨ds, ρ1⟩, e1, hg⟩ := Option.bind_eq_some_iff.mp hg
  by_cases hz : ds.length ≤ 100000 ∧ i < ρ1.length
  case neg =>
    rw [if_neg hz] at hg
    cases hg
  rw [if_pos hz] at hg
  obtain ⟨hz, hil⟩ := hz
  obtain ⟨⟨r, ρ2⟩, e2, hg⟩ := Option.bind_eq_some_iff.mp hg
  obtain ⟨⟨ρ3, dss3⟩, e3, hg⟩ := Option.map_eq_some_iff.mp hg
  cases hg
  refine ⟨E, G, ρ, ds, ρ1, k, e1, fun J G1 H1 x1 k1 wk => fun Dl hD => ?_⟩
  obtain ⟨k1o, fr1⟩ := k1.own (o := .lst []) hD
  have hv : ∀ i ∈ vs, i ∉ ([] : List Nat) := fun i _ h => by cases h
  let W : Nat → Nat → Hp → Prop := fun j m H => m = ds.length - j ∧ j ≤ ds.length ∧ ∃ G2 ρc ps r', Ex G1 G2 ∧ EnvOk X.K T E [] G2 H (L2.wipe σ vs) (wipeE vs ρc) ∧ Nst X.K T E G2 H Dl (List.replicate j []) ps ∧ compG vs gt tTrue eDum (ds.drop j) ρc = some (r', ρ2)
  refine ⟨W, ⟨ds.length, rfl, Nat.zero_le _, G1, ρ1, [], r, Ex.refl G1, k1o.blk hv, ⟨upd_same, ⟨fr1.g, fr1.t, fr1.e⟩, .nil, by simp, rfl, fun i q hq => by simp at hq⟩, e2⟩, ?_⟩
  rintro j m H2 ⟨rfl, hle, G2, ρc, ps, r', x2, k2, n2, hc⟩
  obtain ⟨w1, w2, w3⟩ := wk G2 H2 x2 k2.sub k2.tab
  by_cases hlt : j < ds.length
  · refine .inr ⟨w1 j hlt, fun H' => W (j + 1) (ds.length - (j + 1)) H', fun H' h => ⟨_, by omega, h⟩, fun x H3 y => ?_⟩
    obtain ⟨dd, G3, hd, s3, r3⟩ := w2 j x H3 hlt y
    have k3 := k2.step s3
    have n3 : Nst X.K T E G3 H3 Dl (List.replicate j []) ps := n2.step (k2.reb.step s3)
    have hdrop : ds.drop j = dd :: ds.drop (j + 1) := by
      rw [List.drop_eq_getElem_cons hlt]
      rw [List.getElem?_eq_getElem hlt] at hd
      rw [Option.some.inj hd]
    rw [hdrop] at hc
    obtain ⟨ρ4, h4, hc⟩ := Option.bind_eq_some_iff.mp hc
    obtain ⟨⟨b, ρ5⟩, h5, hc⟩ := Option.bind_eq_some_iff.mp hc
    cases h5
    refine ⟨E, G3, wipeE vs ρc, dd, ρ4, k3, r3, h4, fun σ4 k4 l4 z4 => ?_⟩
    have hw : L2.wipe σ4 vs = L2.wipe σ vs := wipe_eq l4 fun j hj => z4 j fun hm => hj (hts j hm)
    refine ⟨hw, Z.reb [] σ4 ρ4 G3 H3, G3, ρ4, true, _, k4.reb, rfl, fun G5 H5 x5 k5 => ?_⟩
    simp only [if_true] at hc ⊢
    obtain ⟨⟨y6, ρ6⟩, h6, hc⟩ := Option.bind_eq_some_iff.mp hc
    cases h6
    obtain ⟨⟨r7, ρ7⟩, h7, hc⟩ := Option.map_eq_some_iff.mp hc
    cases hc
    have n5 := n3.step k5
    have k5' := k4.unreb k5
    refine ⟨Nat.zero_le _, fun qa hqa => ?_⟩
    have k6 := k5'.blk hv
    rw [hw] at k6
    obtain ⟨k7, a7, n7⟩ := n5.add k6 hqa
    refine ⟨_, a7, ?_, rfl, hlt, G5, _, ps ++ [qa], _, (x2.trans s3.g).trans x5, k7, ?_, h7⟩
    · rw [List.length_map, n5.len, List.length_replicate]
      exact lt_line (by omega)
    · rw [List.replicate_succ']
      exact n7
  · have hi' : j = ds.length := by omega
    subst hi'
    rw [List.drop_length] at hc
    cases hc
    have hlen : ρ2.length = ρ1.length := by
      have a := k2.len
      have b := k1.len
      rw [wipe_length, wipeE_len] at a
      omega
    have k3 := k1.unblk hv x2 k2 hlen
    refine .inl ⟨w3, ?_⟩
    have hsl : i < σ.length := by rw [k1.len]; exact hil
    refine ⟨E, G2, _, _, ps, Dl, ρ3, dss3, k3.setN (i := i) (x := some (.ref Dl)) hJ, hJ, by rw [List.getElem?_set_self hsl], n2, e3, fun σ' G' H' e' k' hp' n' => ?_⟩
    obtain ⟨G9, x9, k9, w9, g9⟩ := n'.done k' hJ
    exact ⟨_, hp', q _ [] _ G9 H' (((x1.trans x2).trans e').trans x9) k9 w9 n'.hid.e g9 n'.hid.t⟩
end
end Z
/-! Defs with code tables; an own list's entry; the order of own slots. -/
namespace Z
open PySem PySem.Spec PyProof.Rows L2 RZ GxR
/-- a def's code object -/
def codeAt (K : PySem.W.Frag) (f : Addr) : Addr := match K.lookup f with
  | some ⟨_, _, .func fd, _⟩ => (match fd.code with
    | .ref c => c
    | _ => 0)
  | _ => 0
theorem codeIn_ref {K : PySem.W.Frag} {cd : Value} {q : PySem.Str} (h : PySem.W.codeIn K cd q = true) : ∃ c, cd = .ref c := by
  cases cd with
  | ref c => exact ⟨c, rfl⟩
  | _ => cases h
section
variable {P : Program} {w : World} {K : PySem.W.Frag} {T : List Addr} {mg : PySem.Str → Option Value} {base : Heap} {x qual : PySem.Str} {params : Arguments} {body : List Stmt} {scope : Scope} {f : Addr} {fd : FuncData} {N ps : List PySem.Str} {k : Nat} {g : MS} {kwv : List (PySem.Str × V)}
theorem FunD.okC {CX : CXT} {sp : Sp} {dvs : List V} (F : FunD K x qual params body scope dvs kwv f fd) (S : FnScope N ps scope) (len : ∀ vs H Q E, sp vs H Q E → vs.length = ps.length)
    (hbody : ∀ (A : Around) (outer : List PySem.Env) (s : Shared) (H : Hp) (vs : List V) (Q : VK) (E : XK), Room k (A.deeper (envOfC qual scope s.heap.objs.size f (.ref (codeAt K f)))) → sp vs H Q E →
      ∃ t, PSs (cxOf CX P w K mg base N qual scope f (.ref (codeAt K f)) A outer s H E) body t ∧ t { nx := fun _ H' => Q .non H', rt := Q } (L2.start N vs) H) : FnOk P w K mg base CX (k + 1) f fd ps sp := by
  obtain ⟨oc, od, dV, kV, doc, pm, an, cdv, ct, osl, rfl, lk, hcd, _, _⟩ := F.ex
  obtain ⟨c, rfl⟩ := Z.codeIn_ref hcd
  have hc : codeAt K f = c := by
    unfold codeAt
    rw [lk]
  rw [hc] at hbody
  exact fn_of lk hcd S len fun A outer s H vs Q E hr hsp => hbody A outer s H vs Q E hr hsp
theorem post_fin {G H : Hp} {Q : VK} {m : Nat} {ds : List D} {d : D} {o : Out} {ω' : List Nat} (hg : g (envOf m ds) = some o) (hf : runP m g ds = some d) (q : ∀ v G' H', Step T G H G' H' → Rp K G' d v → Q v H') : Post K T ⟨G, H, []⟩ G ω' { nx := fun _ H' => Q .non H', rt := Q } o := by
  unfold runP at hf
  rw [hg] at hf
  cases o with
  | nx ρ =>
    cases hf
    exact fun σ' G' H' _ k' => q .non G' H' k'.exit .non
  | rt d' ρ =>
    cases hf
    exact fun v ω'' σ' G' H' _ k' r' => q v G' H' k'.exit r'
  | rf d' ρ =>
    cases hf
    exact fun p ω'' σ' G' H' _ k' wn he hg' ht => by
      obtain ⟨G2, st, r2⟩ := exit_see k' wn he hg' ht
      exact q _ G2 H' st r2
/-- the code object known, defaults and keyword-only values allowed: all parameters are bound -/
theorem fnPC {dvs : List V} (F : FunD K x qual params body scope dvs kwv f fd) (S : FnScope N ps scope) {n m : Nat} (hn : ps.length = n) (hm : N.length - n = m)
    (hbody : ∀ (A : Around) (outer : List PySem.Env) (s : Shared) (H : Hp) (E : XK), Room k (A.deeper (envOfC qual scope s.heap.objs.size f (.ref (codeAt K f)))) → ∃ ω', PSs (cxOf CX0 P w K mg base N qual scope f (.ref (codeAt K f)) A outer s H E).nox body (tsOf K T false [] ω' g)) :
    FnOk P w K mg base CX0 (k + 1) f fd ps (spP K T n (runP m g)) := by
  refine FunD.okC F S (fun vs H Q E h => ?_) (fun A outer s H vs Q E hr h => ?_)
  · obtain ⟨_, _, _, hl, _⟩ := h
    rw [hl, hn]
  · obtain ⟨G, ds, d, hl, se, tb, r, hf, q⟩ := h
    obtain ⟨ω', hb⟩ := hbody A outer s H E hr
    refine ⟨_, PSs.nox hb, ⟨G, H, []⟩, G, envOf m ds, ?_⟩
    have k0 : EnvOk K T ⟨G, H, []⟩ [] G H (L2.start N vs) (envOf m ds) := entry se tb r (by rw [hl]; exact hm)
    cases hg : g (envOf m ds) with
    | none =>
      unfold runP at hf
      rw [hg] at hf
      cases hf
    | some o => exact ⟨o, k0, rfl, rfl, post_fin hg hf q⟩
end
section
variable {K : PySem.W.Frag} {T : List Addr} {X : Cx} {io : Bool} {ω ω' ω1 ω2 : List Nat} {E : Ent} {G H G' H' : Hp} {σ : L2.St} {ρ ρ' : Env} {e a b : Expr} {f fb : M} {i : Nat} {g : MS} {st : Stmt} {body : List Stmt}
/-- the entry of an own list -/
def eOIx (i : Nat) (fb : M) : M := fun ρ => (lstAt i ρ).bind fun _ => (fb ρ).bind fun q => (lstAt i q.2).bind fun ds => (ixD (.lst ds) q.1).map fun d => (d, q.2)
theorem de_oix {pos : Pos} (ha : PE X a (tVar i)) (hb : PE X b (teOf X.K T ω fb)) (hi : ω.contains i = true) (hs : PlainIx b := by exact fun _ _ => rfl) : PE X (.Subscript a b pos) (teOf X.K T ω (eOIx i fb)) := PEi (pe_ix ix_seq ha hb hs) fun σ H Q ⟨E, G, ρ, d, ρ', k, hf, q⟩ => by
  obtain ⟨ds0, h0, hf⟩ := Option.bind_eq_some_iff.mp hf
  obtain ⟨⟨x, ρ1⟩, h1, hf⟩ := Option.bind_eq_some_iff.mp hf
  obtain ⟨ds, h2, hf⟩ := Option.bind_eq_some_iff.mp hf
  obtain ⟨d', h3, hf⟩ := Option.map_eq_some_iff.mp hf
  cases hf
  have hm := List.contains_iff_mem.mp hi
  obtain ⟨p, vs0, a0, b0, r0⟩ := k.lst hm h0
  refine ⟨.ref p, a0, E, G, ρ, x, _, k, h1, fun v G1 H1 e1 k1 r1 => ?_⟩
  obtain ⟨p', vs, a1, b1, r⟩ := k1.lst hm h2
  rw [a0] at a1
  cases a1
  cases r1 with
  | int j =>
    obtain ⟨v, h4, h5⟩ := r.atI (show L2.atI ds j = some d from h3)
    exact .inl ⟨p, vs, j, v, rfl, rfl, SqL.of b1, h4, q v G1 H1 e1 k1 h5⟩
  | _ => cases h3
/-- own slots in another order -/
def sameW (ω ω' : List Nat) : Bool := ω.all ω'.contains && ω'.all ω.contains
theorem sameW_iff {ω ω' : List Nat} (h : sameW ω ω' = true) (i : Nat) : i ∈ ω ↔ i ∈ ω' := by
  have h' := Bool.and_eq_true_iff.mp (show (ω.all ω'.contains && ω'.all ω.contains) = true from h)
  exact ⟨fun z => List.contains_iff_mem.mp (List.all_eq_true.mp h'.1 i z), fun z => List.contains_iff_mem.mp (List.all_eq_true.mp h'.2 i z)⟩
theorem EnvOk.perm (h : sameW ω ω' = true) (k : EnvOk K T E ω G H σ ρ) : EnvOk K T E ω' G H σ ρ := by
  have m := sameW_iff h
  exact ⟨k.sub, k.g0, k.h0, k.tab, k.len, fun i d hi hd => k.sh i d (fun z => hi ((m i).mp z)) hd, fun i d hi hd => k.ow i d ((m i).mpr hi) hd, fun i j p hi hj => k.dj i j p ((m i).mpr hi) ((m j).mpr hj), fun i p hp => by
    obtain ⟨a, b, c⟩ := k.io i p hp
    exact ⟨(m i).mp a, b, c⟩⟩
theorem perm_imp {t : TS} (h1 : sameW ω ω1 = true) (h2 : sameW ω2 ω' = true) (h : ∀ Dn σ H, tsOf K T io ω1 ω2 g Dn σ H → t Dn σ H) : ∀ Dn σ H, tsOf K T io ω ω' g Dn σ H → t Dn σ H := fun Dn σ H ⟨E, G, ρ, o, k, hio, hg, q⟩ => by
  refine h Dn σ H ⟨E, G, ρ, o, k.perm h1, hio, hg, ?_⟩
  cases o with
  | nx ρ => exact fun σ' G' H' e k' => q σ' G' H' e (k'.perm h2)
  | rt d ρ => exact q
  | rf d ρ => exact q
theorem ds_perm (h : PS X st (tsOf X.K T io ω1 ω2 g)) (h1 : sameW ω ω1 = true := by rfl) (h2 : sameW ω2 ω' = true := by rfl) : PS X st (tsOf X.K T io ω ω' g) := PSi h (perm_imp h1 h2 fun _ _ _ z => z)
theorem dss_perm (h : PSs X body (tsOf X.K T io ω1 ω2 g)) (h1 : sameW ω ω1 = true := by rfl) (h2 : sameW ω2 ω' = true := by rfl) : PSs X body (tsOf X.K T io ω ω' g) := PSsi h (perm_imp h1 h2 fun _ _ _ z => z)
end
end Z
/-! What a caller knows of a def; blocks by a Bool. -/
namespace Z
open PySem PySem.Spec PyProof.Rows L2 RZ GxR
structure Ca (P : Program) (w : World) (K : PySem.W.Frag) (mg : PySem.Str → Option Value) (base : Heap) (x : PySem.Str) (L : Nat) (f : Addr) (fd : FuncData) (ps : List PySem.Str) (sp : Sp) : Prop where
  F : FnOk P w K mg base CX0 L f fd ps sp
  B : Binds K fd ps []
  G : mg x = some (.ref f)
  Kp : PySem.W.keepIn K (.ref f) = true
structure CaM (P : Program) (w : World) (K : PySem.W.Frag) (mg : PySem.Str → Option Value) (base : Heap) (L : Nat) (f : Addr) (fd : FuncData) (ps : List PySem.Str) (sp : Sp) : Prop where
  F : FnOk P w K mg base CX0 L f fd ps sp
  B : Binds K fd ps []
def blkB (N : List PySem.Str) (sc scope : Scope) (own : List (PySem.Str × Nat)) : Bool :=
  decide (scope.kind = .function) && ((scope.names.all fun y => decide (scope.names.lookup y.1 = some y.2)) && ((own.all fun p => decide (N[p.2]? = some p.1)) &&
    ((scope.names.all fun y => decide (y.2 = .free → sc.names.lookup y.1 = some .cell ∨ sc.names.lookup y.1 = some .free)) && (scope.names.all fun y => decide (y.2 = .local ∨ y.2 = .cell → y.1 ∈ own.map (·.1) ∨ y.1 ∉ N)))))
theorem blk_ok {N : List PySem.Str} {sc scope : Scope} {own : List (PySem.Str × Nat)} (h : blkB N sc scope own = true) : BlkOk N sc scope own := by
  unfold blkB at h
  obtain ⟨h1, h⟩ := Bool.and_eq_true_iff.mp h
  obtain ⟨h2, h⟩ := Bool.and_eq_true_iff.mp h
  obtain ⟨h3, h⟩ := Bool.and_eq_true_iff.mp h
  obtain ⟨h4, h5⟩ := Bool.and_eq_true_iff.mp h
  exact ⟨of_decide_eq_true h1, fun y hy => of_decide_eq_true (List.all_eq_true.mp h2 y hy), fun p hp => of_decide_eq_true (List.all_eq_true.mp h3 p hp), fun y hy => of_decide_eq_true (List.all_eq_true.mp h4 y hy), fun y hy => of_decide_eq_true (List.all_eq_true.mp h5 y hy)⟩
theorem gs_nofree {names : List (PySem.Str × NameKind)} {cells : List (PySem.Str × Addr)} (h : (names.all fun y => !decide (y.2 = .free)) = true) : ∀ y ∈ names, y.2 = .free → ∃ c, cells.lookup y.1 = some c := fun y hy hf => by
  have := List.all_eq_true.mp h y hy
  simp [hf] at this
theorem gs_free1 {names : List (PySem.Str × NameKind)} {cells : List (PySem.Str × Addr)} {y : PySem.Str} (h : (names.all fun z => !decide (z.2 = .free) || decide (z.1 = y)) = true) (hc : ∃ c, cells.lookup y = some c) : ∀ y ∈ names, y.2 = .free → ∃ c, cells.lookup y.1 = some c := fun z hz hf => by
  have := List.all_eq_true.mp h z hz
  simp [hf] at this
  rw [this]
  exact hc
theorem de_callK0 {T : List Addr} {X : Cx} {ω : List Nat} {e : Expr} {fk : MA} {n m : Nat} {perm : List Nat} {g : List D → Option D} (h : PE X e (tCallN 0 m (spP X.K T n g) (fun vs zs => permL perm (vs ++ zs)) E0 tNil (taOf X.K T ω fk))) (hk : ∀ ρ ds ρ', fk ρ = some (ds, ρ') → ds.length = m)
    (hp : ∀ zs : List D, zs.length = m → (permL perm zs).length = n) : PE X e (teOf X.K T ω (eCaK perm g aNil fk)) := PEi h fun σ H Q ⟨E, G, ρ, d, ρ', k, hf, q⟩ => by
  obtain ⟨⟨x, ρ1⟩, h1, hf⟩ := Option.bind_eq_some_iff.mp hf
  cases h1
  obtain ⟨⟨y, ρ2⟩, h2, hf⟩ := Option.bind_eq_some_iff.mp hf
  obtain ⟨d', h3, hf⟩ := Option.map_eq_some_iff.mp hf
  cases hf
  refine ⟨E, G, ρ, y, _, k, h2, fun w G2 H2 e2 k2 r2 => ⟨rfl, by rw [← r2.len]; exact hk _ _ _ h2, ?_⟩⟩
  have rr := r2.perm perm
  refine ⟨G2, _, d, ?_, k2.sub, k2.tab, rr, h3, fun v G' H' s r => q v G' H' (e2.trans s.g) (k2.step s) r⟩
  show (permL perm w).length = n
  rw [← rr.len]
  exact hp _ (hk _ _ _ h2)
/-- the law's promise at the script -/
theorem law_sp {K : PySem.W.Frag} {T : List Addr} {H : Hp} {a : Addr} {ns : List Int} {f : List D → Option D} (hT : ∀ q ∈ T, H q = some (.tbl #[])) (hS : SqL K H a (ns.map V.int)) (hf : f [.lst (ns.map D.int)] = some (.bl true)) : spP K T 1 f [.ref a] H (fun v _ => v = .bl true) fun _ _ _ => False := by
  classical
  refine ⟨fun b => if b ∈ T then none else H b, [.lst (ns.map D.int)], .bl true, rfl, fun b o h => ?_, fun q hq => ⟨⟨#[], hT q hq, ?_⟩, if_pos hq⟩, .cons (.lst ?_ (Rps.ints ns)) .nil, hf, fun v G' H' s r => ?_⟩
  · by_cases hb : b ∈ T
    · simp only [if_pos hb] at h
      cases h
    · simp only [if_neg hb] at h
      exact h
  · exact True.intro
  · rcases hS with h | h
    · refine .inl ?_
      have na : a ∉ T := fun z => by
        have e := hT a z
        rcases h with h | ⟨o, h⟩ <;> rw [e] at h <;> cases h
      rcases h with h | ⟨o, h⟩
      · exact .inl (by simp only [if_neg na]; exact h)
      · exact .inr ⟨o, by simp only [if_neg na]; exact h⟩
    · exact .inr h
  · cases r
    rfl
end Z
/-! More built-ins: plain tuples, dicts of them, sorted pairs, a sign's place in a text, x.pop(i). -/
namespace Z
open PySem PySem.Spec PyProof.Rows L2 RZ GxR
section
variable {X : Cx}
/-! ### tuple(list): a plain tuple -/
def rTupP (K : PySem.W.Frag) : List V → Hp → VK → Prop := fun xs H Q => ∃ p ys, xs = [.ref p] ∧ SqL K H p ys ∧ ∀ (l : Addr) (ob : Obj), ob.dict = none → H l = none → Q (.ref l) (upd H l (.frz ob (.tup ys)))
theorem cr_tupP : CallR X (.type "tuple") (rTupP X.K) := by
  intro pins s σ H xs us Q I r h
  obtain ⟨p, ys, rfl, hq, q⟩ := h
  obtain ⟨u, rfl, rx⟩ := vals1 r
  cases rx
  obtain ⟨its, r', pl, hz⟩ := I.list hq
  have hlen := r'.length
  refine call_tuple_list pl.isList (fun h' kp => ?_) (by
    rw [List.size_toArray]
    omega)
  have I1 : Inv X pins σ H { s with heap := h' } := I.kept (t' := s.toks) kp
  obtain ⟨ob, hob⟩ : ∃ ob : Obj, ob = { cls := .type "tuple", data := .seq its.toArray } := ⟨_, rfl⟩
  have hpush : (h'.push ob).get? h'.objs.size = some ob := Heap.get?_push_size _ (by rw [hob]; rfl)
  have hnew : ObjOk X.prog X.w (upd H h'.objs.size (.frz ob (.tup ys))) (h'.push ob) h'.objs.size (.frz ob (.tup ys)) := ⟨hpush, hz, its, r', ob, hpush, by rw [hob], 0, by rw [hob]⟩
  have I2 := I1.laid (o := .frz ob (.tup ys)) (h' := h'.push ob) (t' := s.toks) (fun b o e => Heap.get?_push_of_some _ e) (Nat.le_refl _) hnew
  subst hob
  exact ⟨.ref h'.objs.size, _, I2, rfl, q _ _ rfl (I1.hok.fresh (Nat.le_refl _))⟩
end
variable {K : PySem.W.Frag} {T : List Addr}
def ptupD : List D → Option D
  | [.lst ds] => some (.pt ds)
  | _ => none
theorem cas_ptup : CaS K T (rTupP K) ptupD := by
  intro xs d h G H us s t r Q q
  match xs, r, h with
  | [.lst ds], .cons r1 .nil, h =>
    cases h
    cases r1 with
    | @lst p vs _ g r =>
      refine ⟨p, vs, rfl, ex_l s g, fun l ob ho hl => ?_⟩
      have st := Step.new (o := .frz ob (.tup vs)) s t hl
      exact q _ _ _ st (.pt upd_same ho (r.mono st.g))
/-! ### pairs of ints as data -/
def pairD1 : D → Option (Int × Int)
  | .tup [.int i, .int j] => some (i, j)
  | _ => none
def pairsD : List D → Option (List (Int × Int))
  | [] => some []
  | d :: ds => (pairD1 d).bind fun p => (pairsD ds).map fun r => p :: r
def pairE (p : Int × Int) : D := .tup [.int p.1, .int p.2]
theorem pairD1_some {d : D} {p : Int × Int} (h : pairD1 d = some p) : d = pairE p := by
  unfold pairD1 at h
  split at h
  · cases h
    rfl
  · cases h
theorem pairsD_some : ∀ {ds : List D} {ps : List (Int × Int)}, pairsD ds = some ps → ds = ps.map pairE
  | [], _, h => by
    cases h
    rfl
  | d :: ds, _, h => by
    obtain ⟨p, h1, h⟩ := Option.bind_eq_some_iff.mp h
    obtain ⟨r, h2, h⟩ := Option.map_eq_some_iff.mp h
    cases h
    rw [pairD1_some h1, pairsD_some h2]
    rfl
theorem Rp.pair {G : Hp} {p : Int × Int} {v : V} (r : Rp K G (pairE p) v) : ∃ t, v = .ref t ∧ G t = some (.tup [.int p.1, .int p.2]) := by
  cases r with
  | @tup a vs ds g r =>
    cases r with
    | cons r1 r =>
      cases r1
      cases r with
      | cons r2 r =>
        cases r2
        cases r
        exact ⟨a, rfl, g⟩
/-! ### sorted(a list of pairs) -/
def insP (p : Int × Int) : List (Int × Int) → List (Int × Int)
  | [] => [p]
  | q :: qs => if SrtO.lexB q p = true then q :: insP p qs else p :: q :: qs
def sortP : List (Int × Int) → List (Int × Int)
  | [] => []
  | p :: ps => insP p (sortP ps)
theorem insP_perm (p : Int × Int) : ∀ qs : List (Int × Int), (insP p qs).Perm (p :: qs)
  | [] => .refl _
  | q :: qs => by
    unfold insP
    split
    · exact ((insP_perm p qs).cons q).trans (.swap p q qs)
    · exact .refl _
theorem sortP_perm : ∀ ps : List (Int × Int), (sortP ps).Perm ps
  | [] => .refl _
  | p :: ps => (insP_perm p _).trans ((sortP_perm ps).cons p)
/-- never a greater one ahead of a lesser one -/
abbrev SrtP (l : List (Int × Int)) : Prop := l.Pairwise fun p q => SrtO.lexB q p = false
theorem insP_sorted (p : Int × Int) : ∀ {qs : List (Int × Int)}, SrtP qs → SrtP (insP p qs)
  | [], _ => by simp [insP]
  | q :: qs, h => by
    have h' := List.pairwise_cons.mp h
    unfold insP
    split
    · rename_i hc
      refine List.pairwise_cons.mpr ⟨fun x hx => ?_, insP_sorted p h'.2⟩
      rcases List.mem_cons.mp ((insP_perm p qs).mem_iff.mp hx) with rfl | hx
      · have := SrtO.lexB_iff.mp hc
        refine SrtO.lexB_no.mpr ?_
        omega
      · exact h'.1 x hx
    · rename_i hc
      have hc' : SrtO.lexB q p = false := by simpa using hc
      refine List.pairwise_cons.mpr ⟨fun x hx => ?_, h⟩
      rcases List.mem_cons.mp hx with rfl | hx
      · exact hc'
      · have a := SrtO.lexB_no.mp hc'
        have b := SrtO.lexB_no.mp (h'.1 x hx)
        refine SrtO.lexB_no.mpr ?_
        omega
theorem sortP_sorted : ∀ ps : List (Int × Int), SrtP (sortP ps)
  | [] => .nil
  | p :: ps => insP_sorted p (sortP_sorted ps)
theorem srtP_uniq : ∀ {as bs : List (Int × Int)}, as.Perm bs → SrtP as → SrtP bs → as = bs
  | [], bs, p, _, _ => (List.nil_perm.mp p).symm
  | a :: as, [], p, _, _ => absurd p.length_eq (by simp)
  | a :: as, b :: bs, p, ha, hb => by
    have ha' := List.pairwise_cons.mp ha
    have hb' := List.pairwise_cons.mp hb
    have hab : a = b := by
      have m1 : a ∈ b :: bs := p.mem_iff.mp (List.mem_cons_self ..)
      have m2 : b ∈ a :: as := p.mem_iff.mpr (List.mem_cons_self ..)
      rcases List.mem_cons.mp m1 with h | h
      · exact h
      · rcases List.mem_cons.mp m2 with h2 | h2
        · exact h2.symm
        · have x := SrtO.lexB_no.mp (hb'.1 a h)
          have y := SrtO.lexB_no.mp (ha'.1 b h2)
          refine Prod.ext ?_ ?_ <;> omega
    subst hab
    rw [srtP_uniq (List.Perm.cons_inv p) ha'.2 hb'.2]
def sortPD : List D → Option D
  | [.lst ds] => (pairsD ds).map fun ps => .lst ((sortP ps).map pairE)
  | _ => none
open Classical in
theorem cal_sortPD : CaL K (rSortedPO K) sortPD := by
  intro xs d h
  match xs, h with
  | [.lst ds], h =>
    obtain ⟨ps, h1, h2⟩ := Option.map_eq_some_iff.mp h
    cases h2
    have hds := pairsD_some h1
    subst hds
    refine ⟨_, rfl, fun G H us s r Q q => ?_⟩
    match us, r with
    | [_], .cons (.lst (vs := vs) g r1) .nil =>
      -- which pair a value stands for
      let k : V → Int × Int := fun v => match v with
        | .ref t => match G t with
          | some (.tup [.int i, .int j]) => (i, j)
          | _ => (0, 0)
        | _ => (0, 0)
      have hk : ∀ v ∈ vs, (∃ t, v = .ref t ∧ G t = some (.tup [.int (k v).1, .int (k v).2])) ∧ Rp K G (pairE (k v)) v := by
        clear q h h1
        have key : ∀ {ps : List (Int × Int)} {vs : List V}, Rps K G (ps.map pairE) vs → ∀ v ∈ vs, (∃ t, v = .ref t ∧ G t = some (.tup [.int (k v).1, .int (k v).2])) ∧ Rp K G (pairE (k v)) v := by
          intro ps
          induction ps with
          | nil =>
            intro vs r v hv
            cases r
            cases hv
          | cons p ps ih =>
            intro vs r v hv
            rw [List.map_cons] at r
            cases r with
            | cons r1 rs =>
              rcases List.mem_cons.mp hv with e | hv
              · subst e
                obtain ⟨t, e, hg⟩ := r1.pair
                subst e
                have ek : k (.ref t) = p := by
                  show (match G t with
                    | some (.tup [.int i, .int j]) => (i, j)
                    | _ => (0, 0)) = p
                  rw [hg]
                rw [ek]
                exact ⟨⟨t, rfl, hg⟩, r1⟩
              · exact ih rs v hv
        exact key r1
      have hmap : vs.map k = ps := by
        clear q h h1 hk
        have key : ∀ {ps : List (Int × Int)} {vs : List V}, Rps K G (ps.map pairE) vs → vs.map k = ps := by
          intro ps
          induction ps with
          | nil =>
            intro vs r
            cases r
            rfl
          | cons p ps ih =>
            intro vs r
            rw [List.map_cons] at r
            cases r with
            | cons r1 rs =>
              obtain ⟨t, e, hg⟩ := r1.pair
              subst e
              rw [List.map_cons, ih rs]
              congr 1
              show (match G t with
                | some (.tup [.int i, .int j]) => (i, j)
                | _ => (0, 0)) = p
              rw [hg]
        exact key r1
      refine ⟨_, vs, k, rfl, ex_l s g, fun x hx => ?_, fun ys p hs hst hp => ?_⟩
      · obtain ⟨⟨t, e, hg⟩, _⟩ := hk x hx
        exact ⟨t, e, s _ _ hg⟩
      · refine q p ys hp ?_
        have hperm := hst.perm
        have e1 : ys.map k = sortP ps := by
          refine srtP_uniq ((hperm.map k).trans (by rw [hmap]; exact (sortP_perm ps).symm)) ?_ (sortP_sorted ps)
          rw [SrtP, List.pairwise_map]
          exact hs
        rw [← e1]
        have : ∀ zs : List V, (∀ z ∈ zs, z ∈ vs) → Rps K G ((zs.map k).map pairE) zs := by
          intro zs
          induction zs with
          | nil => exact fun _ => .nil
          | cons z zs ih => exact fun hz => .cons (hk z (hz z (List.mem_cons_self ..))).2 (ih fun y hy => hz y (List.mem_cons_of_mem _ hy))
        exact this ys fun z hz => hperm.mem_iff.mp hz
/-! ### dict(a plain tuple of pairs) -/
section
variable {X : Cx}
theorem cr_dictPl (hcalm : X.calm = true) : CallR X (.type "dict") (fun xs H Q => ∃ (a : Addr) (ob : Obj) (ps : List Addr) (kvs : List (Key × V)), xs = [.ref a] ∧ H a = some (.frz ob (.tup (ps.map V.ref))) ∧ ob.dict = none ∧ Paired (fun p kv => SqT X.K H p [kV kv.1, kv.2]) ps kvs ∧
    ∀ p, H p = none → Q (.ref p) (upd H p (.dK (L2.mergeK [] kvs)))) := by
  intro pins s σ H xs us Q I r q
  obtain ⟨a, ob, ps, kvs, rfl, ha, hno, hpp, q⟩ := q
  obtain ⟨u, rfl, rx⟩ := vals1 r
  cases rx
  obtain ⟨hget, hz, its, rv, o, ho, hcl, n, hdt⟩ := I.hok a _ ha
  rw [hget] at ho
  cases ho
  have ei := refs_at rv
  subst ei
  rw [List.length_map] at hz
  obtain ⟨prs, rel, hl, hpr⟩ := pairs_of I hpp
  -- the pairs by values
  have hch : ∀ j : Nat, ∃ u : Value, ∀ w : Key × Value, prs[j]? = some w → ∃ b : Addr, ps[j]? = some b ∧ IsTup s.heap b #[u, w.2] ∧ keyIs w.1 u = true := fun j => by
    cases e : prs[j]? with
    | none => exact ⟨.none, fun w h => by cases h⟩
    | some w =>
      obtain ⟨b, u, e1, e2, e3⟩ := hpr j w e
      exact ⟨u, fun w' h => by cases h; exact ⟨b, e1, e2, e3⟩⟩
  obtain ⟨uf, huf⟩ := Classical.axiomOfChoice hch
  let pv : List (Value × Value) := prs.zipIdx.map fun w => (uf w.2, w.1.2)
  have hpv : ∀ (j : Nat) (kk v : Value), pv[j]? = some (kk, v) → ∃ w : Key × Value, prs[j]? = some w ∧ kk = uf j ∧ v = w.2 := fun j kk v e => by
    rw [List.getElem?_map, List.getElem?_zipIdx, Nat.zero_add] at e
    cases e2 : prs[j]? with
    | none =>
      rw [e2] at e
      cases e
    | some w =>
      rw [e2] at e
      cases e
      exact ⟨w, rfl, rfl, rfl⟩
  have hpl : pv.length = prs.length := by simp [pv]
  have hitems : PairItems s.heap (ps.map Value.ref).toArray (fun j => ps.getD j 0) pv := by
    refine ⟨by simp [hpl, hl], fun j kk v e => ?_⟩
    obtain ⟨w, e1, rfl, rfl⟩ := hpv j kk v e
    obtain ⟨b, e2, e3, _⟩ := huf j w e1
    have eb : ps.getD j 0 = b := by
      rw [List.getD_eq_getElem?_getD, e2]
      rfl
    refine ⟨by simp [e2, eb], .inl ?_⟩
    show s.heap.IsTuple (ps.getD j 0) _
    rw [eb]
    exact e3
  refine PySem.call_dict_pairs (knd := mixKind X.prog X.w) (kvs := prs) (PairArg.tuple a (ps.map Value.ref).toArray (fun j => ps.getD j 0) pv) (I.ok.hd hcalm) ⟨⟨ob, n, hget, hcl, hno, hdt⟩, hitems⟩ ⟨hpl.symm, fun i kk v e => ?_⟩ (by rw [hpl, hl]; exact hz) fun h' tk hd' keep => ?_
  · obtain ⟨w, e1, rfl, rfl⟩ := hpv i kk v e
    obtain ⟨b, _, _, e4⟩ := huf i w e1
    exact ⟨w.1, e1, e4⟩
  · have hm : (s.heap.objs.size == sysModules) = false := beq_eq_false_iff_ne.mpr (Nat.ne_of_gt I.big)
    have hlen : (L2.mergeK [] kvs).length ≤ sizeLine := by
      have h1 := length_mergeK kvs []
      rw [List.length_nil, Nat.zero_add, rel.length, hl] at h1
      exact Nat.le_trans h1 hz
    have hnew : ObjOk X.prog X.w (upd H s.heap.objs.size (.dK (L2.mergeK [] kvs))) h' s.heap.objs.size (.dK (L2.mergeK [] kvs)) := ⟨hlen, hm, merged [] prs, KV.merge rel .nil, hd'⟩
    exact ⟨.ref s.heap.objs.size, _, I.laid (t' := tk) (fun b o e => keep b o (List.not_mem_nil) e) (Nat.le_refl _) hnew, rfl, q _ (I.hok.fresh (Nat.le_refl _))⟩
end
def dictPD : List D → Option D
  | [.pt ds] => (pairsD ds).bind fun ps => if (ps.map (·.1)).Nodup then some (.dic (ps.map fun p => (Sum.inl p.1 : Key)) (ps.map fun p => .int p.2)) else none
  | _ => none
theorem putK_new {kvs : List (Key × V)} {k : Key} {v : V} (h : k ∉ kvs.map (·.1)) : putK kvs k v = kvs ++ [(k, v)] := by
  unfold putK
  rw [if_neg]
  rw [List.any_eq_true]
  rintro ⟨x, hx, hd⟩
  exact h (List.mem_map.mpr ⟨x, hx, of_decide_eq_true hd⟩)
theorem merge_new : ∀ {more kvs : List (Key × V)}, ((kvs ++ more).map (·.1)).Nodup → L2.mergeK kvs more = kvs ++ more
  | [], kvs, _ => by simp [L2.mergeK]
  | p :: more, kvs, h => by
    have e : kvs ++ p :: more = (kvs ++ [p]) ++ more := by simp
    have hp : p.1 ∉ kvs.map (·.1) := by
      rw [List.map_append, List.nodup_append] at h
      intro hm
      exact h.2.2 p.1 hm p.1 (by simp) rfl
    show L2.mergeK (putK kvs p.1 p.2) more = _
    rw [putK_new hp, e, merge_new (by rw [← e]; exact h)]
theorem dl_dictP {X : Cx} {ω : List Nat} {e : Expr} {fs : MA} (h : PE X e (tCB (fun xs H Q => ∃ (a : Addr) (ob : Obj) (ps : List Addr) (kvs : List (Key × V)), xs = [.ref a] ∧ H a = some (.frz ob (.tup (ps.map V.ref))) ∧ ob.dict = none ∧ Paired (fun p kv => SqT X.K H p [kV kv.1, kv.2]) ps kvs ∧
    ∀ p, H p = none → Q (.ref p) (upd H p (.dK (L2.mergeK [] kvs)))) (taOf X.K T ω fs))) : PE X e (tlOf X.K T ω (eCa dictPD fs)) := PEi h fun σ H Q ⟨E, G, ρ, d, ρ', k, hf, q⟩ => by
  obtain ⟨⟨x, ρ1⟩, h1, hf⟩ := Option.bind_eq_some_iff.mp hf
  obtain ⟨d', h3, hf⟩ := Option.map_eq_some_iff.mp hf
  cases hf
  match x, h3 with
  | [.pt ds], h3 =>
    obtain ⟨ps, h4, h5⟩ := Option.bind_eq_some_iff.mp (show (pairsD ds).bind _ = some d from h3)
    by_cases hn : (ps.map (·.1)).Nodup
    · rw [if_pos hn] at h5
      cases h5
      have hds := pairsD_some h4
      subst hds
      refine ⟨E, G, ρ, _, _, k, h1, fun us G1 H1 e1 k1 r1 => ?_⟩
      match us, r1 with
      | [_], .cons (.pt (ob := ob) (vs := vs) g ho r) .nil =>
        have key : ∀ {ps : List (Int × Int)} {vs : List V}, Rps X.K G1 (ps.map pairE) vs → ∃ ts : List Addr, vs = ts.map V.ref ∧ Paired (fun p kv => SqT X.K H1 p [kV kv.1, kv.2]) ts (ps.map fun p => ((Sum.inl p.1 : Key), V.int p.2)) := by
          intro ps
          induction ps with
          | nil =>
            intro vs r
            cases r
            exact ⟨[], rfl, .nil⟩
          | cons p ps ih =>
            intro vs r
            rw [List.map_cons] at r
            cases r with
            | cons r1 rs =>
              obtain ⟨t, e, hg⟩ := r1.pair
              subst e
              obtain ⟨ts, e2, hp⟩ := ih rs
              subst e2
              exact ⟨t :: ts, rfl, .cons (SqT.of (k1.sub _ _ hg)) hp⟩
        obtain ⟨ts, e2, hp⟩ := key r
        subst e2
        refine ⟨_, ob, ts, _, rfl, k1.sub _ _ g, ho, hp, fun p hnew => ?_⟩
        have hmer : L2.mergeK [] (ps.map fun p => ((Sum.inl p.1 : Key), V.int p.2)) = ps.map fun p => ((Sum.inl p.1 : Key), V.int p.2) := by
          rw [merge_new]
          · rfl
          · rw [List.nil_append, List.map_map]
            have : ((fun x : Key × V => x.1) ∘ fun p : Int × Int => ((Sum.inl p.1 : Key), V.int p.2)) = fun p => (Sum.inl p.1 : Key) := rfl
            rw [this]
            have h6 : ps.map (fun p => (Sum.inl p.1 : Key)) = (ps.map (·.1)).map Sum.inl := by rw [List.map_map]; rfl
            rw [h6]
            exact List.Pairwise.map _ (fun a b hab e => hab (Sum.inl.inj e)) hn
        rw [hmer]
        obtain ⟨k2, f2⟩ := k1.own (o := .dK (ps.map fun p => ((Sum.inl p.1 : Key), V.int p.2))) hnew
        refine q p G1 _ e1 k2 (.dic upd_same ?_ ?_) f2
        · rw [List.map_map]
          rfl
        · rw [List.map_map]
          have : ∀ ps : List (Int × Int), Rps X.K G1 (ps.map fun p => .int p.2) (ps.map ((fun x : Key × V => x.2) ∘ fun p : Int × Int => ((Sum.inl p.1 : Key), V.int p.2))) := by
            intro ps
            induction ps with
            | nil => exact .nil
            | cons p ps ih => exact .cons (.int _) ih
          exact this ps
    · rw [if_neg hn] at h5
      cases h5
/-! ### a sign's place in a text -/
def sidxD : D → D → Option D
  | .str a, .str b => match Builtin.Str.occurrences a b 0 a.length 1 with
    | i :: _ => some (.int (i : Nat))
    | [] => none
  | _, _ => none
theorem de_sidx {X : Cx} {ω : List Nat} {e : Expr} {fa fb : M} (h : PE X e (tBM X.K "str" (fun x xs H Q => ∃ a b i rest, x = .str a ∧ xs = [.str b] ∧ Builtin.Str.occurrences a b 0 a.length 1 = i :: rest ∧ Q (.int (i : Nat)) H) (teOf X.K T ω fa) (tCons (teOf X.K T ω fb) tNil))) : PE X e (teOf X.K T ω (eBin sidxD fa fb)) := PEi h fun σ H Q ⟨E, G, ρ, d, ρ', k, hf, q⟩ => by
  obtain ⟨⟨x, ρ1⟩, h1, hf⟩ := Option.bind_eq_some_iff.mp hf
  obtain ⟨⟨y, ρ2⟩, h2, hf⟩ := Option.bind_eq_some_iff.mp hf
  obtain ⟨d', h3, hf⟩ := Option.map_eq_some_iff.mp hf
  cases hf
  refine ⟨E, G, ρ, x, ρ1, k, h1, fun u G1 H1 e1 k1 r1 => ?_⟩
  cases x with
  | str a =>
    cases r1
    refine ⟨rfl, E, G1, ρ1, y, _, k1, h2, fun v G2 H2 e2 k2 r2 => ?_⟩
    cases y with
    | str b =>
      cases r2
      have h3' : (match Builtin.Str.occurrences a b 0 a.length 1 with
        | i :: _ => some (D.int (i : Nat))
        | [] => none) = some d := h3
      cases ho : Builtin.Str.occurrences a b 0 a.length 1 with
      | nil =>
        rw [ho] at h3'
        cases h3'
      | cons i rest =>
        rw [ho] at h3'
        cases h3'
        exact ⟨a, b, i, rest, rfl, rfl, ho, q _ G2 H2 (e1.trans e2) k2 (.int _)⟩
    | _ => cases h3
  | _ => cases y <;> cases h3
end Z
/-! What each def computes. -/
namespace Z
open PySem PySem.Spec PyProof.Rows L2 RZ GxR
def F__law_pool : List D → Option D := runF 3 (sSeq (sSet 2 (eC (.int 0))) (sSeq (sIf (tBl (eBin ltD (eVar 1) (eCa lenD (aCons (eVar 0) aNil)))) (sSet 2 (eBin ixD (eVar 0) (eVar 1))) (sIf (tTr (eVar 0)) (sSet 2 (eBin ixD (eVar 0) (eC (.int 0)))) sNil)) (sSeq (sSet 3 (eCa max2D (aCons (eCa intD (aCons (eVar 2) aNil)) (aCons (eCa intD (aCons (eBin subD (eUn negD (eC (.int 1))) (eVar 2)) aNil)) aNil)))) (sSeq (sSet 4 (eBin modD (eCa intD (aCons (eBin mulD (eBin addD (eBin addD (eBin addD (eBin modD (eCa intD (aCons (eVar 3) aNil)) (eC (.int 2147483629))) (eBin mulD (eBin mulD (eC (.int 7919)) (eVar 1)) (eVar 1))) (eBin mulD (eC (.int 31)) (eVar 1))) (eC (.int 17))) (eC (.int 48271))) aNil)) (eC (.int 2147483647)))) (sRetF (eLst (aCons (eBin mulD (eVar 3) (eCa intD (aCons (eBin geD (eVar 3) (eBin powD (eC (.int 10)) (eC (.int 18)))) aNil))) (aCons (eVar 4) aNil))))))))
def I__law_take : D → List D → Option (D × D) := runI 1 (sSeq (sIf (tBl (eBin gtD (eOIx 0 (eC (.int 0))) (eC (.int 0)))) (sSeq (sSet 2 (eBin modD (eCa intD (aCons (eOIx 0 (eC (.int 0))) aNil)) (eVar 1))) (sSeq (sPut 0 (eBin fdivD (eOIx 0 (eC (.int 0))) (eVar 1)) (eC (.int 0))) (sRet (eVar 2)))) sNil) (sSeq (sPut 0 (eBin modD (eCa intD (aCons (eBin addD (eBin mulD (eOIx 0 (eC (.int 1))) (eC (.int 39373))) (eC (.int 7))) aNil)) (eC (.int 2147483647))) (eC (.int 1))) (sRet (eBin modD (eCa intD (aCons (eBin fdivD (eBin modD (eCa intD (aCons (eBin mulD (eOIx 0 (eC (.int 1))) (eOIx 0 (eC (.int 1)))) aNil)) (eC (.int 2147483629))) (eC (.int 32))) aNil)) (eVar 1)))))
def I__law_one : D → List D → Option (D × D) := runI 0 (sRet (eBin ixD (eVar 1) (eCaI 0 I__law_take (aCons (eCa lenD (aCons (eVar 1) aNil)) aNil))))
def I__law_name : D → List D → Option (D × D) := runI 3 (sSeq (sSet 2 (eC (.str "abcdefghijklmnopqrstuvwxyz"))) (sSeq (sSet 3 (eJoin (eC (.str "")) (eLc (iRngM (aCons (eBin addD (eC (.int 1)) (eCaI 0 I__law_take (aCons (eC (.int 4)) aNil))) aNil)) [4] (gtN 4) tTrue (eBin ixD (eVar 2) (eCaI 0 I__law_take (aCons (eC (.int 26)) aNil)))))) (sSeq (sFor (iRngM (aCons (eC (.int 21)) aNil)) (gtN 4) (sIf (tBl (eBin inD (eVar 3) (eVar 1))) (sSet 3 (eBin addD (eSl (eVar 3) oNone (oSome (eUn negD (eC (.int 1))))) (eBin ixD (eVar 2) (eBin modD (eBin addD (eBin sidxD (eVar 2) (eBin ixD (eVar 3) (eUn negD (eC (.int 1))))) (eC (.int 1))) (eC (.int 26)))))) sNil)) (sRet (eVar 3)))))
def I__law_outs : D → List D → Option (D × D) := runI 4 (sSeq (sPar [2, 3] (aCons (eLc (iRngM (aCons (eUn negD (eC (.int 1))) (aCons (eC (.int 10)) aNil))) [4] (gtN 4) tTrue (eVar 4)) (aCons (eLst aNil) aNil))) (sSeq (sFor (iRngM (aCons (eBin addD (eC (.int 1)) (eCaI 0 I__law_take (aCons (eVar 1) aNil))) aNil)) (gtN 5) (sSeq (sSet 4 (ePopAt 2 (eCaI 0 I__law_one (aCons (eLst (aCons (eC (.int 0)) (aCons (eCaI 0 I__law_take (aCons (eBor (eCa lenD (aCons (eVar 2) aNil))) aNil)) aNil))) aNil)))) (sApp 3 (eTup (aCons (eVar 4) (aCons (eBin addD (eC (.int 1)) (eCaI 0 I__law_take (aCons (eC (.int 9)) aNil))) aNil)))))) (sRet (eCa ptupD (aCons (eCa sortPD (aCons (eVar 3) aNil)) aNil)))))
def I__law_table : D → List D → Option (D × D) := runI 3 (sSeq (sPar [2, 3] (aCons (eBin addD (eC (.int 1)) (eCaI 0 I__law_take (aCons (eC (.int 3)) aNil))) (aCons (eCaI 0 I__law_one (aCons (eLst (aCons (eC (.int 1)) (aCons (eC (.int 1)) (aCons (eC (.int 1)) (aCons (eC (.int 2)) (aCons (eC (.int 3)) aNil)))))) aNil)) aNil))) (sSeq (sSet 4 (eBin addD (eBin addD (eVar 2) (eBin mulD (eVar 3) (eCaI 0 I__law_take (aCons (eC (.int 4)) aNil)))) (eCaI 0 I__law_take (aCons (eVar 3) aNil)))) (sRet (eTup (aCons (eCaI 0 I__law_name (aCons (eVar 1) aNil)) (aCons (eCaI 0 I__law_outs (aCons (eC (.int 3)) aNil)) (aCons (eVar 2) (aCons (eVar 4) (aCons (eVar 3) (aCons (eCaI 0 I__law_one (aCons (eLst (aCons (eC (.int 0)) (aCons (eC (.int 0)) (aCons (eC (.int 0)) (aCons (eC (.int 1)) (aCons (eC (.int 2)) aNil)))))) aNil)) aNil))))))))))
def I__law_house : D → List D → Option (D × D) := runI 4 (sSeq (sPar [2, 3] (aCons (eCaI 0 I__law_one (aCons (eLst (aCons (eC (.int 1)) (aCons (eC (.int 2)) (aCons (eC (.int 3)) (aCons (eC (.int 4)) (aCons (eC (.int 5)) (aCons (eC (.int 6)) (aCons (eC (.int 6)) (aCons (eC (.int 8)) aNil))))))))) aNil)) (aCons (eLst aNil) aNil))) (sSeq (sFor (iRngM (aCons (eCaI 0 I__law_take (aCons (eBin addD (eVar 1) (eC (.int 1))) aNil)) aNil)) (gtN 4) (sApp 3 (eCaI 0 I__law_table (aCons (eBorL (eLc (iSeq (eVar 3)) [5] (gtN 5) tTrue (eBin ixD (eVar 5) (eC (.int 0))))) aNil)))) (sRet (eTup (aCons (eVar 2) (aCons (eCa tupleD (aCons (eVar 3) aNil)) aNil))))))
def F__law_add : List D → Option D := runP 0 (sRet (eTup (aCons (eBin addD (eBin mulD (eBin ixD (eVar 0) (eC (.int 0))) (eBin ixD (eVar 1) (eC (.int 1)))) (eBin mulD (eBin ixD (eVar 1) (eC (.int 0))) (eBin ixD (eVar 0) (eC (.int 1))))) (aCons (eBin mulD (eBin ixD (eVar 0) (eC (.int 1))) (eBin ixD (eVar 1) (eC (.int 1)))) aNil))))
def F__law_low : List D → Option D := runP 2 (sSeq (sPar [2, 3] (aCons (eCa max2D (aCons (eVar 0) (aCons (eUn negD (eVar 0)) aNil))) (aCons (eVar 1) aNil))) (sSeq (sWhile (tBl (eBin gtD (eVar 3) (eC (.int 0)))) (sPar [2, 3] (aCons (eVar 3) (aCons (eBin modD (eCa intD (aCons (eVar 2) aNil)) (eVar 3)) aNil)))) (sRet (eTup (aCons (eBin fdivD (eVar 0) (eVar 2)) (aCons (eBin fdivD (eVar 1) (eVar 2)) aNil))))))
def I__law_rising : D → List D → Option (D × D) := runI 3 (sSeq (sIf (tBl (eBin eqD (eCaI 0 I__law_take (aCons (eC (.int 2)) aNil)) (eC (.int 0)))) (sRet (eBin addD (eBin repD (eTup (aCons (eTup (aCons (eC (.int 0)) (aCons (eC (.int 1)) aNil))) aNil)) (eVar 1)) (eTup (aCons (eTup (aCons (eC (.int 1)) (aCons (eC (.int 1)) aNil))) aNil)))) sNil) (sSeq (sPar [2, 3] (aCons (eLst aNil) (aCons (eTup (aCons (eC (.int 0)) (aCons (eC (.int 1)) aNil))) aNil))) (sSeq (sFor (iRngM (aCons (eBin addD (eVar 1) (eC (.int 1))) aNil)) (gtN 4) (sSeq (sSet 3 (eCa F__law_add (aCons (eVar 3) (aCons (eTup (aCons (eCaI 0 I__law_take (aCons (eCaI 0 I__law_one (aCons (eLst (aCons (eC (.int 1)) (aCons (eC (.int 1)) (aCons (eC (.int 9)) (aCons (eC (.int 30)) aNil))))) aNil)) aNil)) (aCons (eBin addD (eC (.int 1)) (eCaI 0 I__law_take (aCons (eC (.int 4)) aNil))) aNil))) aNil)))) (sSeq (sSet 3 (eCa F__law_low (aCons (eBin ixD (eVar 3) (eC (.int 0))) (aCons (eBin ixD (eVar 3) (eC (.int 1))) aNil)))) (sApp 2 (eVar 3))))) (sRet (eCa tupleD (aCons (eVar 2) aNil))))))
def I__law_poorer : D → List D → Option (D × D) := runI 7 (sSeq (sSet 2 (eCa dictPD (aCons (eVar 1) aNil))) (sSeq (sSet 3 (eLc (iSeq (eVar 1)) [4, 5] (gtT 2 (gtCons (gtN 4) (gtCons (gtN 5) gtNil))) (tBl (eBin gtD (eVar 4) (eUn negD (eC (.int 1))))) (eVar 4))) (sSeq (sIf (tBl (eBin eqD (eVar 3) (eLst aNil))) (sRet (eVar 1)) sNil) (sSeq (sSet 4 (eCaI 0 I__law_one (aCons (eVar 3) aNil))) (sSeq (sPar [6, 7] (aCons (eBin subD (eCaI 0 I__law_take (aCons (eBin addD (eVar 4) (eC (.int 1))) aNil)) (eC (.int 1))) (aCons (eCaI 0 I__law_take (aCons (eBin addD (eBor (eBin dixD (eVar 2) (eVar 4))) (eC (.int 1))) aNil)) aNil))) (sSeq (sDPutM 2 (eBin addD (eBor (eTri dgetD (eVar 2) (eVar 6) (eC (.int 0)))) (eVar 7)) (eVar 6)) (sSeq (sDPutM 2 (eBin subD (eBor (eBin dixD (eVar 2) (eVar 4))) (eVar 7)) (eVar 4)) (sRet (eCa ptupD (aCons (eLc (iSeq (eCa sortDD (aCons (eVar 2) aNil))) [8] (gtN 8) (tBl (eBin gtD (eBin dixD (eVar 2) (eVar 8)) (eC (.int 0)))) (eTup (aCons (eVar 8) (aCons (eBin dixD (eVar 2) (eVar 8)) aNil)))) aNil))))))))))
def I__law_changed : D → List D → Option (D × D) := runI 11 (sSeq (sTgt (gtT 2 (gtCons (gtN 2) (gtCons (gtN 3) gtNil))) (eVar 1)) (sSeq (sPar [4, 5] (aCons (eCaI 0 I__law_take (aCons (eCa lenD (aCons (eVar 3) aNil)) aNil)) (aCons (eCaI 0 I__law_take (aCons (eC (.int 4)) aNil)) aNil))) (sSeq (sTgt (gtT 6 (gtCons (gtN 6) (gtCons (gtN 7) (gtCons (gtN 8) (gtCons (gtN 9) (gtCons (gtN 10) (gtCons (gtN 11) gtNil))))))) (eBin ixD (eVar 3) (eVar 4))) (sSeq (sIf (tBl (eBin eqD (eVar 5) (eC (.int 0)))) (sRet (eTup (aCons (eTup (aCons (eVar 2) (aCons (eBin addD (eVar 3) (eTup (aCons (eCaI 0 I__law_table (aCons (eLc (iSeq (eVar 3)) [12] (gtN 12) tTrue (eBin ixD (eVar 12) (eC (.int 0)))) aNil)) aNil))) aNil))) (aCons (eC (.bl true)) aNil)))) sNil) (sSeq (sIf (tBl (eBin eqD (eVar 5) (eC (.int 1)))) (sSet 9 (eBin addD (eVar 9) (eBin mulD (eVar 10) (eBin addD (eC (.int 1)) (eCaI 0 I__law_take (aCons (eC (.int 2)) aNil)))))) (sIf (tBl (eBin eqD (eVar 5) (eC (.int 2)))) (sSet 11 (eBin addD (eVar 11) (eCaI 0 I__law_take (aCons (eBin subD (eC (.int 10)) (eVar 11)) aNil)))) (sSet 7 (eCaI 0 I__law_poorer (aCons (eVar 7) aNil))))) (sRet (eTup (aCons (eTup (aCons (eVar 2) (aCons (eBin addD (eBin addD (eSl (eVar 3) oNone (oSome (eVar 4))) (eTup (aCons (eTup (aCons (eVar 6) (aCons (eVar 7) (aCons (eVar 8) (aCons (eVar 9) (aCons (eVar 10) (aCons (eVar 11) aNil))))))) aNil))) (eSl (eVar 3) (oSome (eBin addD (eVar 4) (eC (.int 1)))) oNone)) aNil))) (aCons (eBin eqD (eVar 5) (eC (.int 1))) aNil)))))))))
def F_ratio : List D → Option D := runP 1 (sSeq (sIf (tBl (eBin eqD (eVar 1) (eC (.int 0)))) sNever sNil) (sSeq (sSet 2 (eCa gcdD (aCons (eVar 0) (aCons (eVar 1) aNil)))) (sSeq (sIf (tBl (eBin ltD (eVar 1) (eC (.int 0)))) (sSet 2 (eUn negD (eVar 2))) sNil) (sRet (eTup (aCons (eBin fdivD (eVar 0) (eVar 2)) (aCons (eBin fdivD (eVar 1) (eVar 2)) aNil)))))))
def F_weight_of : List D → Option D := runP 2 (sRet (eCa sumD (aCons (eLc (iSeq (eVar 0)) [1, 2] (gtT 2 (gtCons (gtN 1) (gtCons (gtN 2) gtNil))) tTrue (eVar 2)) aNil)))
def F_average : List D → Option D := runP 5 (sSeq (sPar [2, 3] (aCons (eC (.int 0)) (aCons (eC (.int 1)) aNil))) (sSeq (sFor (iSeq (eVar 1)) (gtT 2 (gtCons (gtN 4) (gtCons (gtN 5) gtNil))) (sSeq (sSet 6 (eBin ixD (eVar 0) (eVar 4))) (sPar [2, 3] (aCons (eBin addD (eBin mulD (eVar 2) (eBin ixD (eVar 6) (eC (.int 1)))) (eBin mulD (eBin mulD (eVar 5) (eBin ixD (eVar 6) (eC (.int 0)))) (eVar 3))) (aCons (eBin mulD (eVar 3) (eBin ixD (eVar 6) (eC (.int 1)))) aNil))))) (sRet (eCa F_ratio (aCons (eVar 2) (aCons (eBin mulD (eVar 3) (eCa F_weight_of (aCons (eVar 1) aNil))) aNil))))))
def F_amounts : List D → Option D := runP 1 (sRet (eCat (eLst (aCons (eBin ixD (eUn (attD "Board" "pays") (eVar 0)) (eVar 2)) aNil)) (eLc (iSeq (eBin ixD (eUn (attD "Board" "plays") (eVar 0)) (eVar 2))) [3] (gtN 3) tTrue (eCa F_average (aCons (eVar 1) (aCons (eVar 3) aNil))))))
def F_less : List D → Option D := runP 0 (sRet (eBin ltD (eBin mulD (eBin ixD (eVar 0) (eC (.int 0))) (eBin ixD (eVar 1) (eC (.int 1)))) (eBin mulD (eBin ixD (eVar 1) (eC (.int 0))) (eBin ixD (eVar 0) (eC (.int 1))))))
def F_better_choice : List D → Option D := runP 3 (sSeq (sSet 4 (eBin ixD (eVar 1) (eVar 2))) (sSeq (sFor (iEnumM (eCa F_amounts (aCons (eVar 0) (aCons (eVar 1) (aCons (eVar 2) aNil))))) (gtT 2 (gtCons (gtN 5) (gtCons (gtN 6) gtNil))) (sIf (tTr (eCa F_less (aCons (eVar 4) (aCons (eVar 6) aNil)))) (sPar [3, 4] (aCons (eBin addD (eVar 5) (eC (.int (-1)))) (aCons (eVar 6) aNil))) sNil)) (sRet (eVar 3))))
def F_improved_for : List D → Option D := runP 2 (sRet (eCa tupleD (aCons (eLc (iEnumM (eVar 1)) [3, 4] (gtT 2 (gtCons (gtN 3) (gtCons (gtN 4) gtNil))) tTrue (eCa F_better_choice (aCons (eVar 0) (aCons (eVar 2) (aCons (eVar 3) (aCons (eVar 4) aNil)))))) aNil)))
def F_is_choice : List D → Option D := runP 0 (sRet (eAnd (eUn (isiD "int") (eVar 2)) (eChain leD ltD (eC (.int (-1))) (eVar 2) (eCa lenD (aCons (eBin ixD (eUn (attD "Board" "plays") (eVar 0)) (eVar 1)) aNil)))))
def F_want_way : List D → Option D := runP 2 (sSeq (sIf (tBl (eBin neD (eCa lenD (aCons (eVar 1) aNil)) (eUn (attD "Board" "size") (eVar 0)))) sNever sNil) (sFor (iEnumM (eVar 1)) (gtT 2 (gtCons (gtN 2) (gtCons (gtN 3) gtNil))) (sIf (tNotM (tTr (eCa F_is_choice (aCons (eVar 0) (aCons (eVar 2) (aCons (eVar 3) aNil)))))) sNever sNil)))
def F_led_to : List D → Option D := runP 2 (sRet (eIf (tBl (eBin eqD (eVar 2) (eC (.int (-1))))) (eTup aNil) (eCa tupleD (aCons (eLc (iSeq (eBin ixD (eBin ixD (eUn (attD "Board" "plays") (eVar 0)) (eVar 1)) (eVar 2))) [3, 4] (gtT 2 (gtCons (gtN 3) (gtCons (gtN 4) gtNil))) tTrue (eVar 3)) aNil))))
def F_arrows_back : List D → Option D := runP 4 (sNst 1 (iSeq (eVar 0)) [2] (gtN 2) (nFor (iEnumM (eVar 0)) (gtT 2 (gtCons (gtN 3) (gtCons (gtN 2) gtNil))) (nFor (iSeq (eVar 2)) (gtN 4) (nApp (eVar 4) (eVar 3)))))
def F_comes : List D → Option D := runP 7 (sSeq (sPar [2, 3] (aCons (eCa F_arrows_back (aCons (eVar 0) aNil)) (aCons (eLc (iSeq (eVar 0)) [4] (gtN 4) tTrue (eC (.bl false))) aNil))) (sSeq (sSet 5 (eCa listD (aCons (eVar 1) aNil))) (sSeq (sWhile (tBor (tBl (eBin neD (eVar 5) (eLst aNil)))) (sSeq (sSet 6 (ePop 5)) (sIf (tNotM (tTr (eOIx 3 (eVar 6)))) (sSeq (sPut 3 (eC (.bl true)) (eVar 6)) (sExt 5 (eBin ixD (eVar 2) (eVar 6)))) sNil))) (sRet (eCa tupleD (aCons (eLc (iEnumM (eVar 3)) [7, 8] (gtT 2 (gtCons (gtN 7) (gtCons (gtN 8) gtNil))) (tTr (eVar 8)) (eVar 7)) aNil))))))
def F_live_places : List D → Option D := runP 3 (sSeq (sSet 2 (eCa tupleD (aCons (eLc (iEnumM (eVar 1)) [3, 4] (gtT 2 (gtCons (gtN 3) (gtCons (gtN 4) gtNil))) tTrue (eCa F_led_to (aCons (eVar 0) (aCons (eVar 3) (aCons (eVar 4) aNil))))) aNil))) (sRet (eCa F_comes (aCons (eVar 2) (aCons (eCa tupleD (aCons (eLc (iEnumM (eVar 1)) [3, 4] (gtT 2 (gtCons (gtN 3) (gtCons (gtN 4) gtNil))) (tBl (eBin eqD (eVar 4) (eC (.int (-1))))) (eVar 3)) aNil)) aNil)))))
def F_inner_places : List D → Option D := runP 1 (sRet (eCa tupleD (aCons (eLc (iSeq (eCa F_live_places (aCons (eVar 0) (aCons (eVar 1) aNil)))) [2] (gtN 2) (tBl (eBin neD (eBin ixD (eVar 1) (eVar 2)) (eC (.int (-1))))) (eVar 2)) aNil)))
def F_plus : List D → Option D := runP 0 (sRet (eCa F_ratio (aCons (eBin addD (eBin mulD (eBin ixD (eVar 0) (eC (.int 0))) (eBin ixD (eVar 1) (eC (.int 1)))) (eBin mulD (eBin ixD (eVar 1) (eC (.int 0))) (eBin ixD (eVar 0) (eC (.int 1))))) (aCons (eBin mulD (eBin ixD (eVar 0) (eC (.int 1))) (eBin ixD (eVar 1) (eC (.int 1)))) aNil))))
def F_times : List D → Option D := runP 0 (sRet (eCa F_ratio (aCons (eBin mulD (eBin ixD (eVar 0) (eC (.int 0))) (eBin ixD (eVar 1) (eC (.int 0)))) (aCons (eBin mulD (eBin ixD (eVar 0) (eC (.int 1))) (eBin ixD (eVar 1) (eC (.int 1)))) aNil))))
def F_stopping_sum : List D → Option D := runP 3 (sSeq (sSet 3 (eTup (aCons (eC (.int 0)) (aCons (eC (.int 1)) aNil)))) (sSeq (sFor (iSeq (eBin ixD (eBin ixD (eUn (attD "Board" "plays") (eVar 0)) (eVar 2)) (eBin ixD (eVar 1) (eVar 2)))) (gtT 2 (gtCons (gtN 4) (gtCons (gtN 5) gtNil))) (sIf (tBl (eBin eqD (eBin ixD (eVar 1) (eVar 4)) (eC (.int (-1))))) (sSet 3 (eCa F_plus (aCons (eVar 3) (aCons (eCa F_times (aCons (eTup (aCons (eVar 5) (aCons (eC (.int 1)) aNil))) (aCons (eBin ixD (eUn (attD "Board" "pays") (eVar 0)) (eVar 4)) aNil))) aNil)))) sNil)) (sRet (eVar 3))))
def F_whole_row : List D → Option D := runP 3 (sSeq (sSet 1 (eC (.int 1))) (sSeq (sFor (iSeq (eVar 0)) (gtT 2 (gtCons (gtN 2) (gtCons (gtN 3) gtNil))) (sSet 1 (eCa lcmD (aCons (eVar 1) (aCons (eVar 3) aNil))))) (sRet (eLc (iSeq (eVar 0)) [2, 3] (gtT 2 (gtCons (gtN 2) (gtCons (gtN 3) gtNil))) tTrue (eBin mulD (eVar 2) (eBin fdivD (eVar 1) (eVar 3)))))))
def F_pivot_of : List D → Option D := runP 1 (sSeq (sFor (iRngM (aCons (eVar 1) (aCons (eCa lenD (aCons (eVar 0) aNil)) aNil))) (gtN 2) (sIf (tBl (eBin neD (eBin ixD (eBin ixD (eVar 0) (eVar 2)) (eVar 1)) (eC (.int 0)))) (sRet (eVar 2)) sNil)) (sRet (eC .non)))
def F_cleared : List D → Option D := runF 7 (sSeq (sPar [3, 4] (aCons (eBin ixD (eVar 0) (eVar 1)) (aCons (eLst aNil) aNil))) (sSeq (sFor (iEnumM (eVar 0)) (gtT 2 (gtCons (gtN 5) (gtCons (gtN 6) gtNil))) (sIf (tBl (eBin eqD (eVar 5) (eVar 1))) (sApp 4 (eVar 6)) (sSeq (sSet 7 (eBin ixD (eVar 6) (eVar 1))) (sApp 4 (eLc (iZipM (aCons (eVar 6) (aCons (eVar 3) aNil))) [8, 9] (gtT 2 (gtCons (gtN 8) (gtCons (gtN 9) gtNil))) tTrue (eBin fdivD (eBin subD (eBin mulD (eBin ixD (eVar 3) (eVar 1)) (eVar 8)) (eBin mulD (eVar 7) (eVar 9))) (eVar 2))))))) (sRetO 4)))
def F_solved : List D → Option D := runP 8 (sSeq (sSet 2 (eCa lenD (aCons (eVar 1) aNil))) (sSeq (sIf (tOrM (tBl (eBin gtD (eVar 2) (eC (.int (40))))) (tOrM (tBl (eBin neD (eCa lenD (aCons (eVar 0) aNil)) (eVar 2))) (tTr (eAnyLen 2 (eVar 0))))) sNever sNil) (sSeq (sPar [3, 4] (aCons (eLc (iZipM (aCons (eVar 0) (aCons (eVar 1) aNil))) [5, 6] (gtT 2 (gtCons (gtN 5) (gtCons (gtN 6) gtNil))) tTrue (eCa F_whole_row (aCons (eBin addD (eVar 5) (eTup (aCons (eVar 6) aNil))) aNil))) (aCons (eC (.int 1)) aNil))) (sSeq (sFor (iRngM (aCons (eVar 2) aNil)) (gtN 7) (sSeq (sSet 8 (eBor (eCa F_pivot_of (aCons (eVar 3) (aCons (eVar 7) aNil))))) (sSeq (sIf (tBl (eUn isND (eVar 8))) (sRet (eC .non)) sNil) (sSeq (sSet 9 (eOIx 3 (eVar 8))) (sSeq (sPut 3 (eOIx 3 (eVar 7)) (eVar 8)) (sSeq (sPut 3 (eVar 9) (eVar 7)) (sSeq (sSet 3 (eCa F_cleared (aCons (eVar 3) (aCons (eVar 7) (aCons (eVar 4) aNil))))) (sSet 4 (eBin ixD (eVar 9) (eVar 7)))))))))) (sRet (eCa tupleD (aCons (eLc (iSeq (eVar 3)) [5] (gtN 5) tTrue (eCa F_ratio (aCons (eBin ixD (eVar 5) (eVar 2)) (aCons (eVar 4) aNil)))) aNil)))))))
def F_weight_to : List D → Option D := runP 2 (sSeq (sFor (iSeq (eVar 0)) (gtT 2 (gtCons (gtN 2) (gtCons (gtN 3) gtNil))) (sIf (tBl (eBin eqD (eVar 2) (eVar 1))) (sRet (eVar 3)) sNil)) (sRet (eC (.int 0))))
def F_square_row : List D → Option D := runP 3 (sSeq (sSet 4 (eBin ixD (eBin ixD (eUn (attD "Board" "plays") (eVar 0)) (eVar 3)) (eBin ixD (eVar 1) (eVar 3)))) (sSeq (sSet 5 (eCa F_weight_of (aCons (eVar 4) aNil))) (sRet (eCa tupleD (aCons (eLc (iSeq (eVar 2)) [6] (gtN 6) tTrue (eTup (aCons (eBin subD (eIf (tBl (eBin eqD (eVar 6) (eVar 3))) (eVar 5) (eC (.int 0))) (eCa F_weight_to (aCons (eVar 4) (aCons (eVar 6) aNil)))) (aCons (eC (.int 1)) aNil)))) aNil)))))
def F_way_square : List D → Option D := runP 1 (sRet (eCa tupleD (aCons (eLc (iSeq (eVar 2)) [3] (gtN 3) tTrue (eCa F_square_row (aCons (eVar 0) (aCons (eVar 1) (aCons (eVar 2) (aCons (eVar 3) aNil)))))) aNil)))
def F_value : List D → Option D := runP 6 (sSeq (sDrop (eCa F_want_way (aCons (eVar 0) (aCons (eVar 1) aNil)))) (sSeq (sSet 2 (eCa F_inner_places (aCons (eVar 0) (aCons (eVar 1) aNil)))) (sSeq (sSet 3 (eLc (iEnumM (eVar 1)) [4, 5] (gtT 2 (gtCons (gtN 4) (gtCons (gtN 5) gtNil))) tTrue (eIf (tBl (eBin eqD (eVar 5) (eC (.int (-1))))) (eBin ixD (eUn (attD "Board" "pays") (eVar 0)) (eVar 4)) (eTup (aCons (eC (.int 0)) (aCons (eC (.int 1)) aNil)))))) (sSeq (sSet 6 (eCa tupleD (aCons (eLc (iSeq (eVar 2)) [4] (gtN 4) tTrue (eCa F_stopping_sum (aCons (eVar 0) (aCons (eVar 1) (aCons (eVar 4) aNil))))) aNil))) (sSeq (sFor (iZipM (aCons (eVar 2) (aCons (eCa F_solved (aCons (eCa F_way_square (aCons (eVar 0) (aCons (eVar 1) (aCons (eVar 2) aNil)))) (aCons (eVar 6) aNil))) aNil))) (gtT 2 (gtCons (gtN 4) (gtCons (gtN 7) gtNil))) (sPut 3 (eVar 7) (eVar 4))) (sRet (eCa tupleD (aCons (eVar 3) aNil))))))))
def F_worth : List D → Option D := runP 3 (sSeq (sPar [1, 2] (aCons (eBin repD (eTup (aCons (eC (.int (-1))) aNil)) (eUn (attD "Board" "size") (eVar 0))) (aCons (eUn (attD "Board" "pays") (eVar 0)) aNil))) (sSeq (sSet 3 (eCa F_improved_for (aCons (eVar 0) (aCons (eVar 1) (aCons (eVar 2) aNil))))) (sSeq (sWhile (tBl (eBin neD (eVar 3) (eVar 1))) (sSeq (sSet 1 (eVar 3)) (sSeq (sSet 2 (eCa F_value (aCons (eVar 0) (aCons (eVar 1) aNil)))) (sSet 3 (eCa F_improved_for (aCons (eVar 0) (aCons (eVar 1) (aCons (eVar 2) aNil)))))))) (sRet (eVar 2)))))
def F_check_goal : List D → Option D := runP 0 (sIf (tNotM (tBl (eChain leD leD (eC (.int 1)) (eVar 0) (eC (.int (39)))))) sNever sNil)
def F_is_name : List D → Option D := runP 0 (sSeq (sIf (tOrM (tNotM (tTr (eUn (isiD "str") (eVar 0)))) (tNotM (tBl (eChain leD leD (eC (.int 1)) (eCa lenD (aCons (eVar 0) aNil)) (eC (.int 4)))))) (sRet (eC (.bl false))) sNil) (sRet (eUn (allInD "abcdefghijklmnopqrstuvwxyz") (eVar 0))))
def F_is_number : List D → Option D := runP 0 (sRet (eAnd (eUn (isiD "int") (eVar 0)) (eNot (eUn (isiD "bool") (eVar 0)))))
def F_is_within : List D → Option D := runP 0 (sRet (eAnd (eCa F_is_number (aCons (eVar 0) aNil)) (eChain leD leD (eVar 1) (eVar 0) (eVar 2))))
def F_are_outs : List D → Option D := runP 4 (sSeq (sIf (tOrM (tNotM (tTr (eUn (isiD "tuple") (eVar 0)))) (tNotM (tBl (eChain leD leD (eC (.int 1)) (eCa lenD (aCons (eVar 0) aNil)) (eC (.int (6))))))) (sRet (eC (.bl false))) sNil) (sSeq (sSet 1 (eUn negD (eC (.int 2)))) (sSeq (sFor (iSeq (eVar 0)) (gtN 2) (sSeq (sIf (tOrM (tNotM (tTr (eUn (isiD "tuple") (eVar 2)))) (tBl (eBin neD (eCa lenD (aCons (eVar 2) aNil)) (eC (.int 2))))) (sRet (eC (.bl false))) sNil) (sSeq (sTgt (gtT 2 (gtCons (gtN 3) (gtCons (gtN 4) gtNil))) (eVar 2)) (sSeq (sIf (tOrM (tNotM (tTr (eCa F_is_within (aCons (eVar 3) (aCons (eBin addD (eVar 1) (eC (.int 1))) (aCons (eC (.int 9)) aNil)))))) (tNotM (tTr (eCa F_is_within (aCons (eVar 4) (aCons (eC (.int 1)) (aCons (eC (.int 99)) aNil))))))) (sRet (eC (.bl false))) sNil) (sSet 1 (eVar 3)))))) (sRet (eC (.bl true))))))
def F_is_table : List D → Option D := runP 6 (sSeq (sIf (tOrM (tNotM (tTr (eUn (isiD "tuple") (eVar 0)))) (tBl (eBin neD (eCa lenD (aCons (eVar 0) aNil)) (eC (.int 6))))) (sRet (eC (.bl false))) sNil) (sSeq (sTgt (gtT 6 (gtCons (gtN 1) (gtCons (gtN 2) (gtCons (gtN 3) (gtCons (gtN 4) (gtCons (gtN 5) (gtCons (gtN 6) gtNil))))))) (eVar 0)) (sSeq (sIf (tOrM (tNotM (tTr (eCa F_is_name (aCons (eVar 1) aNil)))) (tNotM (tTr (eCa F_are_outs (aCons (eVar 2) aNil))))) (sRet (eC (.bl false))) sNil) (sSeq (sIf (tOrM (tNotM (tTr (eCa F_is_within (aCons (eVar 3) (aCons (eC (.int 1)) (aCons (eC (.int (39))) aNil)))))) (tNotM (tTr (eCa F_is_within (aCons (eVar 4) (aCons (eVar 3) (aCons (eC (.int (39))) aNil))))))) (sRet (eC (.bl false))) sNil) (sRet (eAnd (eCa F_is_within (aCons (eVar 5) (aCons (eC (.int 1)) (aCons (eC (.int (39))) aNil)))) (eCa F_is_within (aCons (eVar 6) (aCons (eC (.int 0)) (aCons (eC (.int 9)) aNil))))))))))
def F_check_names : List D → Option D := runP 2 (sSeq (sSet 1 (eLst aNil)) (sFor (iSeq (eVar 0)) (gtN 2) (sSeq (sIf (tBor (tBl (eBin inD (eBin ixD (eVar 2) (eC (.int 0))) (eVar 1)))) sNever sNil) (sApp 1 (eBin ixD (eVar 2) (eC (.int 0)))))))
def F_stakes : List D → Option D := runP 7 (sSeq (sTgt (gtT 6 (gtCons (gtN 1) (gtCons (gtN 2) (gtCons (gtN 3) (gtCons (gtN 4) (gtCons (gtN 5) (gtCons (gtN 6) gtNil))))))) (eVar 0)) (sRet (eCa tupleD (aCons (eLc (iRngM (aCons (eBin addD (eBin fdivD (eBin subD (eVar 4) (eVar 3)) (eVar 5)) (eC (.int 1))) aNil)) [7] (gtN 7) tTrue (eBin addD (eVar 3) (eBin mulD (eVar 7) (eVar 5)))) aNil))))
def F_checked_house : List D → Option D := runP 5 (sSeq (sTgt (gtT 2 (gtCons (gtN 1) (gtCons (gtN 2) gtNil))) (eVar 0)) (sSeq (sDrop (eCa F_check_goal (aCons (eVar 1) aNil))) (sSeq (sIf (tBl (eBin gtD (eCa lenD (aCons (eVar 2) aNil)) (eC (.int (4))))) sNever sNil) (sSeq (sFor (iEnumM (eVar 2)) (gtT 2 (gtCons (gtN 3) (gtCons (gtN 4) gtNil))) (sIf (tNotM (tTr (eCa F_is_table (aCons (eVar 4) aNil)))) sNever sNil)) (sSeq (sDrop (eCa F_check_names (aCons (eVar 2) aNil))) (sSeq (sSet 5 (eCa sumD (aCons (eLc (iSeq (eVar 2)) [4] (gtN 4) tTrue (eCa lenD (aCons (eCa F_stakes (aCons (eVar 4) aNil)) aNil))) aNil))) (sSeq (sIf (tBl (eBin gtD (eVar 5) (eC (.int (12))))) sNever sNil) (sRet (eTup (aCons (eVar 1) (aCons (eVar 2) aNil)))))))))))
def F_is_ratio : List D → Option D := runP 2 (sSeq (sIf (tOrM (tNotM (tTr (eUn (isiD "tuple") (eVar 0)))) (tBl (eBin neD (eCa lenD (aCons (eVar 0) aNil)) (eC (.int 2))))) (sRet (eC (.bl false))) sNil) (sSeq (sTgt (gtT 2 (gtCons (gtN 1) (gtCons (gtN 2) gtNil))) (eVar 0)) (sRet (eAnd (eCa F_is_number (aCons (eVar 1) aNil)) (eAnd (eCa F_is_number (aCons (eVar 2) aNil)) (eAnd (eBin geD (eVar 2) (eC (.int 1))) (eBin eqD (eCa gcdD (aCons (eVar 1) (aCons (eVar 2) aNil))) (eC (.int 1)))))))))
def F_is_pay : List D → Option D := runP 0 (sRet (eAnd (eCa F_is_ratio (aCons (eVar 0) aNil)) (eAnd (eChain leD ltD (eC (.int 0)) (eBin ixD (eVar 0) (eC (.int 0))) (eC (.int (1000000000000000000000000000000000000000000000000000000000000000000000000000000000000000000000000000000000000000000000000000000000000000000000000000000000000000000000000000000000000000000000000000000000000000000000000000000000000000000000000000000000000000000000000000000000000000000000000000000000000000000000000000000000000000000000000000000000000000000000000000000000000000000000000000000000000000000000000000000000000000000000000000000000000000000000000000000000000000000000000000000000000000000000000000000000000000000000000000000000000000000000000000000000000000000000000000000000000000000000000)))) (eBin ltD (eBin ixD (eVar 0) (eC (.int 1))) (eC (.int (1000000000000000000000000000000000000000000000000000000000000000000000000000000000000000000000000000000000000000000000000000000000000000000000000000000000000000000000000000000000000000000000000000000000000000000000000000000000000000000000000000000000000000000000000000000000000000000000000000000000000000000000000000000000000000000000000000000000000000000000000000000000000000000000000000000000000000000000000000000000000000000000000000000000000000000000000000000000000000000000000000000000000000000000000000000000000000000000000000000000000000000000000000000000000000000000000000000000000000000000000)))))))
def F_want_pays : List D → Option D := runP 2 (sSeq (sIf (tBl (eBin neD (eCa lenD (aCons (eVar 0) aNil)) (eVar 1))) sNever sNil) (sFor (iEnumM (eVar 0)) (gtT 2 (gtCons (gtN 2) (gtCons (gtN 3) gtNil))) (sIf (tNotM (tTr (eCa F_is_pay (aCons (eVar 3) aNil)))) sNever sNil)))
def F_is_lottery : List D → Option D := runP 3 (sSeq (sIf (tNotM (tBl (eChain leD leD (eC (.int 1)) (eCa lenD (aCons (eVar 0) aNil)) (eC (.int (8)))))) (sRet (eC (.bl false))) sNil) (sSeq (sSet 2 (eUn negD (eC (.int 1)))) (sSeq (sFor (iSeq (eVar 0)) (gtT 2 (gtCons (gtN 3) (gtCons (gtN 4) gtNil))) (sSeq (sIf (tOrM (tNotM (tBl (eChain ltD ltD (eVar 2) (eVar 3) (eVar 1)))) (tNotM (tBl (eChain leD leD (eC (.int 1)) (eVar 4) (eC (.int (99999))))))) (sRet (eC (.bl false))) sNil) (sSet 2 (eVar 3)))) (sRet (eC (.bl true))))))
def F_want_plays : List D → Option D := runP 4 (sSeq (sFor (iEnumM (eVar 0)) (gtT 2 (gtCons (gtN 2) (gtCons (gtN 3) gtNil))) (sIf (tBl (eBin gtD (eCa lenD (aCons (eVar 3) aNil)) (eC (.int (12))))) sNever sNil)) (sFor (iEnumM (eVar 0)) (gtT 2 (gtCons (gtN 2) (gtCons (gtN 3) gtNil))) (sFor (iEnumM (eVar 3)) (gtT 2 (gtCons (gtN 4) (gtCons (gtN 5) gtNil))) (sIf (tNotM (tTr (eCa F_is_lottery (aCons (eVar 5) (aCons (eVar 1) aNil))))) sNever sNil))))
def F_made_board : List D → Option D := runP 1 (sSeq (sSet 2 (eCa lenD (aCons (eVar 0) aNil))) (sSeq (sIf (tNotM (tBl (eChain leD leD (eC (.int 1)) (eVar 2) (eC (.int (40)))))) sNever sNil) (sSeq (sDrop (eCa F_want_pays (aCons (eVar 0) (aCons (eVar 2) aNil)))) (sSeq (sIf (tBl (eBin neD (eCa lenD (aCons (eVar 1) aNil)) (eVar 2))) sNever sNil) (sSeq (sDrop (eCa F_want_plays (aCons (eVar 1) (aCons (eVar 2) aNil)))) (sRet (eCa (mkD "Board" gBoard) (aCons (eVar 0) (aCons (eVar 1) aNil)))))))))
def F_out_of : List D → Option D := runP 0 (sSeq (sIf (tOrM (tBl (eBin ninD (eVar 3) (eCa F_stakes (aCons (eVar 1) aNil)))) (tBl (eBin gtD (eBin addD (eVar 3) (eBin ixD (eVar 1) (eC (.int 5)))) (eVar 2)))) sNever sNil) (sRet (eCa min2D (aCons (eVar 0) (aCons (eBin addD (eBin subD (eVar 2) (eBin ixD (eVar 1) (eC (.int 5)))) (eBin mulD (eVar 4) (eVar 3))) aNil)))))
def F_stake_lottery : List D → Option D := runP 4 (sSeq (sSet 4 eDic0) (sSeq (sFor (iSeq (eBin ixD (eVar 1) (eC (.int 1)))) (gtT 2 (gtCons (gtN 5) (gtCons (gtN 6) gtNil))) (sSeq (sSet 7 (eCa F_out_of (aCons (eVar 0) (aCons (eVar 1) (aCons (eVar 2) (aCons (eVar 3) (aCons (eVar 5) aNil))))))) (sDPutM 4 (eBin addD (eBor (eTri dgetD (eVar 4) (eVar 7) (eC (.int 0)))) (eVar 6)) (eVar 7)))) (sRet (eCa tupleD (aCons (eLc (iSeq (eCa sortDD (aCons (eVar 4) aNil))) [7] (gtN 7) tTrue (eTup (aCons (eVar 7) (aCons (eBin dixD (eVar 4) (eVar 7)) aNil)))) aNil)))))
def F_open_stakes : List D → Option D := runP 2 (sRet (eLc2 (iSeq (eVar 0)) [2, 3] (gtN 2) tTrue (iSeq (eCa F_stakes (aCons (eVar 2) aNil))) [3] (gtN 3) (tBl (eBin leD (eBin addD (eVar 3) (eBin ixD (eVar 2) (eC (.int 5)))) (eVar 1))) (eTup (aCons (eVar 2) (aCons (eVar 3) aNil)))))
def F_house_plays : List D → Option D := runP 2 (sRet (eCa tupleD (aCons (eLc (iSeq (eCa F_open_stakes (aCons (eVar 1) (aCons (eVar 2) aNil)))) [3, 4] (gtT 2 (gtCons (gtN 3) (gtCons (gtN 4) gtNil))) tTrue (eCa F_stake_lottery (aCons (eVar 0) (aCons (eVar 3) (aCons (eVar 2) (aCons (eVar 4) aNil)))))) aNil)))
def F_laid : List D → Option D := runP 3 (sSeq (sTgt (gtT 2 (gtCons (gtN 2) (gtCons (gtN 3) gtNil))) (eCa F_checked_house (aCons (eVar 0) aNil))) (sSeq (sIf (tBl (eBin neD (eCa lenD (aCons (eVar 1) aNil)) (eBin addD (eVar 2) (eC (.int 1))))) sNever sNil) (sRet (eCa F_made_board (aCons (eVar 1) (aCons (eCa tupleD (aCons (eLc (iRngM (aCons (eBin addD (eVar 2) (eC (.int 1))) aNil)) [4] (gtN 4) tTrue (eCa F_house_plays (aCons (eVar 2) (aCons (eVar 3) (aCons (eVar 4) aNil))))) aNil)) aNil))))))
def F__law_is_ratio : List D → Option D := runP 1 (sSeq (sIf (tOrM (tNotM (tTr (eUn (isiD "tuple") (eVar 0)))) (tBl (eBin neD (eCa lenD (aCons (eVar 0) aNil)) (eC (.int 2))))) (sRet (eC (.bl false))) sNil) (sSeq (sFor (iSeq (eVar 0)) (gtN 1) (sIf (tOrM (tNotM (tTr (eUn (isiD "int") (eVar 1)))) (tTr (eUn (isiD "bool") (eVar 1)))) (sRet (eC (.bl false))) sNil)) (sRet (eAnd (eBin geD (eBin ixD (eVar 0) (eC (.int 1))) (eC (.int 1))) (eBin eqD (eCa F__law_low (aCons (eBin ixD (eVar 0) (eC (.int 0))) (aCons (eBin ixD (eVar 0) (eC (.int 1))) aNil))) (eVar 0))))))
def F__law_is_function : List D → Option D := runP 1 (sSeq (sIf (tOrM (tNotM (tTr (eUn (isiD "tuple") (eVar 0)))) (tBl (eBin neD (eCa lenD (aCons (eVar 0) aNil)) (eVar 1)))) (sRet (eC (.bl false))) sNil) (sRet (eCa allD (aCons (eLc (iSeq (eVar 0)) [2] (gtN 2) tTrue (eCa F__law_is_ratio (aCons (eVar 2) aNil))) aNil))))
def F__law_below : List D → Option D := runP 0 (sRet (eBin ltD (eBin mulD (eBin ixD (eVar 0) (eC (.int 0))) (eBin ixD (eVar 1) (eC (.int 1)))) (eBin mulD (eBin ixD (eVar 1) (eC (.int 0))) (eBin ixD (eVar 0) (eC (.int 1))))))
def F_law : List D → Option D := runP 13 (sSeq (sSet 1 (eCa F__law_pool (aCons (eVar 0) (aCons (eC (.int 0)) aNil)))) (sSeq (sTgt (gtT 2 (gtCons (gtN 2) (gtCons (gtN 3) gtNil))) (eCaI 1 I__law_house (aCons (eC (.int 1)) aNil))) (sSeq (sSet 4 (eTup (aCons (eVar 2) (aCons (eBin addD (eVar 3) (eTup (aCons (eCaI 1 I__law_table (aCons (eLc (iSeq (eVar 3)) [5] (gtN 5) tTrue (eBin ixD (eVar 5) (eC (.int 0)))) aNil)) aNil))) aNil)))) (sSeq (sSet 6 (eCaI 1 I__law_rising (aCons (eVar 2) aNil))) (sSeq (sTgt (gtT 2 (gtCons (gtN 7) (gtCons (gtN 8) gtNil))) (eCaI 1 I__law_changed (aCons (eVar 4) aNil))) (sSeq (sPar [9, 10] (aCons (eCa F_worth (aCons (eCa F_laid (aCons (eVar 4) (aCons (eVar 6) aNil))) aNil)) (aCons (eCa F_worth (aCons (eCa F_laid (aCons (eVar 7) (aCons (eVar 6) aNil))) aNil)) aNil))) (sSeq (sIf (tOrM (tNotM (tTr (eCa F__law_is_function (aCons (eVar 9) (aCons (eBin addD (eVar 2) (eC (.int 1))) aNil))))) (tNotM (tTr (eCa F__law_is_function (aCons (eVar 10) (aCons (eBin addD (eVar 2) (eC (.int 1))) aNil)))))) (sRet (eC (.bl false))) sNil) (sSeq (sTgt (gtT 2 (gtCons (gtN 11) (gtCons (gtN 12) gtNil))) (eIf (tTr (eVar 8)) (eTup (aCons (eVar 9) (aCons (eVar 10) aNil))) (eTup (aCons (eVar 10) (aCons (eVar 9) aNil))))) (sRet (eBin eqD (eLc (iRngM (aCons (eBin addD (eVar 2) (eC (.int 1))) aNil)) [13] (gtN 13) (tTr (eCa F__law_below (aCons (eBin ixD (eVar 12) (eVar 13)) (aCons (eBin ixD (eVar 11) (eVar 13)) aNil)))) (eVar 13)) (eLst aNil)))))))))))
/-- are the outs that the law draws plain tuples -/
def plO : Bool := true
end Z
/-! Ratios. -/
namespace Z
open PySem
def rD (q : Rat) : D := .tup [.int q.num, .int q.den]
theorem F_less_eq (a b : Rat) (h1 : MulOk a.num b.den) (h2 : MulOk b.num a.den) : F_less [rD a, rD b] = some (.bl (decide (a < b))) := by
  have e : (a < b) ↔ a.num * b.den < b.num * a.den := Rat.lt_iff a b
  simp [F_less, runP, envOf, sRet, eBin, eVar, eC, rD, ixD, L2.atI, L2.ixN, mulD, h1, h2, ltD, e]
theorem F_ratio_eq (n d : Int) (hd : d ≠ 0) (h1 : d.natAbs < BIG) : F_ratio [.int n, .int d] = some (rD (Rat.divInt n d)) := by
  have hg : 0 < Nat.gcd n.natAbs d.natAbs := Nat.gcd_pos_of_pos_right _ (by omega)
  have hgd : Nat.gcd n.natAbs d.natAbs ≤ d.natAbs := Nat.gcd_le_right _ (by omega)
  have hB : Nat.gcd n.natAbs d.natAbs < BIG := Nat.lt_of_le_of_lt hgd h1
  have dn : ((Nat.gcd n.natAbs d.natAbs : Nat) : Int) ∣ n := Int.gcd_dvd_left ..
  have dd : ((Nat.gcd n.natAbs d.natAbs : Nat) : Int) ∣ d := Int.gcd_dvd_right ..
  have hn := Rat.num_divInt n d
  have hden := Rat.den_divInt n d
  rw [if_neg hd] at hden
  have hgc : d.gcd n = Nat.gcd n.natAbs d.natAbs := by
    rw [Int.gcd_comm]
    rfl
  rw [hgc] at hn hden
  have hdI : ((Rat.divInt n d).den : Int) = d.natAbs / (Nat.gcd n.natAbs d.natAbs : Nat) := by
    rw [hden]
    exact Int.natCast_ediv _ _
  generalize hge : Nat.gcd n.natAbs d.natAbs = g at *
  have hgi : (g : Int) ≠ 0 := by omega
  have hgN : (g : Int).natAbs < BIG := by simpa using hB
  have okd : ∀ i : Int, D.ok 60 (.int i) = true := fun i => by simp [D.ok]
  have f1 : n.fdiv (g : Int) = n / (g : Int) := Int.fdiv_eq_ediv_of_dvd dn
  have f2 : d.fdiv (g : Int) = d / (g : Int) := Int.fdiv_eq_ediv_of_dvd dd
  have f3 : n.fdiv (-(g : Int)) = -(n / (g : Int)) := by
    rw [Int.fdiv_eq_ediv_of_dvd (Int.neg_dvd.mpr dn), Int.ediv_neg]
  have f4 : d.fdiv (-(g : Int)) = -(d / (g : Int)) := by
    rw [Int.fdiv_eq_ediv_of_dvd (Int.neg_dvd.mpr dd), Int.ediv_neg]
  by_cases hneg : d < 0
  · have e1 : (Rat.divInt n d).num = -(n / (g : Int)) := by
      rw [hn, Int.sign_eq_neg_one_of_neg hneg, Int.neg_mul, Int.one_mul, Int.neg_ediv_of_dvd dn]
    have e2 : ((Rat.divInt n d).den : Int) = -(d / (g : Int)) := by
      rw [hdI, ← Int.neg_ediv_of_dvd dd]
      congr 1
      omega
    simp [F_ratio, runP, envOf, sSeq, sIf, tBl, eBin, eVar, eC, eqD, okd, D.eqb, hd, sNil, sSet, eCa, aCons, aNil, gcdD, ltD, hneg, eUn, negD, sRet, eTup, fdivD, hgi, hgN, rD, e1, e2, f3, f4, hB, hge, Nat.ne_of_gt hg]
  · have e1 : (Rat.divInt n d).num = n / (g : Int) := by
      rw [hn, Int.sign_eq_one_of_pos (by omega), Int.one_mul]
    have e2 : ((Rat.divInt n d).den : Int) = d / (g : Int) := by
      rw [hdI]
      congr 1
      omega
    simp [F_ratio, runP, envOf, sSeq, sIf, tBl, eBin, eVar, eC, eqD, okd, D.eqb, hd, sNil, sSet, eCa, aCons, aNil, gcdD, ltD, hneg, eUn, negD, sRet, eTup, fdivD, hgi, hgN, rD, e1, e2, f1, f2, hB, hge, Nat.ne_of_gt hg]
theorem den_ne (a : Rat) : (a.den : Int) ≠ 0 := by
  have := a.den_nz
  omega
theorem add_divInt (a b : Rat) : Rat.divInt (a.num * b.den + b.num * a.den) (a.den * b.den) = a + b := by
  rw [← Rat.divInt_add_divInt _ _ (den_ne a) (den_ne b), Rat.num_divInt_den, Rat.num_divInt_den]
theorem mul_divInt (a b : Rat) : Rat.divInt (a.num * b.num) (a.den * b.den) = a * b := by
  rw [← Rat.divInt_mul_divInt, Rat.num_divInt_den, Rat.num_divInt_den]
theorem den_mul_ne (a b : Rat) : ((a.den : Int) * b.den) ≠ 0 := Int.mul_ne_zero (den_ne a) (den_ne b)
theorem F_plus_eq (a b : Rat) (h1 : MulOk a.num b.den) (h2 : MulOk b.num a.den) (h3 : MulOk a.den b.den) (h4 : a.den * b.den < BIG) : F_plus [rD a, rD b] = some (rD (a + b)) := by
  have e := F_ratio_eq (a.num * b.den + b.num * a.den) (a.den * b.den) (den_mul_ne a b) (by rw [Int.natAbs_mul]; simpa using h4)
  rw [add_divInt] at e
  simp [F_plus, runP, envOf, sRet, eBin, eVar, eC, rD, ixD, L2.atI, L2.ixN, mulD, addD, h1, h2, h3, eCa, aCons, aNil] at e ⊢
  rw [e]
  rfl
theorem F_times_eq (a b : Rat) (h1 : MulOk a.num b.num) (h3 : MulOk a.den b.den) (h4 : a.den * b.den < BIG) : F_times [rD a, rD b] = some (rD (a * b)) := by
  have e := F_ratio_eq (a.num * b.num) (a.den * b.den) (den_mul_ne a b) (by rw [Int.natAbs_mul]; simpa using h4)
  rw [mul_divInt] at e
  simp [F_times, runP, envOf, sRet, eBin, eVar, eC, rD, ixD, L2.atI, L2.ixN, mulD, addD, h1, h3, eCa, aCons, aNil] at e ⊢
  rw [e]
  rfl
/-! ### lotteries -/
abbrev Lot := List (Nat × Int)
def pairD (p : Nat × Int) : D := .tup [.int p.1, .int p.2]
def lotD (l : Lot) : D := .tup (l.map pairD)
def wsum (l : Lot) : Int := (l.map (·.2)).sum
theorem intsD_fn {α : Type} (f : α → Int) : ∀ l : List α, intsD (l.map fun x => D.int (f x)) = some (l.map f)
  | [] => rfl
  | i :: l => by
    simp [intsD, intsD_fn f l]
theorem F_weight_of_eq (l : Lot) (hl : l.length ≤ 100000) : F_weight_of [lotD l] = some (.int (wsum l)) := by
  have key : ∀ (l : Lot) (ρ : Env), ρ.length = 3 → ∃ ρ', compG [1, 2] (gtT 2 (gtCons (gtN 1) (gtCons (gtN 2) gtNil))) tTrue (eVar 2) (l.map pairD) ρ = some (l.map fun p => D.int p.2, ρ') := by
    intro l
    induction l with
    | nil => exact fun ρ _ => ⟨ρ, rfl⟩
    | cons p l ih =>
      intro ρ hρ
      match ρ, hρ with
      | [x, y, z], _ =>
        obtain ⟨ρ', h⟩ := ih [x, some (.int p.1), some (.int p.2)] rfl
        refine ⟨ρ', ?_⟩
        simp [compG, pairD, gtT, gtCons, gtN, gtNil, wipeE, tTrue, eVar] at h ⊢
        rw [h]
  obtain ⟨ρ', h⟩ := key l (envOf 2 [lotD l]) rfl
  simp [F_weight_of, runP, envOf, sRet, eCa, aCons, aNil, eLc, iSeq, eVar, lotD, hl] at h ⊢
  rw [h]
  simp [sumD, intsD_fn, wsum]
/-! ### averages -/
/-- the loop of average: numerator, denominator -/
def avgStep (f : Nat → Rat) (s : Int × Int) (p : Nat × Int) : Int × Int := (s.1 * (f p.1).den + p.2 * (f p.1).num * s.2, s.2 * (f p.1).den)
def avgSum (f : Nat → Rat) (l : Lot) : Rat := (l.map fun p => (p.2 : Rat) * f p.1).sum
def avg (f : Nat → Rat) (l : Lot) : Rat := avgSum f l / (wsum l : Rat)
def SZ : Nat := 2 ^ 400
def WZ : Nat := 2 ^ 20
theorem rat_nd (q : Rat) : q = (q.num : Rat) / ((q.den : Int) : Rat) := by
  rw [← Rat.divInt_eq_div, Rat.num_divInt_den]
theorem cast_ne {i : Int} (h : i ≠ 0) : (i : Rat) ≠ 0 := by
  intro e
  exact h (Rat.intCast_eq_zero_iff.mp e)
theorem avg_fold (f : Nat → Rat) : ∀ (l : Lot) (s : Int × Int), s.2 ≠ 0 → (l.foldl (avgStep f) s).2 ≠ 0 ∧ ((l.foldl (avgStep f) s).1 : Rat) / ((l.foldl (avgStep f) s).2 : Rat) = (s.1 : Rat) / (s.2 : Rat) + avgSum f l
  | [], s, h => ⟨h, by simp [avgSum, Rat.add_zero]⟩
  | p :: l, s, h => by
    have h2 : s.2 * ((f p.1).den : Int) ≠ 0 := Int.mul_ne_zero h (den_ne _)
    obtain ⟨h3, h4⟩ := avg_fold f l (avgStep f s p) h2
    refine ⟨h3, ?_⟩
    rw [List.foldl_cons, h4]
    have e : ((avgStep f s p).1 : Rat) / ((avgStep f s p).2 : Rat) = (s.1 : Rat) / (s.2 : Rat) + (p.2 : Rat) * f p.1 := by
      have e1 := rat_nd (f p.1)
      have c1 := cast_ne h
      have c2 := cast_ne (den_ne (f p.1))
      simp only [avgStep, Rat.intCast_add, Rat.intCast_mul]
      grind
    rw [e]
    simp only [avgSum, List.map_cons, List.sum_cons]
    grind
end Z
/-! average on data. -/
namespace Z
open PySem
theorem mulOk_of {i j : Int} (hi : i.natAbs < BIG) (hj : j.natAbs < BIG) : MulOk i j := .inr (.inr ⟨hi, hj⟩)
theorem at20 (a b : D) : L2.atI [a, b] 0 = some a := rfl
theorem at21 (a b : D) : L2.atI [a, b] 1 = some b := rfl
/-- a ratio whose parts are below SZ -/
structure Sm (q : Rat) : Prop where
  n : q.num.natAbs < SZ
  d : q.den < SZ
/-- a lottery of at most eight pairs with weights below WZ -/
structure LotOk (l : Lot) : Prop where
  len : l.length ≤ 8
  w : ∀ p ∈ l, 0 < p.2 ∧ p.2.natAbs < WZ
theorem pow_lt_BIG {k : Nat} (h : k ≤ 8) : SZ ^ k * (8 * WZ) * SZ < BIG := by
  have h1 : SZ ^ k ≤ SZ ^ 8 := Nat.pow_le_pow_right (by decide) h
  have h2 : SZ ^ 8 * (8 * WZ) * SZ < BIG := by decide +kernel
  exact Nat.lt_of_le_of_lt (Nat.mul_le_mul_right _ (Nat.mul_le_mul_right _ h1)) h2
/-- what the numbers of average's loop come up to after i pairs -/
def AvB (i : Nat) (s : Int × Int) : Prop := s.1.natAbs ≤ i * WZ * SZ ^ i ∧ s.2.natAbs ≤ SZ ^ i
theorem avB_step {f : Nat → Rat} {i : Nat} {s : Int × Int} {p : Nat × Int} (hf : Sm (f p.1)) (hw : p.2.natAbs < WZ) (h : AvB i s) : AvB (i + 1) (avgStep f s p) := by
  obtain ⟨h1, h2⟩ := h
  constructor
  · simp only [avgStep]
    have a1 : (s.1 * ((f p.1).den : Int)).natAbs ≤ i * WZ * SZ ^ i * SZ := by
      rw [Int.natAbs_mul]
      exact Nat.mul_le_mul h1 (Nat.le_of_lt hf.d)
    have a2 : (p.2 * (f p.1).num * s.2).natAbs ≤ WZ * SZ * SZ ^ i := by
      rw [Int.natAbs_mul, Int.natAbs_mul]
      exact Nat.mul_le_mul (Nat.mul_le_mul (Nat.le_of_lt hw) (Nat.le_of_lt hf.n)) h2
    have a3 := Int.natAbs_add_le (s.1 * ((f p.1).den : Int)) (p.2 * (f p.1).num * s.2)
    have e : (i + 1) * WZ * SZ ^ (i + 1) = i * WZ * SZ ^ i * SZ + WZ * SZ * SZ ^ i := by
      rw [Nat.pow_succ]
      generalize SZ ^ i = x
      grind
    omega
  · simp only [avgStep]
    rw [Int.natAbs_mul, Nat.pow_succ]
    exact Nat.mul_le_mul h2 (Nat.le_of_lt hf.d)
theorem SZ_pos : 0 < SZ := by decide +kernel
theorem avB_lt {i : Nat} {s : Int × Int} (hi : i ≤ 8) (h : AvB i s) : s.1.natAbs < BIG ∧ s.2.natAbs < BIG := by
  have hp := pow_lt_BIG hi
  obtain ⟨h1, h2⟩ := h
  have hs := SZ_pos
  have hw : 1 ≤ 8 * WZ := by decide +kernel
  constructor
  · have : i * WZ * SZ ^ i ≤ SZ ^ i * (8 * WZ) * SZ := by
      have a : i * WZ ≤ 8 * WZ := Nat.mul_le_mul_right _ hi
      calc i * WZ * SZ ^ i ≤ 8 * WZ * SZ ^ i := Nat.mul_le_mul_right _ a
        _ = SZ ^ i * (8 * WZ) := Nat.mul_comm ..
        _ ≤ SZ ^ i * (8 * WZ) * SZ := Nat.le_mul_of_pos_right _ hs
    omega
  · have : SZ ^ i ≤ SZ ^ i * (8 * WZ) * SZ := by
      calc SZ ^ i = SZ ^ i * 1 := (Nat.mul_one _).symm
        _ ≤ SZ ^ i * (8 * WZ) := Nat.mul_le_mul_left _ hw
        _ ≤ SZ ^ i * (8 * WZ) * SZ := Nat.le_mul_of_pos_right _ hs
    omega
theorem Sm.nB {q : Rat} (h : Sm q) : q.num.natAbs < BIG := Nat.lt_of_lt_of_le h.n (by decide +kernel)
theorem Sm.dB {q : Rat} (h : Sm q) : ((q.den : Int)).natAbs < BIG := by
  have : q.den < BIG := Nat.lt_of_lt_of_le h.d (by decide +kernel)
  simpa using this
theorem avg_loop (fs : List D) (f : Nat → Rat) (L : D) : ∀ (l : Lot) (i : Nat) (s : Int × Int) (a b c : Option D), i + l.length ≤ 8 → (∀ p ∈ l, p.2.natAbs < WZ ∧ fs[p.1]? = some (rD (f p.1)) ∧ Sm (f p.1)) → AvB i s →
    ∃ a' b' c', forG (gtT 2 (gtCons (gtN 4) (gtCons (gtN 5) gtNil))) (sSeq (sSet 6 (eBin ixD (eVar 0) (eVar 4))) (sPar [2, 3] (aCons (eBin addD (eBin mulD (eVar 2) (eBin ixD (eVar 6) (eC (.int 1)))) (eBin mulD (eBin mulD (eVar 5) (eBin ixD (eVar 6) (eC (.int 0)))) (eVar 3))) (aCons (eBin mulD (eVar 3) (eBin ixD (eVar 6) (eC (.int 1)))) aNil))))
      (l.map pairD) [some (.tup fs), some L, some (.int s.1), some (.int s.2), a, b, c] = some (.nx [some (.tup fs), some L, some (.int (l.foldl (avgStep f) s).1), some (.int (l.foldl (avgStep f) s).2), a', b', c']) ∧ AvB (i + l.length) (l.foldl (avgStep f) s)
  | [], i, s, a, b, c, _, _, hB => ⟨a, b, c, by simp [forG], by simpa using hB⟩
  | p :: l, i, s, a, b, c, hl, hp, hB => by
    rw [List.length_cons] at hl
    obtain ⟨hw, hf, hS⟩ := hp p (List.mem_cons_self ..)
    have hB' := avB_step hS hw hB
    obtain ⟨a', b', c', h1, h2⟩ := avg_loop fs f L l (i + 1) (avgStep f s p) (some (.int p.1)) (some (.int p.2)) (some (rD (f p.1))) (by omega) (fun q hq => hp q (List.mem_cons_of_mem _ hq)) hB'
    obtain ⟨b1, b2⟩ := avB_lt (by omega) hB
    have hat : L2.atI fs (p.1 : Int) = some (rD (f p.1)) := L2.atI_nat hf
    have m1 : MulOk s.1 ((f p.1).den : Int) := mulOk_of b1 hS.dB
    have m2 : MulOk s.2 ((f p.1).den : Int) := mulOk_of b2 hS.dB
    have m3 : MulOk p.2 (f p.1).num := mulOk_of (Nat.lt_of_lt_of_le hw (by decide +kernel)) hS.nB
    have m4 : MulOk (p.2 * (f p.1).num) s.2 := mulOk_of (by
      rw [Int.natAbs_mul]
      exact Nat.lt_of_lt_of_le (Nat.mul_lt_mul'' hw hS.n) (by decide +kernel)) b2
    refine ⟨a', b', c', ?_, by
      rw [List.length_cons, show i + (l.length + 1) = i + 1 + l.length by omega]
      exact h2⟩
    rw [List.foldl_cons, ← h1]
    simp only [rD] at hat
    simp [forG, gtT, gtCons, gtN, gtNil, pairD, sSeq, sSet, eBin, eVar, ixD, hat, sPar, aCons, aNil, eC, rD, at20, at21, mulD, m1, m2, m3, m4, addD, setDs, avgStep]
theorem wsum_bnd : ∀ l : Lot, (∀ p ∈ l, 0 < p.2 ∧ p.2.natAbs < WZ) → 0 ≤ wsum l ∧ (wsum l).natAbs ≤ l.length * WZ ∧ (l ≠ [] → 0 < wsum l)
  | [], _ => ⟨by decide, by decide, fun h => absurd rfl h⟩
  | p :: l, h => by
    obtain ⟨h1, h2, _⟩ := wsum_bnd l fun q hq => h q (List.mem_cons_of_mem _ hq)
    obtain ⟨h3, h4⟩ := h p (List.mem_cons_self ..)
    have e : wsum (p :: l) = p.2 + wsum l := by simp [wsum]
    rw [e, List.length_cons, Nat.succ_mul]
    refine ⟨by omega, by omega, fun _ => by omega⟩
theorem F_average_eq (fs : List D) (f : Nat → Rat) (l : Lot) (hl : LotOk l) (hne : l ≠ []) (h : ∀ p ∈ l, fs[p.1]? = some (rD (f p.1)) ∧ Sm (f p.1)) : F_average [.tup fs, lotD l] = some (rD (avg f l)) := by
  obtain ⟨a', b', c', h1, h2⟩ := avg_loop fs f (lotD l) l 0 (0, 1) none none none (by have := hl.len; omega) (fun p hp => ⟨(hl.w p hp).2, (h p hp).1, (h p hp).2⟩) ⟨by decide, by decide +kernel⟩
  obtain ⟨h3, h4⟩ := avg_fold f l (0, 1) (by decide)
  obtain ⟨w0, w1, w2⟩ := wsum_bnd l hl.w
  have wp := w2 hne
  have hw := F_weight_of_eq l (by have := hl.len; omega)
  generalize hs : l.foldl (avgStep f) (0, 1) = s at *
  obtain ⟨n, d⟩ := s
  rw [Nat.zero_add] at h2
  obtain ⟨b1, b2⟩ := avB_lt hl.len h2
  have hdw : d * wsum l ≠ 0 := Int.mul_ne_zero h3 (by omega)
  have hwB : (wsum l).natAbs ≤ 8 * WZ := Nat.le_trans w1 (Nat.mul_le_mul_right _ hl.len)
  have hB : (d * wsum l).natAbs < BIG := by
    rw [Int.natAbs_mul]
    have a1 : d.natAbs * (wsum l).natAbs ≤ SZ ^ l.length * (8 * WZ) := Nat.mul_le_mul h2.2 hwB
    have a2 := pow_lt_BIG hl.len
    have a3 : SZ ^ l.length * (8 * WZ) ≤ SZ ^ l.length * (8 * WZ) * SZ := Nat.le_mul_of_pos_right _ SZ_pos
    omega
  have e := F_ratio_eq n (d * wsum l) hdw hB
  have e2 : Rat.divInt n (d * wsum l) = avg f l := by
    rw [Rat.divInt_eq_div, Rat.intCast_mul]
    have c1 := cast_ne h3
    have c2 : (wsum l : Rat) ≠ 0 := cast_ne (by omega)
    have h5 : (n : Rat) / (d : Rat) = avgSum f l := by
      rw [h4]
      simp
      grind
    unfold avg
    rw [← h5]
    grind
  rw [e2] at e
  have m : MulOk d (wsum l) := mulOk_of b2 (Nat.lt_of_le_of_lt hwB (by decide +kernel))
  simp only [lotD] at hw h1
  simp [F_average, runP, envOf, sSeq, sPar, aCons, aNil, eC, setDs, sFor, iSeq, eVar, lotD] at h1 ⊢
  rw [h1]
  simp [sRet, eCa, aCons, aNil, eBin, eVar, mulD, hw, m, e]
end Z
/-! Pure comprehensions; boards on data; amounts, improving. -/
namespace Z
open PySem
theorem restE_same {ρ ρ' : Env} {vs : List Nat} (h : wipeE vs ρ' = wipeE vs ρ) : restE vs ρ ρ' = ρ := by
  have hl : ρ'.length = ρ.length := by
    have := congrArg List.length h
    rwa [wipeE_len, wipeE_len] at this
  refine List.ext_getElem? fun i => ?_
  by_cases hi : i ∈ vs
  · exact restE_in hl hi
  · rw [restE_out hi, ← wipeE_out (ρ := ρ') hi, h, wipeE_out hi]
theorem compG_pure {vs : List Nat} {gt : D → Env → Option Env} {t : MT} {f : M} {ρw : Env} (b : D → Bool) (r : D → D) : ∀ (ds : List D) (ρ : Env), wipeE vs ρ = ρw → (∀ d ∈ ds, ∃ ρ1, gt d ρw = some ρ1 ∧ t ρ1 = some (b d, ρ1) ∧ (b d = true → f ρ1 = some (r d, ρ1)) ∧ wipeE vs ρ1 = ρw) →
    ∃ ρ', compG vs gt t f ds ρ = some ((ds.filter b).map r, ρ') ∧ wipeE vs ρ' = ρw
  | [], ρ, hρ, _ => ⟨ρ, rfl, hρ⟩
  | d :: ds, ρ, hρ, h => by
    obtain ⟨ρ1, h1, h2, h3, h4⟩ := h d (List.mem_cons_self ..)
    obtain ⟨ρ', h5, h6⟩ := compG_pure (t := t) (f := f) b r ds ρ1 h4 fun d' hd' => h d' (List.mem_cons_of_mem _ hd')
    refine ⟨ρ', ?_, h6⟩
    simp only [compG, hρ, h1, Option.bind_some, h2]
    by_cases hb : b d = true
    · simp [hb, h3 hb, h5]
    · simp [hb, h5]
/-- a comprehension without own effects -/
theorem eLc_pure {fi : MI} {vs : List Nat} {gt : D → Env → Option Env} {t : MT} {f : M} {ρ ρw : Env} {ds : List D} (h1 : fi ρ = some (ds, ρ)) (hw : wipeE vs ρ = ρw) (b : D → Bool) (r : D → D)
    (h : ∀ d ∈ ds, ∃ ρ1, gt d ρw = some ρ1 ∧ t ρ1 = some (b d, ρ1) ∧ (b d = true → f ρ1 = some (r d, ρ1)) ∧ wipeE vs ρ1 = ρw) (hl : ds.length ≤ 100000) : eLc fi vs gt t f ρ = some (.lst ((ds.filter b).map r), ρ) := by
  obtain ⟨ρ', h2, h3⟩ := compG_pure (t := t) (f := f) b r ds ρ hw h
  simp only [eLc, h1, Option.bind_some, h2, if_pos hl]
  rw [restE_same (h3.trans hw.symm)]
theorem eLc_pureT {fi : MI} {vs : List Nat} {gt : D → Env → Option Env} {f : M} {ρ ρw : Env} {ds : List D} (h1 : fi ρ = some (ds, ρ)) (hw : wipeE vs ρ = ρw) (r : D → D)
    (h : ∀ d ∈ ds, ∃ ρ1, gt d ρw = some ρ1 ∧ f ρ1 = some (r d, ρ1) ∧ wipeE vs ρ1 = ρw) (hl : ds.length ≤ 100000) : eLc fi vs gt tTrue f ρ = some (.lst (ds.map r), ρ) := by
  have := eLc_pure (t := tTrue) (f := f) h1 hw (fun _ => true) r (fun d hd => by
    obtain ⟨ρ1, a, b, c⟩ := h d hd
    exact ⟨ρ1, a, rfl, fun _ => b, c⟩) hl
  have e : ds.filter (fun _ => true) = ds := List.filter_eq_self.mpr fun _ _ => rfl
  rw [e] at this
  exact this
/-! ### boards -/
structure Bo where
  n : Nat
  pay : Nat → Rat
  plays : Nat → List Lot
def funD (n : Nat) (f : Nat → Rat) : D := .tup ((List.range n).map fun x => rD (f x))
def boardD (b : Bo) : D := .ins "Board" ["size", "pays", "plays"] [.int b.n, funD b.n b.pay, .tup ((List.range b.n).map fun x => .tup ((b.plays x).map lotD))]
def wayD (n : Nat) (σ : Nat → Int) : D := .tup ((List.range n).map fun x => .int (σ x))
structure Bo.Ok (b : Bo) : Prop where
  n1 : 1 ≤ b.n
  n40 : b.n ≤ 40
  few : ∀ x, (b.plays x).length ≤ 12
  lot : ∀ x, x < b.n → ∀ l ∈ b.plays x, LotOk l ∧ l ≠ [] ∧ ∀ p ∈ l, p.1 < b.n
  pay : ∀ x, x < b.n → Sm (b.pay x) ∧ 0 ≤ b.pay x
theorem att_size (b : Bo) : attD "Board" "size" (boardD b) = some (.int b.n) := rfl
theorem att_pays (b : Bo) : attD "Board" "pays" (boardD b) = some (funD b.n b.pay) := rfl
theorem att_plays (b : Bo) : attD "Board" "plays" (boardD b) = some (.tup ((List.range b.n).map fun x => .tup ((b.plays x).map lotD))) := rfl
theorem at_range {α : Type} {n x : Nat} (f : Nat → α) (h : x < n) : L2.atI ((List.range n).map f) (x : Int) = some (f x) := L2.atI_nat (by rw [List.getElem?_map, List.getElem?_range h]; rfl)
theorem ix_range {n x : Nat} (f : Nat → D) (h : x < n) : ixD (.tup ((List.range n).map f)) (.int x) = some (f x) := at_range f h
theorem ix_fun {n x : Nat} (f : Nat → Rat) (h : x < n) : ixD (funD n f) (.int x) = some (rD (f x)) := at_range _ h
theorem ix_way {n x : Nat} (f : Nat → Int) (h : x < n) : ixD (wayD n f) (.int x) = some (.int (f x)) := at_range _ h
theorem get_fun {n x : Nat} (f : Nat → Rat) (h : x < n) : ((List.range n).map fun x => rD (f x))[x]? = some (rD (f x)) := by
  rw [List.getElem?_map, List.getElem?_range h]
  rfl
/-- what the choices at a place have -/
def amts (b : Bo) (f : Nat → Rat) (x : Nat) : List Rat := b.pay x :: (b.plays x).map (avg f)
/-- all small below n -/
def SmF (n : Nat) (f : Nat → Rat) : Prop := ∀ x, x < n → Sm (f x)
theorem F_amounts_eq (b : Bo) (ok : b.Ok) (f : Nat → Rat) (hf : SmF b.n f) (x : Nat) (hx : x < b.n) : F_amounts [boardD b, funD b.n f, .int x] = some (.lst ((amts b f x).map rD)) := by
  have hlen := ok.few x
  have h1 : (eLc (iSeq (eBin ixD (eUn (attD "Board" "plays") (eVar 0)) (eVar 2))) [3] (gtN 3) tTrue (eCa F_average (aCons (eVar 1) (aCons (eVar 3) aNil)))) [some (boardD b), some (funD b.n f), some (.int x), none] = some (.lst ((b.plays x).map fun l => rD (avg f l)), [some (boardD b), some (funD b.n f), some (.int x), none]) := by
    have := eLc_pureT (fi := iSeq (eBin ixD (eUn (attD "Board" "plays") (eVar 0)) (eVar 2))) (vs := [3]) (gt := gtN 3) (f := eCa F_average (aCons (eVar 1) (aCons (eVar 3) aNil))) (ρ := [some (boardD b), some (funD b.n f), some (.int x), none]) (ds := (b.plays x).map lotD) (ρw := [some (boardD b), some (funD b.n f), some (.int x), none])
      (by simp [iSeq, eBin, eUn, eVar, att_plays, ix_range _ hx]) rfl (fun d => match F_average [funD b.n f, d] with
        | some y => y
        | none => .non) (fun d hd => by
          obtain ⟨l, hl, rfl⟩ := List.mem_map.mp hd
          obtain ⟨a1, a2, a3⟩ := ok.lot x hx l hl
          have e := F_average_eq ((List.range b.n).map fun x => rD (f x)) f l a1 a2 fun p hp => ⟨get_fun f (a3 p hp), hf _ (a3 p hp)⟩
          refine ⟨_, rfl, ?_, rfl⟩
          simp [eCa, aCons, aNil, eVar, funD, e]) (by simp; omega)
    rw [this, List.map_map]
    congr 3
    refine List.map_congr_left fun l hl => ?_
    obtain ⟨a1, a2, a3⟩ := ok.lot x hx l hl
    have e := F_average_eq ((List.range b.n).map fun x => rD (f x)) f l a1 a2 fun p hp => ⟨get_fun f (a3 p hp), hf _ (a3 p hp)⟩
    simp [funD, e]
  simp only [F_amounts, runP, envOf, sRet, eCat]
  simp [eLst, aCons, aNil, eBin, eUn, eVar, att_pays, ix_fun _ hx]
  rw [h1]
  have : 1 + (b.plays x).length ≤ 100000 := by omega
  simp [this, amts]
end Z
/-! Improving a way, on data. -/
namespace Z
open PySem
structure Md (q : Rat) : Prop where
  n : q.num.natAbs < BIG
  d : ((q.den : Int)).natAbs < BIG
theorem Sm.md {q : Rat} (h : Sm q) : Md q := ⟨h.nB, h.dB⟩
theorem md_divInt {n d : Int} (hd : d ≠ 0) (h1 : n.natAbs < BIG) (h2 : d.natAbs < BIG) : Md (Rat.divInt n d) := by
  have hn := Rat.num_divInt n d
  have hden := Rat.den_divInt n d
  rw [if_neg hd] at hden
  constructor
  · rw [hn]
    refine Nat.lt_of_le_of_lt ?_ h1
    have a : (d.sign * n).natAbs ≤ n.natAbs := by
      rw [Int.natAbs_mul]
      have : d.sign.natAbs ≤ 1 := by
        rw [Int.natAbs_sign]
        split <;> omega
      calc d.sign.natAbs * n.natAbs ≤ 1 * n.natAbs := Nat.mul_le_mul_right _ this
        _ = n.natAbs := Nat.one_mul _
    have hg : (d.gcd n : Int) ∣ d.sign * n := Int.dvd_mul_of_dvd_right (Int.gcd_dvd_right ..)
    rw [Int.natAbs_ediv_of_dvd hg]
    exact Nat.le_trans (Nat.div_le_self _ _) a
  · rw [hden]
    refine Nat.lt_of_le_of_lt ?_ h2
    simp only [Int.natAbs_natCast]
    exact Nat.div_le_self _ _
theorem F_less_md (a b : Rat) (ha : Md a) (hb : Md b) : F_less [rD a, rD b] = some (.bl (decide (a < b))) := F_less_eq a b (mulOk_of ha.n hb.d) (mulOk_of hb.n ha.d)
theorem avg_md (f : Nat → Rat) (l : Lot) (hl : LotOk l) (hne : l ≠ []) (h : ∀ p ∈ l, Sm (f p.1)) : Md (avg f l) := by
  have h2 : ∀ (l : Lot) (i : Nat) (s : Int × Int), i + l.length ≤ 8 → (∀ p ∈ l, p.2.natAbs < WZ ∧ Sm (f p.1)) → AvB i s → AvB (i + l.length) (l.foldl (avgStep f) s) := by
    intro l
    induction l with
    | nil => exact fun i s _ _ h => by simpa using h
    | cons p l ih =>
      intro i s hi hp hB
      rw [List.length_cons] at hi
      have a := hp p (List.mem_cons_self ..)
      rw [List.length_cons, show i + (l.length + 1) = i + 1 + l.length by omega]
      exact ih (i + 1) _ (by omega) (fun q hq => hp q (List.mem_cons_of_mem _ hq)) (avB_step a.2 a.1 hB)
  have h2 := h2 l 0 (0, 1) (by have := hl.len; omega) (fun p hp => ⟨(hl.w p hp).2, h p hp⟩) ⟨by decide, by decide +kernel⟩
  obtain ⟨h3, h4⟩ := avg_fold f l (0, 1) (by decide)
  obtain ⟨w0, w1, w2⟩ := wsum_bnd l hl.w
  have wp := w2 hne
  generalize hs : l.foldl (avgStep f) (0, 1) = s at *
  obtain ⟨n, d⟩ := s
  rw [Nat.zero_add] at h2
  obtain ⟨b1, b2⟩ := avB_lt hl.len h2
  have hdw : d * wsum l ≠ 0 := Int.mul_ne_zero h3 (by omega)
  have hwB : (wsum l).natAbs ≤ 8 * WZ := Nat.le_trans w1 (Nat.mul_le_mul_right _ hl.len)
  have hB : (d * wsum l).natAbs < BIG := by
    rw [Int.natAbs_mul]
    have a1 : d.natAbs * (wsum l).natAbs ≤ SZ ^ l.length * (8 * WZ) := Nat.mul_le_mul h2.2 hwB
    have a2 := pow_lt_BIG hl.len
    have a3 : SZ ^ l.length * (8 * WZ) ≤ SZ ^ l.length * (8 * WZ) * SZ := Nat.le_mul_of_pos_right _ SZ_pos
    omega
  have e2 : Rat.divInt n (d * wsum l) = avg f l := by
    rw [Rat.divInt_eq_div, Rat.intCast_mul]
    have c1 := cast_ne h3
    have c2 : (wsum l : Rat) ≠ 0 := cast_ne (by omega)
    have h5 : (n : Rat) / (d : Rat) = avgSum f l := by
      rw [h4]
      simp
      grind
    unfold avg
    rw [← h5]
    grind
  rw [← e2]
  exact md_divInt hdw b1 hB
theorem amts_md (b : Bo) (ok : b.Ok) (f : Nat → Rat) (hf : SmF b.n f) (x : Nat) (hx : x < b.n) : ∀ a ∈ amts b f x, Md a := fun a ha => by
  rcases List.mem_cons.mp ha with rfl | ha
  · exact (ok.pay x hx).1.md
  · obtain ⟨l, hl, rfl⟩ := List.mem_map.mp ha
    obtain ⟨a1, a2, a3⟩ := ok.lot x hx l hl
    exact avg_md f l a1 a2 fun p hp => hf _ (a3 p hp)
/-- the first choice with the greatest amount above s.2 -/
def bcGo : Nat → List Rat → Int × Rat → Int × Rat
  | _, [], s => s
  | i, a :: as, s => bcGo (i + 1) as (if s.2 < a then ((i : Int) - 1, a) else s)
def betterC (b : Bo) (f : Nat → Rat) (x : Nat) (c : Int) : Int := (bcGo 0 (amts b f x) (c, f x)).1
theorem bc_loop (B F X : D) : ∀ (as : List Rat) (i : Nat) (s : Int × Rat) (a b : Option D), (∀ q ∈ as, Md q) → Md s.2 → ∃ a' b', forG (gtT 2 (gtCons (gtN 5) (gtCons (gtN 6) gtNil))) (sIf (tTr (eCa F_less (aCons (eVar 4) (aCons (eVar 6) aNil)))) (sPar [3, 4] (aCons (eBin addD (eVar 5) (eC (.int (-1)))) (aCons (eVar 6) aNil))) sNil)
      (enumL i (as.map rD)) [some B, some F, some X, some (.int s.1), some (rD s.2), a, b] = some (.nx [some B, some F, some X, some (.int (bcGo i as s).1), some (rD (bcGo i as s).2), a', b'])
  | [], i, s, a, b, _, _ => ⟨a, b, by simp [enumL, forG, bcGo]⟩
  | q :: as, i, s, a, b, h, hs => by
    have hq := h q (List.mem_cons_self ..)
    have hl := F_less_md s.2 q hs hq
    by_cases hlt : s.2 < q
    · obtain ⟨a', b', h1⟩ := bc_loop B F X as (i + 1) ((i : Int) - 1, q) (some (.int (i : Nat))) (some (rD q)) (fun z hz => h z (List.mem_cons_of_mem _ hz)) hq
      refine ⟨a', b', ?_⟩
      simp only [bcGo, if_pos hlt]
      rw [← h1]
      have e : (i : Int) + -1 = (i : Int) - 1 := by omega
      simp [enumL, forG, gtT, gtCons, gtN, gtNil, sIf, tTr, eCa, aCons, aNil, eVar, hl, truD, hlt, sPar, eBin, eC, addD, setDs, e]
    · obtain ⟨a', b', h1⟩ := bc_loop B F X as (i + 1) s (some (.int (i : Nat))) (some (rD q)) (fun z hz => h z (List.mem_cons_of_mem _ hz)) hs
      refine ⟨a', b', ?_⟩
      simp only [bcGo, if_neg hlt]
      rw [← h1]
      simp [enumL, forG, gtT, gtCons, gtN, gtNil, sIf, tTr, eCa, aCons, aNil, eVar, hl, truD, hlt, sNil]
theorem F_better_choice_eq (b : Bo) (ok : b.Ok) (f : Nat → Rat) (hf : SmF b.n f) (x : Nat) (hx : x < b.n) (c : Int) : F_better_choice [boardD b, funD b.n f, .int x, .int c] = some (.int (betterC b f x c)) := by
  obtain ⟨a', b', h1⟩ := bc_loop (boardD b) (funD b.n f) (.int x) (amts b f x) 0 (c, f x) none none (amts_md b ok f hf x hx) (hf x hx).md
  have ha := F_amounts_eq b ok f hf x hx
  simp [F_better_choice, runP, envOf, sSeq, sSet, eBin, eVar, ix_fun f hx, sFor, iEnumM, eCa, aCons, aNil, ha]
  rw [h1]
  simp [sRet, eVar, betterC]
def impC (b : Bo) (f : Nat → Rat) (σ : Nat → Int) : Nat → Int := fun x => betterC b f x (σ x)
theorem enum_range (n : Nat) (g : Nat → D) : enumL 0 ((List.range n).map g) = (List.range n).map fun (i : Nat) => .tup [.int (i : Int), g i] := by
  refine List.ext_getElem? fun i => ?_
  by_cases hi : i < n
  · have := enumL_get (n := 0) (ds := (List.range n).map g) (i := i) (d := g i) (by rw [List.getElem?_map, List.getElem?_range hi]; rfl)
    rw [this, Nat.zero_add, List.getElem?_map, List.getElem?_range hi]
    rfl
  · rw [List.getElem?_eq_none (by rw [enumL_len, List.length_map, List.length_range]; omega), List.getElem?_eq_none (by rw [List.length_map, List.length_range]; omega)]
theorem F_improved_for_eq (b : Bo) (ok : b.Ok) (f : Nat → Rat) (hf : SmF b.n f) (σ : Nat → Int) : F_improved_for [boardD b, wayD b.n σ, funD b.n f] = some (wayD b.n (impC b f σ)) := by
  have h1 := eLc_pureT (fi := iEnumM (eVar 1)) (vs := [3, 4]) (gt := gtT 2 (gtCons (gtN 3) (gtCons (gtN 4) gtNil))) (f := eCa F_better_choice (aCons (eVar 0) (aCons (eVar 2) (aCons (eVar 3) (aCons (eVar 4) aNil))))) (ρ := [some (boardD b), some (wayD b.n σ), some (funD b.n f), none, none])
    (ds := (List.range b.n).map fun (i : Nat) => .tup [.int (i : Int), .int (σ i)]) (ρw := [some (boardD b), some (wayD b.n σ), some (funD b.n f), none, none])
    (by simp [iEnumM, eVar, wayD, enum_range]) rfl (fun d => match d with
      | .tup [.int i, .int c] => .int (betterC b f i.toNat c)
      | _ => .non) (fun d hd => by
        obtain ⟨x, hx, rfl⟩ := List.mem_map.mp hd
        have e := F_better_choice_eq b ok f hf x (List.mem_range.mp hx) (σ x)
        refine ⟨[some (boardD b), some (wayD b.n σ), some (funD b.n f), some (.int x), some (.int (σ x))], rfl, ?_, rfl⟩
        simp [eCa, aCons, aNil, eVar, e]) (by have := ok.n40; simp; omega)
  simp only [List.map_map] at h1
  simp only [F_improved_for, runP, envOf, sRet]
  simp [eCa, aCons, aNil]
  rw [h1]
  simp [tupleD, wayD, impC, Function.comp_def]
end Z
/-! Which places come to some targets. -/
namespace Z
open PySem
abbrev NL := List (List Nat)
def natD (x : Nat) : D := .int x
def natsD (r : List Nat) : List D := r.map natD
def backs (bs : NL) : List (List D) := bs.map natsD
def arrD (arr : NL) : D := .tup (arr.map fun r => .tup (natsD r))
def backStep (x : Nat) (bs : NL) (y : Nat) : NL := bs.set y (bs.getD y [] ++ [x])
def backRow (x : Nat) (r : List Nat) (bs : NL) : NL := r.foldl (backStep x) bs
def backAll : Nat → NL → NL → NL
  | _, [], bs => bs
  | i, r :: arr, bs => backAll (i + 1) arr (backRow i r bs)
theorem backStep_len (x y : Nat) (bs : NL) : (backStep x bs y).length = bs.length := by simp [backStep]
theorem backRow_len (x : Nat) : ∀ (r : List Nat) (bs : NL), (backRow x r bs).length = bs.length
  | [], _ => rfl
  | y :: r, bs => by
    show (backRow x r (backStep x bs y)).length = _
    rw [backRow_len x r, backStep_len]
/-- no inner list is longer than k -/
def Short (k : Nat) (bs : NL) : Prop := ∀ l ∈ bs, l.length ≤ k
theorem Short.step {k x y : Nat} {bs : NL} (h : Short k bs) : Short (k + 1) (backStep x bs y) := fun l hl => by
  rcases List.mem_or_eq_of_mem_set hl with h1 | h1
  · have := h l h1
    omega
  · subst h1
    rw [List.length_append, List.length_singleton]
    rw [List.getD_eq_getElem?_getD]
    cases e : bs[y]? with
    | none => simp
    | some z =>
      have := h z (List.mem_of_getElem? e)
      simpa using this
theorem Short.row {x : Nat} : ∀ {r : List Nat} {k : Nat} {bs : NL}, Short k bs → Short (k + r.length) (backRow x r bs)
  | [], _, _, h => h
  | y :: r, k, bs, h => by
    have := Short.row (x := x) (r := r) (Short.step (x := x) (y := y) h)
    rw [List.length_cons, show k + (r.length + 1) = k + 1 + r.length by omega]
    exact this
theorem back_row (A R : D) (fo : Option D) (x : Nat) : ∀ (r : List Nat) (k : Nat) (bs : NL) (z : Option D), (∀ y ∈ r, y < bs.length) → Short k bs → k + r.length < 100000 →
    ∃ z', forN (gtN 4) (nApp (eVar 4) (eVar 3)) (natsD r) [some A, fo, some R, some (natD x), z] (backs bs) = some ([some A, fo, some R, some (natD x), z'], backs (backRow x r bs))
  | [], k, bs, z, _, _, _ => ⟨z, rfl⟩
  | y :: r, k, bs, z, hy, hs, hk => by
    rw [List.length_cons] at hk
    have hyl := hy y (List.mem_cons_self ..)
    have hget : bs[y]? = some bs[y] := List.getElem?_eq_getElem hyl
    have hshort := hs bs[y] (List.getElem_mem hyl)
    obtain ⟨z', h1⟩ := back_row A R fo x r (k + 1) (backStep x bs y) (some (natD y)) (fun y' h' => by rw [backStep_len]; exact hy y' (List.mem_cons_of_mem _ h')) hs.step (by omega)
    refine ⟨z', ?_⟩
    have e : (backs bs).set y (natsD bs[y] ++ [natD x]) = backs (backStep x bs y) := by
      simp [backs, backStep, List.map_set, natsD, List.getD_eq_getElem?_getD, hget]
    have hb : (backs bs)[y]? = some (natsD bs[y]) := by simp [backs, hget]
    have hlen : (natsD bs[y]).length < 100000 := by
      simp only [natsD, List.length_map]
      omega
    show forN (gtN 4) (nApp (eVar 4) (eVar 3)) (natD y :: natsD r) _ _ = some ([some A, fo, some R, some (natD x), z'], backs (backRow x r (backStep x bs y)))
    rw [← h1, ← e]
    simp only [forN, gtN, Option.bind_some, List.set, nApp, eVar, natD]
    simp [hb, hlen, natD]
theorem back_all (A : D) (fo : Option D) : ∀ (arr : NL) (i k : Nat) (bs : NL) (y z w : Option D), (∀ r ∈ arr, ∀ y ∈ r, y < bs.length) → Short k bs → k + (arr.map List.length).sum < 100000 →
    ∃ y' z' w', forN (gtT 2 (gtCons (gtN 3) (gtCons (gtN 2) gtNil))) (nFor (iSeq (eVar 2)) (gtN 4) (nApp (eVar 4) (eVar 3))) (enumL i (arr.map fun r => .tup (natsD r))) [some A, fo, y, z, w] (backs bs) = some ([some A, fo, y', z', w'], backs (backAll i arr bs))
  | [], i, k, bs, y, z, w, _, _, _ => ⟨y, z, w, rfl⟩
  | r :: arr, i, k, bs, y, z, w, h, hs, hk => by
    rw [List.map_cons, List.sum_cons] at hk
    obtain ⟨w1, h1⟩ := back_row A (.tup (natsD r)) fo i r k bs w (h r (List.mem_cons_self ..)) hs (by omega)
    obtain ⟨y', z', w', h2⟩ := back_all A fo arr (i + 1) (k + r.length) (backRow i r bs) (some (.tup (natsD r))) (some (natD i)) w1 (fun r' hr' y' hy' => by rw [backRow_len]; exact h r' (List.mem_cons_of_mem _ hr') y' hy') hs.row (by omega)
    refine ⟨y', z', w', ?_⟩
    show _ = some (_, backs (backAll (i + 1) arr (backRow i r bs)))
    rw [← h2]
    simp only [List.map_cons, enumL, forN, gtT, List.length_cons, List.length_nil, gtCons, gtN, gtNil]
    simp [nFor, iSeq, eVar]
    simp only [natD] at h1 ⊢
    rw [h1]
    rfl
theorem F_arrows_back_eq (arr : NL) (h : ∀ r ∈ arr, ∀ y ∈ r, y < arr.length) (hl : arr.length ≤ 100000) (hs : (arr.map List.length).sum < 100000) : F_arrows_back [arrD arr] = some (.lst ((backAll 0 arr (List.replicate arr.length [])).map fun l => .lst (natsD l))) := by
  obtain ⟨ρ', h1, h2⟩ := compG_pure (vs := [2]) (gt := gtN 2) (t := tTrue) (f := eDum) (ρw := [some (arrD arr), none, none, none, none]) (fun _ => true) (fun _ => .non) (arr.map fun r => .tup (natsD r)) [some (arrD arr), none, none, none, none] rfl (fun d _ => ⟨[some (arrD arr), none, some d, none, none], rfl, rfl, fun _ => rfl, rfl⟩)
  have h3 := restE_same (ρ := [some (arrD arr), none, none, none, none]) (h2.trans rfl : wipeE [2] ρ' = wipeE [2] [some (arrD arr), none, none, none, none])
  obtain ⟨y', z', w', h4⟩ := back_all (arrD arr) none arr 0 0 (List.replicate arr.length []) none none none (fun r hr y hy => by rw [List.length_replicate]; exact h r hr y hy) (fun l hl => by rw [List.eq_of_mem_replicate hl]; exact Nat.le_refl _) (by omega)
  have e : backs (List.replicate arr.length []) = List.replicate arr.length [] := by simp [backs, natsD]
  rw [e] at h4
  show (match sNst 1 (iSeq (eVar 0)) [2] (gtN 2) _ [some (arrD arr), none, none, none, none] with
    | some (.rt d _) => some d
    | some (.rf d _) => some d
    | some (.nx _) => some .non
    | none => none) = _
  have hi : iSeq (eVar 0) [some (arrD arr), none, none, none, none] = some (arr.map fun r => .tup (natsD r), [some (arrD arr), none, none, none, none]) := rfl
  simp only [sNst, hi, Option.bind_some, List.length_map, h1, h3]
  rw [if_pos ⟨hl, by simp⟩]
  have hi2 : iEnumM (eVar 0) [some (arrD arr), none, none, none, none] = some (enumL 0 (arr.map fun r => .tup (natsD r)), [some (arrD arr), none, none, none, none]) := rfl
  have hn : nFor (iEnumM (eVar 0)) (gtT 2 (gtCons (gtN 3) (gtCons (gtN 2) gtNil))) (nFor (iSeq (eVar 2)) (gtN 4) (nApp (eVar 4) (eVar 3))) ([some (arrD arr), none, none, none, none].set 1 none) (List.replicate arr.length []) = some ([some (arrD arr), none, y', z', w'], backs (backAll 0 arr (List.replicate arr.length []))) := by
    rw [← h4]
    rfl
  rw [hn]
  simp [backs]
/-- what stands in the lists behind arrows_back -/
theorem mem_backStep {x x' y y' : Nat} {bs : NL} (hy : y < bs.length) : x' ∈ (backStep x bs y).getD y' [] ↔ x' ∈ bs.getD y' [] ∨ (x' = x ∧ y' = y) := by
  unfold backStep
  simp only [List.getD_eq_getElem?_getD]
  by_cases e : y = y'
  · subst e
    rw [List.getElem?_set_self hy]
    simp
  · rw [List.getElem?_set_ne e]
    constructor
    · exact fun h => .inl h
    · rintro (h | ⟨_, h⟩)
      · exact h
      · exact absurd h.symm e
theorem mem_backRow {x x' y' : Nat} : ∀ {r : List Nat} {bs : NL}, (∀ y ∈ r, y < bs.length) → (x' ∈ (backRow x r bs).getD y' [] ↔ x' ∈ bs.getD y' [] ∨ (x' = x ∧ y' ∈ r))
  | [], bs, _ => by simp [backRow]
  | y :: r, bs, h => by
    show x' ∈ (backRow x r (backStep x bs y)).getD y' [] ↔ _
    rw [mem_backRow (r := r) (fun z hz => by rw [backStep_len]; exact h z (List.mem_cons_of_mem _ hz)), mem_backStep (h y (List.mem_cons_self ..)), List.mem_cons]
    constructor
    · rintro ((h | ⟨a, b⟩) | ⟨a, b⟩)
      · exact .inl h
      · exact .inr ⟨a, .inl b⟩
      · exact .inr ⟨a, .inr b⟩
    · rintro (h | ⟨a, b | b⟩)
      · exact .inl (.inl h)
      · exact .inl (.inr ⟨a, b⟩)
      · exact .inr ⟨a, b⟩
theorem backAll_len : ∀ (arr : NL) (i : Nat) (bs : NL), (backAll i arr bs).length = bs.length
  | [], _, _ => rfl
  | r :: arr, i, bs => by rw [backAll, backAll_len arr, backRow_len]
theorem mem_backAll {x' y' : Nat} : ∀ {arr : NL} {i : Nat} {bs : NL}, (∀ r ∈ arr, ∀ y ∈ r, y < bs.length) → (x' ∈ (backAll i arr bs).getD y' [] ↔ x' ∈ bs.getD y' [] ∨ ∃ j r, arr[j]? = some r ∧ x' = i + j ∧ y' ∈ r)
  | [], i, bs, _ => by simp [backAll]
  | r :: arr, i, bs, h => by
    rw [backAll, mem_backAll (arr := arr) (fun r' hr' y hy => by rw [backRow_len]; exact h r' (List.mem_cons_of_mem _ hr') y hy), mem_backRow (h r (List.mem_cons_self ..))]
    constructor
    · rintro ((h | ⟨a, b⟩) | ⟨j, r', a, b, c⟩)
      · exact .inl h
      · exact .inr ⟨0, r, rfl, by omega, b⟩
      · exact .inr ⟨j + 1, r', by simpa using a, by omega, c⟩
    · rintro (h | ⟨j, r', a, b, c⟩)
      · exact .inl (.inl h)
      · cases j with
        | zero =>
          simp at a
          subst a
          exact .inl (.inr ⟨by omega, c⟩)
        | succ j => exact .inr ⟨j, r', by simpa using a, by omega, c⟩
end Z
/-! comes, on data. -/
namespace Z
open PySem
def boolsD (R : List Bool) : List D := R.map D.bl
theorem oks_nats : ∀ (W : List Nat) (n : Nat), D.oks n (natsD W) = true
  | [], n => by simp [natsD, D.oks]
  | x :: W, n => by
    have := oks_nats W n
    simp only [natsD] at this
    simp [natsD, D.oks, D.ok, natD, this]
/-- one turn: the waiting list's last place -/
def cmStep (bk : NL) (s : List Bool × List Nat) : List Bool × List Nat :=
  let here := s.2.getLastD 0
  if s.1.getD here false then (s.1, s.2.dropLast) else (s.1.set here true, s.2.dropLast ++ bk.getD here [])
/-- what is left to be done -/
def cmW (bk : NL) (R : List Bool) : Nat := ((List.range bk.length).map fun y => if R.getD y false then 0 else (bk.getD y []).length).sum
def cmMu (bk : NL) (s : List Bool × List Nat) : Nat := s.2.length + cmW bk s.1
theorem sum_le {α : Type} {f g : α → Nat} : ∀ {l : List α}, (∀ x ∈ l, f x ≤ g x) → (l.map f).sum ≤ (l.map g).sum
  | [], _ => Nat.le_refl _
  | x :: l, h => by
    simp only [List.map_cons, List.sum_cons]
    have a := h x (List.mem_cons_self ..)
    have b := sum_le (l := l) fun y hy => h y (List.mem_cons_of_mem _ hy)
    omega
theorem sum_lt {α : Type} {f g : α → Nat} {c : Nat} {z : α} : ∀ {l : List α}, z ∈ l → (∀ x ∈ l, f x ≤ g x) → f z + c ≤ g z → (l.map f).sum + c ≤ (l.map g).sum
  | x :: l, hz, h, hc => by
    simp only [List.map_cons, List.sum_cons]
    have a := h x (List.mem_cons_self ..)
    rcases List.mem_cons.mp hz with rfl | hz
    · have b := sum_le (l := l) fun y hy => h y (List.mem_cons_of_mem _ hy)
      omega
    · have b := sum_lt (l := l) hz (fun y hy => h y (List.mem_cons_of_mem _ hy)) hc
      omega
theorem getD_set {R : List Bool} {i j : Nat} (hi : i < R.length) : (R.set i true).getD j false = (decide (i = j) || R.getD j false) := by
  simp only [List.getD_eq_getElem?_getD]
  by_cases e : i = j
  · subst e
    rw [List.getElem?_set_self hi]
    simp
  · rw [List.getElem?_set_ne e]
    simp [e]
theorem cmMu_lt (bk : NL) (R : List Bool) (W : List Nat) (hR : R.length = bk.length) (hW : W ≠ []) (hw : W.getLastD 0 < bk.length) : cmMu bk (cmStep bk (R, W)) < cmMu bk (R, W) := by
  have hp : 0 < W.length := List.length_pos_iff.mpr hW
  unfold cmStep cmMu
  simp only
  by_cases h : R.getD (W.getLastD 0) false = true
  · rw [if_pos h]
    simp only [List.length_dropLast]
    omega
  · rw [if_neg h]
    simp only [List.length_append, List.length_dropLast]
    have key : cmW bk (R.set (W.getLastD 0) true) + (bk.getD (W.getLastD 0) []).length ≤ cmW bk R := by
      unfold cmW
      refine sum_lt (z := W.getLastD 0) (List.mem_range.mpr hw) (fun y _ => ?_) ?_
      · rw [getD_set (by omega)]
        by_cases e : W.getLastD 0 = y
        · rw [decide_eq_true e, Bool.true_or, if_pos rfl]
          exact Nat.zero_le _
        · rw [decide_eq_false e, Bool.false_or]
          exact Nat.le_refl _
      · rw [getD_set (by omega)]
        simp only [decide_true, Bool.true_or, if_true, Nat.zero_add, if_neg h]
        exact Nat.le_refl _
    omega
/-- the loop's invariant -/
structure CmInv (n : Nat) (tg : List Nat) (bk : NL) (s : List Bool × List Nat) : Prop where
  len : s.1.length = n
  lt : ∀ x ∈ s.2, x < n
  tgt : ∀ t ∈ tg, s.1.getD t false = true ∨ t ∈ s.2
  cl : ∀ y, s.1.getD y false = true → ∀ x ∈ bk.getD y [], s.1.getD x false = true ∨ x ∈ s.2
  min : ∀ P : Nat → Prop, (∀ t ∈ tg, P t) → (∀ y, P y → ∀ x ∈ bk.getD y [], P x) → ∀ x, (s.1.getD x false = true ∨ x ∈ s.2) → P x
theorem last_split {W : List Nat} (h : W ≠ []) : W = W.dropLast ++ [W.getLastD 0] := by
  have e := List.dropLast_concat_getLast h
  have : W.getLast h = W.getLastD 0 := by
    cases W with
    | nil => exact absurd rfl h
    | cons a l => simp [List.getLastD, List.getLast]
  rw [← this]
  exact e.symm
theorem CmInv.step {n : Nat} {tg : List Nat} {bk : NL} {R : List Bool} {W : List Nat} (hbk : ∀ y, ∀ x ∈ bk.getD y [], x < n) (hW : W ≠ []) (I : CmInv n tg bk (R, W)) : CmInv n tg bk (cmStep bk (R, W)) := by
  have hs := last_split hW
  have hmem : ∀ x, x ∈ W ↔ x ∈ W.dropLast ∨ x = W.getLastD 0 := fun x => by
    conv => lhs; rw [hs]
    rw [List.mem_append, List.mem_singleton]
  have hl : W.getLastD 0 < n := I.lt _ ((hmem _).mpr (.inr rfl))
  have hlen : R.length = n := I.len
  unfold cmStep
  simp only
  generalize hh : W.getLastD 0 = here at *
  by_cases h : R.getD here false = true
  · rw [if_pos h]
    refine ⟨I.len, fun x hx => I.lt x ((hmem x).mpr (.inl hx)), fun t ht => ?_, fun y hy x hx => ?_, fun P p1 p2 x hx => ?_⟩
    · rcases I.tgt t ht with a | a
      · exact .inl a
      · rcases (hmem t).mp a with b | b
        · exact .inr b
        · subst b
          exact .inl h
    · rcases I.cl y hy x hx with a | a
      · exact .inl a
      · rcases (hmem x).mp a with b | b
        · exact .inr b
        · subst b
          exact .inl h
    · refine I.min P p1 p2 x ?_
      rcases hx with a | a
      · exact .inl a
      · exact .inr ((hmem x).mpr (.inl a))
  · rw [if_neg h]
    have gs : ∀ j, (R.set here true).getD j false = (decide (here = j) || R.getD j false) := fun j => getD_set (by omega)
    refine ⟨by simp [hlen], fun x hx => ?_, fun t ht => ?_, fun y hy x hx => ?_, fun P p1 p2 x hx => ?_⟩
    · rcases List.mem_append.mp hx with a | a
      · exact I.lt x ((hmem x).mpr (.inl a))
      · exact hbk _ x a
    · show (R.set here true).getD t false = true ∨ t ∈ W.dropLast ++ bk.getD here []
      rw [gs]
      rcases I.tgt t ht with a | a
      · exact .inl (by rw [show R.getD t false = true from a]; simp)
      · rcases (hmem t).mp a with b | b
        · exact .inr (List.mem_append_left _ b)
        · exact .inl (by simp [b])
    · show (R.set here true).getD x false = true ∨ x ∈ W.dropLast ++ bk.getD here []
      rw [show (R.set here true).getD y false = (decide (here = y) || R.getD y false) from gs y] at hy
      by_cases e : here = y
      · subst e
        exact .inr (List.mem_append_right _ hx)
      · rw [gs]
        have hy' : R.getD y false = true := by simpa [e] using hy
        rcases I.cl y hy' x hx with a | a
        · exact .inl (by rw [show R.getD x false = true from a]; simp)
        · rcases (hmem x).mp a with b | b
          · exact .inr (List.mem_append_left _ b)
          · exact .inl (by simp [b])
    · have hP : P here := I.min P p1 p2 here (.inr ((hmem here).mpr (.inr rfl)))
      rcases hx with a | a
      · rw [show (R.set here true).getD x false = (decide (here = x) || R.getD x false) from gs x] at a
        by_cases e : here = x
        · exact e ▸ hP
        · exact I.min P p1 p2 x (.inl (by simpa [e] using a))
      · rcases List.mem_append.mp a with b | b
        · exact I.min P p1 p2 x (.inr ((hmem x).mpr (.inl b)))
        · exact p2 here hP x b
end Z
/-! comes, on data: the loop. -/
namespace Z
open PySem
def lstD (r : List Nat) : D := .lst (natsD r)
theorem atI_get? {α : Type} {xs : List α} {i : Nat} {d : α} (h : i < xs.length) : L2.atI xs (i : Int) = some (xs.getD i d) := by
  refine L2.atI_nat ?_
  rw [List.getElem?_eq_getElem h, List.getD_eq_getElem?_getD, List.getElem?_eq_getElem h]
  rfl
abbrev cmT : MT := tBor (tBl (eBin neD (eVar 5) (eLst aNil)))
abbrev cmB : MS := sSeq (sSet 6 (ePop 5)) (sIf (tNotM (tTr (eOIx 3 (eVar 6)))) (sSeq (sPut 3 (eC (.bl true)) (eVar 6)) (sExt 5 (eBin ixD (eVar 2) (eVar 6)))) sNil)
def cmE (A Tg : D) (bk : NL) (s : List Bool × List Nat) (r h x y : Option D) : Env := [some A, some Tg, some (.lst (bk.map fun l => .lst (natsD l))), some (.lst (boolsD s.1)), r, some (.lst (natsD s.2)), h, x, y]
theorem cm_test (A Tg : D) (bk : NL) (s : List Bool × List Nat) (r h x y : Option D) : cmT (cmE A Tg bk s r h x y) = some (!s.2.isEmpty, cmE A Tg bk s r h x y) := by
  have e1 : D.ok 60 (.lst (natsD s.2)) = true := by rw [D.ok]; exact oks_nats s.2 59
  have e2 : D.ok 60 (.lst []) = true := by rw [D.ok, D.oks]
  have e3 : D.eqb (.lst (natsD s.2)) (.lst []) = s.2.isEmpty := by
    cases s.2 with
    | nil => simp [natsD, D.eqb, D.eqbs]
    | cons a l => simp [natsD, D.eqb, D.eqbs]
  simp [cmT, tBor, tBl, eBin, eVar, cmE, eLst, aNil, neD, e1, e2, e3]
theorem cm_body (A Tg : D) (bk : NL) (R : List Bool) (W : List Nat) (r h x y : Option D) (hR : R.length = bk.length) (hW : W ≠ []) (hw : W.getLastD 0 < bk.length) (hlen : W.length + (bk.getD (W.getLastD 0) []).length ≤ 100000) :
    cmB (cmE A Tg bk (R, W) r h x y) = some (.nx (cmE A Tg bk (cmStep bk (R, W)) r (some (natD (W.getLastD 0))) x y)) := by
  have hs := last_split hW
  have hp : (natsD W)[(natsD W).length - 1]? = some (natD (W.getLastD 0)) := by
    conv => lhs; rw [hs]
    simp [natsD]
  have hd : (natsD W).dropLast = natsD W.dropLast := by simp [natsD, List.map_dropLast]
  have hdl : W.dropLast.length = W.length - 1 := by simp
  generalize hh : W.getLastD 0 = here at *
  have hr : L2.atI (boolsD R) (here : Int) = some (.bl (R.getD here false)) := by
    rw [atI_get? (d := .bl false) (by simp [boolsD]; omega)]
    simp [boolsD, List.getD_eq_getElem?_getD]
  have hb : L2.atI (bk.map fun l => D.lst (natsD l)) (here : Int) = some (.lst (natsD (bk.getD here []))) := by
    rw [atI_get? (d := .lst []) (by simpa using hw)]
    simp [List.getD_eq_getElem?_getD, hw]
  have hix : L2.ixN (boolsD R).length (here : Int) = some here := by
    unfold L2.ixN
    rw [if_pos (by omega), if_pos (by simp [boolsD]; omega)]
    simp
  by_cases hc : R.getD here false = true
  · have e : cmStep bk (R, W) = (R, W.dropLast) := by
      unfold cmStep
      simp only [hh, if_pos hc]
    rw [e]
    have hc2 : R[here]?.getD false = true := by rw [← List.getD_eq_getElem?_getD]; exact hc
    simp [cmB, sSeq, sSet, ePop, lstAt, cmE, hp, hd, sIf, tNotM, tTr, eOIx, eVar, natD, ixD, hr, hc2, truD, sNil]
  · have hc' : R.getD here false = false := by simpa using hc
    have e : cmStep bk (R, W) = (R.set here true, W.dropLast ++ bk.getD here []) := by
      unfold cmStep
      simp only [hh, if_neg hc]
    rw [e]
    have hset : (boolsD R).set here (.bl true) = boolsD (R.set here true) := by simp [boolsD, List.map_set]
    have happ : natsD W.dropLast ++ natsD (bk.getD here []) = natsD (W.dropLast ++ bk.getD here []) := by simp [natsD]
    have hz : (natsD W.dropLast).length + (natsD (bk.getD here [])).length ≤ 100000 := by
      simp only [natsD, List.length_map]
      omega
    have hc2 : R[here]?.getD false = false := by rw [← List.getD_eq_getElem?_getD]; exact hc'
    simp [cmB, sSeq, sSet, ePop, lstAt, cmE, hp, hd, sIf, tNotM, tTr, eOIx, eVar, natD, ixD, hr, hc2, truD, sPut, eC, hix, hset, sExt, eBin, hb, hz]
    rw [List.getD_eq_getElem?_getD] at hz happ
    exact ⟨hz, happ⟩
/-- the total length of lists -/
def total (bk : NL) : Nat := ((List.range bk.length).map fun y => (bk.getD y []).length).sum
theorem cmW_le (bk : NL) (R : List Bool) : cmW bk R ≤ total bk := sum_le fun y _ => by split <;> omega
theorem cm_loop (A Tg : D) (n : Nat) (tg : List Nat) (bk : NL) (hn : bk.length = n) (hbk : ∀ y, ∀ x ∈ bk.getD y [], x < n) (ht : ∀ y, (bk.getD y []).length ≤ 40000) : ∀ (fuel : Nat) (s : List Bool × List Nat) (r h x y : Option D), CmInv n tg bk s → cmMu bk s < fuel → cmMu bk s ≤ 50000 →
    ∃ R' h', whileG cmT cmB fuel (cmE A Tg bk s r h x y) = some (.nx (cmE A Tg bk (R', []) r h' x y)) ∧ CmInv n tg bk (R', [])
  | 0, s, _, _, _, _, _, hm, _ => absurd hm (Nat.not_lt_zero _)
  | fuel + 1, (R, W), r, h, x, y, I, hm, hm2 => by
    by_cases hW : W = []
    · subst hW
      refine ⟨R, h, ?_, I⟩
      rw [whileG, cm_test]
      simp
    · have hw : W.getLastD 0 < n := by
        have hmem : W.getLastD 0 ∈ W := by
          rw [List.getLastD_eq_getLast?, List.getLast?_eq_some_getLast hW]
          exact List.getLast_mem hW
        exact I.lt _ hmem
      have hlt := cmMu_lt bk R W (I.len.trans hn.symm) hW (by omega)
      have hlen : W.length + (bk.getD (W.getLastD 0) []).length ≤ 100000 := by
        have := ht (W.getLastD 0)
        have e : cmMu bk (R, W) = W.length + cmW bk R := rfl
        omega
      obtain ⟨R', h', h1, h2⟩ := cm_loop A Tg n tg bk hn hbk ht fuel (cmStep bk (R, W)) r (some (natD (W.getLastD 0))) x y (I.step hbk hW) (by omega) (by omega)
      refine ⟨R', h', ?_, h2⟩
      have hemp : (!(R, W).2.isEmpty) = true := by
        cases W with
        | nil => exact absurd rfl hW
        | cons a l => rfl
      rw [whileG, cm_test, Option.bind_some, hemp]
      simp only [if_true]
      rw [cm_body A Tg bk R W r h x y (I.len.trans hn.symm) hW (by omega) hlen, Option.bind_some]
      exact h1
end Z
/-! comes, on data: all of it. -/
namespace Z
open PySem
theorem fuel_big : 50000 < FUEL := by decide +kernel
def chosen (n : Nat) (R : List Bool) : List Nat := (List.range n).filter fun x => R.getD x false
theorem boolsD_range {n : Nat} {R : List Bool} (h : R.length = n) : boolsD R = (List.range n).map fun x => D.bl (R.getD x false) := by
  refine List.ext_getElem? fun i => ?_
  by_cases hi : i < n
  · rw [List.getElem?_map, List.getElem?_range hi]
    simp [boolsD, List.getD_eq_getElem?_getD, h, hi]
  · rw [List.getElem?_eq_none (by simp [boolsD]; omega), List.getElem?_eq_none (by simp; omega)]
theorem natsD_filter (n : Nat) (b : Nat → Bool) : natsD ((List.range n).filter b) = ((List.range n).filter b).map natD := rfl
theorem F_comes_eq (arr : NL) (tg : List Nat) (h : ∀ r ∈ arr, ∀ y ∈ r, y < arr.length) (htg : ∀ t ∈ tg, t < arr.length) (hl : arr.length ≤ 1000) (hs : (arr.map List.length).sum < 40000) (ht : tg.length ≤ 1000)
    (hb1 : ∀ y, ((backAll 0 arr (List.replicate arr.length [])).getD y []).length ≤ 40000) (hb2 : total (backAll 0 arr (List.replicate arr.length [])) ≤ 45000) :
    ∃ R, F_comes [arrD arr, .tup (natsD tg)] = some (.tup (natsD (chosen arr.length R))) ∧ CmInv arr.length tg (backAll 0 arr (List.replicate arr.length [])) (R, []) := by
  have hF := F_arrows_back_eq arr h (by omega) (by omega)
  have hbl : (backAll 0 arr (List.replicate arr.length [])).length = arr.length := by rw [backAll_len, List.length_replicate]
  have hmem : ∀ y, ∀ x ∈ (backAll 0 arr (List.replicate arr.length [])).getD y [], x < arr.length := fun y x hx => by
    rcases (mem_backAll (fun r hr y hy => by rw [List.length_replicate]; exact h r hr y hy)).mp hx with a | ⟨j, r, a, b, c⟩
    · simp [List.getD_eq_getElem?_getD] at a
      cases e : (List.replicate arr.length ([] : List Nat))[y]? with
      | none => rw [e] at a; simp at a
      | some z =>
        rw [e] at a
        have := List.eq_of_mem_replicate (List.mem_of_getElem? e)
        subst this
        simp at a
    · have := (List.getElem?_eq_some_iff.mp a).1
      omega
  generalize backAll 0 arr (List.replicate arr.length []) = bk at *
  have hR0 : ∀ y, (List.replicate arr.length false).getD y false = false := fun y => by
    simp only [List.getD_eq_getElem?_getD]
    cases e : (List.replicate arr.length false)[y]? with
    | none => rfl
    | some z => exact List.eq_of_mem_replicate (List.mem_of_getElem? e)
  have I0 : CmInv arr.length tg bk (List.replicate arr.length false, tg) := by
    refine ⟨by simp, htg, fun t ht => .inr ht, fun y hy x hx => ?_, fun P p1 p2 x hx => ?_⟩
    · have hy' : (List.replicate arr.length false).getD y false = true := hy
      rw [hR0] at hy'
      cases hy'
    · rcases hx with a | a
      · have a' : (List.replicate arr.length false).getD x false = true := a
        rw [hR0] at a'
        cases a'
      · exact p1 x a
  have hmu : cmMu bk (List.replicate arr.length false, tg) ≤ 50000 := by
    have := cmW_le bk (List.replicate arr.length false)
    unfold cmMu
    simp only
    omega
  have hfu := fuel_big
  obtain ⟨R, h', h1, I⟩ := cm_loop (arrD arr) (.tup (natsD tg)) arr.length tg bk hbl hmem hb1 FUEL (List.replicate arr.length false, tg) none none none none I0 (by omega) hmu
  refine ⟨R, ?_, I⟩
  have hrow := eLc_pureT (fi := iSeq (eVar 0)) (vs := [4]) (gt := gtN 4) (f := eC (.bl false)) (ρ := [some (arrD arr), some (.tup (natsD tg)), none, none, none, none, none, none, none]) (ds := arr.map fun r => .tup (natsD r)) (ρw := [some (arrD arr), some (.tup (natsD tg)), none, none, none, none, none, none, none]) rfl rfl (fun _ => .bl false) (fun d _ => ⟨_, rfl, rfl, rfl⟩) (by simp; omega)
  have hbo : (arr.map fun r => D.tup (natsD r)).map (fun _ => D.bl false) = boolsD (List.replicate arr.length false) := by
    simp only [boolsD, List.map_map, List.map_replicate]
    exact List.map_eq_replicate_iff.mpr fun _ _ => rfl
  rw [hbo] at hrow
  have hend := eLc_pure (fi := iEnumM (eVar 3)) (vs := [7, 8]) (gt := gtT 2 (gtCons (gtN 7) (gtCons (gtN 8) gtNil))) (t := tTr (eVar 8)) (f := eVar 7) (ρ := cmE (arrD arr) (.tup (natsD tg)) bk (R, []) none h' none none) (ρw := cmE (arrD arr) (.tup (natsD tg)) bk (R, []) none h' none none)
    (ds := (List.range arr.length).map fun (i : Nat) => .tup [.int (i : Int), .bl (R.getD i false)]) (by
      have e := boolsD_range (show R.length = arr.length from I.len)
      simp [iEnumM, eVar, cmE, e, enum_range]) rfl (fun d => match d with
      | .tup [.int _, .bl b] => b
      | _ => false) (fun d => match d with
      | .tup [.int i, .bl _] => .int i
      | _ => .non) (fun d hd => by
        obtain ⟨x, hx, rfl⟩ := List.mem_map.mp hd
        refine ⟨cmE (arrD arr) (.tup (natsD tg)) bk (R, []) none h' (some (.int x)) (some (.bl (R.getD x false))), rfl, ?_, fun _ => rfl, rfl⟩
        simp [tTr, eVar, cmE, truD]) (by simp; omega)
  have hfin : (((List.range arr.length).map fun (i : Nat) => D.tup [.int (i : Int), .bl (R.getD i false)]).filter (fun d => match d with
      | .tup [.int _, .bl b] => b
      | _ => false)).map (fun d => match d with
      | .tup [.int i, .bl _] => .int i
      | _ => .non) = natsD (chosen arr.length R) := by
    rw [List.filter_map, List.map_map]
    rfl
  rw [hfin] at hend
  have s1 : (sPar [2, 3] (aCons (eCa F_arrows_back (aCons (eVar 0) aNil)) (aCons (eLc (iSeq (eVar 0)) [4] (gtN 4) tTrue (eC (.bl false))) aNil))) [some (arrD arr), some (.tup (natsD tg)), none, none, none, none, none, none, none] = some (.nx [some (arrD arr), some (.tup (natsD tg)), some (.lst (bk.map fun l => .lst (natsD l))), some (.lst (boolsD (List.replicate arr.length false))), none, none, none, none, none]) := by
    simp [sPar, aCons, aNil, eCa, eVar, hF, hrow, setDs]
  have s2 : (sSet 5 (eCa listD (aCons (eVar 1) aNil))) [some (arrD arr), some (.tup (natsD tg)), some (.lst (bk.map fun l => .lst (natsD l))), some (.lst (boolsD (List.replicate arr.length false))), none, none, none, none, none] = some (.nx (cmE (arrD arr) (.tup (natsD tg)) bk (List.replicate arr.length false, tg) none none none none)) := by
    simp [sSet, eCa, aCons, aNil, eVar, listD, cmE]
  have s3 : sRet (eCa tupleD (aCons (eLc (iEnumM (eVar 3)) [7, 8] (gtT 2 (gtCons (gtN 7) (gtCons (gtN 8) gtNil))) (tTr (eVar 8)) (eVar 7)) aNil)) (cmE (arrD arr) (.tup (natsD tg)) bk (R, []) none h' none none) = some (.rt (.tup (natsD (chosen arr.length R))) (cmE (arrD arr) (.tup (natsD tg)) bk (R, []) none h' none none)) := by
    simp [sRet, eCa, aCons, aNil, hend, tupleD]
  show (match sSeq _ (sSeq _ (sSeq (sWhile cmT cmB) _)) [some (arrD arr), some (.tup (natsD tg)), none, none, none, none, none, none, none] with
    | some (.rt d _) => some d
    | some (.rf d _) => some d
    | some (.nx _) => some .non
    | none => none) = _
  simp only [sSeq, s1, Option.bind_some, s2, sWhile, h1, s3]
end Z
/-! Live and inner places, on data. -/
namespace Z
open PySem
theorem Short.all : ∀ {arr : NL} {i k : Nat} {bs : NL}, Short k bs → Short (k + (arr.map List.length).sum) (backAll i arr bs)
  | [], _, _, _, h => h
  | r :: arr, i, k, bs, h => by
    have := Short.all (arr := arr) (i := i + 1) (Short.row (x := i) (r := r) h)
    rw [List.map_cons, List.sum_cons, ← Nat.add_assoc]
    exact this
theorem Short.getD {k : Nat} {bs : NL} (h : Short k bs) (y : Nat) : (bs.getD y []).length ≤ k := by
  rw [List.getD_eq_getElem?_getD]
  cases e : bs[y]? with
  | none => exact Nat.zero_le _
  | some z => exact h z (List.mem_of_getElem? e)
theorem sum_const {α : Type} (c : Nat) (f : α → Nat) : ∀ (l : List α), (∀ x ∈ l, f x ≤ c) → (l.map f).sum ≤ l.length * c
  | [], _ => by simp
  | x :: l, h => by
    have a := h x (List.mem_cons_self ..)
    have b := sum_const c f l fun y hy => h y (List.mem_cons_of_mem _ hy)
    rw [List.map_cons, List.sum_cons, List.length_cons, Nat.succ_mul]
    omega
theorem Short.total {k : Nat} {bs : NL} (h : Short k bs) : total bs ≤ bs.length * k := by
  have := sum_const k (fun y => (bs.getD y []).length) (List.range bs.length) fun y _ => h.getD y
  rw [List.length_range] at this
  exact this
/-- where a choice leads -/
def ledN (b : Bo) (x : Nat) (c : Int) : List Nat := if c = -1 then [] else ((b.plays x).getD c.toNat []).map (·.1)
structure WayOk (b : Bo) (σ : Nat → Int) : Prop where
  lo : ∀ x, x < b.n → -1 ≤ σ x
  hi : ∀ x, x < b.n → σ x < (b.plays x).length
theorem getD_mem {α : Type} {l : List α} {i : Nat} {d : α} (h : i < l.length) : l.getD i d ∈ l := by
  rw [List.getD_eq_getElem?_getD, List.getElem?_eq_getElem h]
  exact List.getElem_mem h
theorem ledN_ok (b : Bo) (ok : b.Ok) (x : Nat) (hx : x < b.n) (c : Int) (h1 : -1 ≤ c) (h2 : c < (b.plays x).length) : (ledN b x c).length ≤ 8 ∧ ∀ y ∈ ledN b x c, y < b.n := by
  unfold ledN
  by_cases h : c = -1
  · rw [if_pos h]
    exact ⟨by decide, fun y hy => by cases hy⟩
  · rw [if_neg h]
    have hc : c.toNat < (b.plays x).length := by omega
    obtain ⟨a1, a2, a3⟩ := ok.lot x hx _ (getD_mem (d := []) hc)
    refine ⟨by rw [List.length_map]; exact a1.len, fun y hy => ?_⟩
    obtain ⟨p, hp, rfl⟩ := List.mem_map.mp hy
    exact a3 p hp
theorem ok_int (n : Nat) (i : Int) : D.ok n (.int i) = true := by
  cases n <;> simp [D.ok]
theorem F_led_to_eq (b : Bo) (ok : b.Ok) (x : Nat) (hx : x < b.n) (c : Int) (h1 : -1 ≤ c) (h2 : c < (b.plays x).length) : F_led_to [boardD b, .int x, .int c] = some (.tup (natsD (ledN b x c))) := by
  by_cases h : c = -1
  · subst h
    simp [F_led_to, runP, envOf, sRet, eIf, tBl, eBin, eVar, eC, eqD, ok_int, D.eqb, eTup, aNil, ledN, natsD]
  · have hc : c.toNat < (b.plays x).length := by omega
    obtain ⟨a1, a2, a3⟩ := ok.lot x hx _ (getD_mem (d := []) hc)
    have hat : L2.atI ((b.plays x).map lotD) c = some (lotD ((b.plays x).getD c.toNat [])) := by
      have e : ((c.toNat : Nat) : Int) = c := by omega
      have := L2.atI_nat (xs := (b.plays x).map lotD) (j := c.toNat) (v := lotD ((b.plays x).getD c.toNat [])) (by
        rw [List.getElem?_map, List.getD_eq_getElem?_getD, List.getElem?_eq_getElem hc]
        rfl)
      rw [e] at this
      exact this
    generalize hl : (b.plays x).getD c.toNat [] = l at *
    have hat' : ixD (.tup ((b.plays x).map lotD)) (.int c) = some (lotD l) := hat
    have hlc := eLc_pureT (fi := iSeq (eBin ixD (eBin ixD (eUn (attD "Board" "plays") (eVar 0)) (eVar 1)) (eVar 2))) (vs := [3, 4]) (gt := gtT 2 (gtCons (gtN 3) (gtCons (gtN 4) gtNil))) (f := eVar 3) (ρ := [some (boardD b), some (.int x), some (.int c), none, none]) (ρw := [some (boardD b), some (.int x), some (.int c), none, none]) (ds := l.map pairD)
      (by simp [iSeq, eBin, eUn, eVar, att_plays, ix_range _ hx, hat']; rfl) rfl (fun d => match d with
        | .tup [.int y, .int _] => .int y
        | _ => .non) (fun d hd => by
          obtain ⟨p, hp, rfl⟩ := List.mem_map.mp hd
          exact ⟨[some (boardD b), some (.int x), some (.int c), some (.int p.1), some (.int p.2)], rfl, rfl, rfl⟩) (by have := a1.len; simp; omega)
    have hm : (l.map pairD).map (fun d => match d with
        | .tup [.int y, .int _] => D.int y
        | _ => .non) = natsD (ledN b x c) := by
      unfold ledN
      rw [if_neg h, hl]
      simp [natsD, pairD, natD]
    rw [hm] at hlc
    simp only [F_led_to, runP, envOf, sRet, eIf]
    simp [tBl, eBin, eVar, eC, eqD, ok_int, D.eqb, h]
    simp [eCa, aCons, aNil]
    rw [hlc]
    simp [tupleD]
end Z
/-! Live and inner places, on data: the functions. -/
namespace Z
open PySem
def arrOf (b : Bo) (σ : Nat → Int) : NL := (List.range b.n).map fun x => ledN b x (σ x)
def stopsOf (b : Bo) (σ : Nat → Int) : List Nat := (List.range b.n).filter fun x => σ x == -1
def backOf (b : Bo) (σ : Nat → Int) : NL := backAll 0 (arrOf b σ) (List.replicate b.n [])
/-- R is the truth of being live -/
abbrev LiveOk (b : Bo) (σ : Nat → Int) (R : List Bool) : Prop := CmInv b.n (stopsOf b σ) (backOf b σ) (R, [])
theorem arrOf_len (b : Bo) (σ : Nat → Int) : (arrOf b σ).length = b.n := by simp [arrOf]
theorem arrOf_ok (b : Bo) (ok : b.Ok) (σ : Nat → Int) (w : WayOk b σ) : ∀ r ∈ arrOf b σ, r.length ≤ 8 ∧ ∀ y ∈ r, y < b.n := fun r hr => by
  obtain ⟨x, hx, rfl⟩ := List.mem_map.mp hr
  have hx := List.mem_range.mp hx
  exact ledN_ok b ok x hx _ (w.lo x hx) (w.hi x hx)
theorem enum_way (n : Nat) (σ : Nat → Int) (ρ : Env) (i : Nat) (h : ρ[i]? = some (some (wayD n σ))) : iEnumM (eVar i) ρ = some ((List.range n).map fun (x : Nat) => .tup [.int (x : Int), .int (σ x)], ρ) := by
  simp [iEnumM, eVar, h, wayD, enum_range]
theorem F_live_places_eq (b : Bo) (ok : b.Ok) (σ : Nat → Int) (w : WayOk b σ) : ∃ R, F_live_places [boardD b, wayD b.n σ] = some (.tup (natsD (chosen b.n R))) ∧ LiveOk b σ R := by
  have h40 := ok.n40
  have ha := arrOf_ok b ok σ w
  have hal := arrOf_len b σ
  have hsum : ((arrOf b σ).map List.length).sum ≤ 320 := by
    have := sum_const 8 List.length (arrOf b σ) fun r hr => (ha r hr).1
    rw [hal] at this
    omega
  have hsh : Short 320 (backOf b σ) := by
    have h0 : Short 0 (List.replicate b.n ([] : List Nat)) := fun l hl => by rw [List.eq_of_mem_replicate hl]; exact Nat.le_refl _
    have := Short.all (arr := arrOf b σ) (i := 0) h0
    exact fun l hl => Nat.le_trans (this l hl) (by omega)
  have hbl : (backOf b σ).length = b.n := by rw [backOf, backAll_len, List.length_replicate]
  have hstop : ∀ t ∈ stopsOf b σ, t < b.n := fun t ht => List.mem_range.mp (List.mem_filter.mp ht).1
  have hsl : (stopsOf b σ).length ≤ b.n := by
    have := List.length_filter_le (fun x => σ x == -1) (List.range b.n)
    rw [List.length_range] at this
    exact this
  have hc := F_comes_eq (arrOf b σ) (stopsOf b σ) (fun r hr y hy => by rw [hal]; exact (ha r hr).2 y hy) (fun t ht => by rw [hal]; exact hstop t ht) (by omega) (by omega) (by omega)
    (fun y => by rw [hal]; exact Nat.le_trans (hsh.getD y) (by omega)) (by
      rw [hal]
      have := hsh.total
      have e : (backOf b σ).length * 320 ≤ 40 * 320 := Nat.mul_le_mul_right _ (by omega)
      exact Nat.le_trans (Nat.le_trans this e) (by omega))
  rw [hal] at hc
  obtain ⟨R, h1, h2⟩ := hc
  refine ⟨R, ?_, h2⟩
  have l1 := eLc_pureT (fi := iEnumM (eVar 1)) (vs := [3, 4]) (gt := gtT 2 (gtCons (gtN 3) (gtCons (gtN 4) gtNil))) (f := eCa F_led_to (aCons (eVar 0) (aCons (eVar 3) (aCons (eVar 4) aNil)))) (ρ := [some (boardD b), some (wayD b.n σ), none, none, none]) (ρw := [some (boardD b), some (wayD b.n σ), none, none, none])
    (enum_way b.n σ _ 1 rfl) rfl (fun d => match d with
      | .tup [.int x, .int c] => .tup (natsD (ledN b x.toNat c))
      | _ => .non) (fun d hd => by
        obtain ⟨x, hx, rfl⟩ := List.mem_map.mp hd
        have hx := List.mem_range.mp hx
        have e := F_led_to_eq b ok x hx (σ x) (w.lo x hx) (w.hi x hx)
        refine ⟨[some (boardD b), some (wayD b.n σ), none, some (.int x), some (.int (σ x))], rfl, ?_, rfl⟩
        simp [eCa, aCons, aNil, eVar, e]) (by simp; omega)
  have m1 : ((List.range b.n).map fun (x : Nat) => D.tup [.int (x : Int), .int (σ x)]).map (fun d => match d with
      | .tup [.int x, .int c] => D.tup (natsD (ledN b x.toNat c))
      | _ => .non) = (arrOf b σ).map fun r => .tup (natsD r) := by
    simp [arrOf, Function.comp_def]
  rw [m1] at l1
  have l2 := eLc_pure (fi := iEnumM (eVar 1)) (vs := [3, 4]) (gt := gtT 2 (gtCons (gtN 3) (gtCons (gtN 4) gtNil))) (t := tBl (eBin eqD (eVar 4) (eC (.int (-1))))) (f := eVar 3) (ρ := [some (boardD b), some (wayD b.n σ), some (arrD (arrOf b σ)), none, none]) (ρw := [some (boardD b), some (wayD b.n σ), some (arrD (arrOf b σ)), none, none])
    (enum_way b.n σ _ 1 rfl) rfl (fun d => match d with
      | .tup [.int _, .int c] => c == -1
      | _ => false) (fun d => match d with
      | .tup [.int x, .int _] => .int x
      | _ => .non) (fun d hd => by
        obtain ⟨x, hx, rfl⟩ := List.mem_map.mp hd
        refine ⟨[some (boardD b), some (wayD b.n σ), some (arrD (arrOf b σ)), some (.int x), some (.int (σ x))], rfl, ?_, fun _ => rfl, rfl⟩
        simp [tBl, eBin, eVar, eC, eqD, ok_int, D.eqb]) (by simp; omega)
  have m2 : (((List.range b.n).map fun (x : Nat) => D.tup [.int (x : Int), .int (σ x)]).filter (fun d => match d with
      | .tup [.int _, .int c] => c == -1
      | _ => false)).map (fun d => match d with
      | .tup [.int x, .int _] => D.int x
      | _ => .non) = natsD (stopsOf b σ) := by
    rw [List.filter_map, List.map_map]
    rfl
  rw [m2] at l2
  simp only [F_live_places, runP, envOf]
  simp [sSeq, sSet, eCa, aCons, aNil]
  rw [l1]
  simp [tupleD, sRet, eCa, aCons, aNil, eVar]
  simp only [arrD] at l2 h1
  rw [l2]
  simp [tupleD, h1]
theorem F_inner_places_eq (b : Bo) (ok : b.Ok) (σ : Nat → Int) (w : WayOk b σ) : ∃ R, F_inner_places [boardD b, wayD b.n σ] = some (.tup (natsD ((chosen b.n R).filter fun x => σ x != -1))) ∧ LiveOk b σ R := by
  have h40 := ok.n40
  obtain ⟨R, h1, h2⟩ := F_live_places_eq b ok σ w
  refine ⟨R, ?_, h2⟩
  have hlen : (chosen b.n R).length ≤ b.n := by
    have := List.length_filter_le (fun x => R.getD x false) (List.range b.n)
    rw [List.length_range] at this
    exact this
  have l2 := eLc_pure (fi := iSeq (eCa F_live_places (aCons (eVar 0) (aCons (eVar 1) aNil)))) (vs := [2]) (gt := gtN 2) (t := tBl (eBin neD (eBin ixD (eVar 1) (eVar 2)) (eC (.int (-1))))) (f := eVar 2) (ρ := [some (boardD b), some (wayD b.n σ), none]) (ρw := [some (boardD b), some (wayD b.n σ), none]) (ds := natsD (chosen b.n R))
    (by simp [iSeq, eCa, aCons, aNil, eVar, h1]) rfl (fun d => match d with
      | .int x => σ x.toNat != -1
      | _ => false) id (fun d hd => by
        obtain ⟨x, hx, rfl⟩ := List.mem_map.mp hd
        have hx' : x < b.n := List.mem_range.mp (List.mem_filter.mp hx).1
        refine ⟨[some (boardD b), some (wayD b.n σ), some (natD x)], rfl, ?_, fun _ => rfl, rfl⟩
        simp [tBl, eBin, eVar, eC, neD, ok_int, D.eqb, natD, ix_way σ hx']
        simp [bne]) (by simp [natsD]; omega)
  have m2 : ((natsD (chosen b.n R)).filter (fun d => match d with
      | .int x => σ x.toNat != -1
      | _ => false)).map id = natsD ((chosen b.n R).filter fun x => σ x != -1) := by
    rw [List.map_id]
    unfold natsD
    rw [List.filter_map]
    rfl
  rw [m2] at l2
  simp only [F_inner_places, runP, envOf]
  simp only [sRet]
  have : eCa tupleD (aCons (eLc (iSeq (eCa F_live_places (aCons (eVar 0) (aCons (eVar 1) aNil)))) [2] (gtN 2) (tBl (eBin neD (eBin ixD (eVar 1) (eVar 2)) (eC (.int (-1))))) (eVar 2)) aNil) [some (boardD b), some (wayD b.n σ), none] = some (.tup (natsD ((chosen b.n R).filter fun x => σ x != -1)), [some (boardD b), some (wayD b.n σ), none]) := by
    rw [eCa, aCons, l2]
    simp [aNil, tupleD]
  simp [this]
end Z
/-! Determinants of whole numbers: by the first column. -/
namespace Z
def sumTo : Nat → (Nat → Int) → Int
  | 0, _ => 0
  | n + 1, f => sumTo n f + f n
theorem sumTo_congr : ∀ {n : Nat} {f g : Nat → Int}, (∀ i, i < n → f i = g i) → sumTo n f = sumTo n g
  | 0, _, _, _ => rfl
  | n + 1, f, g, h => by rw [sumTo, sumTo, sumTo_congr fun i hi => h i (Nat.lt_succ_of_lt hi), h n (Nat.lt_succ_self n)]
theorem sumTo_zero : ∀ {n : Nat} {f : Nat → Int}, (∀ i, i < n → f i = 0) → sumTo n f = 0
  | 0, _, _ => rfl
  | n + 1, f, h => by rw [sumTo, sumTo_zero fun i hi => h i (Nat.lt_succ_of_lt hi), h n (Nat.lt_succ_self n)]; rfl
theorem sumTo_add (n : Nat) (f g : Nat → Int) : sumTo n (fun i => f i + g i) = sumTo n f + sumTo n g := by
  induction n with
  | zero => rfl
  | succ n ih => simp only [sumTo, ih]; omega
theorem sumTo_mul (n : Nat) (a : Int) (f : Nat → Int) : sumTo n (fun i => a * f i) = a * sumTo n f := by
  induction n with
  | zero => simp [sumTo]
  | succ n ih => simp only [sumTo, ih]; grind
theorem sumTo_neg (n : Nat) (f : Nat → Int) : sumTo n (fun i => - f i) = - sumTo n f := by
  induction n with
  | zero => rfl
  | succ n ih => simp only [sumTo, ih]; omega
theorem sumTo_head (n : Nat) (f : Nat → Int) : sumTo (n + 1) f = f 0 + sumTo n fun i => f (i + 1) := by
  induction n with
  | zero => simp [sumTo]
  | succ n ih => rw [sumTo, ih]; simp only [sumTo]; omega
theorem sumTo_swap (n m : Nat) (f : Nat → Nat → Int) : sumTo n (fun i => sumTo m (f i)) = sumTo m fun k => sumTo n fun i => f i k := by
  induction n with
  | zero => simp only [sumTo]; exact (sumTo_zero fun _ _ => rfl).symm
  | succ n ih => simp only [sumTo, ih, sumTo_add]
def sgn (i : Nat) : Int := if i % 2 = 0 then 1 else -1
theorem sgn_succ (i : Nat) : sgn (i + 1) = - sgn i := by
  unfold sgn
  split <;> split <;> omega
/-- k counted without i -/
def skip (i k : Nat) : Nat := if k < i then k else k + 1
theorem skip_skip {i k r : Nat} (h : i ≤ k) : skip (k + 1) (skip i r) = skip i (skip k r) := by
  unfold skip
  repeat' split
  all_goals omega
theorem skip_low {i k : Nat} (h : k < i) : skip i k = k := by simp [skip, h]
theorem skip_high {i k : Nat} (h : i ≤ k) : skip i k = k + 1 := by simp [skip, Nat.not_lt.mpr h]
/-- c j i: the entry of column j in row i -/
abbrev Mx := Nat → Nat → Int
def minor (c : Mx) (i : Nat) : Mx := fun j r => c (j + 1) (skip i r)
def det : Nat → Mx → Int
  | 0, _ => 1
  | n + 1, c => sumTo (n + 1) fun i => sgn i * c 0 i * det n (minor c i)
def setC (c : Mx) (p : Nat) (u : Nat → Int) : Mx := fun j => if j = p then u else c j
theorem det_congr : ∀ {n : Nat} {c d : Mx}, (∀ j, j < n → ∀ i, i < n → c j i = d j i) → det n c = det n d
  | 0, _, _, _ => rfl
  | n + 1, c, d, h => by
    rw [det, det]
    refine sumTo_congr fun i hi => ?_
    rw [h 0 (Nat.succ_pos n) i hi, det_congr (c := minor c i) (d := minor d i) fun j hj r hr => h (j + 1) (by omega) _ (by
      unfold skip
      split <;> omega)]
theorem minor_set0 (c : Mx) (u : Nat → Int) (i : Nat) : minor (setC c 0 u) i = minor c i := by
  funext j r
  simp [minor, setC]
theorem minor_setS (c : Mx) (p : Nat) (u : Nat → Int) (i : Nat) : minor (setC c (p + 1) u) i = setC (minor c i) p fun r => u (skip i r) := by
  funext j r
  by_cases h : j = p
  · simp [minor, setC, h]
  · simp [minor, setC, h]
theorem det_lin : ∀ {n : Nat} (c : Mx) (p : Nat) (a b : Int) (u v : Nat → Int), p < n → det n (setC c p fun i => a * u i + b * v i) = a * det n (setC c p u) + b * det n (setC c p v)
  | n + 1, c, 0, a, b, u, v, _ => by
    simp only [det, minor_set0]
    rw [← sumTo_mul, ← sumTo_mul, ← sumTo_add]
    refine sumTo_congr fun i _ => ?_
    simp only [setC, if_pos rfl]
    grind
  | n + 1, c, p + 1, a, b, u, v, h => by
    simp only [det, minor_setS]
    rw [← sumTo_mul, ← sumTo_mul, ← sumTo_add]
    refine sumTo_congr fun i _ => ?_
    rw [det_lin (minor c i) p a b (fun r => u (skip i r)) (fun r => v (skip i r)) (by omega)]
    simp only [setC, if_neg (Nat.succ_ne_zero p).symm]
    grind
/-- two first columns that are alike -/
theorem det_two (n : Nat) (c : Mx) (h : ∀ i, c 0 i = c 1 i) : det (n + 2) c = 0 := by
  have e : det (n + 2) c = sumTo (n + 2) fun i => sumTo (n + 1) fun k => sgn i * c 0 i * (sgn k * c 1 (skip i k) * det n (minor (minor c i) k)) := by
    rw [det]
    refine sumTo_congr fun i _ => ?_
    rw [det, ← sumTo_mul]
    rfl
  rw [e]
  generalize hT : (fun i k => sgn i * c 0 i * (sgn k * c 1 (skip i k) * det n (minor (minor c i) k))) = Tm
  have hT' : ∀ i k, sgn i * c 0 i * (sgn k * c 1 (skip i k) * det n (minor (minor c i) k)) = Tm i k := fun i k => by rw [← hT]
  have anti : ∀ i k, i ≤ k → Tm (k + 1) i = - Tm i k := fun i k hik => by
    rw [← hT', ← hT', skip_low (by omega), skip_high hik, sgn_succ, h (k + 1), h i]
    have em : minor (minor c (k + 1)) i = minor (minor c i) k := by
      funext j r
      simp only [minor]
      rw [skip_skip hik]
    rw [em]
    grind
  have split2 : (sumTo (n + 2) fun i => sumTo (n + 1) fun k => Tm i k) = (sumTo (n + 2) fun i => sumTo (n + 1) fun k => if i ≤ k then Tm i k else 0) + sumTo (n + 2) fun i => sumTo (n + 1) fun k => if i ≤ k then 0 else Tm i k := by
    rw [← sumTo_add]
    refine sumTo_congr fun i _ => ?_
    rw [← sumTo_add]
    refine sumTo_congr fun k _ => ?_
    split <;> omega
  have first : (sumTo (n + 2) fun i => sumTo (n + 1) fun k => if i ≤ k then Tm i k else 0) = sumTo (n + 1) fun i => sumTo (n + 1) fun k => if i ≤ k then Tm i k else 0 := by
    rw [sumTo]
    have : (sumTo (n + 1) fun k => if n + 1 ≤ k then Tm (n + 1) k else 0) = 0 := sumTo_zero fun k hk => by rw [if_neg (by omega)]
    rw [this]
    omega
  have second : (sumTo (n + 2) fun i => sumTo (n + 1) fun k => if i ≤ k then 0 else Tm i k) = - sumTo (n + 1) fun i => sumTo (n + 1) fun k => if i ≤ k then Tm i k else 0 := by
    rw [sumTo_head]
    have : (sumTo (n + 1) fun k => if 0 ≤ k then 0 else Tm 0 k) = 0 := sumTo_zero fun k _ => by rw [if_pos (Nat.zero_le k)]
    rw [this, Int.zero_add, ← sumTo_neg, sumTo_swap (n + 1) (n + 1) fun i k => if i + 1 ≤ k then 0 else Tm (i + 1) k]
    refine sumTo_congr fun k _ => ?_
    rw [← sumTo_neg]
    refine sumTo_congr fun i _ => ?_
    by_cases hk : k ≤ i
    · rw [if_neg (by omega), if_pos hk, anti k i hk]
    · rw [if_pos (by omega), if_neg hk]
      rfl
  simp only [hT']
  rw [split2, first, second]
  omega
end Z
/-! Determinants: alternating; the step of the elimination. -/
namespace Z
theorem setC_same (c : Mx) (p : Nat) (u : Nat → Int) : setC c p u p = u := if_pos rfl
theorem setC_ne (c : Mx) {p j : Nat} (u : Nat → Int) (h : j ≠ p) : setC c p u j = c j := if_neg h
theorem setC_comm (c : Mx) {p q : Nat} (u v : Nat → Int) (h : p ≠ q) : setC (setC c p u) q v = setC (setC c q v) p u := by
  funext j
  by_cases h1 : j = p
  · subst h1
    rw [setC_same, setC_ne _ _ h, setC_same]
  · by_cases h2 : j = q
    · subst h2
      rw [setC_same, setC_ne _ _ h1, setC_same]
    · rw [setC_ne _ _ h2, setC_ne _ _ h1, setC_ne _ _ h1, setC_ne _ _ h2]
theorem setC_set (c : Mx) (p : Nat) (u v : Nat → Int) : setC (setC c p u) p v = setC c p v := by
  funext j
  by_cases h : j = p
  · subst h
    rw [setC_same, setC_same]
  · rw [setC_ne _ _ h, setC_ne _ _ h, setC_ne _ _ h]
theorem setC_self (c : Mx) (p : Nat) : setC c p (c p) = c := by
  funext j
  by_cases h : j = p
  · subst h
    rw [setC_same]
  · rw [setC_ne _ _ h]
theorem det_adj : ∀ {n : Nat} (c : Mx) (p : Nat), p + 1 < n → (∀ i, c p i = c (p + 1) i) → det n c = 0
  | n + 2, c, 0, _, h => det_two n c h
  | n + 1, c, p + 1, hp, h => by
    rw [det]
    refine sumTo_zero fun i _ => ?_
    rw [det_adj (minor c i) p (by omega) fun r => h (skip i r), Int.mul_zero]
  | 1, c, 0, hp, _ => absurd hp (by decide)
theorem det_add {n : Nat} (c : Mx) (p : Nat) (u v : Nat → Int) (h : p < n) : det n (setC c p fun i => u i + v i) = det n (setC c p u) + det n (setC c p v) := by
  have := det_lin c p 1 1 u v h
  simpa using this
/-- two alike columns give 0, whatever the two columns: then they may change places for a sign -/
theorem det_anti {n : Nat} (c : Mx) {p q : Nat} (hp : p < n) (hq : q < n) (h : p ≠ q) (z : ∀ w, det n (setC (setC c p w) q w) = 0) (u v : Nat → Int) : det n (setC (setC c p u) q v) = - det n (setC (setC c p v) q u) := by
  have a := z fun i => u i + v i
  have e1 : det n (setC (setC c p fun i => u i + v i) q fun i => u i + v i) = det n (setC (setC c p fun i => u i + v i) q u) + det n (setC (setC c p fun i => u i + v i) q v) := det_add _ q u v hq
  rw [e1, setC_comm _ _ _ h, setC_comm _ _ _ h, det_add _ p u v hp, det_add _ p u v hp, setC_comm _ _ _ h.symm, setC_comm _ _ _ h.symm, setC_comm _ _ _ h.symm, setC_comm _ _ _ h.symm, z u, z v] at a
  omega
theorem det_alike : ∀ {n : Nat} (k : Nat) (c : Mx) (p : Nat), p + k + 1 < n → (∀ i, c p i = c (p + k + 1) i) → det n c = 0
  | n, 0, c, p, hp, h => det_adj c p hp h
  | n, k + 1, c, p, hp, h => by
    have e : c = setC (setC c (p + k + 1) (c (p + k + 1))) (p + k + 2) (c (p + k + 2)) := by
      rw [setC_self, setC_self]
    rw [e, det_anti c (by omega) (by omega) (by omega) (fun w => det_adj _ (p + k + 1) (by omega) fun i => by rw [setC_ne _ _ (by omega), setC_same, setC_same])]
    rw [det_alike k _ p (by omega) fun i => ?_]
    · rfl
    · rw [setC_ne _ _ (by omega), setC_ne _ _ (by omega), setC_ne _ _ (by omega), setC_same]
      exact h i
theorem det_eq0 {n : Nat} (c : Mx) {p q : Nat} (hp : p < n) (hq : q < n) (h : p ≠ q) (e : ∀ i, c p i = c q i) : det n c = 0 := by
  rcases Nat.lt_or_gt_of_ne h with h | h
  · have e1 : p + (q - p - 1) + 1 = q := by omega
    exact det_alike (q - p - 1) c p (by omega) fun i => by rw [e1]; exact e i
  · have e1 : q + (p - q - 1) + 1 = p := by omega
    exact det_alike (p - q - 1) c q (by omega) fun i => by rw [e1]; exact (e i).symm
theorem det_swap {n : Nat} (c : Mx) {p q : Nat} (hp : p < n) (hq : q < n) (h : p ≠ q) (u v : Nat → Int) : det n (setC (setC c p u) q v) = - det n (setC (setC c p v) q u) :=
  det_anti c hp hq h (fun w => det_eq0 _ hp hq h fun i => by rw [setC_ne _ _ h, setC_same, setC_same]) u v
theorem det_sum {n : Nat} (c : Mx) (p : Nat) (a : Nat → Int) (w : Nat → Nat → Int) (hp : p < n) : ∀ m : Nat, det n (setC c p fun i => sumTo m fun l => a l * w l i) = sumTo m fun l => a l * det n (setC c p (w l))
  | 0 => by
    have := det_lin c p 0 0 (fun _ => 0) (fun _ => 0) hp
    simp only [sumTo]
    simpa using this
  | m + 1 => by
    simp only [sumTo]
    rw [← det_sum c p a w hp m]
    have := det_lin c p 1 (a m) (fun i => sumTo m fun l => a l * w l i) (w m) hp
    simpa using this
theorem sumTo_one {n : Nat} {f : Nat → Int} (k : Nat) (hk : k < n) (h : ∀ i, i < n → i ≠ k → f i = 0) : sumTo n f = f k := by
  induction n with
  | zero => exact absurd hk (Nat.not_lt_zero k)
  | succ n ih =>
    rw [sumTo]
    by_cases e : k = n
    · subst e
      rw [sumTo_zero fun i hi => h i (Nat.lt_succ_of_lt hi) (Nat.ne_of_lt hi), Int.zero_add]
    · rw [ih (by omega) fun i hi hn => h i (Nat.lt_succ_of_lt hi) hn, h n (Nat.lt_succ_self n) (Ne.symm e), Int.add_zero]
/-- a column put in: its share of the column's own -/
theorem det_put1 {n : Nat} (c : Mx) (p : Nat) (hp : p < n) (a : Nat → Int) : det n (setC c p fun i => sumTo n fun l => a l * c l i) = a p * det n c := by
  rw [det_sum c p a c hp n, sumTo_one p hp fun l hl hn => ?_, setC_self]
  rw [det_eq0 _ hl hp hn fun i => by rw [setC_ne _ _ hn, setC_same], Int.mul_zero]
theorem sumTo_two {n : Nat} {f : Nat → Int} (k i : Nat) (hk : k < n) (hi : i < n) (hki : k ≠ i) (h : ∀ j, j < n → j ≠ k → j ≠ i → f j = 0) : sumTo n f = f k + f i := by
  have e : sumTo n f = sumTo n (fun j => if j = k then f k else 0) + sumTo n fun j => if j = k then 0 else f j := by
    rw [← sumTo_add]
    refine sumTo_congr fun j _ => ?_
    by_cases hj : j = k
    · subst hj
      simp
    · simp [hj]
  rw [e, sumTo_one k hk fun j _ hj => if_neg hj, sumTo_one i hi fun j hj hn => ?_]
  · rw [if_pos rfl, if_neg hki.symm]
  · by_cases hjk : j = k
    · rw [if_pos hjk]
    · rw [if_neg hjk]
      exact h j hj hjk hn
/-- two columns put in -/
theorem det_put2 {n : Nat} (c : Mx) {k i : Nat} (hk : k < n) (hi : i < n) (hki : k ≠ i) (a b : Nat → Int) : det n (setC (setC c k fun r => sumTo n fun l => a l * c l r) i fun r => sumTo n fun m => b m * c m r) = (a k * b i - a i * b k) * det n c := by
  rw [det_sum _ i b c hi n, sumTo_two k i hk hi hki fun m hm h1 h2 => ?_]
  · have e1 : det n (setC (setC c k fun r => sumTo n fun l => a l * c l r) i (c i)) = a k * det n c := by
      rw [setC_comm _ _ _ hki, setC_self, det_put1 c k hk a]
    have e2 : det n (setC (setC c k fun r => sumTo n fun l => a l * c l r) i (c k)) = - (a i * det n c) := by
      rw [setC_comm _ _ _ hki, det_sum _ k a c hk n, sumTo_one i hi fun l hl hn => ?_]
      · rw [det_swap _ hi hk hki.symm, setC_self, setC_self, Int.mul_neg]
      · by_cases hlk : l = k
        · subst hlk
          rw [det_eq0 _ hi hk hki.symm fun r => by rw [setC_ne _ _ hki.symm, setC_same, setC_same], Int.mul_zero]
        · rw [det_eq0 _ hl hk hlk fun r => by rw [setC_ne _ _ hlk, setC_ne _ _ hn, setC_same], Int.mul_zero]
    rw [e1, e2]
    grind
  · rw [det_eq0 _ hm hi h2 fun r => by rw [setC_ne _ _ h2, setC_ne _ _ h1, setC_same], Int.mul_zero]
end Z
/-! Determinants: the unit vectors, sizes; the elimination without fractions. -/
namespace Z
def unit : Mx := fun j i => if j = i then 1 else 0
theorem det_unit : ∀ n : Nat, det n unit = 1
  | 0 => rfl
  | n + 1 => by
    rw [det, sumTo_one 0 (Nat.succ_pos n) fun i _ hi => ?_]
    · have e : minor unit 0 = unit := by
        funext j r
        simp [minor, unit, skip]
      rw [e, det_unit n]
      simp [sgn, unit]
    · have : unit 0 i = 0 := if_neg (Ne.symm hi)
      rw [this, Int.mul_zero, Int.zero_mul]
theorem sumTo_abs {n : Nat} {f : Nat → Int} {B : Nat} (h : ∀ i, i < n → (f i).natAbs ≤ B) : (sumTo n f).natAbs ≤ n * B := by
  induction n with
  | zero => simp [sumTo]
  | succ n ih =>
    rw [sumTo, Nat.succ_mul]
    have a := ih fun i hi => h i (Nat.lt_succ_of_lt hi)
    have b := h n (Nat.lt_succ_self n)
    have c := Int.natAbs_add_le (sumTo n f) (f n)
    omega
theorem sgn_abs (i : Nat) : (sgn i).natAbs = 1 := by
  unfold sgn
  split <;> rfl
theorem det_bnd (N M : Nat) : ∀ {n : Nat} (c : Mx), n ≤ N → (∀ j, j < n → ∀ i, i < n → (c j i).natAbs ≤ M) → (det n c).natAbs ≤ (N * M) ^ n
  | 0, _, _, _ => Nat.le_refl _
  | n + 1, c, hn, h => by
    rw [det]
    have hb : ∀ i, i < n + 1 → (sgn i * c 0 i * det n (minor c i)).natAbs ≤ M * (N * M) ^ n := fun i hi => by
      rw [Int.natAbs_mul, Int.natAbs_mul, sgn_abs, Nat.one_mul]
      refine Nat.mul_le_mul (h 0 (Nat.succ_pos n) i hi) (det_bnd N M (minor c i) (by omega) fun j hj r hr => h (j + 1) (by omega) _ (by
        unfold skip
        split <;> omega))
    have := sumTo_abs hb
    refine Nat.le_trans this ?_
    rw [Nat.pow_succ]
    calc (n + 1) * (M * (N * M) ^ n) = (N * M) ^ n * ((n + 1) * M) := by
          rw [← Nat.mul_assoc, Nat.mul_comm]
      _ ≤ (N * M) ^ n * (N * M) := Nat.mul_le_mul_left _ (Nat.mul_le_mul_right _ hn)
/-! ### the elimination: n rows, columns A 0 .. A (n - 1) and more; T: the table -/
/-- what holds of the table T with the last pivot d before step k -/
structure Gj (n m : Nat) (A : Mx) (k : Nat) (T : Nat → Nat → Int) (d : Int) (E : Mx) (s : Int) : Prop where
  s2 : s * s = 1
  d0 : d ≠ 0
  dE : d = s * det n E
  tt : ∀ l, l < n → ∀ j, j < m → T l j = s * det n (setC E l (A j))
  v : ∀ j, j < m → ∀ r, r < n → d * A j r = sumTo n fun l => T l j * E l r
  e : ∀ l, l < k → E l = A l
theorem Gj.start (n m : Nat) (A : Mx) : Gj n m A 0 (fun l j => A j l) 1 unit 1 where
  s2 := rfl
  d0 := by decide
  dE := by rw [det_unit]; rfl
  tt := fun l hl j hj => by
    have e : det n (setC unit l (A j)) = det n (setC unit l fun i => sumTo n fun q => A j q * unit q i) := by
      refine det_congr fun p hp i hi => ?_
      by_cases h : p = l
      · subst h
        rw [setC_same, setC_same, sumTo_one i hi fun q _ hq => ?_]
        · simp [unit]
        · have : unit q i = 0 := if_neg hq
          rw [this, Int.mul_zero]
      · rw [setC_ne _ _ h, setC_ne _ _ h]
    rw [e, det_put1 unit l hl, det_unit]
    omega
  v := fun j hj r hr => by
    rw [sumTo_one r hr fun q _ hq => ?_]
    · simp [unit]
    · have : unit q r = 0 := if_neg hq
      rw [this, Int.mul_zero]
  e := fun l hl => absurd hl (Nat.not_lt_zero l)
/-- the step: the row k has the pivot -/
def gjStep (T : Nat → Nat → Int) (k : Nat) (d : Int) : Nat → Nat → Int := fun i j => if i = k then T k j else (T k k * T i j - T i k * T k j).fdiv d
theorem det_scale {n : Nat} (c : Mx) (p : Nat) (a : Int) (u : Nat → Int) (h : p < n) : det n (setC c p fun i => a * u i) = a * det n (setC c p u) := by
  have := det_lin c p a 0 u u h
  simpa using this
theorem Gj.exact {n m : Nat} {A : Mx} {k : Nat} {T : Nat → Nat → Int} {d : Int} {E : Mx} {s : Int} (g : Gj n m A k T d E s) (hk : k < n) (hm : k < m) {i j : Nat} (hi : i < n) (hik : i ≠ k) (hj : j < m) :
    T k k * T i j - T i k * T k j = d * (s * det n (setC (setC E k (A k)) i (A j))) := by
  have h1 : det n (setC (setC E k fun r => d * A k r) i fun r => d * A j r) = (T k k * T i j - T i k * T k j) * det n E := by
    rw [← det_put2 E hk hi hik.symm (fun l => T l k) (fun l => T l j)]
    refine det_congr fun p hp r hr => ?_
    by_cases h1 : p = i
    · subst h1
      rw [setC_same, setC_same]
      exact g.v j hj r hr
    · rw [setC_ne _ _ h1, setC_ne _ _ h1]
      by_cases h2 : p = k
      · subst h2
        rw [setC_same, setC_same]
        exact g.v p hm r hr
      · rw [setC_ne _ _ h2, setC_ne _ _ h2]
  rw [det_scale _ i d _ hi, setC_comm _ _ _ hik.symm, det_scale _ k d _ hk, setC_comm _ _ _ hik] at h1
  have h2 := g.dE
  have h3 := g.s2
  generalize det n (setC (setC E k (A k)) i (A j)) = X at *
  generalize det n E = e at *
  generalize T k k * T i j - T i k * T k j = Y at *
  have h4 : d * (d * X) * s = Y * (e * s) := by rw [h1, Int.mul_assoc]
  have h5 : e * s = d := by rw [h2, Int.mul_comm]
  rw [h5] at h4
  have h6 : d * (Y - d * (s * X)) = 0 := by grind
  rcases Int.mul_eq_zero.mp h6 with h7 | h7
  · exact absurd h7 g.d0
  · omega
end Z
/-! The elimination: a step, a swap of rows, the end. -/
namespace Z
section
variable {n m : Nat} {A : Mx} {k : Nat} {T : Nat → Nat → Int} {d : Int} {E : Mx} {s : Int}
theorem Gj.stepEq (g : Gj n m A k T d E s) (hk : k < n) (hm : k < m) {i j : Nat} (hi : i < n) (hik : i ≠ k) (hj : j < m) : gjStep T k d i j = s * det n (setC (setC E k (A k)) i (A j)) ∧ d * gjStep T k d i j = T k k * T i j - T i k * T k j := by
  have h := g.exact hk hm hi hik hj
  unfold gjStep
  rw [if_neg hik, h, Int.mul_fdiv_cancel_left _ g.d0]
  exact ⟨rfl, rfl⟩
theorem Gj.next (g : Gj n m A k T d E s) (hk : k < n) (hm : k < m) (hp : T k k ≠ 0) : Gj n m A (k + 1) (gjStep T k d) (T k k) (setC E k (A k)) s where
  s2 := g.s2
  d0 := hp
  dE := g.tt k hk k hm
  tt := fun l hl j hj => by
    by_cases h : l = k
    · subst h
      rw [setC_set]
      unfold gjStep
      rw [if_pos rfl]
      exact g.tt l hl j hj
    · exact (g.stepEq hk hm hl h hj).1
  v := fun j hj r hr => by
    have e1 : d * (sumTo n fun l => gjStep T k d l j * setC E k (A k) l r) = sumTo n fun l => (T k k * (T l j * E l r) + (- T k j) * (T l k * E l r)) + if l = k then d * T k j * A k r else 0 := by
      rw [← sumTo_mul]
      refine sumTo_congr fun l hl => ?_
      by_cases h : l = k
      · subst h
        rw [setC_same, if_pos rfl]
        unfold gjStep
        rw [if_pos rfl]
        grind
      · rw [setC_ne _ _ h, if_neg h]
        have := (g.stepEq hk hm hl h hj).2
        grind
    rw [sumTo_add, sumTo_add, sumTo_mul, sumTo_mul, ← g.v j hj r hr, ← g.v k hm r hr, sumTo_one k hk fun l _ hl => if_neg hl, if_pos rfl] at e1
    have e2 : d * (T k k * A j r) = d * (sumTo n fun l => gjStep T k d l j * setC E k (A k) l r) := by
      rw [e1]
      grind
    exact Int.eq_of_mul_eq_mul_left g.d0 e2
  e := fun l hl => by
    by_cases h : l = k
    · subst h
      rw [setC_same]
    · rw [setC_ne _ _ h]
      exact g.e l (by omega)
/-- two rows change places -/
def swp (T : Nat → Nat → Int) (a b : Nat) : Nat → Nat → Int := fun i => if i = a then T b else if i = b then T a else T i
theorem swp_l (T : Nat → Nat → Int) (a b : Nat) : swp T a b a = T b := if_pos rfl
theorem swp_r (T : Nat → Nat → Int) {a b : Nat} (h : b ≠ a) : swp T a b b = T a := by
  unfold swp
  rw [if_neg h, if_pos rfl]
theorem swp_o (T : Nat → Nat → Int) {a b i : Nat} (h1 : i ≠ a) (h2 : i ≠ b) : swp T a b i = T i := by
  unfold swp
  rw [if_neg h1, if_neg h2]
theorem swp_id (T : Nat → Nat → Int) (a : Nat) : swp T a a = T := by
  funext i
  unfold swp
  split
  · rename_i h
    rw [h]
  · rfl
theorem swp_eq (E : Mx) {a b : Nat} (h : b ≠ a) : swp E a b = setC (setC E a (E b)) b (E a) := by
  funext j
  by_cases h1 : j = a
  · subst h1
    rw [swp_l, setC_ne _ _ h.symm, setC_same]
  · by_cases h2 : j = b
    · subst h2
      rw [swp_r _ h, setC_same]
    · rw [swp_o _ h1 h2, setC_ne _ _ h2, setC_ne _ _ h1]
theorem det_swp {n : Nat} (E : Mx) {a b : Nat} (ha : a < n) (hb : b < n) (h : b ≠ a) : det n (swp E a b) = - det n E := by
  rw [swp_eq E h, det_swap E ha hb h.symm, setC_self, setC_self]
theorem Gj.swap (g : Gj n m A k T d E s) {b : Nat} (hk : k < n) (hb : b < n) (hkb : k ≤ b) : ∃ s', Gj n m A k (swp T k b) d (swp E k b) s' := by
  by_cases h : b = k
  · subst h
    rw [swp_id, swp_id]
    exact ⟨s, g⟩
  · refine ⟨-s, ⟨by have := g.s2; grind, g.d0, ?_, fun l hl j hj => ?_, fun j hj r hr => ?_, fun l hl => ?_⟩⟩
    · rw [det_swp E hk hb h, g.dE]
      grind
    · by_cases h1 : l = k
      · subst h1
        have e : setC (swp E l b) l (A j) = swp (setC E b (A j)) l b := by
          funext q
          by_cases q1 : q = l
          · subst q1
            rw [setC_same, swp_l, setC_same]
          · rw [setC_ne _ _ q1]
            by_cases q2 : q = b
            · subst q2
              rw [swp_r _ h, swp_r _ h, setC_ne _ _ (Ne.symm h)]
            · rw [swp_o _ q1 q2, swp_o _ q1 q2, setC_ne _ _ q2]
        rw [e, det_swp _ hk hb h, swp_l, g.tt b hb j hj]
        grind
      · by_cases h2 : l = b
        · subst h2
          have e : setC (swp E k l) l (A j) = swp (setC E k (A j)) k l := by
            funext q
            by_cases q1 : q = l
            · subst q1
              rw [setC_same, swp_r _ h, setC_same]
            · rw [setC_ne _ _ q1]
              by_cases q2 : q = k
              · subst q2
                rw [swp_l, swp_l, setC_ne _ _ h]
              · rw [swp_o _ q2 q1, swp_o _ q2 q1, setC_ne _ _ q2]
          rw [e, det_swp _ hk hb h, swp_r _ h, g.tt k hk j hj]
          grind
        · have e : setC (swp E k b) l (A j) = swp (setC E l (A j)) k b := by
            funext q
            by_cases q1 : q = l
            · subst q1
              rw [setC_same, swp_o _ h1 h2, setC_same]
            · rw [setC_ne _ _ q1]
              by_cases q2 : q = k
              · subst q2
                rw [swp_l, swp_l, setC_ne _ _ (Ne.symm h2)]
              · by_cases q3 : q = b
                · subst q3
                  rw [swp_r _ h, swp_r _ h, setC_ne _ _ (Ne.symm h1)]
                · rw [swp_o _ q2 q3, swp_o _ q2 q3, setC_ne _ _ q1]
          rw [e, det_swp _ hk hb h, swp_o _ h1 h2, g.tt l hl j hj]
          grind
    · rw [g.v j hj r hr]
      have key : ∀ f : Nat → Int, sumTo n f = sumTo n fun l => if l = k then f b else if l = b then f k else f l := fun f => by
        have e : sumTo n (fun l => (if l = k then f b else if l = b then f k else f l) - f l) = 0 := by
          rw [sumTo_two k b hk hb (Ne.symm h) fun q _ q1 q2 => by rw [if_neg q1, if_neg q2]; omega, if_pos rfl, if_neg h, if_pos rfl]
          omega
        have e2 := sumTo_add n (fun l => (if l = k then f b else if l = b then f k else f l) - f l) f
        rw [e, Int.zero_add] at e2
        rw [← e2]
        exact sumTo_congr fun l _ => by omega
      rw [key]
      refine sumTo_congr fun l _ => ?_
      by_cases h1 : l = k
      · subst h1
        rw [if_pos rfl, swp_l, swp_l]
      · by_cases h2 : l = b
        · subst h2
          rw [if_neg h1, if_pos rfl, swp_r _ h, swp_r _ h]
        · rw [if_neg h1, if_neg h2, swp_o _ h1 h2, swp_o _ h1 h2]
    · rw [swp_o _ (by omega) (by omega)]
      exact g.e l hl
/-- the end: the columns behind the first n are told by those -/
theorem Gj.fin (g : Gj n m A n T d E s) {j r : Nat} (hj : j < m) (hr : r < n) : d * A j r = sumTo n fun l => T l j * A l r := by
  rw [g.v j hj r hr]
  exact sumTo_congr fun l hl => by rw [g.e l hl]
/-- no pivot: the columns up to k are bound to one another -/
theorem Gj.stuck (g : Gj n m A k T d E s) (hk : k < n) (hm : k < m) (h : ∀ l, k ≤ l → l < n → T l k = 0) : ∃ z : Nat → Int, z k ≠ 0 ∧ ∀ r, r < n → (sumTo n fun l => z l * A l r) = 0 := by
  refine ⟨fun l => if l < k then - T l k else if l = k then d else 0, by simp [g.d0], fun r hr => ?_⟩
  have e := g.v k hm r hr
  have e2 : (sumTo n fun l => (if l < k then - T l k else if l = k then d else 0) * A l r) = (sumTo n fun l => if l = k then d * A k r else 0) + - sumTo n fun l => T l k * E l r := by
    rw [← sumTo_neg, ← sumTo_add]
    refine sumTo_congr fun l hl => ?_
    by_cases h1 : l < k
    · rw [if_pos h1, if_neg (by omega), g.e l h1]
      grind
    · rw [if_neg h1, h l (by omega) hl]
      by_cases h2 : l = k
      · subst h2
        rw [if_pos rfl, if_pos rfl]
        grind
      · rw [if_neg h2, if_neg h2]
        grind
  rw [e2, sumTo_one k hk fun l _ hl => if_neg hl, if_pos rfl, ← e]
  omega
end
end Z
/-! Tables on data: pivot_of. -/
namespace Z
open PySem
def rowD (m : Nat) (f : Nat → Int) : D := .lst ((List.range m).map fun j => .int (f j))
def tabD (n m : Nat) (T : Nat → Nat → Int) : D := .lst ((List.range n).map fun i => rowD m (T i))
theorem ix_tab {n m i : Nat} (T : Nat → Nat → Int) (h : i < n) : ixD (tabD n m T) (.int i) = some (rowD m (T i)) := at_range _ h
theorem ix_row {m j : Nat} (f : Nat → Int) (h : j < m) : ixD (rowD m f) (.int j) = some (.int (f j)) := at_range _ h
def pivOf (T : Nat → Nat → Int) (n k : Nat) : Option Nat := ((List.range (n - k)).map (k + ·)).find? fun l => T l k != 0
theorem pv_loop (n m k : Nat) (T : Nat → Nat → Int) (hk : k < m) : ∀ (ls : List Nat) (x : Option D), (∀ l ∈ ls, l < n) →
    match ls.find? fun l => T l k != 0 with
    | some l => ∃ x', forG (gtN 2) (sIf (tBl (eBin neD (eBin ixD (eBin ixD (eVar 0) (eVar 2)) (eVar 1)) (eC (.int 0)))) (sRet (eVar 2)) sNil) (natsD ls) [some (tabD n m T), some (natD k), x] = some (.rt (natD l) [some (tabD n m T), some (natD k), x'])
    | none => ∃ x', forG (gtN 2) (sIf (tBl (eBin neD (eBin ixD (eBin ixD (eVar 0) (eVar 2)) (eVar 1)) (eC (.int 0)))) (sRet (eVar 2)) sNil) (natsD ls) [some (tabD n m T), some (natD k), x] = some (.nx [some (tabD n m T), some (natD k), x'])
  | [], x, _ => ⟨x, rfl⟩
  | l :: ls, x, h => by
    have hl := h l (List.mem_cons_self ..)
    have ih := pv_loop n m k T hk ls (some (natD l)) fun q hq => h q (List.mem_cons_of_mem _ hq)
    by_cases hz : T l k = 0
    · have e : (l :: ls).find? (fun l => T l k != 0) = ls.find? fun l => T l k != 0 := by simp [List.find?, hz]
      rw [e]
      have one : forG (gtN 2) (sIf (tBl (eBin neD (eBin ixD (eBin ixD (eVar 0) (eVar 2)) (eVar 1)) (eC (.int 0)))) (sRet (eVar 2)) sNil) (natsD (l :: ls)) [some (tabD n m T), some (natD k), x] = forG (gtN 2) (sIf (tBl (eBin neD (eBin ixD (eBin ixD (eVar 0) (eVar 2)) (eVar 1)) (eC (.int 0)))) (sRet (eVar 2)) sNil) (natsD ls) [some (tabD n m T), some (natD k), some (natD l)] := by
        simp only [natsD, List.map_cons, forG, gtN, Option.bind_some, List.set]
        simp [sIf, tBl, eBin, eVar, natD, ix_tab T hl, ix_row (T l) hk, eC, neD, ok_int, D.eqb, hz, sNil]
      simp only [one]
      exact ih
    · have e : (l :: ls).find? (fun l => T l k != 0) = some l := List.find?_cons_of_pos (by simp [hz])
      rw [e]
      refine ⟨some (natD l), ?_⟩
      simp only [natsD, List.map_cons, forG, gtN, Option.bind_some, List.set]
      simp [sIf, tBl, eBin, eVar, natD, ix_tab T hl, ix_row (T l) hk, eC, neD, ok_int, D.eqb, hz, sRet]
end Z
/-! pivot_of on data. -/
namespace Z
open PySem
theorem in62 {a : Nat} (h : a ≤ 1000) : -P62 ≤ (a : Int) ∧ (a : Int) < P62 := by
  have e : (1000 : Int) < P62 := by decide +kernel
  have e2 : -P62 ≤ 0 := by decide +kernel
  omega
theorem iRng2 {fs : MA} {ρ ρ' : Env} {a b : Int} (h : fs ρ = some ([.int a, .int b], ρ')) (hc : -P62 ≤ a ∧ a < P62 ∧ -P62 ≤ b ∧ b < P62) : iRngM fs ρ = some (rngL a (b - a).toNat, ρ') := by
  unfold iRngM
  rw [h, Option.bind_some]
  exact if_pos hc
theorem iRng1 {fs : MA} {ρ ρ' : Env} {b : Int} (h : fs ρ = some ([.int b], ρ')) (hc : -P62 ≤ b ∧ b < P62) : iRngM fs ρ = some (rngL 0 b.toNat, ρ') := by
  unfold iRngM
  rw [h, Option.bind_some]
  exact if_pos hc
theorem rng2 {fs : MA} {ρ ρ' : Env} {a b : Nat} (h : fs ρ = some ([.int a, .int b], ρ')) (ha : a ≤ 1000) (hb : b ≤ 1000) : iRngM fs ρ = some (natsD ((List.range (b - a)).map (a + ·)), ρ') := by
  rw [iRng2 h ⟨(in62 ha).1, (in62 ha).2, (in62 hb).1, (in62 hb).2⟩]
  have e : ((b : Int) - (a : Int)).toNat = b - a := by omega
  rw [e]
  congr 2
  simp only [rngL, natsD, List.map_map]
  exact List.map_congr_left fun i _ => by simp [natD]
theorem rng1 {fs : MA} {ρ ρ' : Env} {b : Nat} (h : fs ρ = some ([.int b], ρ')) (hb : b ≤ 1000) : iRngM fs ρ = some (natsD (List.range b), ρ') := by
  rw [iRng1 h (in62 hb), Int.toNat_natCast]
  congr 2
  simp only [rngL, natsD]
  exact List.map_congr_left fun i _ => by simp [natD]
/-! ### steps of a def's body -/
theorem runP_rt {m : Nat} {g : MS} {ds : List D} {d : D} {ρ : Env} (h : g (envOf m ds) = some (.rt d ρ)) : runP m g ds = some d := by
  unfold runP
  rw [h]
theorem runP_nx {m : Nat} {g : MS} {ds : List D} {ρ : Env} (h : g (envOf m ds) = some (.nx ρ)) : runP m g ds = some .non := by
  unfold runP
  rw [h]
theorem runF_rf {m : Nat} {g : MS} {ds : List D} {d : D} {ρ : Env} (h : g (envOf m ds) = some (.rf d ρ)) : runF m g ds = some d := by
  unfold runF
  rw [h]
theorem seq_nx {g1 g2 : MS} {ρ ρ1 : Env} (h : g1 ρ = some (.nx ρ1)) : sSeq g1 g2 ρ = g2 ρ1 := by
  unfold sSeq
  rw [h]
  rfl
theorem seq_rt {g1 g2 : MS} {ρ ρ1 : Env} {d : D} (h : g1 ρ = some (.rt d ρ1)) : sSeq g1 g2 ρ = some (.rt d ρ1) := by
  unfold sSeq
  rw [h]
  rfl
theorem for_eq {fi : MI} {gt : D → Env → Option Env} {gb : MS} {ρ ρ1 : Env} {ds : List D} (h : fi ρ = some (ds, ρ1)) : sFor fi gt gb ρ = forG gt gb ds ρ1 := by
  unfold sFor
  rw [h]
  rfl
theorem set_eq {i : Nat} {f : M} {ρ ρ1 : Env} {d : D} (h : f ρ = some (d, ρ1)) : sSet i f ρ = some (.nx (ρ1.set i (some d))) := by
  unfold sSet
  rw [h]
  rfl
theorem ret_eq {f : M} {ρ ρ1 : Env} {d : D} (h : f ρ = some (d, ρ1)) : sRet f ρ = some (.rt d ρ1) := by
  unfold sRet
  rw [h]
  rfl
theorem drop_eq {f : M} {ρ ρ1 : Env} {d : D} (h : f ρ = some (d, ρ1)) : sDrop f ρ = some (.nx ρ1) := by
  unfold sDrop
  rw [h]
  rfl
theorem if_t {t : MT} {g1 g2 : MS} {ρ ρ1 : Env} (h : t ρ = some (true, ρ1)) : sIf t g1 g2 ρ = g1 ρ1 := by
  unfold sIf
  rw [h]
  rfl
theorem if_f {t : MT} {g1 g2 : MS} {ρ ρ1 : Env} (h : t ρ = some (false, ρ1)) : sIf t g1 g2 ρ = g2 ρ1 := by
  unfold sIf
  rw [h]
  rfl
theorem ca_eq {op : List D → Option D} {fs : MA} {ρ ρ1 : Env} {ds : List D} {d : D} (h : fs ρ = some (ds, ρ1)) (h2 : op ds = some d) : eCa op fs ρ = some (d, ρ1) := by
  unfold eCa
  rw [h, Option.bind_some, h2]
  rfl
theorem a_nil {ρ : Env} : aNil ρ = some ([], ρ) := rfl
theorem a_cons {fa : M} {fs : MA} {ρ ρ1 ρ2 : Env} {d : D} {ds : List D} (h : fa ρ = some (d, ρ1)) (h2 : fs ρ1 = some (ds, ρ2)) : aCons fa fs ρ = some (d :: ds, ρ2) := by
  unfold aCons
  rw [h, Option.bind_some, h2]
  rfl
theorem v_eq {i : Nat} {ρ : Env} {d : D} (h : ρ[i]? = some (some d)) : eVar i ρ = some (d, ρ) := by
  unfold eVar
  rw [h]
theorem bin_eq {op : D → D → Option D} {fa fb : M} {ρ ρ1 ρ2 : Env} {a b d : D} (h : fa ρ = some (a, ρ1)) (h2 : fb ρ1 = some (b, ρ2)) (h3 : op a b = some d) : eBin op fa fb ρ = some (d, ρ2) := by
  unfold eBin
  rw [h, Option.bind_some, h2, Option.bind_some, h3]
  rfl
theorem un_eq {op : D → Option D} {fa : M} {ρ ρ1 : Env} {a d : D} (h : fa ρ = some (a, ρ1)) (h3 : op a = some d) : eUn op fa ρ = some (d, ρ1) := by
  unfold eUn
  rw [h, Option.bind_some, h3]
  rfl
theorem or_f {ta tb : MT} {ρ ρ1 : Env} (h : ta ρ = some (false, ρ1)) : tOrM ta tb ρ = tb ρ1 := by
  unfold tOrM
  rw [h]
  rfl
theorem or_t {ta tb : MT} {ρ ρ1 : Env} (h : ta ρ = some (true, ρ1)) : tOrM ta tb ρ = some (true, ρ1) := by
  unfold tOrM
  rw [h]
  rfl
theorem and_f {ta tb : MT} {ρ ρ1 : Env} (h : ta ρ = some (false, ρ1)) : tAndM ta tb ρ = some (false, ρ1) := by
  unfold tAndM
  rw [h]
  rfl
theorem and_t {ta tb : MT} {ρ ρ1 : Env} (h : ta ρ = some (true, ρ1)) : tAndM ta tb ρ = tb ρ1 := by
  unfold tAndM
  rw [h]
  rfl
theorem not_eq {ta : MT} {ρ ρ1 : Env} {b : Bool} (h : ta ρ = some (b, ρ1)) : tNotM ta ρ = some (!b, ρ1) := by
  unfold tNotM
  rw [h]
  rfl
theorem bl_eq {f : M} {ρ ρ1 : Env} {b : Bool} (h : f ρ = some (.bl b, ρ1)) : tBl f ρ = some (b, ρ1) := by
  unfold tBl
  rw [h]
  rfl
theorem tr_eq {f : M} {ρ ρ1 : Env} {d : D} {b : Bool} (h : f ρ = some (d, ρ1)) (h2 : truD d = some b) : tTr f ρ = some (b, ρ1) := by
  unfold tTr
  rw [h, Option.bind_some, h2]
  rfl
theorem eif_t {t : MT} {fa fb : M} {ρ ρ1 : Env} (h : t ρ = some (true, ρ1)) : eIf t fa fb ρ = fa ρ1 := by
  unfold eIf
  rw [h]
  rfl
theorem eif_f {t : MT} {fa fb : M} {ρ ρ1 : Env} (h : t ρ = some (false, ρ1)) : eIf t fa fb ρ = fb ρ1 := by
  unfold eIf
  rw [h]
  rfl
theorem tup_eq {fs : MA} {ρ ρ1 : Env} {ds : List D} (h : fs ρ = some (ds, ρ1)) (hl : ds.length ≤ 100000) : eTup fs ρ = some (.tup ds, ρ1) := by
  unfold eTup
  rw [h, Option.bind_some]
  exact if_pos hl
theorem lst_eq {fs : MA} {ρ ρ1 : Env} {ds : List D} (h : fs ρ = some (ds, ρ1)) (hl : ds.length ≤ 100000) : eLst fs ρ = some (.lst ds, ρ1) := by
  unfold eLst
  rw [h, Option.bind_some]
  exact if_pos hl
theorem par_eq {is : List Nat} {fs : MA} {ρ ρ1 : Env} {ds : List D} (h : fs ρ = some (ds, ρ1)) : sPar is fs ρ = some (.nx (setDs is ds ρ1)) := by
  unfold sPar
  rw [h]
  rfl
theorem tgt_eq {gt : D → Env → Option Env} {f : M} {ρ ρ1 ρ2 : Env} {d : D} (h : f ρ = some (d, ρ1)) (h2 : gt d ρ1 = some ρ2) : sTgt gt f ρ = some (.nx ρ2) := by
  unfold sTgt
  rw [h, Option.bind_some, h2]
  rfl
theorem eand_t {fa fb : M} {ρ ρ1 : Env} (h : fa ρ = some (.bl true, ρ1)) : eAnd fa fb ρ = fb ρ1 := by
  unfold eAnd
  rw [h]
  rfl
theorem eand_f {fa fb : M} {ρ ρ1 : Env} (h : fa ρ = some (.bl false, ρ1)) : eAnd fa fb ρ = some (.bl false, ρ1) := by
  unfold eAnd
  rw [h]
  rfl
theorem chain_t {g g' : D → D → Option D} {fa fb fc : M} {ρ ρ1 ρ2 : Env} {a b : D} (h1 : fa ρ = some (a, ρ1)) (h2 : fb ρ1 = some (b, ρ2)) (h3 : g a b = some (.bl true)) : eChain g g' fa fb fc ρ = (fc ρ2).bind fun s => (g' b s.1).map fun d => (d, s.2) := by
  unfold eChain
  rw [h1, Option.bind_some, h2, Option.bind_some, h3]
  rfl
theorem F_pivot_of_eq (n m k : Nat) (T : Nat → Nat → Int) (hk : k < m) (hkn : k ≤ n) (hn : n ≤ 1000) : F_pivot_of [tabD n m T, natD k] = some (match pivOf T n k with
    | some l => natD l
    | none => .non) := by
  have hr : iRngM (aCons (eVar 1) (aCons (eCa lenD (aCons (eVar 0) aNil)) aNil)) [some (tabD n m T), some (natD k), none] = some (natsD ((List.range (n - k)).map (k + ·)), [some (tabD n m T), some (natD k), none]) := by
    refine rng2 ?_ (by omega) hn
    simp [aCons, aNil, eVar, eCa, lenD, tabD, natD]
  have hp := pv_loop n m k T hk ((List.range (n - k)).map (k + ·)) none fun l hl => by
    obtain ⟨i, hi, rfl⟩ := List.mem_map.mp hl
    have := List.mem_range.mp hi
    omega
  unfold pivOf
  generalize (List.map (fun x => k + x) (List.range (n - k))) = ls at *
  have hf := for_eq (gt := gtN 2) (gb := sIf (tBl (eBin neD (eBin ixD (eBin ixD (eVar 0) (eVar 2)) (eVar 1)) (eC (.int 0)))) (sRet (eVar 2)) sNil) hr
  cases e : ls.find? fun l => T l k != 0 with
  | some l =>
    rw [e] at hp
    obtain ⟨x', h1⟩ := hp
    exact runP_rt (seq_rt (hf.trans h1))
  | none =>
    rw [e] at hp
    obtain ⟨x', h1⟩ := hp
    exact runP_rt ((seq_nx (hf.trans h1)).trans rfl)
end Z
/-! cleared on data. -/
namespace Z
open PySem
/-- the entries of a table are below a bound -/
def TB : Nat := 2 ^ 1000
theorem TB2 {a b : Int} (ha : a.natAbs < TB) (hb : b.natAbs < TB) : MulOk a b := mulOk_of (Nat.lt_of_lt_of_le ha (by decide +kernel)) (Nat.lt_of_lt_of_le hb (by decide +kernel))
theorem zip_range (m : Nat) (f g : Nat → D) : zipL ((List.range m).map f) ((List.range m).map g) = (List.range m).map fun j => .tup [f j, g j] := by
  refine List.ext_getElem? fun i => ?_
  by_cases hi : i < m
  · rw [zipL_get (a := f i) (b := g i) (by rw [List.getElem?_map, List.getElem?_range hi]; rfl) (by rw [List.getElem?_map, List.getElem?_range hi]; rfl), List.getElem?_map, List.getElem?_range hi]
    rfl
  · rw [List.getElem?_eq_none (by rw [zipL_len, List.length_map, List.length_map, List.length_range]; omega), List.getElem?_eq_none (by rw [List.length_map, List.length_range]; omega)]
theorem eqD_int (i j : Int) : eqD (.int i) (.int j) = some (.bl (decide (i = j))) := by
  simp [eqD, ok_int, D.eqb]
  rfl
theorem neD_int (i j : Int) : neD (.int i) (.int j) = some (.bl (decide (i ≠ j))) := by
  simp [neD, ok_int, D.eqb]
  rfl
abbrev clE : M := eBin fdivD (eBin subD (eBin mulD (eBin ixD (eVar 3) (eVar 1)) (eVar 8)) (eBin mulD (eVar 7) (eVar 9))) (eVar 2)
abbrev clI : MI := iZipM (aCons (eVar 6) (aCons (eVar 3) aNil))
abbrev clG : D → Env → Option Env := gtT 2 (gtCons (gtN 8) (gtCons (gtN 9) gtNil))
theorem cl_row (n m k i : Nat) (T : Nat → Nat → Int) (d : Int) (hk : k < m) (hm : m ≤ 1000) (hik : i ≠ k) (hd : d ≠ 0) (hdB : d.natAbs < TB) (hT : ∀ j, j < m → (T i j).natAbs < TB ∧ (T k j).natAbs < TB) (tab F I : D) (a b : Option D) :
    eLc clI [8, 9] clG tTrue clE [some tab, some (natD k), some (.int d), some (rowD m (T k)), some F, some I, some (rowD m (T i)), some (.int (T i k)), a, b] = some (rowD m (gjStep T k d i), [some tab, some (natD k), some (.int d), some (rowD m (T k)), some F, some I, some (rowD m (T i)), some (.int (T i k)), a, b]) := by
  have h := eLc_pureT (fi := clI) (vs := [8, 9]) (gt := clG) (f := clE) (ρ := [some tab, some (natD k), some (.int d), some (rowD m (T k)), some F, some I, some (rowD m (T i)), some (.int (T i k)), a, b]) (ρw := [some tab, some (natD k), some (.int d), some (rowD m (T k)), some F, some I, some (rowD m (T i)), some (.int (T i k)), none, none])
    (ds := (List.range m).map fun j => .tup [.int (T i j), .int (T k j)]) (by simp [clI, iZipM, aCons, aNil, eVar, rowD, zip_range]) rfl (fun e => match e with
      | .tup [.int x, .int y] => .int ((T k k * x - T i k * y).fdiv d)
      | _ => .non) (fun e he => by
        obtain ⟨j, hj, rfl⟩ := List.mem_map.mp he
        have hj := List.mem_range.mp hj
        refine ⟨[some tab, some (natD k), some (.int d), some (rowD m (T k)), some F, some I, some (rowD m (T i)), some (.int (T i k)), some (.int (T i j)), some (.int (T k j))], rfl, ?_, rfl⟩
        have m1 := TB2 (hT k hk).2 (hT j hj).1
        have m2 := TB2 (hT k hk).1 (hT j hj).2
        have hdb : d.natAbs < BIG := Nat.lt_of_lt_of_le hdB (by decide +kernel)
        simp [clE, eBin, eVar, natD, ix_row (T k) hk, mulD, m1, m2, subD, fdivD, hd, hdb]) (by simp; omega)
  rw [h]
  congr 3
  rw [List.map_map]
  refine List.map_congr_left fun j _ => ?_
  simp [gjStep, hik]
abbrev clB : MS := sIf (tBl (eBin eqD (eVar 5) (eVar 1))) (sApp 4 (eVar 6)) (sSeq (sSet 7 (eBin ixD (eVar 6) (eVar 1))) (sApp 4 (eLc clI [8, 9] clG tTrue clE)))
theorem cl_loop (n m k : Nat) (T : Nat → Nat → Int) (d : Int) (hk : k < m) (hm : m ≤ 1000) (hd : d ≠ 0) (hdB : d.natAbs < TB) (hkn : k < n) (hT : ∀ i, i < n → ∀ j, j < m → (T i j).natAbs < TB) (tab : D) : ∀ (ls : List Nat) (acc : List D) (u v w a b : Option D), (∀ l ∈ ls, l < n) → acc.length + ls.length ≤ 1000 →
    ∃ u' v' w', forG (gtT 2 (gtCons (gtN 5) (gtCons (gtN 6) gtNil))) clB (ls.map fun i => .tup [natD i, rowD m (T i)]) [some tab, some (natD k), some (.int d), some (rowD m (T k)), some (.lst acc), u, v, w, a, b] = some (.nx [some tab, some (natD k), some (.int d), some (rowD m (T k)), some (.lst (acc ++ ls.map fun i => rowD m (gjStep T k d i))), u', v', w', a, b])
  | [], acc, u, v, w, a, b, _, _ => ⟨u, v, w, by simp [forG]⟩
  | i :: ls, acc, u, v, w, a, b, h, hl => by
    have hi := h i (List.mem_cons_self ..)
    rw [List.length_cons] at hl
    have e0 : ∀ x : D, (acc ++ [x]) ++ ls.map (fun i => rowD m (gjStep T k d i)) = acc ++ x :: ls.map (fun i => rowD m (gjStep T k d i)) := fun x => by simp
    have ih := fun x u v w => cl_loop n m k T d hk hm hd hdB hkn hT tab ls (acc ++ [x]) u v w a b (fun l hl => h l (List.mem_cons_of_mem _ hl)) (by simp; omega)
    by_cases hik : i = k
    · subst hik
      obtain ⟨u', v', w', h1⟩ := ih (rowD m (T i)) (some (natD i)) (some (rowD m (T i))) w
      refine ⟨u', v', w', ?_⟩
      have eg : rowD m (gjStep T i d i) = rowD m (T i) := by
        unfold rowD
        congr 1
        refine List.map_congr_left fun j _ => ?_
        simp [gjStep]
      rw [List.map_cons, List.map_cons, eg, ← e0, ← h1]
      have hacc : acc.length < 100000 := by omega
      simp [forG, gtT, gtCons, gtN, gtNil, clB, sIf, tBl, eBin, eVar, natD, eqD_int, sApp, lstAt, hacc]
    · obtain ⟨u', v', w', h1⟩ := ih (rowD m (gjStep T k d i)) (some (natD i)) (some (rowD m (T i))) (some (.int (T i k)))
      refine ⟨u', v', w', ?_⟩
      have hr := cl_row n m k i T d hk hm hik hd hdB (fun j hj => ⟨hT i hi j hj, hT k hkn j hj⟩) tab (.lst acc) (natD i) a b
      rw [List.map_cons, List.map_cons, ← e0, ← h1]
      have hacc : acc.length < 100000 := by omega
      have hne : ¬ ((i : Int) = (k : Int)) := by omega
      simp only [natD] at hr
      simp [forG, gtT, gtCons, gtN, gtNil, clB, sIf, tBl, eBin, eVar, natD, eqD_int, hne, sSeq, sSet, ix_row (T i) hk, sApp, lstAt, hacc, hr]
theorem F_cleared_eq (n m k : Nat) (T : Nat → Nat → Int) (d : Int) (hk : k < m) (hn : n ≤ 1000) (hm : m ≤ 1000) (hd : d ≠ 0) (hdB : d.natAbs < TB) (hkn : k < n) (hT : ∀ i, i < n → ∀ j, j < m → (T i j).natAbs < TB) : F_cleared [tabD n m T, natD k, .int d] = some (tabD n m (gjStep T k d)) := by
  obtain ⟨u', v', w', h1⟩ := cl_loop n m k T d hk hm hd hdB hkn hT (tabD n m T) (List.range n) [] none none none none none (fun l hl => List.mem_range.mp hl) (by simp; omega)
  have hi : iEnumM (eVar 0) [some (tabD n m T), some (natD k), some (.int d), some (rowD m (T k)), some (.lst []), none, none, none, none, none] = some ((List.range n).map fun i => .tup [natD i, rowD m (T i)], [some (tabD n m T), some (natD k), some (.int d), some (rowD m (T k)), some (.lst []), none, none, none, none, none]) := by
    have e := enum_range n fun i => rowD m (T i)
    show some (enumL 0 ((List.range n).map fun i => rowD m (T i)), _) = _
    rw [e]
    rfl
  have hp : sPar [3, 4] (aCons (eBin ixD (eVar 0) (eVar 1)) (aCons (eLst aNil) aNil)) (envOf 7 [tabD n m T, natD k, .int d]) = some (.nx [some (tabD n m T), some (natD k), some (.int d), some (rowD m (T k)), some (.lst []), none, none, none, none, none]) := by
    simp [sPar, aCons, aNil, eBin, eVar, envOf, natD, ix_tab T hkn, eLst, setDs]
  have hend : sRetO 4 [some (tabD n m T), some (natD k), some (.int d), some (rowD m (T k)), some (.lst ([] ++ (List.range n).map fun i => rowD m (gjStep T k d i))), u', v', w', none, none] = some (.rf (tabD n m (gjStep T k d)) [some (tabD n m T), some (natD k), some (.int d), some (rowD m (T k)), some (.lst ([] ++ (List.range n).map fun i => rowD m (gjStep T k d i))), u', v', w', none, none]) := rfl
  exact runF_rf ((seq_nx hp).trans ((seq_nx ((for_eq hi).trans h1)).trans hend))
end Z
/-! whole_row on data. -/
namespace Z
open PySem
def frD (p : Int × Nat) : D := .tup [.int p.1, .int p.2]
theorem rD_fr (q : Rat) : rD q = frD (q.num, q.den) := rfl
def L64 : Nat := 2 ^ 64
abbrev lcmF (c : Nat) (ps : List (Int × Nat)) : Nat := ps.foldl (fun c p => Nat.lcm c p.2) c
theorem lcmF_dvd {L : Nat} : ∀ {ps : List (Int × Nat)} {c : Nat}, c ∣ L → (∀ p ∈ ps, p.2 ∣ L) → lcmF c ps ∣ L
  | [], _, h, _ => h
  | p :: ps, c, h, hp => lcmF_dvd (ps := ps) (Nat.lcm_dvd h (hp p (List.mem_cons_self ..))) fun q hq => hp q (List.mem_cons_of_mem _ hq)
theorem dvd_lcmF : ∀ {ps : List (Int × Nat)} {c : Nat}, c ∣ lcmF c ps ∧ ∀ p ∈ ps, p.2 ∣ lcmF c ps
  | [], c => ⟨Nat.dvd_refl _, fun _ h => by cases h⟩
  | p :: ps, c => by
    obtain ⟨h1, h2⟩ := dvd_lcmF (ps := ps) (c := Nat.lcm c p.2)
    refine ⟨Nat.dvd_trans (Nat.dvd_lcm_left c p.2) h1, fun q hq => ?_⟩
    rcases List.mem_cons.mp hq with rfl | hq
    · exact Nat.dvd_trans (Nat.dvd_lcm_right c q.2) h1
    · exact h2 q hq
theorem lcmD_nat {a b : Nat} (ha : a < L64) (hb : b < L64) : lcmD [.int a, .int b] = some (.int (Nat.lcm a b : Nat)) := by
  have h1 : a < 2 ^ 64 := ha
  have h2 : b < 2 ^ 64 := hb
  unfold lcmD
  exact if_pos ⟨h1, h2⟩
abbrev wrB : MS := sSet 1 (eCa lcmD (aCons (eVar 1) (aCons (eVar 3) aNil)))
abbrev wrG : D → Env → Option Env := gtT 2 (gtCons (gtN 2) (gtCons (gtN 3) gtNil))
theorem wr_loop (R : D) {L : Nat} (hL : 0 < L) (hL64 : L < L64) : ∀ (ps : List (Int × Nat)) (c : Nat) (a b : Option D), c ∣ L → (∀ p ∈ ps, p.2 ∣ L) → ∃ a' b', forG wrG wrB (ps.map frD) [some R, some (.int c), a, b] = some (.nx [some R, some (.int (lcmF c ps : Nat)), a', b'])
  | [], c, a, b, _, _ => ⟨a, b, rfl⟩
  | p :: ps, c, a, b, hc, hp => by
    have hpd := hp p (List.mem_cons_self ..)
    obtain ⟨a', b', h1⟩ := wr_loop R hL hL64 ps (Nat.lcm c p.2) (some (.int p.1)) (some (.int p.2)) (Nat.lcm_dvd hc hpd) fun q hq => hp q (List.mem_cons_of_mem _ hq)
    refine ⟨a', b', ?_⟩
    have hl := lcmD_nat (Nat.lt_of_le_of_lt (Nat.le_of_dvd hL hc) hL64) (Nat.lt_of_le_of_lt (Nat.le_of_dvd hL hpd) hL64)
    rw [List.map_cons]
    refine Eq.trans ?_ h1
    simp [forG, gtT, gtCons, gtN, gtNil, frD, wrB, sSet, eCa, aCons, aNil, eVar, hl]
theorem F_whole_row_eq {L : Nat} (hL : 0 < L) (hL64 : L < L64) (ps : List (Int × Nat)) (hp : ∀ p ∈ ps, p.2 ∣ L) (hlen : ps.length ≤ 1000) : F_whole_row [.tup (ps.map frD)] = some (.lst (ps.map fun p => .int (p.1 * ((lcmF 1 ps / p.2 : Nat) : Int)))) := by
  obtain ⟨a', b', h1⟩ := wr_loop (.tup (ps.map frD)) hL hL64 ps 1 none none (Nat.one_dvd L) hp
  have hd := lcmF_dvd (Nat.one_dvd L) hp
  have hd2 := (dvd_lcmF (ps := ps) (c := 1)).2
  generalize hc : lcmF 1 ps = c at *
  have hcl : c < L64 := Nat.lt_of_le_of_lt (Nat.le_of_dvd hL hd) hL64
  have h2 := eLc_pureT (fi := iSeq (eVar 0)) (vs := [2, 3]) (gt := wrG) (f := eBin mulD (eVar 2) (eBin fdivD (eVar 1) (eVar 3))) (ρ := [some (.tup (ps.map frD)), some (.int c), a', b']) (ρw := [some (.tup (ps.map frD)), some (.int c), none, none]) (ds := ps.map frD)
    rfl rfl (fun d => match d with
      | .tup [.int x, .int y] => .int (x * ((c / y.toNat : Nat) : Int))
      | _ => .non) (fun d hd' => by
        obtain ⟨p, hpm, rfl⟩ := List.mem_map.mp hd'
        refine ⟨[some (.tup (ps.map frD)), some (.int c), some (.int p.1), some (.int p.2)], rfl, ?_, rfl⟩
        have hp0 : 0 < p.2 := Nat.pos_of_dvd_of_pos (hp p hpm) hL
        have hpB : p.2 < BIG := Nat.lt_of_lt_of_le (Nat.lt_of_le_of_lt (Nat.le_of_dvd hL (hp p hpm)) hL64) (by decide +kernel)
        have e1 : (c : Int).fdiv (p.2 : Int) = ((c / p.2 : Nat) : Int) := by
          rw [Int.fdiv_eq_ediv_of_nonneg _ (Int.natCast_nonneg _)]
          rfl
        have e2 : fdivD (.int c) (.int p.2) = some (.int ((c / p.2 : Nat) : Int)) := by
          unfold fdivD
          have hne : (p.2 : Int) ≠ 0 := by omega
          have hb2 : ((p.2 : Int)).natAbs < BIG := by simpa using hpB
          rw [← e1]
          exact if_pos ⟨hne, hb2⟩
        have e3 : mulD (.int p.1) (.int ((c / p.2 : Nat) : Int)) = some (.int (p.1 * ((c / p.2 : Nat) : Int))) := by
          unfold mulD
          refine if_pos (.inr (.inl ?_))
          have : c / p.2 ≤ c := Nat.div_le_self _ _
          have h3 : c / p.2 < L64 := Nat.lt_of_le_of_lt this hcl
          exact h3
        exact bin_eq (v_eq rfl) (bin_eq (v_eq rfl) (v_eq rfl) e2) e3) (by simp; omega)
  have h3 := ret_eq h2
  have h4 : (ps.map frD).map (fun d => match d with
      | .tup [.int x, .int y] => D.int (x * ((c / y.toNat : Nat) : Int))
      | _ => .non) = ps.map fun p => .int (p.1 * ((c / p.2 : Nat) : Int)) := by
    rw [List.map_map]
    refine List.map_congr_left fun p _ => ?_
    simp [frD]
  rw [h4] at h3
  exact runP_rt ((seq_nx (set_eq rfl)).trans ((seq_nx ((for_eq rfl).trans h1)).trans h3))
/-- a row of whole numbers with a ratio behind it -/
theorem F_whole_row_int (n : Nat) (a : Nat → Int) (q : Rat) (hq : q.den < L64) (hn : n < 1000) : F_whole_row [.tup ((List.range n).map (fun j => frD (a j, 1)) ++ [rD q])] = some (rowD (n + 1) fun j => if j = n then q.num else a j * q.den) := by
  have hL : 0 < q.den := q.den_pos
  have h := F_whole_row_eq hL hq (((List.range n).map fun j => (a j, 1)) ++ [(q.num, q.den)]) (fun p hp => by
    rcases List.mem_append.mp hp with h | h
    · obtain ⟨j, _, rfl⟩ := List.mem_map.mp h
      exact Nat.one_dvd _
    · rw [List.mem_singleton] at h
      subst h
      exact Nat.dvd_refl _) (by simp; omega)
  have hl1 : ∀ (l : List Nat) (c : Nat), lcmF c (l.map fun j => (a j, 1)) = c := by
    intro l
    induction l with
    | nil => exact fun c => rfl
    | cons j l ih =>
      intro c
      show lcmF (Nat.lcm c 1) (l.map fun j => (a j, 1)) = c
      rw [Nat.lcm_one_right, ih]
  have hl : lcmF 1 (((List.range n).map fun j => (a j, 1)) ++ [(q.num, q.den)]) = q.den := by
    show List.foldl _ _ _ = _
    rw [List.foldl_append]
    have := hl1 (List.range n) 1
    show lcmF (lcmF 1 ((List.range n).map fun j => (a j, 1))) [(q.num, q.den)] = q.den
    rw [this]
    show Nat.lcm 1 q.den = q.den
    exact Nat.lcm_one_left _
  rw [hl] at h
  have e1 : (((List.range n).map fun j => (a j, 1)) ++ [(q.num, q.den)]).map frD = (List.range n).map (fun j => frD (a j, 1)) ++ [rD q] := by
    rw [List.map_append, List.map_map]
    rfl
  rw [e1] at h
  rw [h]
  congr 1
  unfold rowD
  congr 1
  rw [List.map_append, List.map_map, List.range_succ, List.map_append]
  congr 1
  · refine List.map_congr_left fun j hj => ?_
    have := List.mem_range.mp hj
    have hne : j ≠ n := by omega
    simp [hne]
  · have e : (q.den : Int) / (q.den : Int) = 1 := Int.ediv_self (den_ne q)
    simp [e]
end Z
/-! solved on data: the loop. -/
namespace Z
open PySem
theorem forG_nx {gt : D → Env → Option Env} {gb : MS} {d : D} {ds : List D} {ρ ρ1 ρ2 : Env} (h : gt d ρ = some ρ1) (h2 : gb ρ1 = some (.nx ρ2)) : forG gt gb (d :: ds) ρ = forG gt gb ds ρ2 := by
  rw [forG, h, Option.bind_some, h2]
  rfl
theorem forG_rt {gt : D → Env → Option Env} {gb : MS} {d x : D} {ds : List D} {ρ ρ1 ρ2 : Env} (h : gt d ρ = some ρ1) (h2 : gb ρ1 = some (.rt x ρ2)) : forG gt gb (d :: ds) ρ = some (.rt x ρ2) := by
  rw [forG, h, Option.bind_some, h2]
  rfl
theorem upFrom_succ (k c : Nat) : (List.range (c + 1)).map (k + ·) = k :: (List.range c).map ((k + 1) + ·) := by
  rw [List.range_succ_eq_map, List.map_cons, List.map_map]
  refine congrArg (k :: ·) (List.map_congr_left fun i _ => ?_)
  show k + (i + 1) = k + 1 + i
  omega
/-- the invariant: the columns E are small -/
def EB (n M : Nat) (E : Mx) : Prop := ∀ j, j < n → ∀ i, i < n → (E j i).natAbs ≤ M
theorem unitEB {n M : Nat} (h : 1 ≤ M) : EB n M unit := fun j _ i _ => by
  unfold unit
  split
  · exact h
  · exact Nat.zero_le _
theorem swpEB {n M : Nat} {E : Mx} {a b : Nat} (h : EB n M E) (ha : a < n) (hb : b < n) : EB n M (swp E a b) := fun j hj i hi => by
  unfold swp
  split
  · exact h b hb i hi
  · split
    · exact h a ha i hi
    · exact h j hj i hi
theorem setEB {n M : Nat} {E : Mx} {k : Nat} {u : Nat → Int} (h : EB n M E) (hu : ∀ i, i < n → (u i).natAbs ≤ M) : EB n M (setC E k u) := fun j hj i hi => by
  unfold setC
  split
  · exact hu i hi
  · exact h j hj i hi
theorem Gj.sAbs {n m : Nat} {A : Mx} {k : Nat} {T : Nat → Nat → Int} {d : Int} {E : Mx} {s : Int} (g : Gj n m A k T d E s) : s.natAbs = 1 := by
  have h := congrArg Int.natAbs g.s2
  rw [Int.natAbs_mul] at h
  have h1 : s.natAbs * s.natAbs = 1 := h
  exact Nat.eq_one_of_mul_eq_one_left h1
theorem Gj.bnd {n m M : Nat} {A : Mx} {k : Nat} {T : Nat → Nat → Int} {d : Int} {E : Mx} {s : Int} (g : Gj n m A k T d E s) (hE : EB n M E) (hA : ∀ j, j < m → ∀ i, i < n → (A j i).natAbs ≤ M) : d.natAbs ≤ (n * M) ^ n ∧ ∀ l, l < n → ∀ j, j < m → (T l j).natAbs ≤ (n * M) ^ n := by
  have hs := g.sAbs
  constructor
  · rw [g.dE, Int.natAbs_mul, hs, Nat.one_mul]
    exact det_bnd n M E (Nat.le_refl n) hE
  · intro l hl j hj
    rw [g.tt l hl j hj, Int.natAbs_mul, hs, Nat.one_mul]
    exact det_bnd n M _ (Nat.le_refl n) (setEB hE (hA j hj))
theorem tab_swap (n m : Nat) (T : Nat → Nat → Int) {k l : Nat} (hk : k < n) (hl : l < n) : ((((List.range n).map fun i => rowD m (T i)).set l (rowD m (T k))).set k (rowD m (T l))) = (List.range n).map fun i => rowD m (swp T k l i) := by
  refine List.ext_getElem? fun i => ?_
  by_cases hi : i < n
  · rw [List.getElem?_map, List.getElem?_range hi]
    simp only [Option.map_some]
    by_cases h1 : i = k
    · subst h1
      rw [List.getElem?_set_self (by simp; exact hi), swp_l]
    · rw [List.getElem?_set_ne (Ne.symm h1)]
      by_cases h2 : i = l
      · subst h2
        rw [List.getElem?_set_self (by simp; exact hi), swp_r _ h1]
      · rw [List.getElem?_set_ne (Ne.symm h2), List.getElem?_map, List.getElem?_range hi, swp_o _ h1 h2]
        rfl
  · rw [List.getElem?_eq_none (by simp; omega), List.getElem?_eq_none (by simp; omega)]
abbrev svB : MS := sSeq (sSet 8 (eBor (eCa F_pivot_of (aCons (eVar 3) (aCons (eVar 7) aNil))))) (sSeq (sIf (tBl (eUn isND (eVar 8))) (sRet (eC .non)) sNil) (sSeq (sSet 9 (eOIx 3 (eVar 8))) (sSeq (sPut 3 (eOIx 3 (eVar 7)) (eVar 8)) (sSeq (sPut 3 (eVar 9) (eVar 7)) (sSeq (sSet 3 (eCa F_cleared (aCons (eVar 3) (aCons (eVar 7) (aCons (eVar 4) aNil))))) (sSet 4 (eBin ixD (eVar 9) (eVar 7))))))))
theorem ixN_nat {n i : Nat} (h : i < n) : L2.ixN n (i : Int) = some i := by
  unfold L2.ixN
  rw [if_pos (by omega), if_pos (by omega)]
  simp
theorem sv_body (n m k l : Nat) (T : Nat → Nat → Int) (d : Int) (hn : n ≤ 1000) (hm : m ≤ 1000) (hk : k < n) (hkm : k < m) (hl : l < n) (hp : pivOf T n k = some l) (hd : d ≠ 0) (hdB : d.natAbs < TB) (hT : ∀ i, i < n → ∀ j, j < m → (T i j).natAbs < TB) (A B C : D) (x y z w : Option D) :
    svB [some A, some B, some C, some (tabD n m T), some (.int d), x, y, some (natD k), z, w] = some (.nx [some A, some B, some C, some (tabD n m (gjStep (swp T k l) k d)), some (.int (swp T k l k k)), x, y, some (natD k), some (natD l), some (rowD m (T l))]) := by
  have h1 : eBor (eCa F_pivot_of (aCons (eVar 3) (aCons (eVar 7) aNil))) [some A, some B, some C, some (tabD n m T), some (.int d), x, y, some (natD k), z, w] = some (natD l, [some A, some B, some C, some (tabD n m T), some (.int d), x, y, some (natD k), z, w]) := by
    have := F_pivot_of_eq n m k T hkm (by omega) hn
    rw [hp] at this
    have h := ca_eq (op := F_pivot_of) (fs := aCons (eVar 3) (aCons (eVar 7) aNil)) (ρ := [some A, some B, some C, some (tabD n m T), some (.int d), x, y, some (natD k), z, w]) (a_cons (v_eq rfl) (a_cons (v_eq rfl) a_nil)) this
    unfold eBor
    rw [h]
    rfl
  have h2 : sIf (tBl (eUn isND (eVar 8))) (sRet (eC .non)) sNil [some A, some B, some C, some (tabD n m T), some (.int d), x, y, some (natD k), some (natD l), w] = some (.nx [some A, some B, some C, some (tabD n m T), some (.int d), x, y, some (natD k), some (natD l), w]) := rfl
  have h3 : eOIx 3 (eVar 8) [some A, some B, some C, some (tabD n m T), some (.int d), x, y, some (natD k), some (natD l), w] = some (rowD m (T l), [some A, some B, some C, some (tabD n m T), some (.int d), x, y, some (natD k), some (natD l), w]) := by
    have := ix_tab (n := n) (m := m) T hl
    simp only [tabD] at this
    simp [eOIx, lstAt, tabD, eVar, natD, this]
  have h4 : sPut 3 (eOIx 3 (eVar 7)) (eVar 8) [some A, some B, some C, some (tabD n m T), some (.int d), x, y, some (natD k), some (natD l), some (rowD m (T l))] = some (.nx [some A, some B, some C, some (.lst (((List.range n).map fun i => rowD m (T i)).set l (rowD m (T k)))), some (.int d), x, y, some (natD k), some (natD l), some (rowD m (T l))]) := by
    have := ix_tab (n := n) (m := m) T hk
    simp only [tabD] at this
    simp [sPut, eOIx, lstAt, tabD, eVar, natD, this, ixN_nat hl]
  have h5 : sPut 3 (eVar 9) (eVar 7) [some A, some B, some C, some (.lst (((List.range n).map fun i => rowD m (T i)).set l (rowD m (T k)))), some (.int d), x, y, some (natD k), some (natD l), some (rowD m (T l))] = some (.nx [some A, some B, some C, some (tabD n m (swp T k l)), some (.int d), x, y, some (natD k), some (natD l), some (rowD m (T l))]) := by
    have e := tab_swap n m T hk hl
    simp [sPut, lstAt, eVar, natD, ixN_nat hk, e, tabD]
  have hsw : ∀ i, i < n → ∀ j, j < m → (swp T k l i j).natAbs < TB := fun i hi j hj => by
    unfold swp
    split
    · exact hT l hl j hj
    · split
      · exact hT k hk j hj
      · exact hT i hi j hj
  have h6 : eCa F_cleared (aCons (eVar 3) (aCons (eVar 7) (aCons (eVar 4) aNil))) [some A, some B, some C, some (tabD n m (swp T k l)), some (.int d), x, y, some (natD k), some (natD l), some (rowD m (T l))] = some (tabD n m (gjStep (swp T k l) k d), [some A, some B, some C, some (tabD n m (swp T k l)), some (.int d), x, y, some (natD k), some (natD l), some (rowD m (T l))]) :=
    ca_eq (a_cons (v_eq rfl) (a_cons (v_eq rfl) (a_cons (v_eq rfl) a_nil))) (F_cleared_eq n m k (swp T k l) d hkm hn hm hd hdB hk hsw)
  have h7 : eBin ixD (eVar 9) (eVar 7) [some A, some B, some C, some (tabD n m (gjStep (swp T k l) k d)), some (.int d), x, y, some (natD k), some (natD l), some (rowD m (T l))] = some (.int (swp T k l k k), [some A, some B, some C, some (tabD n m (gjStep (swp T k l) k d)), some (.int d), x, y, some (natD k), some (natD l), some (rowD m (T l))]) := by
    refine bin_eq (v_eq rfl) (v_eq rfl) ?_
    rw [swp_l]
    exact ix_row (T l) hkm
  exact (seq_nx (set_eq h1)).trans ((seq_nx h2).trans ((seq_nx (set_eq h3)).trans ((seq_nx h4).trans ((seq_nx h5).trans ((seq_nx (set_eq h6)).trans (set_eq h7))))))
theorem pivOf_some {T : Nat → Nat → Int} {n k : Nat} (h : ∃ l, k ≤ l ∧ l < n ∧ T l k ≠ 0) : ∃ l, pivOf T n k = some l ∧ k ≤ l ∧ l < n ∧ T l k ≠ 0 := by
  obtain ⟨l, h1, h2, h3⟩ := h
  cases e : pivOf T n k with
  | none =>
    unfold pivOf at e
    rw [List.find?_eq_none] at e
    exact absurd (e l (List.mem_map.mpr ⟨l - k, List.mem_range.mpr (by omega), by omega⟩)) (by simp [h3])
  | some p =>
    refine ⟨p, rfl, ?_⟩
    unfold pivOf at e
    have a := List.find?_some e
    have b := List.mem_of_find?_eq_some e
    obtain ⟨i, hi, rfl⟩ := List.mem_map.mp b
    have := List.mem_range.mp hi
    exact ⟨by omega, by omega, by simpa using a⟩
/-- only 0 is bound to 0 -/
def NonS (n : Nat) (A : Mx) : Prop := ∀ z : Nat → Int, (∀ r, r < n → sumTo n (fun l => z l * A l r) = 0) → ∀ l, l < n → z l = 0
theorem sv_loop (n m M : Nat) (A : Mx) (hn : n ≤ 1000) (hm : m ≤ 1000) (hnm : n ≤ m) (hM : (n * M) ^ n < TB) (hA : ∀ j, j < m → ∀ i, i < n → (A j i).natAbs ≤ M) (hS : NonS n A) (R Q C : D) (x y : Option D) : ∀ (c k : Nat) (T : Nat → Nat → Int) (d : Int) (E : Mx) (s : Int) (u z w : Option D), k + c = n → Gj n m A k T d E s → EB n M E →
    ∃ T' d' E' s' u' z' w', forG (gtN 7) svB (natsD ((List.range c).map (k + ·))) [some R, some Q, some C, some (tabD n m T), some (.int d), x, y, u, z, w] = some (.nx [some R, some Q, some C, some (tabD n m T'), some (.int d'), x, y, u', z', w']) ∧ Gj n m A n T' d' E' s' ∧ EB n M E' := by
  intro c
  induction c with
  | zero =>
    intro k T d E s u z w hk g hE
    have : k = n := by omega
    subst this
    exact ⟨T, d, E, s, u, z, w, rfl, g, hE⟩
  | succ c ih =>
    intro k T d E s u z w hk g hE
    have hkn : k < n := by omega
    obtain ⟨b1, b2⟩ := g.bnd hE hA
    have hp : ∃ l, k ≤ l ∧ l < n ∧ T l k ≠ 0 := by
      refine Classical.byContradiction fun hno => ?_
      obtain ⟨v, v1, v2⟩ := g.stuck hkn (by omega) fun l h1 h2 => Classical.byContradiction fun h3 => hno ⟨l, h1, h2, h3⟩
      exact v1 (hS v v2 k hkn)
    obtain ⟨l, p1, p2, p3, p4⟩ := pivOf_some hp
    obtain ⟨s', g'⟩ := g.swap hkn p3 p2
    have hb := sv_body n m k l T d hn hm hkn (by omega) p3 p1 g.d0 (Nat.lt_of_le_of_lt b1 hM) (fun i hi j hj => Nat.lt_of_le_of_lt (b2 i hi j hj) hM) R Q C x y z w
    have hpk : swp T k l k k ≠ 0 := by
      rw [swp_l]
      exact p4
    have g2 := g'.next hkn (by omega) hpk
    obtain ⟨T', d', E', s2, u', z', w', h1, h2, h3⟩ := ih (k + 1) _ _ _ _ (some (natD k)) (some (natD l)) (some (rowD m (T l))) (by omega) g2 (setEB (swpEB hE hkn p3) (hA k (by omega)))
    refine ⟨T', d', E', s2, u', z', w', ?_, h2, h3⟩
    rw [upFrom_succ]
    exact (forG_nx rfl hb).trans h1
end Z
/-! solved on data. -/
namespace Z
open PySem
def sumQ : Nat → (Nat → Rat) → Rat
  | 0, _ => 0
  | n + 1, f => sumQ n f + f n
theorem sumQ_congr : ∀ {n : Nat} {f g : Nat → Rat}, (∀ i, i < n → f i = g i) → sumQ n f = sumQ n g
  | 0, _, _, _ => rfl
  | n + 1, f, g, h => by rw [sumQ, sumQ, sumQ_congr fun i hi => h i (Nat.lt_succ_of_lt hi), h n (Nat.lt_succ_self n)]
theorem sumQ_mul (c : Rat) (f : Nat → Rat) : ∀ n : Nat, sumQ n (fun i => c * f i) = c * sumQ n f
  | 0 => by
    simp only [sumQ]
    grind
  | n + 1 => by
    simp only [sumQ, sumQ_mul c f n]
    grind
theorem sumQ_int (f : Nat → Int) : ∀ n : Nat, ((sumTo n f : Int) : Rat) = sumQ n fun i => (f i : Rat)
  | 0 => rfl
  | n + 1 => by
    simp only [sumTo, sumQ, Rat.intCast_add, sumQ_int f n]
/-- the rows and the right sides -/
def rowsD (n : Nat) (a : Nat → Nat → Int) : D := .tup ((List.range n).map fun r => .tup ((List.range n).map fun j => frD (a r j, 1)))
def rightsD (n : Nat) (q : Nat → Rat) : D := .tup ((List.range n).map fun r => rD (q r))
/-- the columns of whole numbers -/
def colsOf (n : Nat) (a : Nat → Nat → Int) (q : Nat → Rat) : Mx := fun j r => if j = n then (q r).num else a r j * ((q r).den : Int)
theorem lens_rows (n : Nat) (f : Nat → List D) (h : ∀ r, (f r).length = n) : ∀ l : List Nat, lensD (l.map fun r => .tup (f r)) = some (l.map fun _ => n)
  | [] => rfl
  | r :: l => by
    rw [List.map_cons, lensD, lens_rows n f h l, h r]
    rfl
theorem any_same (n : Nat) (l : List Nat) : (l.map fun _ => n).any (fun x : Nat => decide ((x : Int) ≠ (n : Int))) = false := by
  rw [List.any_eq_false]
  intro x hx
  obtain ⟨_, _, rfl⟩ := List.mem_map.mp hx
  simp
abbrev svC : MT := tOrM (tBl (eBin gtD (eVar 2) (eC (.int (40))))) (tOrM (tBl (eBin neD (eCa lenD (aCons (eVar 0) aNil)) (eVar 2))) (tTr (eAnyLen 2 (eVar 0))))
theorem sv_check (n : Nat) (a : Nat → Nat → Int) (hn : n ≤ 40) (B : D) (u1 u2 u3 u4 u5 u6 u7 : Option D) : svC [some (rowsD n a), some B, some (.int n), u1, u2, u3, u4, u5, u6, u7] = some (false, [some (rowsD n a), some B, some (.int n), u1, u2, u3, u4, u5, u6, u7]) := by
  have h1 := lens_rows n (fun r => (List.range n).map fun j => frD (a r j, 1)) (fun r => by simp) (List.range n)
  have h2 := any_same n (List.range n)
  have h3 : tBl (eBin gtD (eVar 2) (eC (.int (40)))) [some (rowsD n a), some B, some (.int n), u1, u2, u3, u4, u5, u6, u7] = some (false, [some (rowsD n a), some B, some (.int n), u1, u2, u3, u4, u5, u6, u7]) := by
    have : ¬ ((40 : Int) < (n : Int)) := by omega
    simp [tBl, eBin, eVar, eC, gtD, this]
  have h4 : tBl (eBin neD (eCa lenD (aCons (eVar 0) aNil)) (eVar 2)) [some (rowsD n a), some B, some (.int n), u1, u2, u3, u4, u5, u6, u7] = some (false, [some (rowsD n a), some B, some (.int n), u1, u2, u3, u4, u5, u6, u7]) := by
    simp [tBl, eBin, eVar, eCa, aCons, aNil, lenD, rowsD, neD_int]
  have h5 : tTr (eAnyLen 2 (eVar 0)) [some (rowsD n a), some B, some (.int n), u1, u2, u3, u4, u5, u6, u7] = some (false, [some (rowsD n a), some B, some (.int n), u1, u2, u3, u4, u5, u6, u7]) := by
    have e : eAnyLen 2 (eVar 0) [some (rowsD n a), some B, some (.int n), u1, u2, u3, u4, u5, u6, u7] = some (.bl false, [some (rowsD n a), some B, some (.int n), u1, u2, u3, u4, u5, u6, u7]) := by
      show (lensD ((List.range n).map fun r => .tup ((List.range n).map fun j => frD (a r j, 1)))).map _ = _
      rw [h1, Option.map_some, h2]
    unfold tTr
    rw [e]
    rfl
  exact (or_f h3).trans ((or_f h4).trans h5)
abbrev svT : M := eLc (iZipM (aCons (eVar 0) (aCons (eVar 1) aNil))) [5, 6] (gtT 2 (gtCons (gtN 5) (gtCons (gtN 6) gtNil))) tTrue (eCa F_whole_row (aCons (eBin addD (eVar 5) (eTup (aCons (eVar 6) aNil))) aNil))
theorem sv_table (n : Nat) (a : Nat → Nat → Int) (q : Nat → Rat) (hn : n ≤ 40) (hq : ∀ r, r < n → (q r).den < L64) : svT [some (rowsD n a), some (rightsD n q), some (.int n), none, none, none, none, none, none, none] = some (tabD n (n + 1) (fun r j => colsOf n a q j r), [some (rowsD n a), some (rightsD n q), some (.int n), none, none, none, none, none, none, none]) := by
  have h := eLc_pureT (fi := iZipM (aCons (eVar 0) (aCons (eVar 1) aNil))) (vs := [5, 6]) (gt := gtT 2 (gtCons (gtN 5) (gtCons (gtN 6) gtNil))) (f := eCa F_whole_row (aCons (eBin addD (eVar 5) (eTup (aCons (eVar 6) aNil))) aNil))
    (ρ := [some (rowsD n a), some (rightsD n q), some (.int n), none, none, none, none, none, none, none]) (ρw := [some (rowsD n a), some (rightsD n q), some (.int n), none, none, none, none, none, none, none])
    (ds := (List.range n).map fun r => .tup [.tup ((List.range n).map fun j => frD (a r j, 1)), rD (q r)]) (by
      have e := zip_range n (fun r => .tup ((List.range n).map fun j => frD (a r j, 1))) fun r => rD (q r)
      show some (zipL _ _, _) = _
      rw [e]) rfl (fun d => match d with
      | .tup [.tup es, e] => match F_whole_row [.tup (es ++ [e])] with
        | some y => y
        | none => .non
      | _ => .non) (fun d hd => by
        obtain ⟨r, hr, rfl⟩ := List.mem_map.mp hd
        have hr := List.mem_range.mp hr
        have e := F_whole_row_int n (a r) (q r) (hq r hr) (by omega)
        refine ⟨[some (rowsD n a), some (rightsD n q), some (.int n), none, none, some (.tup ((List.range n).map fun j => frD (a r j, 1))), some (rD (q r)), none, none, none], rfl, ?_, rfl⟩
        refine ca_eq (ds := [.tup ((List.range n).map (fun j => frD (a r j, 1)) ++ [rD (q r)])]) (a_cons (bin_eq (v_eq rfl) (b := .tup [rD (q r)]) rfl ?_) a_nil) ?_
        · unfold addD
          exact if_pos (by simp; omega)
        · show _ = some (match F_whole_row [.tup ((List.range n).map (fun j => frD (a r j, 1)) ++ [rD (q r)])] with
            | some y => y
            | none => .non)
          rw [e]) (by simp; omega)
  refine h.trans ?_
  congr 3
  rw [List.map_map]
  refine List.map_congr_left fun r hr => ?_
  have hr := List.mem_range.mp hr
  have e := F_whole_row_int n (a r) (q r) (hq r hr) (by omega)
  show (match F_whole_row [.tup ((List.range n).map (fun j => frD (a r j, 1)) ++ [rD (q r)])] with
    | some y => y
    | none => D.non) = _
  rw [e]
  rfl
theorem sm_divInt {n d : Int} (hd : d ≠ 0) (h1 : n.natAbs < SZ) (h2 : d.natAbs < SZ) : Sm (Rat.divInt n d) := by
  have hn := Rat.num_divInt n d
  have hden := Rat.den_divInt n d
  rw [if_neg hd] at hden
  constructor
  · rw [hn]
    refine Nat.lt_of_le_of_lt ?_ h1
    have a : (d.sign * n).natAbs ≤ n.natAbs := by
      rw [Int.natAbs_mul]
      have : d.sign.natAbs ≤ 1 := by
        rw [Int.natAbs_sign]
        split <;> omega
      calc d.sign.natAbs * n.natAbs ≤ 1 * n.natAbs := Nat.mul_le_mul_right _ this
        _ = n.natAbs := Nat.one_mul _
    have hg : (d.gcd n : Int) ∣ d.sign * n := Int.dvd_mul_of_dvd_right (Int.gcd_dvd_right ..)
    rw [Int.natAbs_ediv_of_dvd hg]
    exact Nat.le_trans (Nat.div_le_self _ _) a
  · rw [hden]
    exact Nat.lt_of_le_of_lt (Nat.div_le_self _ _) h2
theorem F_solved_eq (n M : Nat) (a : Nat → Nat → Int) (q : Nat → Rat) (hn : n ≤ 40) (hq : ∀ r, r < n → (q r).den < L64) (hM1 : 1 ≤ M) (ha : ∀ r, r < n → ∀ j, j < n → (a r j * ((q r).den : Int)).natAbs ≤ M) (hb : ∀ r, r < n → (q r).num.natAbs ≤ M) (hB : (n * M) ^ n < SZ)
    (hS : ∀ z : Nat → Rat, (∀ r, r < n → sumQ n (fun j => (a r j : Rat) * z j) = 0) → ∀ j, j < n → z j = 0) :
    ∃ s : Nat → Rat, F_solved [rowsD n a, rightsD n q] = some (.tup ((List.range n).map fun j => rD (s j))) ∧ (∀ r, r < n → sumQ n (fun j => (a r j : Rat) * s j) = q r) ∧ ∀ j, j < n → Sm (s j) := by
  have hTB : SZ ≤ TB := by decide +kernel
  have hA : ∀ j, j < n + 1 → ∀ i, i < n → (colsOf n a q j i).natAbs ≤ M := fun j hj i hi => by
    unfold colsOf
    split
    · exact hb i hi
    · exact ha i hi j (by omega)
  have hN : NonS n (colsOf n a q) := fun z hz l hl => by
    have h1 := hS (fun j => (z j : Rat)) (fun r hr => by
      have h2 := congrArg (fun i : Int => (i : Rat)) (hz r hr)
      simp only [sumQ_int] at h2
      have h3 : sumQ n (fun i => ((z i * colsOf n a q i r : Int) : Rat)) = ((q r).den : Rat) * sumQ n (fun j => (a r j : Rat) * (z j : Rat)) := by
        rw [← sumQ_mul]
        refine sumQ_congr fun i hi => ?_
        have : i ≠ n := by omega
        simp only [colsOf, if_neg this, Rat.intCast_mul, Rat.intCast_natCast]
        grind
      rw [h3] at h2
      have h4 : ((q r).den : Rat) ≠ 0 := by
        have := (q r).den_nz
        exact fun e => this (by exact_mod_cast e)
      have h5 : ((q r).den : Rat) * sumQ n (fun j => (a r j : Rat) * (z j : Rat)) = 0 := h2
      rcases Rat.mul_eq_zero.mp h5 with h6 | h6
      · exact absurd h6 h4
      · exact h6) l hl
    exact Rat.intCast_eq_zero_iff.mp h1
  obtain ⟨T', d', E', s', u', z', w', h1, g, hE⟩ := sv_loop n (n + 1) M (colsOf n a q) (by omega) (by omega) (by omega) (Nat.lt_of_lt_of_le hB hTB) hA hN (rowsD n a) (rightsD n q) (.int n) none none n 0 _ 1 unit 1 none none none (by omega) (Gj.start n (n + 1) (colsOf n a q)) (unitEB hM1)
  obtain ⟨b1, b2⟩ := g.bnd hE hA
  have hdS : d'.natAbs < SZ := Nat.lt_of_le_of_lt b1 hB
  have hTS : ∀ l, l < n → (T' l n).natAbs < SZ := fun l hl => Nat.lt_of_le_of_lt (b2 l hl n (by omega)) hB
  refine ⟨fun l => Rat.divInt (T' l n) d', ?_, fun r hr => ?_, fun j hj => sm_divInt g.d0 (hTS j hj) hdS⟩
  · have e0 : (List.range n).map (0 + ·) = List.range n := by
      refine Eq.trans (List.map_congr_left fun i _ => Nat.zero_add i) (List.map_id _)
    rw [e0] at h1
    have hr : iRngM (aCons (eVar 2) aNil) [some (rowsD n a), some (rightsD n q), some (.int n), some (tabD n (n + 1) (fun l j => colsOf n a q j l)), some (.int 1), none, none, none, none, none] = some (natsD (List.range n), [some (rowsD n a), some (rightsD n q), some (.int n), some (tabD n (n + 1) (fun l j => colsOf n a q j l)), some (.int 1), none, none, none, none, none]) := rng1 rfl (by omega)
    have hp : sPar [3, 4] (aCons svT (aCons (eC (.int 1)) aNil)) [some (rowsD n a), some (rightsD n q), some (.int n), none, none, none, none, none, none, none] = some (.nx [some (rowsD n a), some (rightsD n q), some (.int n), some (tabD n (n + 1) (fun l j => colsOf n a q j l)), some (.int 1), none, none, none, none, none]) := by
      have := sv_table n a q hn hq
      unfold sPar aCons
      rw [this]
      rfl
    have hl := eLc_pureT (fi := iSeq (eVar 3)) (vs := [5]) (gt := gtN 5) (f := eCa F_ratio (aCons (eBin ixD (eVar 5) (eVar 2)) (aCons (eVar 4) aNil))) (ρ := [some (rowsD n a), some (rightsD n q), some (.int n), some (tabD n (n + 1) T'), some (.int d'), none, none, u', z', w']) (ρw := [some (rowsD n a), some (rightsD n q), some (.int n), some (tabD n (n + 1) T'), some (.int d'), none, none, u', z', w']) (ds := (List.range n).map fun i => rowD (n + 1) (T' i))
      rfl rfl (fun d => match ixD d (.int n) with
        | some (.int x) => rD (Rat.divInt x d')
        | _ => .non) (fun d hd => by
          obtain ⟨l, hl, rfl⟩ := List.mem_map.mp hd
          have hl := List.mem_range.mp hl
          have e := ix_row (T' l) (show n < n + 1 by omega)
          refine ⟨[some (rowsD n a), some (rightsD n q), some (.int n), some (tabD n (n + 1) T'), some (.int d'), some (rowD (n + 1) (T' l)), none, u', z', w'], rfl, ?_, rfl⟩
          rw [e]
          exact ca_eq (a_cons (bin_eq (v_eq rfl) (v_eq rfl) e) (a_cons (v_eq rfl) a_nil)) (F_ratio_eq _ _ g.d0 (Nat.lt_of_lt_of_le hdS (by decide +kernel)))) (by simp; omega)
    have hm : ((List.range n).map fun i => rowD (n + 1) (T' i)).map (fun d => match ixD d (.int n) with
        | some (.int x) => rD (Rat.divInt x d')
        | _ => D.non) = (List.range n).map fun l => rD (Rat.divInt (T' l n) d') := by
      rw [List.map_map]
      refine List.map_congr_left fun l _ => ?_
      have e := ix_row (T' l) (show n < n + 1 by omega)
      show (match ixD (rowD (n + 1) (T' l)) (.int n) with
        | some (.int x) => rD (Rat.divInt x d')
        | _ => D.non) = _
      rw [e]
    rw [hm] at hl
    have hlen : sSet 2 (eCa lenD (aCons (eVar 1) aNil)) (envOf 8 [rowsD n a, rightsD n q]) = some (.nx [some (rowsD n a), some (rightsD n q), some (.int n), none, none, none, none, none, none, none]) := by
      refine set_eq (ca_eq (a_cons (v_eq rfl) a_nil) ?_)
      simp [lenD, rightsD]
    refine runP_rt ((seq_nx hlen).trans ((seq_nx ((if_f (sv_check n a hn _ _ _ _ _ _ _ _)).trans rfl)).trans ((seq_nx hp).trans ((seq_nx ((for_eq hr).trans h1)).trans (ret_eq (ca_eq (a_cons hl a_nil) rfl))))))
  · have hf := g.fin (j := n) (by omega) hr
    have h2 := congrArg (fun i : Int => (i : Rat)) hf
    simp only [sumQ_int, Rat.intCast_mul] at h2
    have hd : ((d' : Int) : Rat) ≠ 0 := cast_ne g.d0
    have hden : ((q r).den : Rat) ≠ 0 := by
      have := (q r).den_nz
      exact fun e => this (by exact_mod_cast e)
    have e1 : ((colsOf n a q n r : Int) : Rat) = q r * ((q r).den : Rat) := by
      have := rat_nd (q r)
      simp only [colsOf, if_pos]
      rw [Rat.intCast_natCast] at this
      grind
    have e2 : sumQ n (fun i => ((T' i n : Int) : Rat) * ((colsOf n a q i r : Int) : Rat)) = (d' : Rat) * ((q r).den : Rat) * sumQ n (fun j => (a r j : Rat) * Rat.divInt (T' j n) d') := by
      rw [← sumQ_mul]
      refine sumQ_congr fun i hi => ?_
      have : i ≠ n := by omega
      simp only [colsOf, if_neg this, Rat.intCast_mul, Rat.intCast_natCast]
      rw [Rat.divInt_eq_div]
      grind
    rw [e1, e2] at h2
    grind
end Z
/-! Values of ways: the principle of the least entry. -/
namespace Z
def playOf (b : Bo) (σ : Nat → Int) (x : Nat) : Lot := (b.plays x).getD (σ x).toNat []
inductive Live (b : Bo) (σ : Nat → Int) : Nat → Prop
  | stop {x : Nat} : x < b.n → σ x = -1 → Live b σ x
  | go {x : Nat} {p : Nat × Int} : x < b.n → σ x ≠ -1 → p ∈ playOf b σ x → Live b σ p.1 → Live b σ x
theorem playOf_mem {b : Bo} {σ : Nat → Int} (w : WayOk b σ) {x : Nat} (hx : x < b.n) (h : σ x ≠ -1) : playOf b σ x ∈ b.plays x := by
  have a := w.lo x hx
  have c := w.hi x hx
  exact getD_mem (by omega)
theorem exists_least (P : Nat → Prop) (h : Nat → Rat) : ∀ n : Nat, (∃ x, x < n ∧ P x) → ∃ x, x < n ∧ P x ∧ ∀ y, y < n → P y → h x ≤ h y := by
  classical
  intro n
  induction n with
  | zero => exact fun ⟨x, hx, _⟩ => absurd hx (Nat.not_lt_zero x)
  | succ n ih =>
    rintro ⟨x, hx, hp⟩
    by_cases hn : ∃ x, x < n ∧ P x
    · obtain ⟨z, h1, h2, h3⟩ := ih hn
      by_cases hc : P n ∧ h n < h z
      · refine ⟨n, Nat.lt_succ_self n, hc.1, fun y hy py => ?_⟩
        rcases Nat.lt_succ_iff_lt_or_eq.mp hy with a | a
        · have := h3 y a py
          grind
        · subst a
          exact Rat.le_refl
      · refine ⟨z, Nat.lt_succ_of_lt h1, h2, fun y hy py => ?_⟩
        rcases Nat.lt_succ_iff_lt_or_eq.mp hy with a | a
        · exact h3 y a py
        · subst a
          have : ¬ h y < h z := fun c => hc ⟨py, c⟩
          exact Rat.not_lt.mp this
    · have e : x = n := by
        rcases Nat.lt_succ_iff_lt_or_eq.mp hx with a | a
        · exact absurd ⟨x, a, hp⟩ hn
        · exact a
      subst e
      refine ⟨x, Nat.lt_succ_self x, hp, fun y hy py => ?_⟩
      rcases Nat.lt_succ_iff_lt_or_eq.mp hy with a | a
      · exact absurd ⟨y, a, py⟩ hn
      · subst a
        exact Rat.le_refl
/-! ### averages -/
theorem avgSum_cons (f : Nat → Rat) (p : Nat × Int) (l : Lot) : avgSum f (p :: l) = (p.2 : Rat) * f p.1 + avgSum f l := rfl
theorem wsum_cons (p : Nat × Int) (l : Lot) : wsum (p :: l) = p.2 + wsum l := by simp [wsum]
theorem avgSum_sub (f g : Nat → Rat) : ∀ l : Lot, avgSum (fun y => f y - g y) l = avgSum f l - avgSum g l
  | [] => by
    show (0 : Rat) = 0 - 0
    grind
  | p :: l => by
    rw [avgSum_cons, avgSum_cons, avgSum_cons, avgSum_sub f g l]
    grind
theorem avgSum_neg (f : Nat → Rat) : ∀ l : Lot, avgSum (fun y => - f y) l = - avgSum f l
  | [] => by simp [avgSum]
  | p :: l => by
    rw [avgSum_cons, avgSum_cons, avgSum_neg f l]
    grind
theorem avgSum_const (c : Rat) : ∀ l : Lot, avgSum (fun _ => c) l = (wsum l : Rat) * c
  | [] => by simp [avgSum, wsum]
  | p :: l => by
    rw [avgSum_cons, avgSum_const c l, wsum_cons, Rat.intCast_add]
    grind
theorem avgSum_congr {f g : Nat → Rat} : ∀ {l : Lot}, (∀ p ∈ l, f p.1 = g p.1) → avgSum f l = avgSum g l
  | [], _ => rfl
  | p :: l, h => by rw [avgSum_cons, avgSum_cons, h p (List.mem_cons_self ..), avgSum_congr fun q hq => h q (List.mem_cons_of_mem _ hq)]
theorem avg_congr {f g : Nat → Rat} {l : Lot} (h : ∀ p ∈ l, f p.1 = g p.1) : avg f l = avg g l := by
  rw [avg, avg, avgSum_congr h]
theorem pos_rat {i : Int} (h : 0 < i) : (0 : Rat) < (i : Rat) := Rat.intCast_pos.mpr h
theorem avgSum_ge {f : Nat → Rat} {m : Rat} : ∀ {l : Lot}, (∀ p ∈ l, 0 < p.2) → (∀ p ∈ l, m ≤ f p.1) → (wsum l : Rat) * m ≤ avgSum f l
  | [], _, _ => by simp [avgSum, wsum]
  | p :: l, hw, h => by
    rw [avgSum_cons, wsum_cons, Rat.intCast_add]
    have a := avgSum_ge (fun q hq => hw q (List.mem_cons_of_mem _ hq)) fun q hq => h q (List.mem_cons_of_mem _ hq)
    have b := Rat.mul_le_mul_of_nonneg_left (h p (List.mem_cons_self ..)) (Rat.le_of_lt (pos_rat (hw p (List.mem_cons_self ..))))
    grind
theorem avgSum_eq {f : Nat → Rat} {m : Rat} : ∀ {l : Lot}, (∀ p ∈ l, 0 < p.2) → (∀ p ∈ l, m ≤ f p.1) → avgSum f l ≤ (wsum l : Rat) * m → ∀ p ∈ l, f p.1 = m
  | [], _, _, _, p, hp => by cases hp
  | q :: l, hw, h, hs, p, hp => by
    rw [avgSum_cons, wsum_cons, Rat.intCast_add] at hs
    have hq := pos_rat (hw q (List.mem_cons_self ..))
    have a := avgSum_ge (f := f) (m := m) (fun z hz => hw z (List.mem_cons_of_mem _ hz)) fun z hz => h z (List.mem_cons_of_mem _ hz)
    have hb := h q (List.mem_cons_self ..)
    have b := Rat.mul_le_mul_of_nonneg_left hb (Rat.le_of_lt hq)
    rcases List.mem_cons.mp hp with rfl | hp
    · have c : (p.2 : Rat) * f p.1 ≤ (p.2 : Rat) * m := by grind
      have := Rat.le_of_mul_le_mul_left c hq
      exact Rat.le_antisymm this hb
    · exact avgSum_eq (fun z hz => hw z (List.mem_cons_of_mem _ hz)) (fun z hz => h z (List.mem_cons_of_mem _ hz)) (by grind) p hp
section
variable {l : Lot} (hl : LotOk l) (hne : l ≠ [])
include hl hne
theorem wsum_pos : (0 : Rat) < (wsum l : Rat) := pos_rat ((wsum_bnd l hl.w).2.2 hne)
theorem avg_mul (f : Nat → Rat) : (wsum l : Rat) * avg f l = avgSum f l := by
  have := wsum_pos hl hne
  unfold avg
  grind
theorem avg_iff (f : Nat → Rat) (c : Rat) : avg f l ≤ c ↔ avgSum f l ≤ (wsum l : Rat) * c := by
  have h := wsum_pos hl hne
  rw [← avg_mul hl hne f]
  constructor
  · exact fun a => Rat.mul_le_mul_of_nonneg_left a (Rat.le_of_lt h)
  · exact fun a => Rat.le_of_mul_le_mul_left a h
theorem le_avg_iff (f : Nat → Rat) (c : Rat) : c ≤ avg f l ↔ (wsum l : Rat) * c ≤ avgSum f l := by
  have h := wsum_pos hl hne
  rw [← avg_mul hl hne f]
  constructor
  · exact fun a => Rat.mul_le_mul_of_nonneg_left a (Rat.le_of_lt h)
  · exact fun a => Rat.le_of_mul_le_mul_left a h
theorem avg_sub (f g : Nat → Rat) : avg (fun y => f y - g y) l = avg f l - avg g l := by
  unfold avg
  rw [avgSum_sub]
  have := wsum_pos hl hne
  grind
theorem avg_neg (f : Nat → Rat) : avg (fun y => - f y) l = - avg f l := by
  unfold avg
  rw [avgSum_neg]
  have := wsum_pos hl hne
  grind
theorem avg_const (c : Rat) : avg (fun _ => c) l = c := by
  unfold avg
  rw [avgSum_const]
  have := wsum_pos hl hne
  grind
theorem avg_ge {f : Nat → Rat} {m : Rat} (h : ∀ p ∈ l, m ≤ f p.1) : m ≤ avg f l := (le_avg_iff hl hne f m).mpr (avgSum_ge (fun p hp => (hl.w p hp).1) h)
theorem avg_eq {f : Nat → Rat} {m : Rat} (h : ∀ p ∈ l, m ≤ f p.1) (h2 : avg f l ≤ m) : ∀ p ∈ l, f p.1 = m := avgSum_eq (fun p hp => (hl.w p hp).1) h ((avg_iff hl hne f m).mp h2)
theorem avg_mono {f g : Nat → Rat} (h : ∀ p ∈ l, f p.1 ≤ g p.1) : avg f l ≤ avg g l := by
  have a : (0 : Rat) ≤ avg (fun y => g y - f y) l := avg_ge hl hne fun p hp => by
    have := h p hp
    grind
  rw [avg_sub hl hne] at a
  grind
end
/-! ### the principle -/
theorem least_prin {b : Bo} (ok : b.Ok) {σ : Nat → Int} (w : WayOk b σ) {h : Nat → Rat} (hs : ∀ x, x < b.n → σ x = -1 → 0 ≤ h x) (hl : ∀ x, x < b.n → σ x ≠ -1 → Live b σ x → avg h (playOf b σ x) ≤ h x) (hd : ∀ x, x < b.n → ¬ Live b σ x → 0 ≤ h x) : ∀ x, x < b.n → 0 ≤ h x := by
  intro z hz
  obtain ⟨x0, h1, _, h3⟩ := exists_least (fun _ => True) h b.n ⟨z, hz, trivial⟩
  by_cases hm : 0 ≤ h x0
  · exact Rat.le_trans hm (h3 z hz trivial)
  · exfalso
    have key : ∀ x, Live b σ x → h x = h x0 → False := by
      intro x L
      induction L with
      | stop hx hc =>
        intro e
        exact hm (e ▸ hs _ hx hc)
      | @go x p hx hc hp L ih =>
        intro e
        have hmem := playOf_mem w hx hc
        obtain ⟨a1, a2, a3⟩ := ok.lot x hx _ hmem
        have := avg_eq a1 a2 (f := h) (m := h x0) (fun q hq => h3 q.1 (a3 q hq) trivial) (by
          rw [← e]
          exact hl x hx hc (.go hx hc hp L))
        exact ih (this p hp)
    refine key x0 ?_ rfl
    refine Classical.byContradiction fun n => hm (hd x0 h1 n)
/-- the value of a way -/
structure IsVal (b : Bo) (σ : Nat → Int) (f : Nat → Rat) : Prop where
  stop : ∀ x, x < b.n → σ x = -1 → f x = b.pay x
  go : ∀ x, x < b.n → σ x ≠ -1 → f x = avg f (playOf b σ x)
  dead : ∀ x, x < b.n → ¬ Live b σ x → f x = 0
/-- what is nowhere below the pays and no average of a way's play is nowhere below the value -/
theorem IsVal.le {b : Bo} (ok : b.Ok) {σ : Nat → Int} (w : WayOk b σ) {f g : Nat → Rat} (v : IsVal b σ f) (hs : ∀ x, x < b.n → σ x = -1 → b.pay x ≤ g x) (hl : ∀ x, x < b.n → σ x ≠ -1 → Live b σ x → avg g (playOf b σ x) ≤ g x) (hd : ∀ x, x < b.n → ¬ Live b σ x → 0 ≤ g x) : ∀ x, x < b.n → f x ≤ g x := by
  intro x hx
  have := least_prin ok w (h := fun y => g y - f y) (fun y hy hc => by
    have a := hs y hy hc
    have c := v.stop y hy hc
    grind) (fun y hy hc L => by
    obtain ⟨a1, a2, a3⟩ := ok.lot y hy _ (playOf_mem w hy hc)
    show avg (fun y => g y - f y) _ ≤ g y - f y
    rw [avg_sub a1 a2]
    have a := hl y hy hc L
    have c := v.go y hy hc
    grind) (fun y hy n => by
    have a := hd y hy n
    have c := v.dead y hy n
    show 0 ≤ g y - f y
    grind) x hx
  have t : (0 : Rat) ≤ g x - f x := this
  grind
theorem IsVal.nonneg {b : Bo} (ok : b.Ok) {σ : Nat → Int} (w : WayOk b σ) {f : Nat → Rat} (v : IsVal b σ f) : ∀ x, x < b.n → 0 ≤ f x :=
  least_prin ok w (fun x hx hc => by rw [v.stop x hx hc]; exact (ok.pay x hx).2) (fun x hx hc _ => by rw [← v.go x hx hc]; exact Rat.le_refl) fun x hx n => by rw [v.dead x hx n]; exact Rat.le_refl
theorem IsVal.uniq {b : Bo} (ok : b.Ok) {σ : Nat → Int} (w : WayOk b σ) {f g : Nat → Rat} (v : IsVal b σ f) (u : IsVal b σ g) : ∀ x, x < b.n → f x = g x := fun x hx =>
  Rat.le_antisymm (v.le ok w (fun y hy hc => by rw [u.stop y hy hc]; exact Rat.le_refl) (fun y hy hc _ => by rw [← u.go y hy hc]; exact Rat.le_refl) (fun y hy n => by rw [u.dead y hy n]; exact Rat.le_refl) x hx)
    (u.le ok w (fun y hy hc => by rw [v.stop y hy hc]; exact Rat.le_refl) (fun y hy hc _ => by rw [← v.go y hy hc]; exact Rat.le_refl) (fun y hy n => by rw [v.dead y hy n]; exact Rat.le_refl) x hx)
/-- no pivot is lacking: what solves the equations without pays is 0 -/
theorem kernel_zero {b : Bo} (ok : b.Ok) {σ : Nat → Int} (w : WayOk b σ) {h : Nat → Rat} (hs : ∀ x, x < b.n → (σ x = -1 ∨ ¬ Live b σ x) → h x = 0) (hl : ∀ x, x < b.n → σ x ≠ -1 → Live b σ x → h x = avg h (playOf b σ x)) : ∀ x, x < b.n → h x = 0 := by
  intro x hx
  have a := least_prin ok w (h := h) (fun y hy hc => by rw [hs y hy (.inl hc)]; exact Rat.le_refl) (fun y hy hc L => by rw [← hl y hy hc L]; exact Rat.le_refl) (fun y hy n => by rw [hs y hy (.inr n)]; exact Rat.le_refl) x hx
  have c := least_prin ok w (h := fun y => - h y) (fun y hy hc => by rw [hs y hy (.inl hc)]; decide) (fun y hy hc L => by
    obtain ⟨a1, a2, a3⟩ := ok.lot y hy _ (playOf_mem w hy hc)
    show avg (fun y => - h y) _ ≤ - h y
    rw [avg_neg a1 a2, ← hl y hy hc L]
    exact Rat.le_refl) (fun y hy n => by rw [hs y hy (.inr n)]; decide) x hx
  have d : (0 : Rat) ≤ - h x := c
  grind
/-! ### what the program finds live -/
theorem mem_back {b : Bo} (ok : b.Ok) {σ : Nat → Int} (w : WayOk b σ) {x y : Nat} : x ∈ (backOf b σ).getD y [] ↔ x < b.n ∧ y ∈ ledN b x (σ x) := by
  have ha := arrOf_ok b ok σ w
  unfold backOf
  rw [mem_backAll (fun r hr z hz => by rw [List.length_replicate]; exact (ha r hr).2 z hz)]
  constructor
  · rintro (h | ⟨j, r, h1, h2, h3⟩)
    · rw [List.getD_eq_getElem?_getD] at h
      cases e : (List.replicate b.n ([] : List Nat))[y]? with
      | none => rw [e] at h; cases h
      | some z =>
        rw [e] at h
        have := List.eq_of_mem_replicate (List.mem_of_getElem? e)
        subst this
        cases h
    · have hj := (List.getElem?_eq_some_iff.mp h1).1
      rw [arrOf_len] at hj
      have e : x = j := by omega
      subst e
      unfold arrOf at h1
      rw [List.getElem?_map, List.getElem?_range hj] at h1
      cases h1
      exact ⟨hj, h3⟩
  · rintro ⟨h1, h2⟩
    refine .inr ⟨x, _, ?_, by omega, h2⟩
    unfold arrOf
    rw [List.getElem?_map, List.getElem?_range h1]
    rfl
theorem mem_ledN {b : Bo} {σ : Nat → Int} {x y : Nat} : y ∈ ledN b x (σ x) ↔ σ x ≠ -1 ∧ ∃ p ∈ playOf b σ x, p.1 = y := by
  unfold ledN playOf
  by_cases h : σ x = -1
  · rw [if_pos h]
    constructor
    · exact fun z => by cases z
    · exact fun z => absurd h z.1
  · rw [if_neg h, List.mem_map]
    constructor
    · exact fun z => ⟨h, z⟩
    · exact fun z => z.2
theorem live_iff {b : Bo} (ok : b.Ok) {σ : Nat → Int} (w : WayOk b σ) {R : List Bool} (L : LiveOk b σ R) {x : Nat} : R.getD x false = true ↔ Live b σ x := by
  constructor
  · intro h
    refine L.min (Live b σ) (fun t ht => ?_) (fun y hy z hz => ?_) x (.inl h)
    · obtain ⟨h1, h2⟩ := List.mem_filter.mp ht
      exact .stop (List.mem_range.mp h1) (by simpa using h2)
    · obtain ⟨h1, h2⟩ := (mem_back ok w).mp hz
      obtain ⟨h3, p, h4, h5⟩ := mem_ledN.mp h2
      subst h5
      exact .go h1 h3 h4 hy
  · intro l
    induction l with
    | @stop x hx hc =>
      rcases L.tgt x (List.mem_filter.mpr ⟨List.mem_range.mpr hx, by simpa using hc⟩) with h | h
      · exact h
      · cases h
    | @go x p hx hc hp l ih =>
      rcases L.cl p.1 ih x ((mem_back ok w).mpr ⟨hx, mem_ledN.mpr ⟨hc, p, hp, rfl⟩⟩) with h | h
      · exact h
      · cases h
theorem mem_inner {b : Bo} (ok : b.Ok) {σ : Nat → Int} (w : WayOk b σ) {R : List Bool} (L : LiveOk b σ R) {x : Nat} : x ∈ ((chosen b.n R).filter fun x => σ x != -1) ↔ x < b.n ∧ Live b σ x ∧ σ x ≠ -1 := by
  rw [List.mem_filter]
  unfold chosen
  rw [List.mem_filter, List.mem_range, live_iff ok w L]
  simp [and_assoc]
end Z
/-! Improving a way: the value grows; where nothing changes it is the least cover. -/
namespace Z
/-- what a choice has -/
def amtC (b : Bo) (f : Nat → Rat) (x : Nat) (c : Int) : Rat := if c = -1 then b.pay x else avg f ((b.plays x).getD c.toNat [])
theorem bcGo_spec : ∀ (as : List Rat) (i : Nat) (s : Int × Rat), (bcGo i as s = s ∧ ∀ a ∈ as, a ≤ s.2) ∨ ∃ (j : Nat) (a : Rat), as[j]? = some a ∧ bcGo i as s = ((i : Int) + (j : Int) - 1, a) ∧ s.2 < a
  | [], _, _ => .inl ⟨rfl, fun _ h => by cases h⟩
  | a :: as, i, s => by
    by_cases h : s.2 < a
    · have e : bcGo i (a :: as) s = bcGo (i + 1) as ((i : Int) - 1, a) := by rw [bcGo, if_pos h]
      rcases bcGo_spec as (i + 1) ((i : Int) - 1, a) with ⟨h1, h2⟩ | ⟨j, c, h1, h2, h3⟩
      · refine .inr ⟨0, a, rfl, ?_, h⟩
        rw [e, h1]
        simp
      · refine .inr ⟨j + 1, c, by simpa using h1, ?_, by
          have h3' : a < c := h3
          grind⟩
        rw [e, h2]
        congr 1
        omega
    · have e : bcGo i (a :: as) s = bcGo (i + 1) as s := by rw [bcGo, if_neg h]
      rcases bcGo_spec as (i + 1) s with ⟨h1, h2⟩ | ⟨j, c, h1, h2, h3⟩
      · refine .inl ⟨e.trans h1, fun q hq => ?_⟩
        rcases List.mem_cons.mp hq with rfl | hq
        · exact Rat.not_lt.mp h
        · exact h2 q hq
      · refine .inr ⟨j + 1, c, by simpa using h1, ?_, h3⟩
        rw [e, h2]
        congr 1
        omega
theorem amts_at (b : Bo) (f : Nat → Rat) (x j : Nat) (a : Rat) (h : (amts b f x)[j]? = some a) : (j : Int) - 1 < (b.plays x).length ∧ amtC b f x ((j : Int) - 1) = a := by
  cases j with
  | zero =>
    simp [amts] at h
    refine ⟨by omega, ?_⟩
    simp [amtC, h]
  | succ j =>
    simp only [amts, List.getElem?_cons_succ, List.getElem?_map] at h
    obtain ⟨l, h1, h2⟩ := Option.map_eq_some_iff.mp h
    have hj := (List.getElem?_eq_some_iff.mp h1).1
    refine ⟨by omega, ?_⟩
    have e : ((j + 1 : Nat) : Int) - 1 = (j : Int) := by omega
    rw [e]
    unfold amtC
    rw [if_neg (by omega), Int.toNat_natCast, List.getD_eq_getElem?_getD, h1]
    exact h2
theorem amtC_mem (b : Bo) (f : Nat → Rat) (x : Nat) (c : Int) (h1 : -1 ≤ c) (h2 : c < (b.plays x).length) : amtC b f x c ∈ amts b f x := by
  unfold amtC amts
  by_cases h : c = -1
  · rw [if_pos h]
    exact List.mem_cons_self ..
  · rw [if_neg h]
    exact List.mem_cons_of_mem _ (List.mem_map.mpr ⟨_, getD_mem (by omega), rfl⟩)
theorem betterC_spec (b : Bo) (f : Nat → Rat) (x : Nat) (c : Int) : (betterC b f x c = c ∧ ∀ a ∈ amts b f x, a ≤ f x) ∨ (-1 ≤ betterC b f x c ∧ betterC b f x c < (b.plays x).length ∧ f x < amtC b f x (betterC b f x c)) := by
  rcases bcGo_spec (amts b f x) 0 (c, f x) with ⟨h1, h2⟩ | ⟨j, a, h1, h2, h3⟩
  · refine .inl ⟨?_, h2⟩
    unfold betterC
    rw [h1]
  · have e : betterC b f x c = (j : Int) - 1 := by
      unfold betterC
      rw [h2]
      simp
    obtain ⟨h4, h5⟩ := amts_at b f x j a h1
    refine .inr ⟨by omega, by omega, ?_⟩
    rw [e, h5]
    exact h3
theorem impC_ok {b : Bo} {f : Nat → Rat} {σ : Nat → Int} (w : WayOk b σ) : WayOk b (impC b f σ) := by
  constructor
  · intro x hx
    rcases betterC_spec b f x (σ x) with ⟨h, _⟩ | ⟨h, _, _⟩
    · show -1 ≤ betterC b f x (σ x)
      rw [h]
      exact w.lo x hx
    · exact h
  · intro x hx
    rcases betterC_spec b f x (σ x) with ⟨h, _⟩ | ⟨_, h, _⟩
    · show betterC b f x (σ x) < _
      rw [h]
      exact w.hi x hx
    · exact h
theorem IsVal.amt {b : Bo} {σ : Nat → Int} {f : Nat → Rat} (v : IsVal b σ f) {x : Nat} (hx : x < b.n) : amtC b f x (σ x) = f x := by
  unfold amtC
  by_cases h : σ x = -1
  · rw [if_pos h, v.stop x hx h]
  · rw [if_neg h, v.go x hx h]
    rfl
/-- a cover -/
structure Cov (b : Bo) (g : Nat → Rat) : Prop where
  pay : ∀ x, x < b.n → b.pay x ≤ g x
  avg : ∀ x, x < b.n → ∀ l ∈ b.plays x, avg g l ≤ g x
  nn : ∀ x, x < b.n → 0 ≤ g x
section
variable {b : Bo} (ok : b.Ok) {σ : Nat → Int} (w : WayOk b σ) {f f' : Nat → Rat} (v : IsVal b σ f)
include ok w v
theorem IsVal.le_cov {g : Nat → Rat} (c : Cov b g) : ∀ x, x < b.n → f x ≤ g x :=
  v.le ok w (fun x hx _ => c.pay x hx) (fun x hx hc _ => c.avg x hx _ (playOf_mem w hx hc)) fun x hx _ => c.nn x hx
theorem imp_fix (h : ∀ x, x < b.n → impC b f σ x = σ x) : Cov b f := by
  have key : ∀ x, x < b.n → ∀ a ∈ amts b f x, a ≤ f x := fun x hx => by
    rcases betterC_spec b f x (σ x) with ⟨_, h2⟩ | ⟨_, _, h2⟩
    · exact h2
    · exfalso
      rw [show betterC b f x (σ x) = σ x from h x hx, v.amt hx] at h2
      exact Rat.lt_irrefl h2
  exact ⟨fun x hx => key x hx _ (List.mem_cons_self ..), fun x hx l hl => key x hx _ (List.mem_cons_of_mem _ (List.mem_map.mpr ⟨l, hl, rfl⟩)), v.nonneg ok w⟩
theorem imp_amt {x : Nat} (hx : x < b.n) : f x ≤ amtC b f x (impC b f σ x) ∧ (impC b f σ x ≠ σ x → f x < amtC b f x (impC b f σ x)) := by
  rcases betterC_spec b f x (σ x) with ⟨h1, _⟩ | ⟨_, _, h2⟩
  · have e : impC b f σ x = σ x := h1
    rw [e, v.amt hx]
    exact ⟨Rat.le_refl, fun n => absurd rfl n⟩
  · exact ⟨Rat.le_of_lt h2, fun _ => h2⟩
theorem imp_le (u : IsVal b (impC b f σ) f') : ∀ x, x < b.n → f x ≤ f' x := by
  have w' : WayOk b (impC b f σ) := impC_ok w
  -- nothing above 0 at the dead places of the new way
  have hdead : ∀ x, x < b.n → ¬ Live b (impC b f σ) x → f x ≤ 0 := by
    intro x hx hn
    refine Classical.byContradiction fun hpos => ?_
    have hpos : 0 < f x := Rat.not_le.mp hpos
    obtain ⟨z, z1, z2, z3⟩ := exists_least (fun y => ¬ Live b (impC b f σ) y) (fun y => - f y) b.n ⟨x, hx, hn⟩
    have hz : ∀ y, y < b.n → ¬ Live b (impC b f σ) y → f y ≤ f z := fun y hy n => by
      have := z3 y hy n
      grind
    have hM : 0 < f z := by
      have := hz x hx hn
      grind
    have key : ∀ y, Live b σ y → y < b.n → ¬ Live b (impC b f σ) y → f y = f z → False := by
      intro y L
      induction L with
      | @stop y hy hc =>
        intro _ n e
        have hne : impC b f σ y ≠ -1 := fun c => n (.stop hy c)
        have := (imp_amt ok w v hy).2 (fun c => hne (c.trans hc))
        unfold amtC at this
        rw [if_neg hne] at this
        obtain ⟨a1, a2, a3⟩ := ok.lot y hy _ (playOf_mem w' hy hne)
        have hle : avg f (playOf b (impC b f σ) y) ≤ f z := by
          rw [← avg_const a1 a2 (f z)]
          exact avg_mono a1 a2 fun p hp => hz p.1 (a3 p hp) fun L => n (.go hy hne hp L)
        have h5 : f y < avg f (playOf b (impC b f σ) y) := this
        grind
      | @go y p hy hc hp L ih =>
        intro _ n e
        have hne : impC b f σ y ≠ -1 := fun c => n (.stop hy c)
        obtain ⟨a1, a2, a3⟩ := ok.lot y hy _ (playOf_mem w' hy hne)
        have hd : ∀ q ∈ playOf b (impC b f σ) y, ¬ Live b (impC b f σ) q.1 := fun q hq L => n (.go hy hne hq L)
        have hle : avg f (playOf b (impC b f σ) y) ≤ f z := by
          rw [← avg_const a1 a2 (f z)]
          exact avg_mono a1 a2 fun q hq => hz q.1 (a3 q hq) (hd q hq)
        have same : impC b f σ y = σ y := by
          refine Classical.byContradiction fun c => ?_
          have := (imp_amt ok w v hy).2 c
          unfold amtC at this
          rw [if_neg hne] at this
          have h5 : f y < avg f (playOf b (impC b f σ) y) := this
          grind
        have ep : playOf b (impC b f σ) y = playOf b σ y := by
          unfold playOf
          rw [same]
        have hg := v.go y hy hc
        rw [ep] at a1 a2 a3 hd
        have hall := avg_eq a1 a2 (f := fun y => - f y) (m := - f z) (fun q hq => by
          have := hz q.1 (a3 q hq) (hd q hq)
          grind) (by
            rw [avg_neg a1 a2, ← hg, e]
            exact Rat.le_refl) p hp
        exact ih (a3 p hp) (hd p hp) (by
          have t : - f p.1 = - f z := hall
          grind)
    by_cases Lz : Live b σ z
    · exact key z Lz z1 z2 rfl
    · have := v.dead z z1 Lz
      grind
  refine fun x hx => ?_
  have := least_prin ok w' (h := fun y => f' y - f y) (fun y hy hc => ?_) (fun y hy hc L => ?_) (fun y hy n => ?_) x hx
  · have t : (0 : Rat) ≤ f' x - f x := this
    grind
  · have a := (imp_amt ok w v hy).1
    unfold amtC at a
    rw [if_pos hc] at a
    have c := u.stop y hy hc
    show 0 ≤ f' y - f y
    grind
  · have a := (imp_amt ok w v hy).1
    unfold amtC at a
    rw [if_neg hc] at a
    obtain ⟨a1, a2, a3⟩ := ok.lot y hy _ (playOf_mem w' hy hc)
    show avg (fun y => f' y - f y) _ ≤ f' y - f y
    rw [avg_sub a1 a2, ← u.go y hy hc]
    have a' : f y ≤ avg f (playOf b (impC b f σ) y) := a
    grind
  · have a := hdead y hy n
    have c := u.dead y hy n
    show 0 ≤ f' y - f y
    grind
theorem imp_ne (u : IsVal b (impC b f σ) f') (h : ∃ x, x < b.n ∧ impC b f σ x ≠ σ x) : ∃ x, x < b.n ∧ f x < f' x := by
  obtain ⟨x, hx, hc⟩ := h
  refine ⟨x, hx, ?_⟩
  have hle := imp_le ok w v u
  have a := (imp_amt ok w v hx).2 hc
  rw [← u.amt hx]
  unfold amtC at a ⊢
  by_cases e : impC b f σ x = -1
  · rw [if_pos e] at a ⊢
    exact a
  · rw [if_neg e] at a ⊢
    obtain ⟨a1, a2, a3⟩ := ok.lot x hx _ (playOf_mem (impC_ok w) hx e)
    have := avg_mono a1 a2 (f := f) (g := f') fun p hp => hle p.1 (a3 p hp)
    have t : avg f ((b.plays x).getD (impC b f σ x).toNat []) ≤ avg f' ((b.plays x).getD (impC b f σ x).toNat []) := this
    grind
end
end Z
/-! The equations of a way, on data. -/
namespace Z
open PySem
theorem forG_all {gt : D → Env → Option Env} {gb : MS} (P : Env → Prop) : ∀ (ds : List D) (ρ : Env), P ρ → (∀ d ∈ ds, ∀ ρ, P ρ → ∃ ρ1 ρ2, gt d ρ = some ρ1 ∧ gb ρ1 = some (.nx ρ2) ∧ P ρ2) → ∃ ρ', forG gt gb ds ρ = some (.nx ρ') ∧ P ρ'
  | [], ρ, h, _ => ⟨ρ, rfl, h⟩
  | d :: ds, ρ, h, hs => by
    obtain ⟨ρ1, ρ2, h1, h2, h3⟩ := hs d (List.mem_cons_self ..) ρ h
    obtain ⟨ρ', h4, h5⟩ := forG_all P ds ρ2 h3 fun e he => hs e (List.mem_cons_of_mem _ he)
    exact ⟨ρ', (forG_nx h1 h2).trans h4, h5⟩
theorem plays_ix (b : Bo) {x : Nat} (hx : x < b.n) : ixD (.tup ((List.range b.n).map fun x => .tup ((b.plays x).map lotD))) (.int x) = some (.tup ((b.plays x).map lotD)) := at_range _ hx
theorem play_ix (b : Bo) {σ : Nat → Int} (w : WayOk b σ) {x : Nat} (hx : x < b.n) (hc : σ x ≠ -1) : ixD (.tup ((b.plays x).map lotD)) (.int (σ x)) = some (lotD (playOf b σ x)) := by
  have a := w.lo x hx
  have c := w.hi x hx
  have hl : (σ x).toNat < (b.plays x).length := by omega
  have e : (((σ x).toNat : Nat) : Int) = σ x := by omega
  have := L2.atI_nat (xs := (b.plays x).map lotD) (j := (σ x).toNat) (v := lotD (playOf b σ x)) (by
    unfold playOf
    rw [List.getElem?_map, List.getD_eq_getElem?_getD, List.getElem?_eq_getElem hl]
    rfl)
  rw [e] at this
  exact this
/-- the play of a way at a place, read off the board -/
theorem play_rd (b : Bo) {σ : Nat → Int} (w : WayOk b σ) {x : Nat} (hx : x < b.n) (hc : σ x ≠ -1) {ρ : Env} {i j k : Nat} (h1 : ρ[i]? = some (some (boardD b))) (h2 : ρ[j]? = some (some (wayD b.n σ))) (h3 : ρ[k]? = some (some (natD x))) :
    eBin ixD (eBin ixD (eUn (attD "Board" "plays") (eVar i)) (eVar k)) (eBin ixD (eVar j) (eVar k)) ρ = some (lotD (playOf b σ x), ρ) :=
  bin_eq (bin_eq (un_eq (v_eq h1) (att_plays b)) (v_eq h3) (plays_ix b hx)) (bin_eq (v_eq h2) (v_eq h3) (ix_way σ hx)) (play_ix b w hx hc)
theorem F_is_choice_eq (b : Bo) {x : Nat} (hx : x < b.n) {c : Int} (h1 : -1 ≤ c) (h2 : c < (b.plays x).length) : F_is_choice [boardD b, .int x, .int c] = some (.bl true) := by
  have e := plays_ix b hx
  simp [F_is_choice, runP, envOf, sRet, eAnd, eUn, eVar, isiD, eChain, leD, ltD, eC, eBin, eCa, aCons, aNil, att_plays, e, lenD, h1, h2]
theorem F_want_way_eq (b : Bo) {σ : Nat → Int} (w : WayOk b σ) : F_want_way [boardD b, wayD b.n σ] = some .non := by
  obtain ⟨ρ', h1, h2⟩ := forG_all (gt := gtT 2 (gtCons (gtN 2) (gtCons (gtN 3) gtNil))) (gb := sIf (tNotM (tTr (eCa F_is_choice (aCons (eVar 0) (aCons (eVar 2) (aCons (eVar 3) aNil)))))) sNever sNil) (fun ρ => ∃ u v, ρ = [some (boardD b), some (wayD b.n σ), u, v])
    ((List.range b.n).map fun (i : Nat) => .tup [.int (i : Int), .int (σ i)]) [some (boardD b), some (wayD b.n σ), none, none] ⟨none, none, rfl⟩ (fun d hd ρ hρ => by
      obtain ⟨x, hx, rfl⟩ := List.mem_map.mp hd
      obtain ⟨u, v, rfl⟩ := hρ
      have hx := List.mem_range.mp hx
      refine ⟨[some (boardD b), some (wayD b.n σ), some (.int x), some (.int (σ x))], [some (boardD b), some (wayD b.n σ), some (.int x), some (.int (σ x))], rfl, ?_, _, _, rfl⟩
      exact (if_f (not_eq (tr_eq (ca_eq (a_cons (v_eq rfl) (a_cons (v_eq rfl) (a_cons (v_eq rfl) a_nil))) (F_is_choice_eq b hx (w.lo x hx) (w.hi x hx))) rfl))).trans rfl)
  refine runP_nx ((seq_nx ((if_f (bl_eq (bin_eq (ca_eq (a_cons (v_eq rfl) a_nil) rfl) (un_eq (v_eq rfl) (att_size b)) ?_))).trans rfl)).trans ((for_eq (enum_way b.n σ _ 1 rfl)).trans h1))
  simp [neD_int]
/-- the weight to a place -/
def wto (l : Lot) (y : Nat) : Int := match l.find? fun p => p.1 == y with
  | some p => p.2
  | none => 0
theorem F_weight_to_eq (l : Lot) (y : Nat) : F_weight_to [lotD l, natD y] = some (.int (wto l y)) := by
  have key : ∀ (l : Lot) (L : D) (a b : Option D), match l.find? fun p => p.1 == y with
      | some p => ∃ a' b', forG (gtT 2 (gtCons (gtN 2) (gtCons (gtN 3) gtNil))) (sIf (tBl (eBin eqD (eVar 2) (eVar 1))) (sRet (eVar 3)) sNil) (l.map pairD) [some L, some (natD y), a, b] = some (.rt (.int p.2) [some L, some (natD y), a', b'])
      | none => ∃ a' b', forG (gtT 2 (gtCons (gtN 2) (gtCons (gtN 3) gtNil))) (sIf (tBl (eBin eqD (eVar 2) (eVar 1))) (sRet (eVar 3)) sNil) (l.map pairD) [some L, some (natD y), a, b] = some (.nx [some L, some (natD y), a', b']) := by
    intro l L
    induction l with
    | nil => exact fun a b => ⟨a, b, rfl⟩
    | cons p l ih =>
      intro a b
      have hg : gtT 2 (gtCons (gtN 2) (gtCons (gtN 3) gtNil)) (pairD p) [some L, some (natD y), a, b] = some [some L, some (natD y), some (natD p.1), some (.int p.2)] := rfl
      have ht : tBl (eBin eqD (eVar 2) (eVar 1)) [some L, some (natD y), some (natD p.1), some (.int p.2)] = some (decide (p.1 = y), [some L, some (natD y), some (natD p.1), some (.int p.2)]) := by
        refine bl_eq (bin_eq (v_eq rfl) (v_eq rfl) ?_)
        simp only [natD, eqD_int]
        congr 2
        simp [Int.ofNat_inj]
      by_cases h : p.1 = y
      · have e : (p :: l).find? (fun p => p.1 == y) = some p := List.find?_cons_of_pos (by simpa using h)
        rw [e]
        refine ⟨some (natD p.1), some (.int p.2), forG_rt hg ?_⟩
        rw [decide_eq_true h] at ht
        exact (if_t ht).trans (ret_eq (v_eq rfl))
      · have e : (p :: l).find? (fun p => p.1 == y) = l.find? fun p => p.1 == y := List.find?_cons_of_neg (by simpa using h)
        rw [e]
        rw [decide_eq_false h] at ht
        have hb := (if_f (g1 := sRet (eVar 3)) (g2 := sNil) ht).trans rfl
        have hi := ih (some (natD p.1)) (some (.int p.2))
        cases hf : l.find? fun p => p.1 == y with
        | some q =>
          rw [hf] at hi
          obtain ⟨a', b', h1⟩ := hi
          exact ⟨a', b', (forG_nx hg hb).trans h1⟩
        | none =>
          rw [hf] at hi
          obtain ⟨a', b', h1⟩ := hi
          exact ⟨a', b', (forG_nx hg hb).trans h1⟩
  have := key l (lotD l) none none
  unfold wto
  cases hf : l.find? fun p => p.1 == y with
  | some q =>
    rw [hf] at this
    obtain ⟨a', b', h1⟩ := this
    exact runP_rt (seq_rt ((for_eq rfl).trans h1))
  | none =>
    rw [hf] at this
    obtain ⟨a', b', h1⟩ := this
    exact runP_rt ((seq_nx ((for_eq rfl).trans h1)).trans rfl)
/-- the entry of a way's equations -/
def sqE (b : Bo) (σ : Nat → Int) (x y : Nat) : Int := (if y = x then wsum (playOf b σ x) else 0) - wto (playOf b σ x) y
theorem F_square_row_eq (b : Bo) (ok : b.Ok) {σ : Nat → Int} (w : WayOk b σ) (inner : List Nat) (hlen : inner.length ≤ 1000) {x : Nat} (hx : x < b.n) (hc : σ x ≠ -1) : F_square_row [boardD b, wayD b.n σ, .tup (natsD inner), natD x] = some (.tup (inner.map fun y => frD (sqE b σ x y, 1))) := by
  obtain ⟨a1, a2, a3⟩ := ok.lot x hx _ (playOf_mem w hx hc)
  have hw := F_weight_of_eq (playOf b σ x) (by have := a1.len; omega)
  have hl := eLc_pureT (fi := iSeq (eVar 2)) (vs := [6]) (gt := gtN 6) (f := eTup (aCons (eBin subD (eIf (tBl (eBin eqD (eVar 6) (eVar 3))) (eVar 5) (eC (.int 0))) (eCa F_weight_to (aCons (eVar 4) (aCons (eVar 6) aNil)))) (aCons (eC (.int 1)) aNil)))
    (ρ := [some (boardD b), some (wayD b.n σ), some (.tup (natsD inner)), some (natD x), some (lotD (playOf b σ x)), some (.int (wsum (playOf b σ x))), none]) (ρw := [some (boardD b), some (wayD b.n σ), some (.tup (natsD inner)), some (natD x), some (lotD (playOf b σ x)), some (.int (wsum (playOf b σ x))), none]) (ds := natsD inner) rfl rfl (fun d => match d with
      | .int y => frD (sqE b σ x y.toNat, 1)
      | _ => .non) (fun d hd => by
        obtain ⟨y, hy, rfl⟩ := List.mem_map.mp hd
        refine ⟨[some (boardD b), some (wayD b.n σ), some (.tup (natsD inner)), some (natD x), some (lotD (playOf b σ x)), some (.int (wsum (playOf b σ x))), some (natD y)], rfl, ?_, rfl⟩
        have ht : tBl (eBin eqD (eVar 6) (eVar 3)) [some (boardD b), some (wayD b.n σ), some (.tup (natsD inner)), some (natD x), some (lotD (playOf b σ x)), some (.int (wsum (playOf b σ x))), some (natD y)] = some (decide (y = x), [some (boardD b), some (wayD b.n σ), some (.tup (natsD inner)), some (natD x), some (lotD (playOf b σ x)), some (.int (wsum (playOf b σ x))), some (natD y)]) := by
          refine bl_eq (bin_eq (v_eq rfl) (v_eq rfl) ?_)
          simp only [natD, eqD_int]
          congr 2
          simp [Int.ofNat_inj]
        have hi : eIf (tBl (eBin eqD (eVar 6) (eVar 3))) (eVar 5) (eC (.int 0)) [some (boardD b), some (wayD b.n σ), some (.tup (natsD inner)), some (natD x), some (lotD (playOf b σ x)), some (.int (wsum (playOf b σ x))), some (natD y)] = some (.int (if y = x then wsum (playOf b σ x) else 0), [some (boardD b), some (wayD b.n σ), some (.tup (natsD inner)), some (natD x), some (lotD (playOf b σ x)), some (.int (wsum (playOf b σ x))), some (natD y)]) := by
          by_cases h : y = x
          · rw [decide_eq_true h] at ht
            rw [if_pos h]
            exact (eif_t ht).trans (v_eq rfl)
          · rw [decide_eq_false h] at ht
            rw [if_neg h]
            exact (eif_f ht).trans rfl
        refine tup_eq (ds := [.int (sqE b σ x y), .int 1]) (a_cons (bin_eq hi (ca_eq (a_cons (v_eq rfl) (a_cons (v_eq rfl) a_nil)) (F_weight_to_eq _ y)) rfl) (a_cons rfl a_nil)) (show (2 : Nat) ≤ 100000 by decide)) (by simp [natsD]; omega)
  have hm : (natsD inner).map (fun d => match d with
      | .int y => frD (sqE b σ x y.toNat, 1)
      | _ => .non) = inner.map fun y => frD (sqE b σ x y, 1) := by
    simp [natsD, natD]
  rw [hm] at hl
  exact runP_rt ((seq_nx (set_eq (play_rd b w hx hc rfl rfl rfl))).trans ((seq_nx (set_eq (ca_eq (a_cons (v_eq rfl) a_nil) hw))).trans (ret_eq (ca_eq (a_cons hl a_nil) rfl))))
theorem F_way_square_eq (b : Bo) (ok : b.Ok) {σ : Nat → Int} (w : WayOk b σ) (inner : List Nat) (hlen : inner.length ≤ 1000) (hin : ∀ x ∈ inner, x < b.n ∧ σ x ≠ -1) : F_way_square [boardD b, wayD b.n σ, .tup (natsD inner)] = some (.tup (inner.map fun x => .tup (inner.map fun y => frD (sqE b σ x y, 1)))) := by
  have hl := eLc_pureT (fi := iSeq (eVar 2)) (vs := [3]) (gt := gtN 3) (f := eCa F_square_row (aCons (eVar 0) (aCons (eVar 1) (aCons (eVar 2) (aCons (eVar 3) aNil))))) (ρ := [some (boardD b), some (wayD b.n σ), some (.tup (natsD inner)), none]) (ρw := [some (boardD b), some (wayD b.n σ), some (.tup (natsD inner)), none]) (ds := natsD inner) rfl rfl (fun d => match d with
      | .int x => D.tup (inner.map fun y => frD (sqE b σ x.toNat y, 1))
      | _ => D.non) (fun d hd => by
        obtain ⟨x, hx, rfl⟩ := List.mem_map.mp hd
        obtain ⟨h1, h2⟩ := hin x hx
        exact ⟨[some (boardD b), some (wayD b.n σ), some (.tup (natsD inner)), some (natD x)], rfl, ca_eq (a_cons (v_eq rfl) (a_cons (v_eq rfl) (a_cons (v_eq rfl) (a_cons (v_eq rfl) a_nil)))) (F_square_row_eq b ok w inner hlen h1 h2), rfl⟩) (by simp [natsD]; omega)
  have hm : (natsD inner).map (fun d => match d with
      | .int x => D.tup (inner.map fun y => frD (sqE b σ x.toNat y, 1))
      | _ => D.non) = inner.map fun x => D.tup (inner.map fun y => frD (sqE b σ x y, 1)) := by
    simp [natsD, natD]
  rw [hm] at hl
  exact runP_rt (ret_eq (ca_eq (a_cons hl a_nil) rfl))
end Z
/-! Ratios with a common denominator; stopping_sum on data. -/
namespace Z
open PySem
theorem set_to {i : Nat} {f : M} {ρ ρ1 ρ2 : Env} {d : D} (h : f ρ = some (d, ρ1)) (e : ρ1.set i (some d) = ρ2) : sSet i f ρ = some (.nx ρ2) := e ▸ set_eq h
/-- s is a Q-th of a number up to B -/
def Qz (Q B : Nat) (s : Rat) : Prop := ∃ k : Int, s = Rat.divInt k (Q : Int) ∧ k.natAbs ≤ B
section
variable {Q B C : Nat} {s t : Rat} (hQ : 0 < Q)
include hQ
theorem Qz.den (h : Qz Q B s) : s.den ≤ Q := by
  obtain ⟨k, rfl, _⟩ := h
  have hden := Rat.den_divInt k (Q : Int)
  rw [if_neg (by omega)] at hden
  rw [hden]
  exact Nat.le_trans (Nat.div_le_self _ _) (by simp)
theorem Qz.num (h : Qz Q B s) : s.num.natAbs ≤ B := by
  obtain ⟨k, rfl, hk⟩ := h
  have hn := Rat.num_divInt k (Q : Int)
  rw [hn]
  have hs : (Q : Int).sign = 1 := Int.sign_eq_one_of_pos (by omega)
  rw [hs, Int.one_mul]
  have hg : ((Q : Int).gcd k : Int) ∣ k := Int.gcd_dvd_right ..
  rw [Int.natAbs_ediv_of_dvd hg]
  exact Nat.le_trans (Nat.div_le_self _ _) hk
theorem qne : ((Q : Int) : Rat) ≠ 0 := cast_ne (by omega)
theorem Qz.add (h : Qz Q B s) (h2 : Qz Q C t) : Qz Q (B + C) (s + t) := by
  obtain ⟨k, rfl, hk⟩ := h
  obtain ⟨j, rfl, hj⟩ := h2
  refine ⟨k + j, ?_, by have := Int.natAbs_add_le k j; omega⟩
  have := qne hQ
  rw [Rat.divInt_eq_div, Rat.divInt_eq_div, Rat.divInt_eq_div, Rat.intCast_add]
  grind
theorem Qz.mul {w : Int} {W : Nat} (h : Qz Q B s) (hw : w.natAbs ≤ W) : Qz Q (W * B) ((w : Rat) * s) := by
  obtain ⟨k, rfl, hk⟩ := h
  refine ⟨w * k, ?_, by rw [Int.natAbs_mul]; exact Nat.mul_le_mul hw hk⟩
  have := qne hQ
  rw [Rat.divInt_eq_div, Rat.divInt_eq_div, Rat.intCast_mul]
  grind
theorem Qz.zero : Qz Q B 0 := ⟨0, by
  have := qne hQ
  rw [Rat.divInt_eq_div]
  show (0 : Rat) = 0 / _
  grind, Nat.zero_le _⟩
theorem Qz.mono (h : Qz Q B s) (hc : B ≤ C) : Qz Q C s := by
  obtain ⟨k, e, hk⟩ := h
  exact ⟨k, e, Nat.le_trans hk hc⟩
end
/-- a board of small numbers -/
structure Tiny (b : Bo) (Q P W : Nat) : Prop where
  q0 : 0 < Q
  q64 : Q < L64
  w1 : 1 ≤ W
  w : ∀ x, x < b.n → ∀ l ∈ b.plays x, ∀ p ∈ l, p.2.natAbs ≤ W
  pay : ∀ x, x < b.n → Qz Q P (b.pay x)
  big : (b.n * (8 * W * (P + Q))) ^ b.n < SZ
  asc : ∀ x, x < b.n → ∀ l ∈ b.plays x, (l.map (·.1)).Nodup
  small : 8 * W * (P + Q) < SZ
/-- the pay where a way stops, else 0 -/
def stF (b : Bo) (σ : Nat → Int) (y : Nat) : Rat := if σ y = -1 then b.pay y else 0
theorem rD_int (w : Int) : rD (w : Rat) = .tup [.int w, .int 1] := rfl
abbrev ssB : MS := sIf (tBl (eBin eqD (eBin ixD (eVar 1) (eVar 4)) (eC (.int (-1))))) (sSet 3 (eCa F_plus (aCons (eVar 3) (aCons (eCa F_times (aCons (eTup (aCons (eVar 5) (aCons (eC (.int 1)) aNil))) (aCons (eBin ixD (eUn (attD "Board" "pays") (eVar 0)) (eVar 4)) aNil))) aNil)))) sNil
theorem SZ2 {a b : Nat} (ha : a < SZ) (hb : b < SZ) : a * b < BIG := Nat.lt_of_lt_of_le (Nat.mul_lt_mul'' ha hb) (by decide +kernel)
theorem mulOk_SZ {i j : Int} (hi : i.natAbs < SZ) (hj : j.natAbs < SZ) : MulOk i j := mulOk_of (Nat.lt_of_lt_of_le hi (by decide +kernel)) (Nat.lt_of_lt_of_le hj (by decide +kernel))
theorem F_plus_sm {a c : Rat} (ha : Sm a) (hc : Sm c) : F_plus [rD a, rD c] = some (rD (a + c)) :=
  F_plus_eq a c (mulOk_SZ ha.n (by simpa using hc.d)) (mulOk_SZ hc.n (by simpa using ha.d)) (mulOk_SZ (by simpa using ha.d) (by simpa using hc.d)) (SZ2 ha.d hc.d)
theorem F_times_sm {a c : Rat} (ha : Sm a) (hc : Sm c) : F_times [rD a, rD c] = some (rD (a * c)) :=
  F_times_eq a c (mulOk_SZ ha.n hc.n) (mulOk_SZ (by simpa using ha.d) (by simpa using hc.d)) (SZ2 ha.d hc.d)
theorem sm_int {w : Int} (h : w.natAbs < SZ) : Sm (w : Rat) := ⟨h, SZ_one⟩
  where SZ_one : 1 < SZ := by decide +kernel
theorem Qz.sm {Q B : Nat} {s : Rat} (hQ : 0 < Q) (h : Qz Q B s) (hB : B < SZ) (hQS : Q < SZ) : Sm s := ⟨Nat.lt_of_le_of_lt (h.num hQ) hB, Nat.lt_of_le_of_lt (h.den hQ) hQS⟩
theorem ss_loop (b : Bo) {Q P W : Nat} (tn : Tiny b Q P W) (σ : Nat → Int) (x : Nat) : ∀ (l : Lot) (i : Nat) (s : Rat) (u v : Option D), i + l.length ≤ 8 → (∀ p ∈ l, p.1 < b.n ∧ p.2.natAbs ≤ W) → Qz Q (i * (W * P)) s → ∃ u' v', forG (gtT 2 (gtCons (gtN 4) (gtCons (gtN 5) gtNil))) ssB (l.map pairD) [some (boardD b), some (wayD b.n σ), some (natD x), some (rD s), u, v] = some (.nx [some (boardD b), some (wayD b.n σ), some (natD x), some (rD (s + avgSum (stF b σ) l)), u', v']) ∧ Qz Q ((i + l.length) * (W * P)) (s + avgSum (stF b σ) l)
  | [], i, s, u, v, _, _, h => by
    have e : s + avgSum (stF b σ) [] = s := by
      show s + 0 = s
      grind
    rw [e]
    exact ⟨u, v, rfl, h⟩
  | p :: l, i, s, u, v, hi, hp, h => by
    rw [List.length_cons] at hi
    obtain ⟨h1, h2⟩ := hp p (List.mem_cons_self ..)
    have e : s + avgSum (stF b σ) (p :: l) = (s + (p.2 : Rat) * stF b σ p.1) + avgSum (stF b σ) l := by
      rw [avgSum_cons]
      grind
    have hst : Qz Q P (stF b σ p.1) := by
      unfold stF
      split
      · exact tn.pay p.1 h1
      · exact Qz.zero tn.q0
    have hq : Qz Q ((i + 1) * (W * P)) (s + (p.2 : Rat) * stF b σ p.1) := (h.add tn.q0 (hst.mul tn.q0 h2)).mono tn.q0 (by rw [Nat.succ_mul]; exact Nat.le_refl _)
    obtain ⟨u', v', h3, h4⟩ := ss_loop b tn σ x l (i + 1) (s + (p.2 : Rat) * stF b σ p.1) (some (natD p.1)) (some (.int p.2)) (by omega) (fun q hq => hp q (List.mem_cons_of_mem _ hq)) hq
    refine ⟨u', v', ?_, by
      rw [e, List.length_cons, show i + (l.length + 1) = i + 1 + l.length by omega]
      exact h4⟩
    rw [e]
    have hw1 := tn.w1
    have hsm := tn.small
    have hWP : W * P ≤ 8 * W * (P + Q) := by
      have : W * P ≤ W * (P + Q) := Nat.mul_le_mul_left _ (by omega)
      have h8 : W * (P + Q) ≤ 8 * (W * (P + Q)) := by omega
      rw [Nat.mul_assoc]
      omega
    have h8P : 8 * (W * P) ≤ 8 * W * (P + Q) := by
      rw [Nat.mul_assoc]
      exact Nat.mul_le_mul_left _ (Nat.mul_le_mul_left _ (by omega))
    have hQS : Q < SZ := Nat.lt_trans tn.q64 (by decide +kernel)
    have hWS : W < SZ := by
      have hq0 := tn.q0
      have : W * 1 ≤ W * (P + Q) := Nat.mul_le_mul_left _ (by omega)
      rw [Nat.mul_assoc] at hsm
      omega
    have hPS : P < SZ := by
      have : 1 * P ≤ W * P := Nat.mul_le_mul_right _ hw1
      omega
    have ssm : Sm s := h.sm tn.q0 (by
      have : i * (W * P) ≤ 8 * (W * P) := Nat.mul_le_mul_right _ (by omega)
      omega) hQS
    have tsm : Sm ((p.2 : Rat) * stF b σ p.1) := (hst.mul tn.q0 h2).sm tn.q0 (by omega) hQS
    have hg : gtT 2 (gtCons (gtN 4) (gtCons (gtN 5) gtNil)) (pairD p) [some (boardD b), some (wayD b.n σ), some (natD x), some (rD s), u, v] = some [some (boardD b), some (wayD b.n σ), some (natD x), some (rD s), some (natD p.1), some (.int p.2)] := rfl
    have ht : tBl (eBin eqD (eBin ixD (eVar 1) (eVar 4)) (eC (.int (-1)))) [some (boardD b), some (wayD b.n σ), some (natD x), some (rD s), some (natD p.1), some (.int p.2)] = some (decide (σ p.1 = -1), [some (boardD b), some (wayD b.n σ), some (natD x), some (rD s), some (natD p.1), some (.int p.2)]) :=
      bl_eq (bin_eq (bin_eq (v_eq rfl) (v_eq rfl) (ix_way σ h1)) rfl (eqD_int _ _))
    by_cases hc : σ p.1 = -1
    · rw [decide_eq_true hc] at ht
      have e2 : stF b σ p.1 = b.pay p.1 := if_pos hc
      have hpay : Sm (b.pay p.1) := by
        have := tn.pay p.1 h1
        exact this.sm tn.q0 hPS hQS
      have ft : F_times [.tup [.int p.2, .int 1], rD (b.pay p.1)] = some (rD ((p.2 : Rat) * stF b σ p.1)) := by
        rw [e2]
        exact F_times_sm (sm_int (Nat.lt_of_le_of_lt h2 hWS)) hpay
      have hb : ssB [some (boardD b), some (wayD b.n σ), some (natD x), some (rD s), some (natD p.1), some (.int p.2)] = some (.nx [some (boardD b), some (wayD b.n σ), some (natD x), some (rD (s + (p.2 : Rat) * stF b σ p.1)), some (natD p.1), some (.int p.2)]) := (if_t ht).trans (set_to (ca_eq (a_cons (v_eq rfl) (a_cons (ca_eq (a_cons (tup_eq (a_cons (v_eq rfl) (a_cons rfl a_nil)) (show (2 : Nat) ≤ 100000 by decide)) (a_cons (bin_eq (un_eq (v_eq rfl) (att_pays b)) (v_eq rfl) (ix_fun b.pay h1)) a_nil)) ft) a_nil)) (F_plus_sm ssm tsm)) rfl)
      exact (forG_nx hg hb).trans h3
    · rw [decide_eq_false hc] at ht
      have e2 : s + (p.2 : Rat) * stF b σ p.1 = s := by
        have : stF b σ p.1 = 0 := if_neg hc
        rw [this]
        grind
      rw [e2] at h3
      refine (forG_nx hg ((if_f ht).trans rfl)).trans ?_
      rw [e2]
      exact h3
theorem F_stopping_sum_eq (b : Bo) (ok : b.Ok) {Q P W : Nat} (tn : Tiny b Q P W) {σ : Nat → Int} (w : WayOk b σ) {x : Nat} (hx : x < b.n) (hc : σ x ≠ -1) : F_stopping_sum [boardD b, wayD b.n σ, natD x] = some (rD (avgSum (stF b σ) (playOf b σ x))) ∧ Qz Q (8 * (W * P)) (avgSum (stF b σ) (playOf b σ x)) := by
  have hm := playOf_mem w hx hc
  obtain ⟨a1, a2, a3⟩ := ok.lot x hx _ hm
  obtain ⟨u', v', h1, h2⟩ := ss_loop b tn σ x (playOf b σ x) 0 0 none none (by have := a1.len; omega) (fun p hp => ⟨a3 p hp, tn.w x hx _ hm p hp⟩) (Qz.zero tn.q0)
  have e : (0 : Rat) + avgSum (stF b σ) (playOf b σ x) = avgSum (stF b σ) (playOf b σ x) := by grind
  rw [e] at h1 h2
  have hi : iSeq (eBin ixD (eBin ixD (eUn (attD "Board" "plays") (eVar 0)) (eVar 2)) (eBin ixD (eVar 1) (eVar 2))) [some (boardD b), some (wayD b.n σ), some (natD x), some (rD 0), none, none] = some ((playOf b σ x).map pairD, [some (boardD b), some (wayD b.n σ), some (natD x), some (rD 0), none, none]) := by
    unfold iSeq
    rw [play_rd b w hx hc rfl rfl rfl]
    rfl
  refine ⟨runP_rt ((seq_nx (set_eq (tup_eq (a_cons rfl (a_cons rfl a_nil)) (show (2 : Nat) ≤ 100000 by decide)))).trans ((seq_nx ((for_eq hi).trans h1)).trans (ret_eq (v_eq rfl)))), h2.mono tn.q0 (Nat.mul_le_mul_right _ (by have := a1.len; omega))⟩
end Z
/-! The equations of a way: sums. -/
namespace Z
open PySem
theorem map_getD {α : Type} (f : Nat → α) : ∀ l : List Nat, l.map f = (List.range l.length).map fun i => f (l.getD i 0) := fun l => by
  refine List.ext_getElem? fun i => ?_
  by_cases hi : i < l.length
  · rw [List.getElem?_map, List.getElem?_map, List.getElem?_range hi, List.getElem?_eq_getElem hi, Option.map_some, Option.map_some, List.getD_eq_getElem?_getD, List.getElem?_eq_getElem hi]
    rfl
  · rw [List.getElem?_eq_none (by rw [List.length_map]; omega), List.getElem?_eq_none (by rw [List.length_map, List.length_range]; omega)]
def lsum (f : Nat → Rat) (l : List Nat) : Rat := (l.map f).sum
theorem lsum_cons (f : Nat → Rat) (x : Nat) (l : List Nat) : lsum f (x :: l) = f x + lsum f l := rfl
theorem lsum_add (f g : Nat → Rat) : ∀ l : List Nat, lsum (fun y => f y + g y) l = lsum f l + lsum g l
  | [] => by
    show (0 : Rat) = 0 + 0
    grind
  | x :: l => by
    rw [lsum_cons, lsum_cons, lsum_cons, lsum_add f g l]
    grind
theorem lsum_sub (f g : Nat → Rat) : ∀ l : List Nat, lsum (fun y => f y - g y) l = lsum f l - lsum g l
  | [] => by
    show (0 : Rat) = 0 - 0
    grind
  | x :: l => by
    rw [lsum_cons, lsum_cons, lsum_cons, lsum_sub f g l]
    grind
theorem lsum_congr {f g : Nat → Rat} : ∀ {l : List Nat}, (∀ y ∈ l, f y = g y) → lsum f l = lsum g l
  | [], _ => rfl
  | x :: l, h => by rw [lsum_cons, lsum_cons, h x (List.mem_cons_self ..), lsum_congr fun y hy => h y (List.mem_cons_of_mem _ hy)]
theorem lsum_zero {f : Nat → Rat} : ∀ {l : List Nat}, (∀ y ∈ l, f y = 0) → lsum f l = 0
  | [], _ => rfl
  | x :: l, h => by
    rw [lsum_cons, h x (List.mem_cons_self ..), lsum_zero fun y hy => h y (List.mem_cons_of_mem _ hy)]
    grind
theorem lsum_one (f : Nat → Rat) (x : Nat) : ∀ {l : List Nat}, l.Nodup → lsum (fun y => if y = x then f y else 0) l = if x ∈ l then f x else 0
  | [], _ => rfl
  | z :: l, h => by
    obtain ⟨h1, h2⟩ := List.nodup_cons.mp h
    rw [lsum_cons, lsum_one f x h2]
    by_cases e : z = x
    · subst e
      rw [if_pos rfl, if_neg h1, if_pos (List.mem_cons_self ..)]
      grind
    · rw [if_neg e]
      by_cases hm : x ∈ l
      · rw [if_pos hm, if_pos (List.mem_cons_of_mem _ hm)]
        grind
      · rw [if_neg hm, if_neg (fun z => (List.mem_cons.mp z).elim (fun q => e q.symm) hm)]
        grind
theorem sumQ_lsum (F : Nat → Rat) : ∀ n : Nat, sumQ n F = lsum F (List.range n)
  | 0 => rfl
  | n + 1 => by
    rw [sumQ, sumQ_lsum F n, List.range_succ]
    unfold lsum
    rw [List.map_append, List.sum_append]
    simp
    grind
theorem sumQ_list (F : Nat → Rat) (l : List Nat) : sumQ l.length (fun j => F (l.getD j 0)) = lsum F l := by
  rw [sumQ_lsum]
  unfold lsum
  rw [map_getD F l]
/-! ### the weights to places -/
theorem wto_cons (p : Nat × Int) (l : Lot) (y : Nat) : wto (p :: l) y = if p.1 = y then p.2 else wto l y := by
  unfold wto
  by_cases h : p.1 = y
  · rw [if_pos h, List.find?_cons_of_pos (by simpa using h)]
  · rw [if_neg h, List.find?_cons_of_neg (by simpa using h)]
theorem wto_none {l : Lot} {y : Nat} (h : y ∉ l.map (·.1)) : wto l y = 0 := by
  unfold wto
  have : l.find? (fun p => p.1 == y) = none := by
    rw [List.find?_eq_none]
    intro p hp
    have : p.1 ≠ y := fun e => h (e ▸ List.mem_map.mpr ⟨p, hp, rfl⟩)
    simpa using this
  rw [this]
theorem wto_bnd : ∀ {l : Lot} {W : Nat}, (∀ p ∈ l, 0 < p.2 ∧ p.2.natAbs ≤ W) → ∀ y, 0 ≤ wto l y ∧ wto l y ≤ wsum l ∧ (wsum l).natAbs ≤ l.length * W ∧ 0 ≤ wsum l
  | [], W, _, y => ⟨Int.le_refl 0, Int.le_refl 0, by simp [wsum], Int.le_refl 0⟩
  | p :: l, W, h, y => by
    obtain ⟨h1, h2, h3, h4⟩ := wto_bnd (l := l) (fun q hq => h q (List.mem_cons_of_mem _ hq)) y
    obtain ⟨a, c⟩ := h p (List.mem_cons_self ..)
    rw [wto_cons, wsum_cons, List.length_cons, Nat.succ_mul]
    refine ⟨?_, ?_, by omega, by omega⟩
    · split <;> omega
    · split <;> omega
theorem lsum_wto (h : Nat → Rat) {inner : List Nat} (hn : inner.Nodup) (h0 : ∀ y, y ∉ inner → h y = 0) : ∀ {l : Lot}, (l.map (·.1)).Nodup → lsum (fun y => (wto l y : Rat) * h y) inner = avgSum h l
  | [], _ => by
    refine (lsum_zero fun y _ => ?_).trans rfl
    show ((0 : Int) : Rat) * h y = 0
    simp
  | p :: l, hd => by
    rw [List.map_cons] at hd
    obtain ⟨d1, d2⟩ := List.nodup_cons.mp hd
    have e : lsum (fun y => (wto (p :: l) y : Rat) * h y) inner = lsum (fun y => (if y = p.1 then (p.2 : Rat) * h y else 0) + (wto l y : Rat) * h y) inner := lsum_congr fun y _ => by
      rw [wto_cons]
      by_cases c : p.1 = y
      · subst c
        rw [if_pos rfl, if_pos rfl, wto_none d1]
        simp
        grind
      · rw [if_neg c, if_neg (Ne.symm c)]
        grind
    rw [e, lsum_add, lsum_wto h hn h0 d2, avgSum_cons, lsum_one (fun y => (p.2 : Rat) * h y) p.1 hn]
    congr 1
    split
    · rfl
    · rename_i c
      rw [h0 p.1 c]
      simp
/-- the left side of a place's equation -/
theorem sq_sum (b : Bo) (σ : Nat → Int) (h : Nat → Rat) {inner : List Nat} (hn : inner.Nodup) (h0 : ∀ y, y ∉ inner → h y = 0) {x : Nat} (hx : x ∈ inner) (hd : ((playOf b σ x).map (·.1)).Nodup) : lsum (fun y => (sqE b σ x y : Rat) * h y) inner = (wsum (playOf b σ x) : Rat) * h x - avgSum h (playOf b σ x) := by
  have e : lsum (fun y => (sqE b σ x y : Rat) * h y) inner = lsum (fun y => (if y = x then (wsum (playOf b σ x) : Rat) * h y else 0) - (wto (playOf b σ x) y : Rat) * h y) inner := lsum_congr fun y _ => by
    unfold sqE
    rw [Rat.intCast_sub]
    by_cases c : y = x
    · rw [if_pos c, if_pos c]
      grind
    · rw [if_neg c, if_neg c]
      simp
      grind
  rw [e, lsum_sub, lsum_wto h hn h0 hd, lsum_one (fun y => (wsum (playOf b σ x) : Rat) * h y) x hn, if_pos hx]
/-! ### a table of entries by place -/
def atI (inner : List Nat) (s : Nat → Rat) (y : Nat) : Rat := if y ∈ inner then s (inner.idxOf y) else 0
theorem getD_idx {inner : List Nat} {y : Nat} (h : y ∈ inner) : inner.getD (inner.idxOf y) 0 = y := by
  have hl := List.idxOf_lt_length_of_mem h
  rw [List.getD_eq_getElem?_getD, List.getElem?_eq_getElem hl, Option.getD_some, List.getElem_idxOf]
theorem getD_in {inner : List Nat} {j : Nat} (h : j < inner.length) : inner.getD j 0 ∈ inner := getD_mem h
theorem getD_el {inner : List Nat} {j : Nat} (h : j < inner.length) : inner.getD j 0 = inner[j] := by
  rw [List.getD_eq_getElem?_getD, List.getElem?_eq_getElem h]
  rfl
theorem getD_inj {inner : List Nat} (hn : inner.Nodup) {i j : Nat} (hi : i < inner.length) (hj : j < inner.length) (e : inner.getD i 0 = inner.getD j 0) : i = j := by
  rw [getD_el hi, getD_el hj] at e
  have hp := List.pairwise_iff_getElem.mp hn
  rcases Nat.lt_trichotomy i j with h | h | h
  · exact absurd e (hp i j hi hj h)
  · exact h
  · exact absurd e.symm (hp j i hj hi h)
theorem idx_getD {inner : List Nat} (hn : inner.Nodup) {j : Nat} (h : j < inner.length) : inner.idxOf (inner.getD j 0) = j :=
  getD_inj hn (List.idxOf_lt_length_of_mem (getD_in h)) h (getD_idx (getD_in h))
theorem atI_at {inner : List Nat} (hn : inner.Nodup) (s : Nat → Rat) {j : Nat} (h : j < inner.length) : atI inner s (inner.getD j 0) = s j := by
  unfold atI
  rw [if_pos (getD_in h), idx_getD hn h]
theorem atI_out {inner : List Nat} (s : Nat → Rat) {y : Nat} (h : y ∉ inner) : atI inner s y = 0 := if_neg h
theorem sum_atI (inner : List Nat) (hn : inner.Nodup) (c : Nat → Rat) (s : Nat → Rat) : sumQ inner.length (fun j => c (inner.getD j 0) * s j) = lsum (fun y => c y * atI inner s y) inner := by
  rw [← sumQ_list]
  exact sumQ_congr fun j hj => by rw [atI_at hn s hj]
end Z
/-! value on data. -/
namespace Z
open PySem
def put (g : Nat → Rat) (p : Nat × Rat) : Nat → Rat := fun y => if y = p.1 then p.2 else g y
theorem put_out : ∀ (ps : List (Nat × Rat)) (g : Nat → Rat) (y : Nat), y ∉ ps.map (·.1) → ps.foldl put g y = g y
  | [], _, _, _ => rfl
  | p :: ps, g, y, h => by
    rw [List.map_cons, List.mem_cons, not_or] at h
    rw [List.foldl_cons, put_out ps _ y h.2]
    exact if_neg h.1
theorem put_in : ∀ (ps : List (Nat × Rat)) (g : Nat → Rat), (ps.map (·.1)).Nodup → ∀ p ∈ ps, ps.foldl put g p.1 = p.2
  | [], _, _, _, h => by cases h
  | q :: ps, g, hn, p, hp => by
    rw [List.map_cons] at hn
    obtain ⟨h1, h2⟩ := List.nodup_cons.mp hn
    rw [List.foldl_cons]
    rcases List.mem_cons.mp hp with rfl | hp
    · rw [put_out ps _ _ h1]
      exact if_pos rfl
    · exact put_in ps _ h2 p hp
theorem list_put (n : Nat) (g : Nat → Rat) {x : Nat} (hx : x < n) (v : Rat) : ((List.range n).map fun y => rD (g y)).set x (rD v) = (List.range n).map fun y => rD (put g (x, v) y) := by
  refine List.ext_getElem? fun i => ?_
  by_cases hi : i < n
  · rw [List.getElem?_map, List.getElem?_range hi, Option.map_some]
    by_cases e : x = i
    · subst e
      rw [List.getElem?_set_self (by simp; exact hi)]
      unfold put
      rw [if_pos rfl]
    · rw [List.getElem?_set_ne e, List.getElem?_map, List.getElem?_range hi, Option.map_some]
      unfold put
      rw [if_neg (Ne.symm e)]
  · rw [List.getElem?_eq_none (by simp; omega), List.getElem?_eq_none (by simp; omega)]
theorem val_loop (n : Nat) (A B C : D) (c r : Option D) : ∀ (ps : List (Nat × Rat)) (g : Nat → Rat) (x w : Option D), (∀ p ∈ ps, p.1 < n) → ∃ x' w', forG (gtT 2 (gtCons (gtN 4) (gtCons (gtN 7) gtNil))) (sPut 3 (eVar 7) (eVar 4)) (ps.map fun p => .tup [natD p.1, rD p.2]) [some A, some B, some C, some (.lst ((List.range n).map fun y => rD (g y))), x, c, r, w] = some (.nx [some A, some B, some C, some (.lst ((List.range n).map fun y => rD (ps.foldl put g y))), x', c, r, w'])
  | [], g, x, w, _ => ⟨x, w, rfl⟩
  | p :: ps, g, x, w, h => by
    have hp := h p (List.mem_cons_self ..)
    obtain ⟨x', w', h1⟩ := val_loop n A B C c r ps (put g p) (some (natD p.1)) (some (rD p.2)) fun q hq => h q (List.mem_cons_of_mem _ hq)
    refine ⟨x', w', (forG_nx (ρ2 := [some A, some B, some C, some (.lst ((List.range n).map fun y => rD (put g p y))), some (natD p.1), c, r, some (rD p.2)]) (ρ1 := [some A, some B, some C, some (.lst ((List.range n).map fun y => rD (g y))), some (natD p.1), c, r, some (rD p.2)]) rfl ?_).trans h1⟩
    have e := list_put n g hp p.2
    simp [sPut, lstAt, eVar, natD, ixN_nat hp, e]
theorem foundD (b : Bo) (ok : b.Ok) (σ : Nat → Int) (I : D) : eLc (iEnumM (eVar 1)) [4, 5] (gtT 2 (gtCons (gtN 4) (gtCons (gtN 5) gtNil))) tTrue (eIf (tBl (eBin eqD (eVar 5) (eC (.int (-1))))) (eBin ixD (eUn (attD "Board" "pays") (eVar 0)) (eVar 4)) (eTup (aCons (eC (.int 0)) (aCons (eC (.int 1)) aNil)))) [some (boardD b), some (wayD b.n σ), some I, none, none, none, none, none] = some (.lst ((List.range b.n).map fun y => rD (stF b σ y)), [some (boardD b), some (wayD b.n σ), some I, none, none, none, none, none]) := by
  have h := eLc_pureT (fi := iEnumM (eVar 1)) (vs := [4, 5]) (gt := gtT 2 (gtCons (gtN 4) (gtCons (gtN 5) gtNil))) (f := eIf (tBl (eBin eqD (eVar 5) (eC (.int (-1))))) (eBin ixD (eUn (attD "Board" "pays") (eVar 0)) (eVar 4)) (eTup (aCons (eC (.int 0)) (aCons (eC (.int 1)) aNil)))) (ρ := [some (boardD b), some (wayD b.n σ), some I, none, none, none, none, none]) (ρw := [some (boardD b), some (wayD b.n σ), some I, none, none, none, none, none])
    (enum_way b.n σ _ 1 rfl) rfl (fun d => match d with
      | .tup [.int y, _] => rD (stF b σ y.toNat)
      | _ => .non) (fun d hd => by
        obtain ⟨y, hy, rfl⟩ := List.mem_map.mp hd
        have hy := List.mem_range.mp hy
        refine ⟨[some (boardD b), some (wayD b.n σ), some I, none, some (.int y), some (.int (σ y)), none, none], rfl, ?_, rfl⟩
        have ht : tBl (eBin eqD (eVar 5) (eC (.int (-1)))) [some (boardD b), some (wayD b.n σ), some I, none, some (.int y), some (.int (σ y)), none, none] = some (decide (σ y = -1), [some (boardD b), some (wayD b.n σ), some I, none, some (.int y), some (.int (σ y)), none, none]) := bl_eq (bin_eq (v_eq rfl) rfl (eqD_int _ _))
        show _ = some (rD (stF b σ y), _)
        unfold stF
        by_cases hc : σ y = -1
        · rw [decide_eq_true hc] at ht
          rw [if_pos hc]
          exact (eif_t ht).trans (bin_eq (un_eq (v_eq rfl) (att_pays b)) (v_eq rfl) (ix_fun b.pay hy))
        · rw [decide_eq_false hc] at ht
          rw [if_neg hc]
          exact (eif_f ht).trans (tup_eq (a_cons rfl (a_cons rfl a_nil)) (show (2 : Nat) ≤ 100000 by decide))) (by have := ok.n40; simp; omega)
  refine h.trans ?_
  congr 3
  rw [List.map_map]
  rfl
theorem rightsL (b : Bo) (ok : b.Ok) {Q P W : Nat} (tn : Tiny b Q P W) {σ : Nat → Int} (w : WayOk b σ) (inner : List Nat) (hlen : inner.length ≤ 1000) (hin : ∀ x ∈ inner, x < b.n ∧ σ x ≠ -1) (F : D) : eLc (iSeq (eVar 2)) [4] (gtN 4) tTrue (eCa F_stopping_sum (aCons (eVar 0) (aCons (eVar 1) (aCons (eVar 4) aNil)))) [some (boardD b), some (wayD b.n σ), some (.tup (natsD inner)), some F, none, none, none, none] = some (.lst (inner.map fun x => rD (avgSum (stF b σ) (playOf b σ x))), [some (boardD b), some (wayD b.n σ), some (.tup (natsD inner)), some F, none, none, none, none]) := by
  have h := eLc_pureT (fi := iSeq (eVar 2)) (vs := [4]) (gt := gtN 4) (f := eCa F_stopping_sum (aCons (eVar 0) (aCons (eVar 1) (aCons (eVar 4) aNil)))) (ρ := [some (boardD b), some (wayD b.n σ), some (.tup (natsD inner)), some F, none, none, none, none]) (ρw := [some (boardD b), some (wayD b.n σ), some (.tup (natsD inner)), some F, none, none, none, none]) (ds := natsD inner) rfl rfl (fun d => match d with
      | .int x => rD (avgSum (stF b σ) (playOf b σ x.toNat))
      | _ => .non) (fun d hd => by
        obtain ⟨x, hx, rfl⟩ := List.mem_map.mp hd
        obtain ⟨h1, h2⟩ := hin x hx
        exact ⟨[some (boardD b), some (wayD b.n σ), some (.tup (natsD inner)), some F, some (natD x), none, none, none], rfl, ca_eq (a_cons (v_eq rfl) (a_cons (v_eq rfl) (a_cons (v_eq rfl) a_nil))) (F_stopping_sum_eq b ok tn w h1 h2).1, rfl⟩) (by simp [natsD]; omega)
  refine h.trans ?_
  congr 3
  simp [natsD, natD]
theorem sm_zero : Sm 0 := ⟨by decide +kernel, by decide +kernel⟩
theorem F_value_eq (b : Bo) (ok : b.Ok) {Q P W : Nat} (tn : Tiny b Q P W) {σ : Nat → Int} (w : WayOk b σ) : ∃ f, F_value [boardD b, wayD b.n σ] = some (funD b.n f) ∧ IsVal b σ f ∧ SmF b.n f := by
  obtain ⟨R, hI, L⟩ := F_inner_places_eq b ok σ w
  have hmem : ∀ x, x ∈ ((chosen b.n R).filter fun x => σ x != -1) ↔ x < b.n ∧ Live b σ x ∧ σ x ≠ -1 := fun x => mem_inner ok w L
  have hnd : ((chosen b.n R).filter fun x => σ x != -1).Nodup := List.Pairwise.filter _ (List.Pairwise.filter _ List.nodup_range)
  have hle : ((chosen b.n R).filter fun x => σ x != -1).length ≤ b.n := by
    have h1 := List.length_filter_le (fun x => σ x != -1) (chosen b.n R)
    have h2 := List.length_filter_le (fun x => R.getD x false) (List.range b.n)
    rw [List.length_range] at h2
    exact Nat.le_trans h1 h2
  generalize ((chosen b.n R).filter fun x => σ x != -1) = inner at *
  have hn40 := ok.n40
  have hn1 := ok.n1
  have hin : ∀ x ∈ inner, x < b.n ∧ σ x ≠ -1 := fun x hx => ⟨((hmem x).mp hx).1, ((hmem x).mp hx).2.2⟩
  have hsq := F_way_square_eq b ok w inner (by omega) hin
  have hrows : (.tup (inner.map fun x => .tup (inner.map fun y => frD (sqE b σ x y, 1))) : D) = rowsD inner.length fun r j => sqE b σ (inner.getD r 0) (inner.getD j 0) := by
    unfold rowsD
    rw [map_getD (fun x => D.tup (inner.map fun y => frD (sqE b σ x y, 1))) inner]
    congr 1
    refine List.map_congr_left fun r _ => ?_
    rw [map_getD (fun y => frD (sqE b σ (inner.getD r 0) y, 1)) inner]
  have hrights : (.tup (inner.map fun x => rD (avgSum (stF b σ) (playOf b σ x))) : D) = rightsD inner.length fun r => avgSum (stF b σ) (playOf b σ (inner.getD r 0)) := by
    unfold rightsD
    rw [map_getD (fun x => rD (avgSum (stF b σ) (playOf b σ x))) inner]
  have hplay : ∀ x ∈ inner, LotOk (playOf b σ x) ∧ playOf b σ x ≠ [] ∧ (∀ p ∈ playOf b σ x, p.1 < b.n) ∧ ((playOf b σ x).map (·.1)).Nodup ∧ (∀ p ∈ playOf b σ x, 0 < p.2 ∧ p.2.natAbs ≤ W) := fun x hx => by
    obtain ⟨h1, h2⟩ := hin x hx
    have hm := playOf_mem w h1 h2
    obtain ⟨a1, a2, a3⟩ := ok.lot x h1 _ hm
    exact ⟨a1, a2, a3, tn.asc x h1 _ hm, fun p hp => ⟨(a1.w p hp).1, tn.w x h1 _ hm p hp⟩⟩
  -- the equations have one solution
  obtain ⟨s, hs1, hs2, hs3⟩ := F_solved_eq inner.length (8 * W * (P + Q)) (fun r j => sqE b σ (inner.getD r 0) (inner.getD j 0)) (fun r => avgSum (stF b σ) (playOf b σ (inner.getD r 0))) (by omega)
    (fun r hr => by
      obtain ⟨h1, h2⟩ := hin _ (getD_in hr)
      exact Nat.lt_of_le_of_lt ((F_stopping_sum_eq b ok tn w h1 h2).2.den tn.q0) tn.q64)
    (by
      have h1 := tn.w1
      have h2 := tn.q0
      have : 1 * 1 ≤ (8 * W) * (P + Q) := Nat.mul_le_mul (by omega) (by omega)
      omega)
    (fun r hr j hj => by
      obtain ⟨h1, h2⟩ := hin _ (getD_in hr)
      obtain ⟨a1, _, _, _, a5⟩ := hplay _ (getD_in hr)
      have hd := (F_stopping_sum_eq b ok tn w h1 h2).2.den tn.q0
      rw [Int.natAbs_mul]
      refine Nat.mul_le_mul ?_ (by simp only [Int.natAbs_natCast]; omega)
      obtain ⟨c1, c2, c3, c4⟩ := wto_bnd a5 (inner.getD j 0)
      have hl8 : (playOf b σ (inner.getD r 0)).length * W ≤ 8 * W := Nat.mul_le_mul_right _ a1.len
      unfold sqE
      split <;> omega)
    (fun r hr => by
      obtain ⟨h1, h2⟩ := hin _ (getD_in hr)
      have := (F_stopping_sum_eq b ok tn w h1 h2).2.num tn.q0
      have h3 : 8 * (W * P) ≤ 8 * W * (P + Q) := by
        rw [← Nat.mul_assoc]
        exact Nat.mul_le_mul_left _ (by omega)
      omega)
    (by
      refine Nat.lt_of_le_of_lt ?_ tn.big
      have hM : 1 ≤ 8 * W * (P + Q) := by
        have h1 := tn.w1
        have h2 := tn.q0
        have : 1 * 1 ≤ (8 * W) * (P + Q) := Nat.mul_le_mul (by omega) (by omega)
        omega
      refine Nat.le_trans (Nat.pow_le_pow_left (Nat.mul_le_mul_right _ hle) _) (Nat.pow_le_pow_right ?_ hle)
      exact Nat.mul_pos (by omega) (by omega))
    (fun z hz j hj => by
      have hk := kernel_zero ok w (h := atI inner z) (fun y hy hc => atI_out z fun hm => by
        obtain ⟨_, c1, c2⟩ := (hmem y).mp hm
        rcases hc with c | c
        · exact c2 c
        · exact c c1) (fun y hy hc hl => by
          have hm : y ∈ inner := (hmem y).mpr ⟨hy, hl, hc⟩
          obtain ⟨a1, a2, a3, a4, a5⟩ := hplay y hm
          have hr := hz (inner.idxOf y) (List.idxOf_lt_length_of_mem hm)
          simp only [getD_idx hm] at hr
          rw [sum_atI inner hnd (fun u => (sqE b σ y u : Rat)) z, sq_sum b σ _ hnd (fun u hu => atI_out z hu) hm a4] at hr
          have hp := wsum_pos a1 a2
          have e := avg_mul a1 a2 (atI inner z)
          rw [← e] at hr
          have h6 : (wsum (playOf b σ y) : Rat) * (atI inner z y - avg (atI inner z) (playOf b σ y)) = 0 := by grind
          rcases Rat.mul_eq_zero.mp h6 with h7 | h7 <;> grind) (inner.getD j 0) ((hmem _).mp (getD_in hj)).1
      rw [atI_at hnd z hj] at hk
      exact hk)
  refine ⟨fun y => atI inner s y + stF b σ y, ?_, ?_, ?_⟩
  · -- the run
    have hz : iZipM (aCons (eVar 2) (aCons (eCa F_solved (aCons (eCa F_way_square (aCons (eVar 0) (aCons (eVar 1) (aCons (eVar 2) aNil)))) (aCons (eVar 6) aNil))) aNil)) [some (boardD b), some (wayD b.n σ), some (.tup (natsD inner)), some (.lst ((List.range b.n).map fun y => rD (stF b σ y))), none, none, some (.tup (inner.map fun x => rD (avgSum (stF b σ) (playOf b σ x)))), none] = some (((List.range inner.length).map fun j => (inner.getD j 0, s j)).map fun p => .tup [natD p.1, rD p.2], [some (boardD b), some (wayD b.n σ), some (.tup (natsD inner)), some (.lst ((List.range b.n).map fun y => rD (stF b σ y))), none, none, some (.tup (inner.map fun x => rD (avgSum (stF b σ) (playOf b σ x)))), none]) := by
      rw [hrows] at hsq
      have hz1 := ca_eq (op := F_solved) (fs := aCons (eCa F_way_square (aCons (eVar 0) (aCons (eVar 1) (aCons (eVar 2) aNil)))) (aCons (eVar 6) aNil)) (ρ := [some (boardD b), some (wayD b.n σ), some (.tup (natsD inner)), some (.lst ((List.range b.n).map fun y => rD (stF b σ y))), none, none, some (.tup (inner.map fun x => rD (avgSum (stF b σ) (playOf b σ x)))), none]) (a_cons (ca_eq (a_cons (v_eq rfl) (a_cons (v_eq rfl) (a_cons (v_eq rfl) a_nil))) hsq) (a_cons (v_eq rfl) a_nil)) (by rw [hrights]; exact hs1)
      have ha := a_cons (fa := eVar 2) (v_eq (ρ := [some (boardD b), some (wayD b.n σ), some (.tup (natsD inner)), some (.lst ((List.range b.n).map fun y => rD (stF b σ y))), none, none, some (.tup (inner.map fun x => rD (avgSum (stF b σ) (playOf b σ x)))), none]) rfl) (a_cons hz1 a_nil)
      unfold iZipM
      rw [ha, Option.bind_some]
      show some (zipL (natsD inner) _, _) = _
      have e : natsD inner = (List.range inner.length).map fun j => natD (inner.getD j 0) := map_getD natD inner
      rw [e, zip_range, List.map_map]
      rfl
    obtain ⟨x', w', hv⟩ := val_loop b.n (boardD b) (wayD b.n σ) (.tup (natsD inner)) none (some (.tup (inner.map fun x => rD (avgSum (stF b σ) (playOf b σ x))))) ((List.range inner.length).map fun j => (inner.getD j 0, s j)) (stF b σ) none none (fun p hp => by
      obtain ⟨j, hj, rfl⟩ := List.mem_map.mp hp
      exact (hin _ (getD_in (List.mem_range.mp hj))).1)
    have hfun : (List.range b.n).map (fun y => rD (((List.range inner.length).map fun j => (inner.getD j 0, s j)).foldl put (stF b σ) y)) = (List.range b.n).map fun y => rD (atI inner s y + stF b σ y) := by
      refine List.map_congr_left fun y _ => ?_
      congr 1
      have hkeys : ((List.range inner.length).map fun j => (inner.getD j 0, s j)).map (·.1) = inner := by
        rw [List.map_map]
        have e := map_getD id inner
        rw [List.map_id] at e
        exact e.symm
      by_cases hm : y ∈ inner
      · have hj := List.idxOf_lt_length_of_mem hm
        have := put_in ((List.range inner.length).map fun j => (inner.getD j 0, s j)) (stF b σ) (by rw [hkeys]; exact hnd) (y, s (inner.idxOf y)) (List.mem_map.mpr ⟨inner.idxOf y, List.mem_range.mpr hj, by rw [getD_idx hm]⟩)
        rw [show (y, s (inner.idxOf y)).1 = y from rfl] at this
        rw [this]
        unfold atI stF
        rw [if_pos hm, if_neg (hin y hm).2]
        grind
      · rw [put_out _ _ _ (by rw [hkeys]; exact hm), atI_out s hm]
        grind
    rw [hfun] at hv
    exact runP_rt ((seq_nx (drop_eq (ca_eq (a_cons (v_eq rfl) (a_cons (v_eq rfl) a_nil)) (F_want_way_eq b w)))).trans ((seq_nx (set_to (ca_eq (a_cons (v_eq rfl) (a_cons (v_eq rfl) a_nil)) hI) rfl)).trans ((seq_nx (set_to (foundD b ok σ _) rfl)).trans ((seq_nx (set_to (ca_eq (a_cons (rightsL b ok tn w inner (by omega) hin _) a_nil) rfl) rfl)).trans ((seq_nx ((for_eq hz).trans hv)).trans (ret_eq (ca_eq (a_cons (v_eq rfl) a_nil) rfl)))))))
  · -- it is the value
    have hdead0 : ∀ y, y < b.n → ¬ Live b σ y → atI inner s y + stF b σ y = 0 := fun y hy hl => by
      have h1 : σ y ≠ -1 := fun c => hl (.stop hy c)
      rw [atI_out s fun hm => hl ((hmem y).mp hm).2.1]
      unfold stF
      rw [if_neg h1]
      grind
    refine ⟨fun y hy hc => ?_, fun y hy hc => ?_, hdead0⟩
    · show atI inner s y + stF b σ y = _
      rw [atI_out s fun hm => (hin y hm).2 hc]
      unfold stF
      rw [if_pos hc]
      grind
    · show atI inner s y + stF b σ y = _
      by_cases hl : Live b σ y
      · have hm : y ∈ inner := (hmem y).mpr ⟨hy, hl, hc⟩
        obtain ⟨a1, a2, a3, a4, a5⟩ := hplay y hm
        have hr := hs2 (inner.idxOf y) (List.idxOf_lt_length_of_mem hm)
        simp only [getD_idx hm] at hr
        rw [sum_atI inner hnd (fun u => (sqE b σ y u : Rat)) s, sq_sum b σ _ hnd (fun u hu => atI_out s hu) hm a4] at hr
        have hadd : avgSum (fun y => atI inner s y + stF b σ y) (playOf b σ y) = avgSum (atI inner s) (playOf b σ y) + avgSum (stF b σ) (playOf b σ y) := by
          have e1 := avgSum_sub (fun y => atI inner s y + stF b σ y) (stF b σ) (playOf b σ y)
          have e2 : avgSum (fun y => (atI inner s y + stF b σ y) - stF b σ y) (playOf b σ y) = avgSum (atI inner s) (playOf b σ y) := avgSum_congr fun p _ => by grind
          rw [e2] at e1
          grind
        have hp := wsum_pos a1 a2
        unfold avg
        rw [hadd, ← hr]
        have h0 : stF b σ y = 0 := if_neg hc
        rw [h0]
        grind
      · rw [hdead0 y hy hl]
        obtain ⟨a1, a2, a3⟩ := ok.lot y hy _ (playOf_mem w hy hc)
        have e : avg (fun y => atI inner s y + stF b σ y) (playOf b σ y) = avg (fun _ => 0) (playOf b σ y) := avg_congr fun p hp => hdead0 p.1 (a3 p hp) fun l => hl (.go hy hc hp l)
        rw [e, avg_const a1 a2]
  · intro y hy
    show Sm (atI inner s y + stF b σ y)
    by_cases hm : y ∈ inner
    · have h0 : stF b σ y = 0 := if_neg (hin y hm).2
      have e : atI inner s y + stF b σ y = s (inner.idxOf y) := by
        rw [h0]
        unfold atI
        rw [if_pos hm]
        grind
      rw [e]
      exact hs3 _ (List.idxOf_lt_length_of_mem hm)
    · rw [atI_out s hm]
      have e : (0 : Rat) + stF b σ y = stF b σ y := by grind
      rw [e]
      unfold stF
      split
      · exact (ok.pay y hy).1
      · exact sm_zero
end Z
/-! worth on data. -/
namespace Z
open PySem
theorem par_to {is : List Nat} {fs : MA} {ρ ρ1 ρ2 : Env} {ds : List D} (h : fs ρ = some (ds, ρ1)) (e : setDs is ds ρ1 = ρ2) : sPar is fs ρ = some (.nx ρ2) := e ▸ par_eq h
theorem while_to {t : MT} {gb : MS} {ρ : Env} {o : Option Out} (h : whileG t gb FUEL ρ = o) : sWhile t gb ρ = o := by
  unfold sWhile
  exact h
/-! ### == of ways -/
theorem oks_ints (f : Nat → Int) (n : Nat) : ∀ l : List Nat, D.oks n (l.map fun x => .int (f x)) = true
  | [] => by simp [D.oks]
  | x :: l => by
    rw [List.map_cons, D.oks, ok_int, oks_ints f n l]
    rfl
theorem eqbs_ints (f g : Nat → Int) : ∀ l : List Nat, D.eqbs (l.map fun x => .int (f x)) (l.map fun x => .int (g x)) = decide (∀ x ∈ l, f x = g x)
  | [] => by simp [D.eqbs]
  | x :: l => by
    rw [List.map_cons, List.map_cons, D.eqbs, eqbs_ints f g l, D.eqb]
    by_cases h : f x = g x
    · simp [h]
    · simp [h]
theorem ok_way (n : Nat) (f : Nat → Int) : D.ok 60 (wayD n f) = true := by
  unfold wayD
  rw [D.ok, oks_ints]
theorem neD_way (n : Nat) (f g : Nat → Int) : neD (wayD n f) (wayD n g) = some (.bl (!decide (∀ x, x < n → f x = g x))) := by
  unfold neD
  rw [if_pos ⟨ok_way n f, ok_way n g⟩]
  unfold wayD
  rw [D.eqb, eqbs_ints]
  simp only [List.mem_range]
/-! ### a way by its entries -/
theorem Live.congr {b : Bo} {σ τ : Nat → Int} (h : ∀ x, x < b.n → σ x = τ x) {x : Nat} (L : Live b σ x) : Live b τ x := by
  induction L with
  | stop hx hc => exact .stop hx ((h _ hx).symm.trans hc)
  | @go x p hx hc hp _ ih =>
    refine .go hx (fun c => hc ((h x hx).trans c)) ?_ ih
    unfold playOf at hp ⊢
    rw [← h x hx]
    exact hp
theorem IsVal.congr {b : Bo} {σ τ : Nat → Int} {f : Nat → Rat} (h : ∀ x, x < b.n → σ x = τ x) (v : IsVal b σ f) : IsVal b τ f where
  stop := fun x hx hc => v.stop x hx ((h x hx).trans hc)
  go := fun x hx hc => by
    have := v.go x hx fun c => hc ((h x hx).symm.trans c)
    unfold playOf at this ⊢
    rw [← h x hx]
    exact this
  dead := fun x hx hn => v.dead x hx fun L => hn (L.congr h)
def ents : List Int := (List.range 13).map fun (i : Nat) => (i : Int) - 1
def tups : Nat → List (List Int)
  | 0 => [[]]
  | n + 1 => (tups n).flatMap fun t => ents.map fun c => t ++ [c]
theorem tups_len : ∀ n : Nat, (tups n).length = 13 ^ n
  | 0 => rfl
  | n + 1 => by
    have : ∀ l : List (List Int), (l.flatMap fun t => ents.map fun c => t ++ [c]).length = l.length * 13 := fun l => by
      induction l with
      | nil => rfl
      | cons t l ih =>
        rw [List.flatMap_cons, List.length_append, ih, List.length_map, List.length_cons]
        have : ents.length = 13 := rfl
        omega
    rw [tups, this, tups_len n, Nat.pow_succ]
theorem tups_mem (σ : Nat → Int) : ∀ n : Nat, (∀ x, x < n → -1 ≤ σ x ∧ σ x < 12) → (List.range n).map σ ∈ tups n
  | 0, _ => by simp [tups]
  | n + 1, h => by
    rw [tups, List.range_succ, List.map_append]
    refine List.mem_flatMap.mpr ⟨_, tups_mem σ n fun x hx => h x (by omega), List.mem_map.mpr ⟨σ n, ?_, rfl⟩⟩
    obtain ⟨h1, h2⟩ := h n (by omega)
    exact List.mem_map.mpr ⟨(σ n + 1).toNat, List.mem_range.mpr (by omega), by omega⟩
open Classical in
noncomputable def valT (b : Bo) (t : List Int) : Nat → Rat := if h : ∃ f, IsVal b (fun x => t.getD x (-1)) f then h.choose else fun _ => 0
def LtF (n : Nat) (f g : Nat → Rat) : Prop := (∀ x, x < n → f x ≤ g x) ∧ ∃ x, x < n ∧ f x < g x
open Classical in
noncomputable def mea (b : Bo) (f : Nat → Rat) : Nat := ((tups b.n).filter fun t => decide (LtF b.n f (valT b t))).length
theorem mea_le (b : Bo) (ok : b.Ok) (f : Nat → Rat) : mea b f < FUEL := by
  have h1 : mea b f ≤ (tups b.n).length := List.length_filter_le _ _
  rw [tups_len] at h1
  have h2 : 13 ^ b.n ≤ 13 ^ 40 := Nat.pow_le_pow_right (by decide) ok.n40
  have h3 : 13 ^ 40 < FUEL := by decide +kernel
  omega
theorem filter_lt {α : Type} {p q : α → Bool} : ∀ {l : List α} {a : α}, (∀ x ∈ l, q x = true → p x = true) → a ∈ l → p a = true → q a = false → (l.filter q).length < (l.filter p).length
  | x :: l, a, h, ha, hp, hq => by
    have hle : ∀ l : List α, (∀ x ∈ l, q x = true → p x = true) → (l.filter q).length ≤ (l.filter p).length := by
      intro l
      induction l with
      | nil => exact fun _ => Nat.le_refl _
      | cons y l ih =>
        intro h
        have i := ih fun z hz => h z (List.mem_cons_of_mem _ hz)
        have hy := h y (List.mem_cons_self ..)
        by_cases c : q y = true
        · rw [List.filter_cons_of_pos c, List.filter_cons_of_pos (hy c)]
          simpa using i
        · rw [List.filter_cons_of_neg c]
          by_cases c2 : p y = true
          · rw [List.filter_cons_of_pos c2, List.length_cons]
            omega
          · rw [List.filter_cons_of_neg c2]
            exact i
    have hl := hle l fun z hz => h z (List.mem_cons_of_mem _ hz)
    rcases List.mem_cons.mp ha with rfl | ha
    · rw [List.filter_cons_of_pos hp, List.filter_cons_of_neg (by rw [hq]; decide), List.length_cons]
      omega
    · have i := filter_lt (l := l) (fun z hz => h z (List.mem_cons_of_mem _ hz)) ha hp hq
      have hx := h x (List.mem_cons_self ..)
      by_cases c : q x = true
      · rw [List.filter_cons_of_pos c, List.filter_cons_of_pos (hx c)]
        simpa using i
      · rw [List.filter_cons_of_neg c]
        by_cases c2 : p x = true
        · rw [List.filter_cons_of_pos c2, List.length_cons]
          omega
        · rw [List.filter_cons_of_neg c2]
          exact i
open Classical in
theorem mea_lt (b : Bo) (ok : b.Ok) {f f' : Nat → Rat} {τ : Nat → Int} (w : WayOk b τ) (u : IsVal b τ f') (h : LtF b.n f f') : mea b f' < mea b f := by
  have few := ok.few
  have hag : ∀ x, x < b.n → ((List.range b.n).map τ).getD x (-1) = τ x := fun x hx => by
    rw [List.getD_eq_getElem?_getD, List.getElem?_map, List.getElem?_range hx]
    rfl
  have hv : ∀ x, x < b.n → valT b ((List.range b.n).map τ) x = f' x := by
    have u' : IsVal b (fun x => ((List.range b.n).map τ).getD x (-1)) f' := u.congr fun x hx => (hag x hx).symm
    have he : ∃ f, IsVal b (fun x => ((List.range b.n).map τ).getD x (-1)) f := ⟨f', u'⟩
    unfold valT
    rw [dif_pos he]
    have hw : WayOk b (fun x => ((List.range b.n).map τ).getD x (-1)) := ⟨fun x hx => by rw [hag x hx]; exact w.lo x hx, fun x hx => by rw [hag x hx]; exact w.hi x hx⟩
    exact he.choose_spec.uniq ok hw u'
  refine filter_lt (a := (List.range b.n).map τ) (fun t _ ht => ?_) (tups_mem τ b.n fun x hx => ⟨w.lo x hx, by have := w.hi x hx; have := few x; omega⟩) ?_ ?_
  · have ht := of_decide_eq_true ht
    refine decide_eq_true ⟨fun x hx => Rat.le_trans (h.1 x hx) (ht.1 x hx), ?_⟩
    obtain ⟨x, hx, hlt⟩ := ht.2
    refine ⟨x, hx, ?_⟩
    have := h.1 x hx
    grind
  · refine decide_eq_true ⟨fun x hx => by rw [hv x hx]; exact h.1 x hx, ?_⟩
    obtain ⟨x, hx, hlt⟩ := h.2
    exact ⟨x, hx, by rw [hv x hx]; exact hlt⟩
  · refine decide_eq_false fun c => ?_
    obtain ⟨x, hx, hlt⟩ := c.2
    rw [hv x hx] at hlt
    exact Rat.lt_irrefl hlt
/-! ### the loop -/
/-- every way of the board has a value that the program finds -/
def HasVals (b : Bo) : Prop := ∀ σ : Nat → Int, WayOk b σ → ∃ f, F_value [boardD b, wayD b.n σ] = some (funD b.n f) ∧ IsVal b σ f ∧ SmF b.n f
abbrev woT : MT := tBl (eBin neD (eVar 3) (eVar 1))
abbrev woB : MS := sSeq (sSet 1 (eVar 3)) (sSeq (sSet 2 (eCa F_value (aCons (eVar 0) (aCons (eVar 1) aNil)))) (sSet 3 (eCa F_improved_for (aCons (eVar 0) (aCons (eVar 1) (aCons (eVar 2) aNil))))))
theorem wo_loop (b : Bo) (ok : b.Ok) (hv : HasVals b) : ∀ (fuel : Nat) (σ : Nat → Int) (f : Nat → Rat), WayOk b σ → IsVal b σ f → SmF b.n f → mea b f < fuel →
    ∃ τ V, whileG woT woB fuel [some (boardD b), some (wayD b.n σ), some (funD b.n f), some (wayD b.n (impC b f σ))] = some (.nx [some (boardD b), some (wayD b.n τ), some (funD b.n V), some (wayD b.n (impC b V τ))]) ∧ WayOk b τ ∧ IsVal b τ V ∧ SmF b.n V ∧ ∀ x, x < b.n → impC b V τ x = τ x
  | 0, _, _, _, _, _, h => absurd h (Nat.not_lt_zero _)
  | fuel + 1, σ, f, w, v, s, h => by
    have ht : woT [some (boardD b), some (wayD b.n σ), some (funD b.n f), some (wayD b.n (impC b f σ))] = some (!decide (∀ x, x < b.n → impC b f σ x = σ x), [some (boardD b), some (wayD b.n σ), some (funD b.n f), some (wayD b.n (impC b f σ))]) := bl_eq (bin_eq (v_eq rfl) (v_eq rfl) (neD_way _ _ _))
    by_cases hc : ∀ x, x < b.n → impC b f σ x = σ x
    · refine ⟨σ, f, ?_, w, v, s, hc⟩
      rw [whileG, ht, decide_eq_true hc]
      rfl
    · have w' := impC_ok (b := b) (f := f) w
      obtain ⟨f', e, v', s'⟩ := hv _ w'
      have hlt : LtF b.n f f' := ⟨imp_le ok w v v', imp_ne ok w v v' (Classical.byContradiction fun n => hc fun x hx => Classical.byContradiction fun q => n ⟨x, hx, q⟩)⟩
      have hm := mea_lt b ok w' v' hlt
      obtain ⟨τ, V, h1, h2⟩ := wo_loop b ok hv fuel (impC b f σ) f' w' v' s' (by omega)
      refine ⟨τ, V, ?_, h2⟩
      have hb : woB [some (boardD b), some (wayD b.n σ), some (funD b.n f), some (wayD b.n (impC b f σ))] = some (.nx [some (boardD b), some (wayD b.n (impC b f σ)), some (funD b.n f'), some (wayD b.n (impC b f' (impC b f σ)))]) :=
        (seq_nx (set_to (v_eq rfl) rfl)).trans ((seq_nx (set_to (ca_eq (a_cons (v_eq rfl) (a_cons (v_eq rfl) a_nil)) e) rfl)).trans (set_to (ca_eq (a_cons (v_eq rfl) (a_cons (v_eq rfl) (a_cons (v_eq rfl) a_nil))) (F_improved_for_eq b ok f' s' _)) rfl))
      rw [whileG, ht, decide_eq_false hc]
      show ((woB _).bind _) = _
      rw [hb]
      exact h1
/-- the worth -/
structure IsWorth (b : Bo) (V : Nat → Rat) : Prop where
  cov : Cov b V
  least : ∀ g, Cov b g → ∀ x, x < b.n → V x ≤ g x
  way : ∃ τ, WayOk b τ ∧ IsVal b τ V
theorem F_worth_eq (b : Bo) (ok : b.Ok) (hv : HasVals b) : ∃ V, F_worth [boardD b] = some (funD b.n V) ∧ IsWorth b V ∧ SmF b.n V := by
  have w0 : WayOk b fun _ => -1 := ⟨fun _ _ => by decide, fun _ _ => by omega⟩
  have v0 : IsVal b (fun _ => -1) b.pay := ⟨fun _ _ _ => rfl, fun x _ hc => absurd rfl hc, fun x hx hn => absurd (Live.stop hx rfl) hn⟩
  have s0 : SmF b.n b.pay := fun x hx => (ok.pay x hx).1
  obtain ⟨τ, V, h1, h2, h3, h4, h5⟩ := wo_loop b ok hv FUEL _ _ w0 v0 s0 (mea_le b ok b.pay)
  refine ⟨V, ?_, ⟨imp_fix ok h2 h3 h5, fun g c x hx => h3.le_cov ok h2 c x hx, τ, h2, h3⟩, h4⟩
  have n1 := ok.n1
  have n40 := ok.n40
  have hrep : repD (.tup [.int (-1)]) (.int b.n) = some (wayD b.n fun _ => -1) := by
    have hc : [D.int (-1)] ≠ [] ∧ (1 : Int) ≤ (b.n : Int) ∧ (b.n : Int) ≤ 1000 ∧ [D.int (-1)].length ≤ 1000 := ⟨by simp, by omega, by omega, by simp⟩
    refine (if_pos hc).trans ?_
    unfold wayD
    rw [Int.toNat_natCast]
    congr 2
    have : ∀ k : Nat, (List.replicate k [D.int (-1)]).flatten = (List.range k).map fun _ => .int (-1) := fun k => by
      induction k with
      | zero => rfl
      | succ k ih =>
        rw [List.replicate_succ', List.flatten_append, ih, List.range_succ, List.map_append]
        simp
    exact this b.n
  have hp : sPar [1, 2] (aCons (eBin repD (eTup (aCons (eC (.int (-1))) aNil)) (eUn (attD "Board" "size") (eVar 0))) (aCons (eUn (attD "Board" "pays") (eVar 0)) aNil)) (envOf 3 [boardD b]) = some (.nx [some (boardD b), some (wayD b.n fun _ => -1), some (funD b.n b.pay), none]) :=
    par_to (a_cons (bin_eq (tup_eq (a_cons rfl a_nil) (show (1 : Nat) ≤ 100000 by decide)) (un_eq (v_eq rfl) (att_size b)) hrep) (a_cons (un_eq (v_eq rfl) (att_pays b)) a_nil)) rfl
  exact runP_rt ((seq_nx hp).trans ((seq_nx (set_to (ca_eq (a_cons (v_eq rfl) (a_cons (v_eq rfl) (a_cons (v_eq rfl) a_nil))) (F_improved_for_eq b ok b.pay s0 _)) rfl)).trans ((seq_nx (while_to h1)).trans (ret_eq (v_eq rfl)))))
theorem tiny_vals (b : Bo) (ok : b.Ok) {Q P W : Nat} (tn : Tiny b Q P W) : HasVals b := fun σ w => F_value_eq b ok tn w
end Z
/-! The lottery of a stake: equal results make one pair. -/
namespace Z
abbrev KV := List (Int × Int)
def lookK (k : Int) : KV → Option Int
  | [] => none
  | p :: l => if p.1 = k then some p.2 else lookK k l
def addK (kv : KV) (k w : Int) : KV := if k ∈ kv.map (·.1) then kv.map (fun p => if p.1 = k then (p.1, (lookK k kv).getD 0 + w) else p) else kv ++ [(k, w)]
def mergeK (out : Int → Int) : KV → List (Int × Int) → KV
  | kv, [] => kv
  | kv, p :: l => mergeK out (addK kv (out p.1) p.2) l
theorem lookK_none {k : Int} : ∀ {l : KV}, k ∉ l.map (·.1) → lookK k l = none
  | [], _ => rfl
  | p :: l, h => by
    rw [List.map_cons, List.mem_cons, not_or] at h
    rw [lookK, if_neg (Ne.symm h.1), lookK_none h.2]
theorem lookK_mem : ∀ {l : KV}, (l.map (·.1)).Nodup → ∀ p ∈ l, lookK p.1 l = some p.2
  | [], _, p, h => by cases h
  | q :: l, hn, p, h => by
    rw [List.map_cons] at hn
    obtain ⟨h1, h2⟩ := List.nodup_cons.mp hn
    rw [lookK]
    rcases List.mem_cons.mp h with rfl | h
    · rw [if_pos rfl]
    · have hne : q.1 ≠ p.1 := fun e => h1 (by rw [e]; exact List.mem_map.mpr ⟨p, h, rfl⟩)
      rw [if_neg hne, lookK_mem h2 p h]
theorem addK_keys (kv : KV) (k w : Int) : (addK kv k w).map (·.1) = if k ∈ kv.map (·.1) then kv.map (·.1) else kv.map (·.1) ++ [k] := by
  unfold addK
  split
  · rw [List.map_map]
    refine List.map_congr_left fun p _ => ?_
    show (if p.1 = k then (p.1, _) else p).1 = p.1
    split <;> rfl
  · rw [List.map_append]
    rfl
theorem addK_nodup {kv : KV} (k w : Int) (h : (kv.map (·.1)).Nodup) : ((addK kv k w).map (·.1)).Nodup := by
  rw [addK_keys]
  split
  · exact h
  · rename_i hk
    rw [List.nodup_append]
    exact ⟨h, by simp, fun a ha b hb => by
      rw [List.mem_singleton] at hb
      subst hb
      exact fun e => hk (e ▸ ha)⟩
/-- the sum of weight times h at the key -/
def sumK (h : Int → Rat) (kv : KV) : Rat := (kv.map fun p => (p.2 : Rat) * h p.1).sum
theorem sumK_cons (h : Int → Rat) (p : Int × Int) (l : KV) : sumK h (p :: l) = (p.2 : Rat) * h p.1 + sumK h l := rfl
theorem sumK_app (h : Int → Rat) (q : Int × Int) : ∀ l : KV, sumK h (l ++ [q]) = sumK h l + (q.2 : Rat) * h q.1
  | [] => by
    show (q.2 : Rat) * h q.1 + 0 = 0 + (q.2 : Rat) * h q.1
    grind
  | p :: l => by
    rw [List.cons_append, sumK_cons, sumK_cons, sumK_app h q l]
    grind
theorem map_ne_self {α : Type} (k : Int) (g : Int × Int → Int × Int) : ∀ {l : KV}, k ∉ l.map (·.1) → l.map (fun p => if p.1 = k then g p else p) = l
  | [], _ => rfl
  | p :: l, h => by
    rw [List.map_cons, List.mem_cons, not_or] at h
    rw [List.map_cons, if_neg (Ne.symm h.1), map_ne_self (α := α) k g h.2]
theorem sumK_upd (h : Int → Rat) (k w c : Int) : ∀ {l : KV}, (l.map (·.1)).Nodup → k ∈ l.map (·.1) → lookK k l = some c → sumK h (l.map fun p => if p.1 = k then (p.1, c + w) else p) = sumK h l + (w : Rat) * h k
  | [], _, hm, _ => by cases hm
  | p :: l, hn, hm, hc => by
    rw [List.map_cons] at hn hm
    obtain ⟨h1, h2⟩ := List.nodup_cons.mp hn
    rw [List.map_cons, sumK_cons]
    by_cases e : p.1 = k
    · rw [lookK, if_pos e] at hc
      cases hc
      rw [if_pos e, map_ne_self (α := Nat) k (fun q => (q.1, p.2 + w)) (e ▸ h1), sumK_cons]
      show ((p.2 + w : Int) : Rat) * h p.1 + _ = _
      rw [Rat.intCast_add, e]
      grind
    · rw [lookK, if_neg e] at hc
      rcases List.mem_cons.mp hm with h3 | h3
      · exact absurd h3.symm e
      · rw [if_neg e, sumK_cons, sumK_upd h k w c h2 h3 hc]
        grind
theorem lookK_some {k : Int} : ∀ {l : KV}, k ∈ l.map (·.1) → ∃ c, lookK k l = some c ∧ (k, c) ∈ l
  | [], h => by cases h
  | p :: l, h => by
    rw [List.map_cons] at h
    rw [lookK]
    by_cases e : p.1 = k
    · rw [if_pos e]
      subst e
      exact ⟨p.2, rfl, List.mem_cons_self ..⟩
    · rw [if_neg e]
      rcases List.mem_cons.mp h with h3 | h3
      · exact absurd h3.symm e
      · obtain ⟨c, h4, h5⟩ := lookK_some h3
        exact ⟨c, h4, List.mem_cons_of_mem _ h5⟩
theorem addK_sum (h : Int → Rat) {kv : KV} (k w : Int) (hn : (kv.map (·.1)).Nodup) : sumK h (addK kv k w) = sumK h kv + (w : Rat) * h k := by
  unfold addK
  split
  · rename_i hk
    obtain ⟨c, hc, _⟩ := lookK_some hk
    rw [hc]
    exact sumK_upd h k w c hn hk hc
  · exact sumK_app h (k, w) kv
/-- what holds of the dict after some outs: bounds of keys and weights -/
structure KvOk (g : Int) (i W : Nat) (kv : KV) : Prop where
  nd : (kv.map (·.1)).Nodup
  len : kv.length ≤ i
  key : ∀ p ∈ kv, 0 ≤ p.1 ∧ p.1 ≤ g
  w : ∀ p ∈ kv, 0 < p.2 ∧ p.2 ≤ W
theorem KvOk.add {g : Int} {i W U : Nat} {kv : KV} (h : KvOk g i W kv) {k w : Int} (hk : 0 ≤ k ∧ k ≤ g) (hw : 0 < w ∧ w ≤ U) : KvOk g (i + 1) (W + U) (addK kv k w) := by
  refine ⟨addK_nodup k w h.nd, ?_, ?_, ?_⟩
  · have := congrArg List.length (addK_keys kv k w)
    rw [List.length_map] at this
    rw [this]
    have := h.len
    split
    · rw [List.length_map]
      omega
    · rw [List.length_append, List.length_map]
      simp
      omega
  · intro p hp
    have : p.1 ∈ (addK kv k w).map (·.1) := List.mem_map.mpr ⟨p, hp, rfl⟩
    rw [addK_keys] at this
    split at this
    · obtain ⟨q, hq, e⟩ := List.mem_map.mp this
      rw [← e]
      exact h.key q hq
    · rcases List.mem_append.mp this with h1 | h1
      · obtain ⟨q, hq, e⟩ := List.mem_map.mp h1
        rw [← e]
        exact h.key q hq
      · rw [List.mem_singleton] at h1
        rw [h1]
        exact hk
  · intro p hp
    unfold addK at hp
    split at hp
    · rename_i hm
      obtain ⟨c, hc, hcm⟩ := lookK_some hm
      obtain ⟨q, hq, e⟩ := List.mem_map.mp hp
      have hwq := h.w q hq
      have hwc := h.w _ hcm
      rw [hc] at e
      have hwc1 : 0 < c ∧ c ≤ W := hwc
      split at e
      · subst e
        show 0 < c + w ∧ c + w ≤ ((W + U : Nat) : Int)
        omega
      · subst e
        omega
    · rcases List.mem_append.mp hp with h1 | h1
      · have := h.w p h1
        omega
      · rw [List.mem_singleton] at h1
        subst h1
        show 0 < w ∧ w ≤ ((W + U : Nat) : Int)
        omega
theorem mergeK_ok {g : Int} {U : Nat} {out : Int → Int} : ∀ (outs : List (Int × Int)) (kv : KV) (i W : Nat), KvOk g i W kv → (∀ p ∈ outs, (0 ≤ out p.1 ∧ out p.1 ≤ g) ∧ 0 < p.2 ∧ p.2 ≤ U) → KvOk g (i + outs.length) (W + outs.length * U) (mergeK out kv outs)
  | [], kv, i, W, h, _ => by
    rw [List.length_nil, Nat.zero_mul]
    exact h
  | p :: l, kv, i, W, h, hp => by
    obtain ⟨h1, h2⟩ := hp p (List.mem_cons_self ..)
    have := mergeK_ok l (addK kv (out p.1) p.2) (i + 1) (W + U) (h.add h1 h2) fun q hq => hp q (List.mem_cons_of_mem _ hq)
    rw [List.length_cons, Nat.succ_mul, show i + (l.length + 1) = i + 1 + l.length by omega, show W + (l.length * U + U) = W + U + l.length * U by omega]
    exact this
theorem mergeK_sum (h : Int → Rat) (out : Int → Int) : ∀ (outs : List (Int × Int)) (kv : KV), (kv.map (·.1)).Nodup → sumK h (mergeK out kv outs) = sumK h kv + (outs.map fun p => (p.2 : Rat) * h (out p.1)).sum
  | [], kv, _ => by
    show sumK h kv = sumK h kv + 0
    grind
  | p :: l, kv, hn => by
    rw [mergeK, mergeK_sum h out l _ (addK_nodup _ _ hn), addK_sum h _ _ hn, List.map_cons, List.sum_cons]
    grind
theorem mergeK_ne (out : Int → Int) : ∀ (outs : List (Int × Int)) (kv : KV), (outs ≠ [] ∨ kv ≠ []) → mergeK out kv outs ≠ []
  | [], kv, h => by
    rcases h with h | h
    · exact absurd rfl h
    · exact h
  | p :: l, kv, _ => by
    refine mergeK_ne out l _ (.inr ?_)
    unfold addK
    split
    · rename_i hm
      intro e
      have := List.map_eq_nil_iff.mp e
      subst this
      cases hm
    · simp
/-- the pairs by ascending keys -/
def sortK (kv : KV) : Lot := (sortI (kv.map (·.1))).map fun k => (k.toNat, (lookK k kv).getD 0)
theorem sum_perm {α : Type} (f : α → Rat) {l l' : List α} (h : l.Perm l') : (l.map f).sum = (l'.map f).sum := by
  induction h with
  | nil => rfl
  | cons x _ ih => rw [List.map_cons, List.map_cons, List.sum_cons, List.sum_cons, ih]
  | swap x y l =>
    simp only [List.map_cons, List.sum_cons]
    grind
  | trans _ _ ih1 ih2 => rw [ih1, ih2]
theorem sortK_sum (f : Nat → Rat) {kv : KV} (hn : (kv.map (·.1)).Nodup) : avgSum f (sortK kv) = sumK (fun k => f k.toNat) kv := by
  unfold avgSum sortK
  rw [List.map_map]
  refine Eq.trans (sum_perm _ (sortI_perm _)) ?_
  rw [List.map_map]
  unfold sumK
  congr 1
  refine List.map_congr_left fun p hp => ?_
  show (((lookK p.1 kv).getD 0 : Int) : Rat) * f p.1.toNat = (p.2 : Rat) * f p.1.toNat
  rw [lookK_mem hn p hp]
  rfl
theorem sortK_mem {kv : KV} (hn : (kv.map (·.1)).Nodup) {q : Nat × Int} (h : q ∈ sortK kv) : ∃ p ∈ kv, q = (p.1.toNat, p.2) := by
  obtain ⟨k, hk, rfl⟩ := List.mem_map.mp h
  have hk2 := (sortI_perm _).mem_iff.mp hk
  obtain ⟨p, hp, rfl⟩ := List.mem_map.mp hk2
  exact ⟨p, hp, by rw [lookK_mem hn p hp]; rfl⟩
theorem sortK_len (kv : KV) : (sortK kv).length = kv.length := by
  unfold sortK
  rw [List.length_map, (sortI_perm _).length_eq, List.length_map]
theorem sortK_asc {kv : KV} (hn : (kv.map (·.1)).Nodup) (hk : ∀ p ∈ kv, 0 ≤ p.1) : ((sortK kv).map (·.1)).Pairwise (· < ·) := by
  unfold sortK
  rw [List.map_map, List.pairwise_map]
  have h1 := sortI_sorted (kv.map (·.1))
  have h2 : (sortI (kv.map (·.1))).Nodup := ((sortI_perm _).nodup_iff).mpr hn
  have h3 : ∀ k ∈ sortI (kv.map (·.1)), 0 ≤ k := fun k hk2 => by
    obtain ⟨p, hp, rfl⟩ := List.mem_map.mp ((sortI_perm _).mem_iff.mp hk2)
    exact hk p hp
  have h4 := List.pairwise_and_iff.mpr ⟨h1, h2⟩
  refine List.Pairwise.imp_of_mem (fun {a b} ha hb h => ?_) h4
  have := h3 a ha
  have := h3 b hb
  show a.toNat < b.toNat
  have h5 := h.1
  have h6 : a ≠ b := h.2
  omega
theorem asc_nodup {l : List Nat} (h : l.Pairwise (· < ·)) : l.Nodup := h.imp fun h => Nat.ne_of_lt h
end Z
/-! Tables, on data. -/
namespace Z
open PySem
theorem not_t {ta : MT} {ρ ρ1 : Env} (h : ta ρ = some (true, ρ1)) : tNotM ta ρ = some (false, ρ1) := not_eq h
theorem not_f {ta : MT} {ρ ρ1 : Env} (h : ta ρ = some (false, ρ1)) : tNotM ta ρ = some (true, ρ1) := not_eq h
theorem isi_str_t (z : Str) : isiD "str" (.str z) = some (.bl true) := rfl
theorem isi_tup_t (l : List D) : isiD "tuple" (.tup l) = some (.bl true) := rfl
theorem isi_int_t (i : Int) : isiD "int" (.int i) = some (.bl true) := rfl
theorem isi_bool_int (i : Int) : isiD "bool" (.int i) = some (.bl false) := rfl
theorem tru_bl (b : Bool) : truD (.bl b) = some b := rfl
structure Tb where
  name : Str
  outs : List (Int × Int)
  low : Nat
  high : Nat
  step : Nat
  fee : Nat
  /-- the outs are a tuple of the kind that dict takes -/
  pl : Bool
def outD (p : Int × Int) : D := .tup [.int p.1, .int p.2]
def outsL (b : Bool) (l : List (Int × Int)) : D := match b with
  | true => .pt (l.map outD)
  | false => .tup (l.map outD)
theorem outsL_isi (b : Bool) (l : List (Int × Int)) : isiD "tuple" (outsL b l) = some (.bl true) := by cases b <;> rfl
theorem outsL_len (b : Bool) (l : List (Int × Int)) : lenD [outsL b l] = some (.int (l.length : Nat)) := by cases b <;> simp [outsL, lenD]
theorem outsL_seq {b : Bool} {l : List (Int × Int)} {f : M} {ρ ρ1 : Env} (h : f ρ = some (outsL b l, ρ1)) : iSeq f ρ = some (l.map outD, ρ1) := by
  unfold iSeq
  rw [h]
  cases b <;> rfl
def tbD (t : Tb) : D := .tup [.str t.name, outsL t.pl t.outs, .int t.low, .int t.high, .int t.step, .int t.fee]
def letters : Str := "abcdefghijklmnopqrstuvwxyz"
structure NameOk (z : Str) : Prop where
  l1 : 1 ≤ z.length
  l4 : z.length ≤ 4
  ab : ∀ c ∈ z.cps.toList, c ∈ letters.cps.toList
  ok : PyData.strOk z = true
structure OutsOk (l : List (Int × Int)) : Prop where
  ne : l ≠ []
  l6 : l.length ≤ 6
  asc : l.Pairwise fun p q => p.1 < q.1
  rng : ∀ p ∈ l, -1 ≤ p.1 ∧ p.1 ≤ 9 ∧ 1 ≤ p.2 ∧ p.2 ≤ 99
structure TbOk (t : Tb) : Prop where
  name : NameOk t.name
  outs : OutsOk t.outs
  low : 1 ≤ t.low ∧ t.low ≤ t.high
  high : t.high ≤ 39
  step : 1 ≤ t.step ∧ t.step ≤ 39
  fee : t.fee ≤ 9
theorem F_is_number_int (i : Int) : F_is_number [.int i] = some (.bl true) := rfl
theorem F_is_within_int (i a c : Int) : F_is_within [.int i, .int a, .int c] = some (.bl (decide (a ≤ i) && decide (i ≤ c))) := by
  have e : eChain leD leD (eVar 1) (eVar 0) (eVar 2) (envOf 0 [.int i, .int a, .int c]) = some (.bl (decide (a ≤ i) && decide (i ≤ c)), envOf 0 [.int i, .int a, .int c]) := by
    by_cases h : a ≤ i
    · simp [eChain, eVar, envOf, leD, h]
    · simp [eChain, eVar, envOf, leD, h]
  exact runP_rt (ret_eq ((eand_t (ca_eq (a_cons (v_eq rfl) a_nil) (F_is_number_int i))).trans e))
theorem F_is_within_t {i a c : Int} (h1 : a ≤ i) (h2 : i ≤ c) : F_is_within [.int i, .int a, .int c] = some (.bl true) := by
  rw [F_is_within_int, decide_eq_true h1, decide_eq_true h2]
  rfl
theorem F_is_name_eq {z : Str} (h : NameOk z) : F_is_name [.str z] = some (.bl true) := by
  have hl : z.length ≤ 100000 := by have := h.l4; omega
  have e1 : tNotM (tTr (eUn (isiD "str") (eVar 0))) (envOf 0 [.str z]) = some (false, envOf 0 [.str z]) := not_t (tr_eq (un_eq (v_eq rfl) (isi_str_t z)) (tru_bl _))
  have e2 : tNotM (tBl (eChain leD leD (eC (.int 1)) (eCa lenD (aCons (eVar 0) aNil)) (eC (.int 4)))) (envOf 0 [.str z]) = some (false, envOf 0 [.str z]) := by
    have h1 := h.l1
    have h4 := h.l4
    have a1 : (1 : Int) ≤ (z.length : Int) := by omega
    have a2 : (z.length : Int) ≤ 4 := by omega
    simp [tNotM, tBl, eChain, eC, eCa, aCons, aNil, eVar, envOf, lenD, hl, leD, a1, a2]
  have e3 : allInD "abcdefghijklmnopqrstuvwxyz" (.str z) = some (.bl true) := by
    have : (z.cps.toList.all fun c => decide (c ∈ letters.cps.toList)) = true := List.all_eq_true.mpr fun c hc => decide_eq_true (h.ab c hc)
    show some (D.bl (z.cps.toList.all fun c => decide (c ∈ letters.cps.toList))) = _
    rw [this]
  exact runP_rt ((seq_nx ((if_f ((or_f e1).trans e2)).trans rfl)).trans (ret_eq (un_eq (v_eq rfl) e3)))
abbrev aoB : MS := sSeq (sIf (tOrM (tNotM (tTr (eUn (isiD "tuple") (eVar 2)))) (tBl (eBin neD (eCa lenD (aCons (eVar 2) aNil)) (eC (.int 2))))) (sRet (eC (.bl false))) sNil) (sSeq (sTgt (gtT 2 (gtCons (gtN 3) (gtCons (gtN 4) gtNil))) (eVar 2)) (sSeq (sIf (tOrM (tNotM (tTr (eCa F_is_within (aCons (eVar 3) (aCons (eBin addD (eVar 1) (eC (.int 1))) (aCons (eC (.int 9)) aNil)))))) (tNotM (tTr (eCa F_is_within (aCons (eVar 4) (aCons (eC (.int 1)) (aCons (eC (.int 99)) aNil))))))) (sRet (eC (.bl false))) sNil) (sSet 1 (eVar 3))))
theorem eqD_len2 (a b : D) : neD (.int (([a, b] : List D).length : Nat)) (.int 2) = some (.bl false) := by
  rw [neD_int]
  rfl
theorem ao_loop (A : D) : ∀ (l : List (Int × Int)) (c : Int) (u v w : Option D), l.Pairwise (fun p q => p.1 < q.1) → (∀ p ∈ l, c < p.1 ∧ p.1 ≤ 9 ∧ 1 ≤ p.2 ∧ p.2 ≤ 99) → ∃ ρ, forG (gtN 2) aoB (l.map outD) [some A, some (.int c), u, v, w] = some (.nx ρ)
  | [], c, u, v, w, _, _ => ⟨_, rfl⟩
  | p :: l, c, u, v, w, hs, h => by
    obtain ⟨h1, h2, h3, h4⟩ := h p (List.mem_cons_self ..)
    obtain ⟨s1, s2⟩ := List.pairwise_cons.mp hs
    obtain ⟨ρ, hρ⟩ := ao_loop A l p.1 (some (outD p)) (some (.int p.1)) (some (.int p.2)) s2 fun q hq => by
      have := h q (List.mem_cons_of_mem _ hq)
      exact ⟨s1 q hq, this.2⟩
    refine ⟨ρ, (forG_nx (ρ1 := [some A, some (.int c), some (outD p), v, w]) (ρ2 := [some A, some (.int p.1), some (outD p), some (.int p.1), some (.int p.2)]) rfl ?_).trans hρ⟩
    have t1 : tOrM (tNotM (tTr (eUn (isiD "tuple") (eVar 2)))) (tBl (eBin neD (eCa lenD (aCons (eVar 2) aNil)) (eC (.int 2)))) [some A, some (.int c), some (outD p), v, w] = some (false, [some A, some (.int c), some (outD p), v, w]) :=
      (or_f (not_t (tr_eq (un_eq (v_eq rfl) (isi_tup_t _)) (tru_bl _)))).trans (bl_eq (bin_eq (ca_eq (a_cons (v_eq rfl) a_nil) rfl) rfl (eqD_len2 _ _)))
    have t2 : tOrM (tNotM (tTr (eCa F_is_within (aCons (eVar 3) (aCons (eBin addD (eVar 1) (eC (.int 1))) (aCons (eC (.int 9)) aNil)))))) (tNotM (tTr (eCa F_is_within (aCons (eVar 4) (aCons (eC (.int 1)) (aCons (eC (.int 99)) aNil)))))) [some A, some (.int c), some (outD p), some (.int p.1), some (.int p.2)] = some (false, [some A, some (.int c), some (outD p), some (.int p.1), some (.int p.2)]) :=
      (or_f (not_t (tr_eq (ca_eq (a_cons (v_eq rfl) (a_cons (bin_eq (v_eq rfl) rfl rfl) (a_cons rfl a_nil))) (F_is_within_t (show c + 1 ≤ p.1 by omega) h2)) rfl))).trans (not_t (tr_eq (ca_eq (a_cons (v_eq rfl) (a_cons rfl (a_cons rfl a_nil))) (F_is_within_t h3 h4)) rfl))
    exact (seq_nx ((if_f t1).trans rfl)).trans ((seq_nx (tgt_eq (v_eq rfl) rfl)).trans ((seq_nx ((if_f t2).trans rfl)).trans (set_to (v_eq rfl) rfl)))
theorem F_are_outs_eq {b : Bool} {l : List (Int × Int)} (h : OutsOk l) : F_are_outs [outsL b l] = some (.bl true) := by
  have e1 : tNotM (tTr (eUn (isiD "tuple") (eVar 0))) (envOf 4 [outsL b l]) = some (false, envOf 4 [outsL b l]) := not_t (tr_eq (un_eq (v_eq rfl) (outsL_isi b l)) (tru_bl _))
  have e2 : tNotM (tBl (eChain leD leD (eC (.int 1)) (eCa lenD (aCons (eVar 0) aNil)) (eC (.int (6))))) (envOf 4 [outsL b l]) = some (false, envOf 4 [outsL b l]) := by
    have h1 := List.length_pos_iff.mpr h.ne
    have h4 := h.l6
    have a1 : (1 : Int) ≤ (l.length : Int) := by omega
    have a2 : (l.length : Int) ≤ 6 := by omega
    have hl := outsL_len b l
    simp [tNotM, tBl, eChain, eC, eCa, aCons, aNil, eVar, envOf, hl, leD, a1, a2]
  obtain ⟨ρ, hρ⟩ := ao_loop (outsL b l) l (-2) none none none h.asc fun p hp => by
    have := h.rng p hp
    omega
  exact runP_rt ((seq_nx ((if_f ((or_f e1).trans e2)).trans rfl)).trans ((seq_nx (set_to (un_eq (op := negD) (a := .int 2) (d := .int (-2)) rfl rfl) rfl)).trans ((seq_nx ((for_eq (outsL_seq (v_eq rfl))).trans hρ)).trans (ret_eq rfl))))
theorem F_is_table_eq {t : Tb} (h : TbOk t) : F_is_table [tbD t] = some (.bl true) := by
  have e1 : tOrM (tNotM (tTr (eUn (isiD "tuple") (eVar 0)))) (tBl (eBin neD (eCa lenD (aCons (eVar 0) aNil)) (eC (.int 6)))) (envOf 6 [tbD t]) = some (false, envOf 6 [tbD t]) :=
    (or_f (not_t (tr_eq (un_eq (v_eq rfl) (isi_tup_t _)) (tru_bl _)))).trans (bl_eq (bin_eq (ca_eq (a_cons (v_eq rfl) a_nil) rfl) rfl (neD_int 6 6)))
  have l1 := h.low
  have l2 := h.high
  have l3 := h.step
  have l4 := h.fee
  have w1 : F_is_within [.int t.low, .int 1, .int 39] = some (.bl true) := F_is_within_t (by omega) (by omega)
  have w2 : F_is_within [.int t.high, .int t.low, .int 39] = some (.bl true) := F_is_within_t (by omega) (by omega)
  have w3 : F_is_within [.int t.step, .int 1, .int 39] = some (.bl true) := F_is_within_t (by omega) (by omega)
  have w4 : F_is_within [.int t.fee, .int 0, .int 9] = some (.bl true) := F_is_within_t (by omega) (by omega)
  have t1 : sTgt (gtT 6 (gtCons (gtN 1) (gtCons (gtN 2) (gtCons (gtN 3) (gtCons (gtN 4) (gtCons (gtN 5) (gtCons (gtN 6) gtNil))))))) (eVar 0) (envOf 6 [tbD t]) = some (.nx [some (tbD t), some (.str t.name), some (outsL t.pl t.outs), some (.int t.low), some (.int t.high), some (.int t.step), some (.int t.fee)]) := rfl
  exact runP_rt ((seq_nx ((if_f e1).trans rfl)).trans ((seq_nx t1).trans ((seq_nx ((if_f ((or_f (not_t (tr_eq (ca_eq (a_cons (v_eq rfl) a_nil) (F_is_name_eq h.name)) rfl))).trans (not_t (tr_eq (ca_eq (a_cons (v_eq rfl) a_nil) (F_are_outs_eq h.outs)) rfl)))).trans rfl)).trans
    ((seq_nx ((if_f ((or_f (not_t (tr_eq (ca_eq (a_cons (v_eq rfl) (a_cons rfl (a_cons rfl a_nil))) w1) rfl))).trans (not_t (tr_eq (ca_eq (a_cons (v_eq rfl) (a_cons (v_eq rfl) (a_cons rfl a_nil))) w2) rfl)))).trans rfl)).trans
    (ret_eq ((eand_t (ca_eq (a_cons (v_eq rfl) (a_cons rfl (a_cons rfl a_nil))) w3)).trans (ca_eq (a_cons (v_eq rfl) (a_cons rfl (a_cons rfl a_nil))) w4)))))))
/-! ### stakes -/
def nStk (t : Tb) : Nat := (t.high - t.low) / t.step + 1
def stk (t : Tb) : List Nat := (List.range (nStk t)).map fun k => t.low + k * t.step
theorem nStk_le {t : Tb} (h : TbOk t) : nStk t ≤ 39 := by
  unfold nStk
  have : (t.high - t.low) / t.step ≤ t.high - t.low := Nat.div_le_self _ _
  have := h.high
  have := h.low
  omega
theorem F_stakes_eq {t : Tb} (h : TbOk t) : F_stakes [tbD t] = some (.tup (natsD (stk t))) := by
  have l1 := h.low
  have l2 := h.high
  have l3 := h.step
  have ln := nStk_le h
  have t1 : sTgt (gtT 6 (gtCons (gtN 1) (gtCons (gtN 2) (gtCons (gtN 3) (gtCons (gtN 4) (gtCons (gtN 5) (gtCons (gtN 6) gtNil))))))) (eVar 0) (envOf 7 [tbD t]) = some (.nx [some (tbD t), some (.str t.name), some (outsL t.pl t.outs), some (.int t.low), some (.int t.high), some (.int t.step), some (.int t.fee), none]) := rfl
  have hd : fdivD (.int ((t.high : Int) - (t.low : Int))) (.int t.step) = some (.int (((t.high - t.low) / t.step : Nat) : Int)) := by
    have hne : (t.step : Int) ≠ 0 := by omega
    have hb : ((t.step : Int)).natAbs < BIG := Nat.lt_of_le_of_lt (show _ ≤ 39 by simp; omega) (by decide +kernel)
    have e : ((t.high : Int) - (t.low : Int)).fdiv (t.step : Int) = (((t.high - t.low) / t.step : Nat) : Int) := by
      rw [Int.fdiv_eq_ediv_of_nonneg _ (Int.natCast_nonneg _), Int.natCast_ediv]
      congr 1
      omega
    unfold fdivD
    rw [← e]
    exact if_pos ⟨hne, hb⟩
  have hr : iRngM (aCons (eBin addD (eBin fdivD (eBin subD (eVar 4) (eVar 3)) (eVar 5)) (eC (.int 1))) aNil) [some (tbD t), some (.str t.name), some (outsL t.pl t.outs), some (.int t.low), some (.int t.high), some (.int t.step), some (.int t.fee), none] = some (natsD (List.range (nStk t)), [some (tbD t), some (.str t.name), some (outsL t.pl t.outs), some (.int t.low), some (.int t.high), some (.int t.step), some (.int t.fee), none]) :=
    rng1 (a_cons (bin_eq (bin_eq (bin_eq (v_eq rfl) (v_eq rfl) rfl) (v_eq rfl) hd) rfl (by unfold nStk addD; simp)) a_nil) (by omega)
  have hl := eLc_pureT (fi := iRngM (aCons (eBin addD (eBin fdivD (eBin subD (eVar 4) (eVar 3)) (eVar 5)) (eC (.int 1))) aNil)) (vs := [7]) (gt := gtN 7) (f := eBin addD (eVar 3) (eBin mulD (eVar 7) (eVar 5))) (ρ := [some (tbD t), some (.str t.name), some (outsL t.pl t.outs), some (.int t.low), some (.int t.high), some (.int t.step), some (.int t.fee), none]) (ρw := [some (tbD t), some (.str t.name), some (outsL t.pl t.outs), some (.int t.low), some (.int t.high), some (.int t.step), some (.int t.fee), none]) hr rfl (fun d => match d with
      | .int k => .int ((t.low : Int) + k * (t.step : Int))
      | _ => .non) (fun d hd => by
        obtain ⟨k, hk, rfl⟩ := List.mem_map.mp hd
        refine ⟨[some (tbD t), some (.str t.name), some (outsL t.pl t.outs), some (.int t.low), some (.int t.high), some (.int t.step), some (.int t.fee), some (natD k)], rfl, ?_, rfl⟩
        refine bin_eq (v_eq rfl) (bin_eq (v_eq rfl) (v_eq rfl) (d := .int ((k : Int) * (t.step : Int))) ?_) rfl
        refine if_pos (.inr (.inl ?_))
        show (t.step : Int).natAbs < L64
        exact Nat.lt_of_le_of_lt (show _ ≤ 39 by simp; omega) (by decide +kernel)) (by simp [natsD]; omega)
  have hm : (natsD (List.range (nStk t))).map (fun d => match d with
      | .int k => .int ((t.low : Int) + k * (t.step : Int))
      | _ => D.non) = natsD (stk t) := by
    unfold natsD stk
    rw [List.map_map, List.map_map]
    refine List.map_congr_left fun k _ => ?_
    simp [natD]
  rw [hm] at hl
  exact runP_rt ((seq_nx t1).trans (ret_eq (ca_eq (a_cons hl a_nil) rfl)))
end Z
/-! The lottery of a stake, on data. -/
namespace Z
open PySem
def outZ (g : Nat) (t : Tb) (x s : Nat) (gain : Int) : Int := min (g : Int) ((x : Int) - t.fee + gain * s)
theorem any_nat (s : Nat) (l : List Nat) : (natsD l).any (fun e => D.eqb e (.int s)) = decide (s ∈ l) := by
  induction l with
  | nil => rfl
  | cons y l ih =>
    simp only [natsD, List.map_cons, List.any_cons] at ih ⊢
    rw [ih]
    by_cases h : s = y
    · subst h
      simp [natD, D.eqb]
    · have h1 : ¬ ((y : Int) = (s : Int)) := by omega
      simp [natD, D.eqb, h, h1]
theorem flat_nats (l : List Nat) : (natsD l).all D.flat = true := by
  rw [List.all_eq_true]
  intro d hd
  obtain ⟨x, _, rfl⟩ := List.mem_map.mp hd
  rfl
theorem ninD_nats (s : Nat) (l : List Nat) : ninD (.int s) (.tup (natsD l)) = some (.bl (!decide (s ∈ l))) := by
  have h : D.flat (.int s) = true ∧ (natsD l).all D.flat = true := ⟨rfl, flat_nats l⟩
  refine (if_pos h).trans ?_
  rw [any_nat]
theorem F_out_of_eq {t : Tb} (h : TbOk t) {g x s : Nat} (hs : s ∈ stk t) (hx : s + t.fee ≤ x) (gain : Int) (hB : s < 1000) : F_out_of [.int g, tbD t, .int x, .int s, .int gain] = some (.int (outZ g t x s gain)) := by
  have t1 : tOrM (tBl (eBin ninD (eVar 3) (eCa F_stakes (aCons (eVar 1) aNil)))) (tBl (eBin gtD (eBin addD (eVar 3) (eBin ixD (eVar 1) (eC (.int 5)))) (eVar 2))) (envOf 0 [.int g, tbD t, .int x, .int s, .int gain]) = some (false, envOf 0 [.int g, tbD t, .int x, .int s, .int gain]) := by
    refine (or_f (bl_eq (bin_eq (v_eq rfl) (ca_eq (a_cons (v_eq rfl) a_nil) (F_stakes_eq h)) ?_))).trans (bl_eq (bin_eq (bin_eq (v_eq rfl) (bin_eq (v_eq rfl) rfl (d := .int t.fee) rfl) rfl) (v_eq rfl) ?_))
    · rw [ninD_nats, decide_eq_true hs]
      rfl
    · have : ¬ ((x : Int) < (s : Int) + (t.fee : Int)) := by omega
      show some (D.bl (decide ((x : Int) < (s : Int) + (t.fee : Int)))) = _
      rw [decide_eq_false this]
  have m1 : mulD (.int gain) (.int s) = some (.int (gain * s)) := if_pos (.inr (.inl (Nat.lt_of_lt_of_le (show ((s : Int)).natAbs < 1000 by simpa using hB) (by decide +kernel))))
  have m2 : min2D [.int g, .int ((x : Int) - t.fee + gain * s)] = some (.int (outZ g t x s gain)) := by
    show some (D.int (if (x : Int) - t.fee + gain * s < g then (x : Int) - t.fee + gain * s else g)) = some (.int (min (g : Int) ((x : Int) - t.fee + gain * s)))
    by_cases hc : (x : Int) - t.fee + gain * s < g
    · rw [if_pos hc, Int.min_eq_right (by omega)]
    · rw [if_neg hc, Int.min_eq_left (by omega)]
  exact runP_rt ((seq_nx ((if_f t1).trans rfl)).trans (ret_eq (ca_eq (a_cons (v_eq rfl) (a_cons (bin_eq (bin_eq (v_eq rfl) (bin_eq (v_eq rfl) rfl (d := .int t.fee) rfl) rfl) (bin_eq (v_eq rfl) (v_eq rfl) m1) rfl) a_nil)) m2)))
/-! ### dicts of ints -/
def dicD (kv : KV) : D := .dic (kv.map fun p => (Sum.inl p.1 : L2.Key)) (kv.map fun p => .int p.2)
theorem lookD_kv (k : Int) : ∀ kv : KV, lookD (Sum.inl k : L2.Key) (kv.map fun p => (Sum.inl p.1 : L2.Key)) (kv.map fun p => .int p.2) = (lookK k kv).map D.int
  | [] => rfl
  | p :: l => by
    rw [List.map_cons, List.map_cons, lookD, lookK, lookD_kv k l]
    by_cases h : p.1 = k
    · have h2 : (Sum.inl p.1 : L2.Key) = Sum.inl k := by rw [h]
      rw [if_pos h2, if_pos h]
      rfl
    · have h2 : ¬ ((Sum.inl p.1 : L2.Key) = Sum.inl k) := fun e => h (Sum.inl.inj e)
      rw [if_neg h2, if_neg h]
theorem any_kv (k : Int) : ∀ kv : KV, ((kv.map fun p => (Sum.inl p.1 : L2.Key)).any fun j => decide (j = (Sum.inl k : L2.Key))) = decide (k ∈ kv.map (·.1))
  | [] => rfl
  | p :: l => by
    rw [List.map_cons, List.any_cons, any_kv k l, List.map_cons]
    by_cases h : p.1 = k
    · have h2 : (Sum.inl p.1 : L2.Key) = Sum.inl k := by rw [h]
      rw [decide_eq_true h2]
      simp [h]
    · have h2 : ¬ ((Sum.inl p.1 : L2.Key) = Sum.inl k) := fun e => h (Sum.inl.inj e)
      have h3 : ¬ (k = p.1) := fun e => h e.symm
      rw [decide_eq_false h2]
      simp [h3]
theorem repKD_kv (k v : Int) : ∀ kv : KV, repKD (Sum.inl k : L2.Key) (.int v) (kv.map fun p => (Sum.inl p.1 : L2.Key)) (kv.map fun p => .int p.2) = (kv.map fun p => if p.1 = k then (p.1, v) else p).map fun p => D.int p.2
  | [] => rfl
  | p :: l => by
    rw [List.map_cons, List.map_cons, repKD, repKD_kv k v l, List.map_cons, List.map_cons]
    congr 1
    by_cases h : p.1 = k
    · have h2 : (Sum.inl p.1 : L2.Key) = Sum.inl k := by rw [h]
      rw [if_pos h2, if_pos h]
    · have h2 : ¬ ((Sum.inl p.1 : L2.Key) = Sum.inl k) := fun e => h (Sum.inl.inj e)
      rw [if_neg h2, if_neg h]
theorem putKD_kv (kv : KV) (k w : Int) : D.dic (putKD (Sum.inl k : L2.Key) (.int ((lookK k kv).getD 0 + w)) (kv.map fun p => (Sum.inl p.1 : L2.Key)) (kv.map fun p => .int p.2)).1 (putKD (Sum.inl k : L2.Key) (.int ((lookK k kv).getD 0 + w)) (kv.map fun p => (Sum.inl p.1 : L2.Key)) (kv.map fun p => .int p.2)).2 = dicD (addK kv k w) := by
  unfold putKD addK dicD
  rw [any_kv]
  by_cases h : k ∈ kv.map (·.1)
  · rw [if_pos (decide_eq_true h), if_pos h]
    congr 1
    · rw [List.map_map]
      refine List.map_congr_left fun p _ => ?_
      show Sum.inl p.1 = Sum.inl (if p.1 = k then (p.1, _) else p).1
      split <;> rfl
    · exact repKD_kv k _ kv
  · rw [if_neg (by rw [decide_eq_false h]; decide), if_neg h]
    rw [List.map_append, List.map_append, lookK_none h]
    simp
/-- one more out into the dict -/
theorem dput_kv {i j k : Nat} {ρ : Env} {kv : KV} {key w : Int} (h1 : ρ[i]? = some (some (dicD kv))) (h2 : ρ[j]? = some (some (.int key))) (h3 : ρ[k]? = some (some (.int w))) (hl : kv.length < 1000) : sDPutM i (eBin addD (eBor (eTri dgetD (eVar i) (eVar j) (eC (.int 0)))) (eVar k)) (eVar j) ρ = some (.nx (ρ.set i (some (dicD (addK kv key w))))) := by
  have e1 : eTri dgetD (eVar i) (eVar j) (eC (.int 0)) ρ = some (.int ((lookK key kv).getD 0), ρ) := by
    have := lookD_kv key kv
    unfold eTri
    rw [v_eq h1, Option.bind_some]
    simp only [v_eq h2, Option.bind_some, eC, dgetD, dicD, keyD, Option.map_some, this]
    cases lookK key kv <;> rfl
  have e2 : eBor (eTri dgetD (eVar i) (eVar j) (eC (.int 0))) ρ = some (.int ((lookK key kv).getD 0), ρ) := by
    unfold eBor
    rw [e1]
    rfl
  have e3 : eBin addD (eBor (eTri dgetD (eVar i) (eVar j) (eC (.int 0)))) (eVar k) ρ = some (.int ((lookK key kv).getD 0 + w), ρ) := bin_eq e2 (v_eq h3) rfl
  have e4 : dicAt i ρ = some (kv.map fun p => (Sum.inl p.1 : L2.Key), kv.map fun p => .int p.2) := by
    unfold dicAt
    rw [h1]
    rfl
  unfold sDPutM
  rw [e3, Option.bind_some, e4, Option.bind_some, v_eq h2, Option.bind_some, e4, Option.bind_some]
  show (some (Sum.inl key : L2.Key)).bind _ = _
  rw [Option.bind_some]
  have hl2 : (kv.map fun p => (Sum.inl p.1 : L2.Key)).length < 100000 := by
    rw [List.length_map]
    omega
  refine (if_pos hl2).trans ?_
  rw [putKD_kv]
theorem keysI_kv : ∀ kv : KV, keysI (kv.map fun p => (Sum.inl p.1 : L2.Key)) = some (kv.map (·.1))
  | [] => rfl
  | p :: l => by
    rw [List.map_cons, keysI, keysI_kv l]
    rfl
theorem sortDD_kv {kv : KV} (h : kv.length < 64) : sortDD [dicD kv] = some (.lst ((sortI (kv.map (·.1))).map D.int)) := by
  unfold sortDD dicD
  show ((keysI (kv.map fun p => (Sum.inl p.1 : L2.Key))).bind _) = _
  rw [keysI_kv, Option.bind_some]
  exact if_pos (by simpa using h)
/-! ### the lottery of a stake -/
def slKV (g : Nat) (t : Tb) (x s : Nat) : KV := mergeK (outZ g t x s) [] t.outs
def slot (g : Nat) (t : Tb) (x s : Nat) : Lot := sortK (slKV g t x s)
theorem outZ_rng {t : Tb} (h : TbOk t) {g x s : Nat} (hx : s + t.fee ≤ x) {p : Int × Int} (hp : p ∈ t.outs) : 0 ≤ outZ g t x s p.1 ∧ outZ g t x s p.1 ≤ g := by
  have hr := h.outs.rng p hp
  unfold outZ
  have h1 : -(s : Int) ≤ p.1 * s := by
    have : (-1) * (s : Int) ≤ p.1 * s := Int.mul_le_mul_of_nonneg_right hr.1 (Int.natCast_nonneg s)
    omega
  omega
theorem slKV_ok {t : Tb} (h : TbOk t) {g x s : Nat} (hx : s + t.fee ≤ x) : KvOk g t.outs.length (t.outs.length * 99) (slKV g t x s) := by
  have := mergeK_ok (g := (g : Int)) (U := 99) (out := outZ g t x s) t.outs [] 0 0 ⟨List.Pairwise.nil, Nat.le_refl 0, (fun _ h => by cases h), (fun _ h => by cases h)⟩ fun p hp => ⟨outZ_rng h hx hp, by have := h.outs.rng p hp; omega⟩
  simpa [slKV] using this
theorem merge_len (out : Int → Int) : ∀ (l : List (Int × Int)) (kv : KV), (mergeK out kv l).length ≤ kv.length + l.length
  | [], kv => by simp [mergeK]
  | p :: l, kv => by
    rw [mergeK, List.length_cons]
    have h1 := merge_len out l (addK kv (out p.1) p.2)
    have h2 : (addK kv (out p.1) p.2).length ≤ kv.length + 1 := by
      unfold addK
      split
      · rw [List.length_map]
        omega
      · rw [List.length_append]
        simp
    omega
theorem sl_loop {t : Tb} (h : TbOk t) {g x s : Nat} (hs : s ∈ stk t) (hx : s + t.fee ≤ x) (hB : s < 1000) : ∀ (l : List (Int × Int)) (kv : KV) (u v w : Option D), kv.length + l.length < 64 → ∃ u' v' w', forG (gtT 2 (gtCons (gtN 5) (gtCons (gtN 6) gtNil))) (sSeq (sSet 7 (eCa F_out_of (aCons (eVar 0) (aCons (eVar 1) (aCons (eVar 2) (aCons (eVar 3) (aCons (eVar 5) aNil))))))) (sDPutM 4 (eBin addD (eBor (eTri dgetD (eVar 4) (eVar 7) (eC (.int 0)))) (eVar 6)) (eVar 7))) (l.map outD) [some (.int g), some (tbD t), some (.int x), some (.int s), some (dicD kv), u, v, w] = some (.nx [some (.int g), some (tbD t), some (.int x), some (.int s), some (dicD (mergeK (outZ g t x s) kv l)), u', v', w'])
  | [], kv, u, v, w, _ => ⟨u, v, w, rfl⟩
  | p :: l, kv, u, v, w, hl => by
    rw [List.length_cons] at hl
    have hk : (addK kv (outZ g t x s p.1) p.2).length ≤ kv.length + 1 := by
      have := merge_len (outZ g t x s) [p] kv
      simpa [mergeK] using this
    obtain ⟨u', v', w', h1⟩ := sl_loop h hs hx hB l (addK kv (outZ g t x s p.1) p.2) (some (.int p.1)) (some (.int p.2)) (some (.int (outZ g t x s p.1))) (by omega)
    refine ⟨u', v', w', (forG_nx (ρ1 := [some (.int g), some (tbD t), some (.int x), some (.int s), some (dicD kv), some (.int p.1), some (.int p.2), w]) (ρ2 := [some (.int g), some (tbD t), some (.int x), some (.int s), some (dicD (addK kv (outZ g t x s p.1) p.2)), some (.int p.1), some (.int p.2), some (.int (outZ g t x s p.1))]) rfl ?_).trans h1⟩
    exact (seq_nx (set_to (ca_eq (a_cons (v_eq rfl) (a_cons (v_eq rfl) (a_cons (v_eq rfl) (a_cons (v_eq rfl) (a_cons (v_eq rfl) a_nil))))) (F_out_of_eq h hs hx p.1 hB)) rfl)).trans (dput_kv rfl rfl rfl (by omega))
theorem F_stake_lottery_eq {t : Tb} (h : TbOk t) {g x s : Nat} (hs : s ∈ stk t) (hx : s + t.fee ≤ x) (hB : s < 1000) : F_stake_lottery [.int g, tbD t, .int x, .int s] = some (lotD (slot g t x s)) := by
  have l6 := h.outs.l6
  obtain ⟨u, v, w, h1⟩ := sl_loop h hs hx hB t.outs [] none none none (by simp; omega)
  have hk := slKV_ok h (g := g) hx
  have h1' : forG (gtT 2 (gtCons (gtN 5) (gtCons (gtN 6) gtNil))) (sSeq (sSet 7 (eCa F_out_of (aCons (eVar 0) (aCons (eVar 1) (aCons (eVar 2) (aCons (eVar 3) (aCons (eVar 5) aNil))))))) (sDPutM 4 (eBin addD (eBor (eTri dgetD (eVar 4) (eVar 7) (eC (.int 0)))) (eVar 6)) (eVar 7))) (t.outs.map outD) [some (.int g), some (tbD t), some (.int x), some (.int s), some (dicD []), none, none, none] = some (.nx [some (.int g), some (tbD t), some (.int x), some (.int s), some (dicD (slKV g t x s)), u, v, w]) := h1
  have hlen := hk.len
  have hi : iSeq (eCa sortDD (aCons (eVar 4) aNil)) [some (.int g), some (tbD t), some (.int x), some (.int s), some (dicD (slKV g t x s)), u, v, w] = some ((sortI ((slKV g t x s).map (·.1))).map D.int, [some (.int g), some (tbD t), some (.int x), some (.int s), some (dicD (slKV g t x s)), u, v, w]) := by
    unfold iSeq
    rw [ca_eq (a_cons (v_eq rfl) a_nil) (sortDD_kv (by omega))]
    rfl
  have hl := eLc_pureT (fi := iSeq (eCa sortDD (aCons (eVar 4) aNil))) (vs := [7]) (gt := gtN 7) (f := eTup (aCons (eVar 7) (aCons (eBin dixD (eVar 4) (eVar 7)) aNil))) (ρw := [some (.int g), some (tbD t), some (.int x), some (.int s), some (dicD (slKV g t x s)), u, v, none]) hi rfl (fun d => match d with
      | .int k => .tup [.int k, .int ((lookK k (slKV g t x s)).getD 0)]
      | _ => .non) (fun d hd => by
        obtain ⟨k, hkm, rfl⟩ := List.mem_map.mp hd
        have hkm := (sortI_perm _).mem_iff.mp hkm
        obtain ⟨c, hc, _⟩ := lookK_some hkm
        refine ⟨[some (.int g), some (tbD t), some (.int x), some (.int s), some (dicD (slKV g t x s)), u, v, some (.int k)], rfl, ?_, rfl⟩
        refine tup_eq (ds := [.int k, .int ((lookK k (slKV g t x s)).getD 0)]) (a_cons (v_eq rfl) (a_cons (bin_eq (v_eq rfl) (v_eq rfl) ?_) a_nil)) (show (2 : Nat) ≤ 100000 by decide)
        show (lookD (Sum.inl k : L2.Key) _ _) = _
        rw [lookD_kv, hc]
        rfl) (by rw [List.length_map, (sortI_perm _).length_eq, List.length_map]; omega)
  have hm : ((sortI ((slKV g t x s).map (·.1))).map D.int).map (fun d => match d with
      | .int k => .tup [.int k, .int ((lookK k (slKV g t x s)).getD 0)]
      | _ => D.non) = (slot g t x s).map pairD := by
    unfold slot sortK
    rw [List.map_map, List.map_map]
    refine List.map_congr_left fun k hkm => ?_
    have hkm := (sortI_perm _).mem_iff.mp hkm
    obtain ⟨p, hp, rfl⟩ := List.mem_map.mp hkm
    have := (hk.key p hp).1
    show D.tup [.int p.1, _] = D.tup [.int ((p.1.toNat : Nat) : Int), _]
    rw [show ((p.1.toNat : Nat) : Int) = p.1 by omega]
  rw [hm] at hl
  have hout : iSeq (eBin ixD (eVar 1) (eC (.int 1))) [some (.int g), some (tbD t), some (.int x), some (.int s), some (dicD []), none, none, none] = some (t.outs.map outD, [some (.int g), some (tbD t), some (.int x), some (.int s), some (dicD []), none, none, none]) := outsL_seq (bin_eq (v_eq rfl) rfl rfl)
  exact runP_rt ((seq_nx (set_to (d := dicD []) rfl rfl)).trans ((seq_nx ((for_eq hout).trans h1')).trans (ret_eq (ca_eq (a_cons hl a_nil) rfl))))
end Z
/-! The plays of a house, on data. -/
namespace Z
open PySem
theorem comp2G_pure {vs : List Nat} {gt : D → Env → Option Env} {fi1 : MI} {vs1 : List Nat} {gt1 : D → Env → Option Env} {t1 : MT} {f : M} {ρw : Env} (r : D → List D) : ∀ (ds : List D) (ρ : Env), wipeE vs ρ = ρw → (∀ d ∈ ds, ∃ ρ1 es ρ2, gt d ρw = some ρ1 ∧ fi1 ρ1 = some (es, ρ1) ∧ compG vs1 gt1 t1 f es ρ1 = some (r d, ρ2) ∧ wipeE vs ρ2 = ρw) →
    ∃ ρ', comp2G vs gt tTrue fi1 vs1 gt1 t1 f ds ρ = some (ds.flatMap r, ρ') ∧ wipeE vs ρ' = ρw
  | [], ρ, h, _ => ⟨ρ, rfl, h⟩
  | d :: ds, ρ, h, hs => by
    obtain ⟨ρ1, es, ρ2, h1, h2, h3, h4⟩ := hs d (List.mem_cons_self ..)
    obtain ⟨ρ', h5, h6⟩ := comp2G_pure r ds ρ2 h4 fun e he => hs e (List.mem_cons_of_mem _ he)
    refine ⟨ρ', ?_, h6⟩
    rw [comp2G, h, h1, Option.bind_some]
    show ((fi1 ρ1).bind _) = _
    rw [h2, Option.bind_some, h3, Option.bind_some, h5]
    rfl
theorem eLc2_pure {fi : MI} {vs : List Nat} {gt : D → Env → Option Env} {fi1 : MI} {vs1 : List Nat} {gt1 : D → Env → Option Env} {t1 : MT} {f : M} {ρ ρw : Env} {ds : List D} (h1 : fi ρ = some (ds, ρ)) (hw : wipeE vs ρ = ρw) (r : D → List D)
    (h : ∀ d ∈ ds, ∃ ρ1 es ρ2, gt d ρw = some ρ1 ∧ fi1 ρ1 = some (es, ρ1) ∧ compG vs1 gt1 t1 f es ρ1 = some (r d, ρ2) ∧ wipeE vs ρ2 = ρw) (hl : (ds.flatMap r).length ≤ 100000) : eLc2 fi vs gt tTrue fi1 vs1 gt1 t1 f ρ = some (.lst (ds.flatMap r), ρ) := by
  obtain ⟨ρ', h2, h3⟩ := comp2G_pure r ds ρ hw h
  unfold eLc2
  rw [h1, Option.bind_some, h2, Option.bind_some]
  refine (if_pos hl).trans ?_
  rw [restE_same (h3.trans hw.symm)]
def openT (t : Tb) (x : Nat) : List (Tb × Nat) := ((stk t).filter fun s => decide (s + t.fee ≤ x)).map fun s => (t, s)
def openS (ts : List Tb) (x : Nat) : List (Tb × Nat) := ts.flatMap fun t => openT t x
def osD (p : Tb × Nat) : D := .tup [tbD p.1, natD p.2]
structure HsOk (g : Nat) (ts : List Tb) : Prop where
  g1 : 1 ≤ g
  g39 : g ≤ 39
  t4 : ts.length ≤ 4
  tb : ∀ t ∈ ts, TbOk t
  nd : (ts.map (·.name)).Nodup
  few : (ts.map nStk).sum ≤ 12
theorem openS_len {ts : List Tb} (x : Nat) : (openS ts x).length ≤ (ts.map nStk).sum := by
  induction ts with
  | nil => exact Nat.le_refl _
  | cons t ts ih =>
    have e : openS (t :: ts) x = openT t x ++ openS ts x := rfl
    rw [e, List.length_append, List.map_cons, List.sum_cons]
    have h1 : (openT t x).length ≤ nStk t := by
      unfold openT
      rw [List.length_map]
      refine Nat.le_trans (List.length_filter_le _ _) ?_
      unfold stk
      rw [List.length_map, List.length_range]
      exact Nat.le_refl _
    omega
theorem mem_openS {ts : List Tb} {x : Nat} {p : Tb × Nat} : p ∈ openS ts x ↔ p.1 ∈ ts ∧ p.2 ∈ stk p.1 ∧ p.2 + p.1.fee ≤ x := by
  unfold openS openT
  rw [List.mem_flatMap]
  constructor
  · rintro ⟨t, ht, h⟩
    obtain ⟨s, hs, rfl⟩ := List.mem_map.mp h
    obtain ⟨h1, h2⟩ := List.mem_filter.mp hs
    exact ⟨ht, h1, of_decide_eq_true h2⟩
  · rintro ⟨h1, h2, h3⟩
    exact ⟨p.1, h1, List.mem_map.mpr ⟨p.2, List.mem_filter.mpr ⟨h2, decide_eq_true h3⟩, rfl⟩⟩
theorem stk_bnd {t : Tb} (h : TbOk t) {s : Nat} (hs : s ∈ stk t) : t.low ≤ s ∧ s ≤ t.high := by
  obtain ⟨k, hk, rfl⟩ := List.mem_map.mp hs
  have hk := List.mem_range.mp hk
  unfold nStk at hk
  have h1 : k * t.step ≤ (t.high - t.low) / t.step * t.step := Nat.mul_le_mul_right _ (by omega)
  have h2 : (t.high - t.low) / t.step * t.step ≤ t.high - t.low := Nat.div_mul_le_self _ _
  have := h.low
  omega
theorem F_open_stakes_eq {ts : List Tb} (h : ∀ t ∈ ts, TbOk t) (h4 : ts.length ≤ 4) (x : Nat) : F_open_stakes [.tup (ts.map tbD), .int x] = some (.lst ((openS ts x).map osD)) := by
  have hl := eLc2_pure (fi := iSeq (eVar 0)) (vs := [2, 3]) (gt := gtN 2) (fi1 := iSeq (eCa F_stakes (aCons (eVar 2) aNil))) (vs1 := [3]) (gt1 := gtN 3) (t1 := tBl (eBin leD (eBin addD (eVar 3) (eBin ixD (eVar 2) (eC (.int 5)))) (eVar 1))) (f := eTup (aCons (eVar 2) (aCons (eVar 3) aNil)))
    (ρ := [some (.tup (ts.map tbD)), some (.int x), none, none]) (ρw := [some (.tup (ts.map tbD)), some (.int x), none, none]) (ds := ts.map tbD) rfl rfl (fun d => match F_stakes [d], ixD d (.int 5) with
      | some (.tup es), some (.int fee) => (es.filter fun e => match e with
        | .int s => decide (s + fee ≤ (x : Int))
        | _ => false).map fun e => .tup [d, e]
      | _, _ => []) (fun d hd => by
        obtain ⟨t, ht, rfl⟩ := List.mem_map.mp hd
        have hst := F_stakes_eq (h t ht)
        have h5 : ixD (tbD t) (.int 5) = some (.int t.fee) := rfl
        obtain ⟨ρ', c1, c2⟩ := compG_pure (vs := [3]) (gt := gtN 3) (t := tBl (eBin leD (eBin addD (eVar 3) (eBin ixD (eVar 2) (eC (.int 5)))) (eVar 1))) (f := eTup (aCons (eVar 2) (aCons (eVar 3) aNil))) (ρw := [some (.tup (ts.map tbD)), some (.int x), some (tbD t), none]) (fun e => match e with
          | .int s => decide (s + (t.fee : Int) ≤ (x : Int))
          | _ => false) (fun e => .tup [tbD t, e]) (natsD (stk t)) [some (.tup (ts.map tbD)), some (.int x), some (tbD t), none] rfl (fun e he => by
            obtain ⟨s, hs, rfl⟩ := List.mem_map.mp he
            refine ⟨[some (.tup (ts.map tbD)), some (.int x), some (tbD t), some (natD s)], rfl, ?_, fun _ => tup_eq (a_cons (v_eq rfl) (a_cons (v_eq rfl) a_nil)) (show (2 : Nat) ≤ 100000 by decide), rfl⟩
            exact bl_eq (bin_eq (bin_eq (v_eq rfl) (bin_eq (v_eq rfl) rfl h5) rfl) (v_eq rfl) rfl))
        have hw : wipeE [2, 3] ρ' = [some (.tup (ts.map tbD)), some (.int x), none, none] := by
          show (wipeE [3] ρ').set 2 none = _
          rw [c2]
          rfl
        refine ⟨[some (.tup (ts.map tbD)), some (.int x), some (tbD t), none], natsD (stk t), ρ', rfl, ?_, ?_, hw⟩
        · unfold iSeq
          rw [ca_eq (a_cons (v_eq rfl) a_nil) hst]
          rfl
        · rw [c1]
          simp only [hst, h5]) ?_
  · have hm : (ts.map tbD).flatMap (fun d => match F_stakes [d], ixD d (.int 5) with
      | some (.tup es), some (.int fee) => (es.filter fun e => match e with
        | .int s => decide (s + fee ≤ (x : Int))
        | _ => false).map fun e => .tup [d, e]
      | _, _ => []) = (openS ts x).map osD := by
      clear hl
      induction ts with
      | nil => rfl
      | cons t ts ih =>
        have e : openS (t :: ts) x = openT t x ++ openS ts x := rfl
        rw [List.map_cons, List.flatMap_cons, ih (fun u hu => h u (List.mem_cons_of_mem _ hu)) (by rw [List.length_cons] at h4; omega), e, List.map_append]
        congr 1
        have hst := F_stakes_eq (h t (List.mem_cons_self ..))
        have h5 : ixD (tbD t) (.int 5) = some (.int t.fee) := rfl
        simp only [hst, h5]
        unfold openT natsD
        rw [List.filter_map, List.map_map, List.map_map]
        have : ((fun e => match e with
          | D.int s => decide (s + (t.fee : Int) ≤ (x : Int))
          | _ => false) ∘ natD) = fun s => decide (s + t.fee ≤ x) := by
          funext s
          show decide ((s : Int) + (t.fee : Int) ≤ (x : Int)) = decide (s + t.fee ≤ x)
          congr 1
          exact propext ⟨fun h => by omega, fun h => by omega⟩
        rw [this]
        rfl
    rw [hm] at hl
    exact runP_rt (ret_eq hl)
  · have key : ∀ us : List Tb, (∀ t ∈ us, TbOk t) → ((us.map tbD).flatMap (fun d => match F_stakes [d], ixD d (.int 5) with
      | some (.tup es), some (.int fee) => (es.filter fun e => match e with
        | .int s => decide (s + fee ≤ (x : Int))
        | _ => false).map fun e => D.tup [d, e]
      | _, _ => [])).length ≤ us.length * 39 := by
      intro us
      induction us with
      | nil => exact fun _ => Nat.le_refl _
      | cons t us ih =>
        intro hu
        rw [List.map_cons, List.flatMap_cons, List.length_append, List.length_cons, Nat.succ_mul]
        have h1 := ih fun u hu' => hu u (List.mem_cons_of_mem _ hu')
        have hst := F_stakes_eq (hu t (List.mem_cons_self ..))
        have h5 : ixD (tbD t) (.int 5) = some (.int t.fee) := rfl
        have hn := nStk_le (hu t (List.mem_cons_self ..))
        simp only [hst, h5]
        rw [List.length_map]
        have h2 := List.length_filter_le (fun e => match e with
          | D.int s => decide (s + (t.fee : Int) ≤ (x : Int))
          | _ => false) (natsD (stk t))
        have h3 : (natsD (stk t)).length = nStk t := by simp [natsD, stk]
        omega
    have := key ts h
    omega
def housePl (g : Nat) (ts : List Tb) (x : Nat) : List Lot := (openS ts x).map fun p => slot g p.1 x p.2
theorem F_house_plays_eq {ts : List Tb} (h : ∀ t ∈ ts, TbOk t) (h4 : ts.length ≤ 4) (h12 : (ts.map nStk).sum ≤ 12) (g x : Nat) : F_house_plays [.int g, .tup (ts.map tbD), .int x] = some (.tup ((housePl g ts x).map lotD)) := by
  have hlen := openS_len (ts := ts) x
  have hi : iSeq (eCa F_open_stakes (aCons (eVar 1) (aCons (eVar 2) aNil))) [some (.int g), some (.tup (ts.map tbD)), some (.int x), none, none] = some ((openS ts x).map osD, [some (.int g), some (.tup (ts.map tbD)), some (.int x), none, none]) := by
    unfold iSeq
    rw [ca_eq (a_cons (v_eq rfl) (a_cons (v_eq rfl) a_nil)) (F_open_stakes_eq h h4 x)]
    rfl
  have hl := eLc_pureT (fi := iSeq (eCa F_open_stakes (aCons (eVar 1) (aCons (eVar 2) aNil)))) (vs := [3, 4]) (gt := gtT 2 (gtCons (gtN 3) (gtCons (gtN 4) gtNil))) (f := eCa F_stake_lottery (aCons (eVar 0) (aCons (eVar 3) (aCons (eVar 2) (aCons (eVar 4) aNil))))) (ρw := [some (.int g), some (.tup (ts.map tbD)), some (.int x), none, none]) hi rfl (fun d => match d with
      | .tup [t, s] => match F_stake_lottery [.int g, t, .int x, s] with
        | some y => y
        | none => .non
      | _ => .non) (fun d hd => by
        obtain ⟨p, hp, rfl⟩ := List.mem_map.mp hd
        obtain ⟨h1, h2, h3⟩ := mem_openS.mp hp
        have hb := stk_bnd (h _ h1) h2
        have h39 := (h _ h1).high
        have e := F_stake_lottery_eq (h _ h1) (g := g) h2 h3 (by omega)
        refine ⟨[some (.int g), some (.tup (ts.map tbD)), some (.int x), some (tbD p.1), some (natD p.2)], rfl, ?_, rfl⟩
        show _ = some (match F_stake_lottery [.int g, tbD p.1, .int x, .int p.2] with
          | some y => y
          | none => .non, _)
        rw [e]
        exact ca_eq (a_cons (v_eq rfl) (a_cons (v_eq rfl) (a_cons (v_eq rfl) (a_cons (v_eq rfl) a_nil)))) e) (by rw [List.length_map]; omega)
  have hm : ((openS ts x).map osD).map (fun d => match d with
      | .tup [t, s] => match F_stake_lottery [.int g, t, .int x, s] with
        | some y => y
        | none => .non
      | _ => D.non) = (housePl g ts x).map lotD := by
    unfold housePl
    rw [List.map_map, List.map_map]
    refine List.map_congr_left fun p hp => ?_
    obtain ⟨h1, h2, h3⟩ := mem_openS.mp hp
    have hb := stk_bnd (h _ h1) h2
    have h39 := (h _ h1).high
    have e := F_stake_lottery_eq (h _ h1) (g := g) h2 h3 (by omega)
    show (match F_stake_lottery [.int g, tbD p.1, .int x, .int p.2] with
      | some y => y
      | none => D.non) = _
    rw [e]
    rfl
  rw [hm] at hl
  exact runP_rt (ret_eq (ca_eq (a_cons hl a_nil) rfl))
end Z
/-! Boards and houses made, on data. -/
namespace Z
open PySem
theorem leD_t {i j : Int} (h : i ≤ j) : leD (.int i) (.int j) = some (.bl true) := congrArg (fun b => some (D.bl b)) (decide_eq_true h)
theorem leD_f {i j : Int} (h : ¬ i ≤ j) : leD (.int i) (.int j) = some (.bl false) := congrArg (fun b => some (D.bl b)) (decide_eq_false h)
theorem ltD_t {i j : Int} (h : i < j) : ltD (.int i) (.int j) = some (.bl true) := congrArg (fun b => some (D.bl b)) (decide_eq_true h)
theorem ltD_f {i j : Int} (h : ¬ i < j) : ltD (.int i) (.int j) = some (.bl false) := congrArg (fun b => some (D.bl b)) (decide_eq_false h)
theorem geD_t {i j : Int} (h : j ≤ i) : geD (.int i) (.int j) = some (.bl true) := congrArg (fun b => some (D.bl b)) (decide_eq_true h)
theorem geD_f {i j : Int} (h : ¬ j ≤ i) : geD (.int i) (.int j) = some (.bl false) := congrArg (fun b => some (D.bl b)) (decide_eq_false h)
theorem gtD_t {i j : Int} (h : j < i) : gtD (.int i) (.int j) = some (.bl true) := congrArg (fun b => some (D.bl b)) (decide_eq_true h)
theorem gtD_f {i j : Int} (h : ¬ j < i) : gtD (.int i) (.int j) = some (.bl false) := congrArg (fun b => some (D.bl b)) (decide_eq_false h)
theorem F_is_ratio_eq (q : Rat) : F_is_ratio [rD q] = some (.bl true) := by
  have t1 : tOrM (tNotM (tTr (eUn (isiD "tuple") (eVar 0)))) (tBl (eBin neD (eCa lenD (aCons (eVar 0) aNil)) (eC (.int 2)))) (envOf 2 [rD q]) = some (false, envOf 2 [rD q]) :=
    (or_f (not_t (tr_eq (un_eq (v_eq rfl) (isi_tup_t _)) (tru_bl _)))).trans (bl_eq (bin_eq (ca_eq (a_cons (v_eq rfl) a_nil) rfl) rfl (neD_int 2 2)))
  have t2 : sTgt (gtT 2 (gtCons (gtN 1) (gtCons (gtN 2) gtNil))) (eVar 0) (envOf 2 [rD q]) = some (.nx [some (rD q), some (.int q.num), some (.int q.den)]) := rfl
  have hd : (1 : Int) ≤ (q.den : Int) := by
    have := q.den_pos
    omega
  have g1 : gcdD [.int q.num, .int (q.den : Int)] = some (.int 1) := by
    have := q.reduced
    unfold Nat.Coprime at this
    show some (D.int ((Nat.gcd q.num.natAbs ((q.den : Int)).natAbs : Nat) : Int)) = _
    rw [Int.natAbs_natCast, this]
    rfl
  have g2 : geD (.int (q.den : Int)) (.int 1) = some (.bl true) := geD_t hd
  exact runP_rt ((seq_nx ((if_f t1).trans rfl)).trans ((seq_nx t2).trans (ret_eq ((eand_t (ca_eq (a_cons (v_eq rfl) a_nil) (F_is_number_int _))).trans ((eand_t (ca_eq (a_cons (v_eq rfl) a_nil) (F_is_number_int _))).trans ((eand_t (bin_eq (v_eq rfl) rfl g2)).trans (bin_eq (ca_eq (a_cons (v_eq rfl) (a_cons (v_eq rfl) a_nil)) g1) rfl (eqD_int 1 1))))))))
theorem F_is_pay_eq {q : Rat} (h0 : 0 ≤ q) (hs : Sm q) : F_is_pay [rD q] = some (.bl true) := by
  have hn : 0 ≤ q.num := Rat.num_nonneg.mpr h0
  obtain ⟨B, hB, hF⟩ : ∃ B : Int, ((SZ : Nat) : Int) ≤ B ∧ F_is_pay = runP 0 (sRet (eAnd (eCa F_is_ratio (aCons (eVar 0) aNil)) (eAnd (eChain leD ltD (eC (.int 0)) (eBin ixD (eVar 0) (eC (.int 0))) (eC (.int B))) (eBin ltD (eBin ixD (eVar 0) (eC (.int 1))) (eC (.int B)))))) := ⟨_, by decide +kernel, rfl⟩
  rw [hF]
  have h1 : q.num < B := by
    have := hs.n
    omega
  have h2 : (q.den : Int) < B := by
    have := hs.d
    omega
  have c1 : eChain leD ltD (eC (.int 0)) (eBin ixD (eVar 0) (eC (.int 0))) (eC (.int B)) (envOf 0 [rD q]) = some (.bl true, envOf 0 [rD q]) := by
    refine (chain_t (b := .int q.num) rfl (bin_eq (v_eq rfl) rfl rfl) (leD_t hn)).trans ?_
    show some (D.bl (decide (q.num < B)), _) = _
    rw [decide_eq_true h1]
  have c2 : eBin ltD (eBin ixD (eVar 0) (eC (.int 1))) (eC (.int B)) (envOf 0 [rD q]) = some (.bl true, envOf 0 [rD q]) := bin_eq (a := .int q.den) (bin_eq (v_eq rfl) rfl rfl) rfl (ltD_t h2)
  exact runP_rt (ret_eq ((eand_t (ca_eq (a_cons (v_eq rfl) a_nil) (F_is_ratio_eq q))).trans ((eand_t c1).trans c2)))
theorem enum_fun (n : Nat) (f : Nat → Rat) (ρ : Env) (i : Nat) (h : ρ[i]? = some (some (funD n f))) : iEnumM (eVar i) ρ = some ((List.range n).map fun (x : Nat) => .tup [.int (x : Int), rD (f x)], ρ) := by
  simp [iEnumM, eVar, h, funD, enum_range]
theorem F_want_pays_eq (n : Nat) (f : Nat → Rat) (h : ∀ x, x < n → 0 ≤ f x ∧ Sm (f x)) : F_want_pays [funD n f, .int n] = some .non := by
  obtain ⟨ρ', h1, h2⟩ := forG_all (gt := gtT 2 (gtCons (gtN 2) (gtCons (gtN 3) gtNil))) (gb := sIf (tNotM (tTr (eCa F_is_pay (aCons (eVar 3) aNil)))) sNever sNil) (fun ρ => ∃ u v, ρ = [some (funD n f), some (.int n), u, v])
    ((List.range n).map fun (x : Nat) => .tup [.int (x : Int), rD (f x)]) [some (funD n f), some (.int n), none, none] ⟨none, none, rfl⟩ (fun d hd ρ hρ => by
      obtain ⟨x, hx, rfl⟩ := List.mem_map.mp hd
      obtain ⟨u, v, rfl⟩ := hρ
      obtain ⟨a, c⟩ := h x (List.mem_range.mp hx)
      refine ⟨[some (funD n f), some (.int n), some (.int x), some (rD (f x))], [some (funD n f), some (.int n), some (.int x), some (rD (f x))], rfl, ?_, _, _, rfl⟩
      exact (if_f (not_t (tr_eq (ca_eq (a_cons (v_eq rfl) a_nil) (F_is_pay_eq a c)) (tru_bl _)))).trans rfl)
  have hl : lenD [funD n f] = some (.int n) := by simp [lenD, funD]
  refine runP_nx ((seq_nx ((if_f (bl_eq (bin_eq (ca_eq (a_cons (v_eq rfl) a_nil) hl) (v_eq rfl) ?_))).trans rfl)).trans ((for_eq (enum_fun n f _ 0 rfl)).trans h1))
  rw [neD_int]
  simp
structure LotFine (n : Nat) (l : Lot) : Prop where
  ne : l ≠ []
  l8 : l.length ≤ 8
  asc : (l.map (·.1)).Pairwise (· < ·)
  lt : ∀ p ∈ l, p.1 < n
  w : ∀ p ∈ l, 1 ≤ p.2 ∧ p.2 ≤ 99999
abbrev ilB : MS := sSeq (sIf (tOrM (tNotM (tBl (eChain ltD ltD (eVar 2) (eVar 3) (eVar 1)))) (tNotM (tBl (eChain leD leD (eC (.int 1)) (eVar 4) (eC (.int (99999))))))) (sRet (eC (.bl false))) sNil) (sSet 2 (eVar 3))
theorem il_loop (L : D) (n : Nat) : ∀ (l : Lot) (c : Int) (u v : Option D), (l.map (·.1)).Pairwise (· < ·) → (∀ p ∈ l, c < p.1 ∧ p.1 < n ∧ 1 ≤ p.2 ∧ p.2 ≤ 99999) → ∃ ρ, forG (gtT 2 (gtCons (gtN 3) (gtCons (gtN 4) gtNil))) ilB (l.map pairD) [some L, some (.int n), some (.int c), u, v] = some (.nx ρ)
  | [], c, u, v, _, _ => ⟨_, rfl⟩
  | p :: l, c, u, v, hs, h => by
    obtain ⟨h1, h2, h3, h4⟩ := h p (List.mem_cons_self ..)
    rw [List.map_cons] at hs
    obtain ⟨s1, s2⟩ := List.pairwise_cons.mp hs
    obtain ⟨ρ, hρ⟩ := il_loop L n l p.1 (some (.int p.1)) (some (.int p.2)) s2 fun q hq => by
      have := h q (List.mem_cons_of_mem _ hq)
      have h5 := s1 q.1 (List.mem_map.mpr ⟨q, hq, rfl⟩)
      exact ⟨by omega, this.2⟩
    refine ⟨ρ, (forG_nx (ρ1 := [some L, some (.int n), some (.int c), some (.int p.1), some (.int p.2)]) (ρ2 := [some L, some (.int n), some (.int p.1), some (.int p.1), some (.int p.2)]) rfl ?_).trans hρ⟩
    have h2' : (p.1 : Int) < (n : Int) := by omega
    have t1 : tBl (eChain ltD ltD (eVar 2) (eVar 3) (eVar 1)) [some L, some (.int n), some (.int c), some (.int p.1), some (.int p.2)] = some (true, [some L, some (.int n), some (.int c), some (.int p.1), some (.int p.2)]) := by
      simp [tBl, eChain, eVar, ltD, h1, h2']
    have t2 : tBl (eChain leD leD (eC (.int 1)) (eVar 4) (eC (.int (99999)))) [some L, some (.int n), some (.int c), some (.int p.1), some (.int p.2)] = some (true, [some L, some (.int n), some (.int c), some (.int p.1), some (.int p.2)]) := by
      simp [tBl, eChain, eVar, eC, leD, h3, h4]
    exact (seq_nx ((if_f ((or_f (not_t t1)).trans (not_t t2))).trans rfl)).trans (set_to (v_eq rfl) rfl)
theorem F_is_lottery_eq {n : Nat} {l : Lot} (h : LotFine n l) : F_is_lottery [lotD l, .int n] = some (.bl true) := by
  have t0 : tBl (eChain leD leD (eC (.int 1)) (eCa lenD (aCons (eVar 0) aNil)) (eC (.int (8)))) (envOf 3 [lotD l, .int n]) = some (true, envOf 3 [lotD l, .int n]) := by
    have h1 := List.length_pos_iff.mpr h.ne
    have h4 := h.l8
    have a1 : (1 : Int) ≤ (l.length : Int) := by omega
    have a2 : (l.length : Int) ≤ 8 := by omega
    simp [tBl, eChain, eC, eCa, aCons, aNil, eVar, envOf, lenD, lotD, leD, a1, a2]
  obtain ⟨ρ, hρ⟩ := il_loop (lotD l) n l (-1) none none h.asc fun p hp => ⟨by omega, h.lt p hp, h.w p hp⟩
  exact runP_rt ((seq_nx ((if_f (not_t t0)).trans rfl)).trans ((seq_nx (set_to (un_eq (op := negD) (a := .int 1) (d := .int (-1)) rfl rfl) rfl)).trans ((seq_nx ((for_eq rfl).trans hρ)).trans (ret_eq rfl))))
def playsD (n : Nat) (ps : Nat → List Lot) : D := .tup ((List.range n).map fun x => .tup ((ps x).map lotD))
theorem enum_plays (n : Nat) (ps : Nat → List Lot) (ρ : Env) (i : Nat) (h : ρ[i]? = some (some (playsD n ps))) : iEnumM (eVar i) ρ = some ((List.range n).map fun (x : Nat) => .tup [.int (x : Int), .tup ((ps x).map lotD)], ρ) := by
  simp [iEnumM, eVar, h, playsD, enum_range]
theorem enum_mem : ∀ {ds : List D} {n : Nat} {d : D}, d ∈ enumL n ds → ∃ (i : Nat) (e : D), e ∈ ds ∧ d = .tup [.int (i : Nat), e]
  | [], _, _, h => by cases h
  | e :: ds, n, d, h => by
    rcases List.mem_cons.mp h with rfl | h
    · exact ⟨n, e, List.mem_cons_self .., rfl⟩
    · obtain ⟨i, e', h1, h2⟩ := enum_mem h
      exact ⟨i, e', List.mem_cons_of_mem _ h1, h2⟩
theorem F_want_plays_eq (n : Nat) (ps : Nat → List Lot) (h12 : ∀ x, x < n → (ps x).length ≤ 12) (h : ∀ x, x < n → ∀ l ∈ ps x, LotFine n l) : F_want_plays [playsD n ps, .int n] = some .non := by
  obtain ⟨ρ1, h1, a1, a2, a3, a4, rfl⟩ := forG_all (gt := gtT 2 (gtCons (gtN 2) (gtCons (gtN 3) gtNil))) (gb := sIf (tBl (eBin gtD (eCa lenD (aCons (eVar 3) aNil)) (eC (.int (12))))) sNever sNil) (fun ρ => ∃ u v w z, ρ = [some (playsD n ps), some (.int n), u, v, w, z])
    ((List.range n).map fun (x : Nat) => .tup [.int (x : Int), .tup ((ps x).map lotD)]) [some (playsD n ps), some (.int n), none, none, none, none] ⟨none, none, none, none, rfl⟩ (fun d hd ρ hρ => by
      obtain ⟨x, hx, rfl⟩ := List.mem_map.mp hd
      obtain ⟨u, v, w, z, rfl⟩ := hρ
      have hl := h12 x (List.mem_range.mp hx)
      refine ⟨[some (playsD n ps), some (.int n), some (.int x), some (.tup ((ps x).map lotD)), w, z], [some (playsD n ps), some (.int n), some (.int x), some (.tup ((ps x).map lotD)), w, z], rfl, ?_, _, _, _, _, rfl⟩
      have hg : gtD (.int ((((ps x).map lotD).length : Nat) : Int)) (.int 12) = some (.bl false) := by
        have : ¬ ((12 : Int) < ((((ps x).map lotD).length : Nat) : Int)) := by
          rw [List.length_map]
          omega
        exact gtD_f this
      exact (if_f (bl_eq (bin_eq (ca_eq (a_cons (v_eq rfl) a_nil) rfl) rfl hg))).trans rfl)
  obtain ⟨ρ2, h2, b1, b2, b3, b4, rfl⟩ := forG_all (gt := gtT 2 (gtCons (gtN 2) (gtCons (gtN 3) gtNil))) (gb := sFor (iEnumM (eVar 3)) (gtT 2 (gtCons (gtN 4) (gtCons (gtN 5) gtNil))) (sIf (tNotM (tTr (eCa F_is_lottery (aCons (eVar 5) (aCons (eVar 1) aNil))))) sNever sNil)) (fun ρ => ∃ u v w z, ρ = [some (playsD n ps), some (.int n), u, v, w, z])
    ((List.range n).map fun (x : Nat) => .tup [.int (x : Int), .tup ((ps x).map lotD)]) [some (playsD n ps), some (.int n), a1, a2, a3, a4] ⟨_, _, _, _, rfl⟩ (fun d hd ρ hρ => by
      obtain ⟨x, hx, rfl⟩ := List.mem_map.mp hd
      obtain ⟨u, v, w, z, rfl⟩ := hρ
      have hx := List.mem_range.mp hx
      obtain ⟨ρ3, h3, c1, c2, rfl⟩ := forG_all (gt := gtT 2 (gtCons (gtN 4) (gtCons (gtN 5) gtNil))) (gb := sIf (tNotM (tTr (eCa F_is_lottery (aCons (eVar 5) (aCons (eVar 1) aNil))))) sNever sNil) (fun ρ => ∃ w z, ρ = [some (playsD n ps), some (.int n), some (.int x), some (.tup ((ps x).map lotD)), w, z])
        (enumL 0 ((ps x).map lotD)) [some (playsD n ps), some (.int n), some (.int x), some (.tup ((ps x).map lotD)), w, z] ⟨w, z, rfl⟩ (fun d hd ρ hρ => by
          obtain ⟨i, e, he, rfl⟩ := enum_mem hd
          obtain ⟨l, hl, rfl⟩ := List.mem_map.mp he
          obtain ⟨u, v, rfl⟩ := hρ
          refine ⟨[some (playsD n ps), some (.int n), some (.int x), some (.tup ((ps x).map lotD)), some (.int i), some (lotD l)], [some (playsD n ps), some (.int n), some (.int x), some (.tup ((ps x).map lotD)), some (.int i), some (lotD l)], rfl, ?_, _, _, rfl⟩
          exact (if_f (not_t (tr_eq (ca_eq (a_cons (v_eq rfl) (a_cons (v_eq rfl) a_nil)) (F_is_lottery_eq (h x hx l hl))) (tru_bl _)))).trans rfl)
      exact ⟨[some (playsD n ps), some (.int n), some (.int x), some (.tup ((ps x).map lotD)), w, z], _, rfl, (for_eq rfl).trans h3, _, _, _, _, rfl⟩)
  exact runP_nx ((seq_nx ((for_eq (enum_plays n ps _ 0 rfl)).trans h1)).trans ((for_eq (enum_plays n ps _ 0 rfl)).trans h2))
structure BoFine (b : Bo) : Prop where
  n1 : 1 ≤ b.n
  n40 : b.n ≤ 40
  few : ∀ x, (b.plays x).length ≤ 12
  lot : ∀ x, x < b.n → ∀ l ∈ b.plays x, LotFine b.n l
  pay : ∀ x, x < b.n → Sm (b.pay x) ∧ 0 ≤ b.pay x
theorem F_made_board_eq {b : Bo} (h : BoFine b) : F_made_board [funD b.n b.pay, playsD b.n b.plays] = some (boardD b) := by
  have hl : lenD [funD b.n b.pay] = some (.int b.n) := by simp [lenD, funD]
  have hl2 : lenD [playsD b.n b.plays] = some (.int b.n) := by simp [lenD, playsD]
  have n1 := h.n1
  have n40 := h.n40
  have t1 : tBl (eChain leD leD (eC (.int 1)) (eVar 2) (eC (.int (40)))) [some (funD b.n b.pay), some (playsD b.n b.plays), some (.int b.n)] = some (true, [some (funD b.n b.pay), some (playsD b.n b.plays), some (.int b.n)]) := by
    have a1 : (1 : Int) ≤ (b.n : Int) := by omega
    have a2 : (b.n : Int) ≤ 40 := by omega
    simp [tBl, eChain, eC, eVar, leD, a1, a2]
  have hne : neD (.int b.n) (.int b.n) = some (.bl false) := by
    rw [neD_int]
    simp
  have hmk : mkD "Board" gBoard [funD b.n b.pay, playsD b.n b.plays] = some (boardD b) := by
    show Option.map (fun r : List PySem.Str × List D => D.ins "Board" r.1 r.2) ((lenD [funD b.n b.pay]).map fun n => (["size", "pays", "plays"], [n, funD b.n b.pay, playsD b.n b.plays])) = _
    rw [hl]
    rfl
  exact runP_rt ((seq_nx (set_to (ca_eq (a_cons (v_eq rfl) a_nil) hl) rfl)).trans ((seq_nx ((if_f (not_t t1)).trans rfl)).trans ((seq_nx (drop_eq (ca_eq (a_cons (v_eq rfl) (a_cons (v_eq rfl) a_nil)) (F_want_pays_eq b.n b.pay fun x hx => ⟨(h.pay x hx).2, (h.pay x hx).1⟩)))).trans
    ((seq_nx ((if_f (bl_eq (bin_eq (ca_eq (a_cons (v_eq rfl) a_nil) hl2) (v_eq rfl) hne))).trans rfl)).trans ((seq_nx (drop_eq (ca_eq (a_cons (v_eq rfl) (a_cons (v_eq rfl) a_nil)) (F_want_plays_eq b.n b.plays (fun x _ => h.few x) h.lot)))).trans (ret_eq (ca_eq (a_cons (v_eq rfl) (a_cons (v_eq rfl) a_nil)) hmk)))))))
theorem LotFine.ok {n : Nat} {l : Lot} (h : LotFine n l) : LotOk l := ⟨h.l8, fun p hp => by
  have h1 := h.w p hp
  refine ⟨by omega, ?_⟩
  have h2 : (99999 : Nat) < WZ := by decide +kernel
  omega⟩
theorem BoFine.ok {b : Bo} (h : BoFine b) : b.Ok := ⟨h.n1, h.n40, h.few, fun x hx l hl => ⟨(h.lot x hx l hl).ok, (h.lot x hx l hl).ne, (h.lot x hx l hl).lt⟩, h.pay⟩
end Z
/-! The board of a house, on data. -/
namespace Z
open PySem
def tsD (ts : List Tb) : D := .tup (ts.map tbD)
def hsD (g : Nat) (ts : List Tb) : D := .tup [.int g, tsD ts]
def hB (g : Nat) (ts : List Tb) (pay : Nat → Rat) : Bo := ⟨g + 1, pay, housePl g ts⟩
theorem slot_fine {t : Tb} (h : TbOk t) {g x s : Nat} (hx : s + t.fee ≤ x) : LotFine (g + 1) (slot g t x s) := by
  have hk := slKV_ok h (g := g) hx
  have l6 := h.outs.l6
  have hne : slKV g t x s ≠ [] := mergeK_ne _ _ _ (.inl h.outs.ne)
  refine ⟨?_, ?_, sortK_asc hk.nd fun p hp => (hk.key p hp).1, ?_, ?_⟩
  · intro e
    have := congrArg List.length e
    unfold slot at this
    rw [sortK_len] at this
    exact hne (List.length_eq_zero_iff.mp this)
  · unfold slot
    rw [sortK_len]
    have := hk.len
    omega
  · intro q hq
    obtain ⟨p, hp, rfl⟩ := sortK_mem hk.nd hq
    have := hk.key p hp
    show p.1.toNat < g + 1
    omega
  · intro q hq
    obtain ⟨p, hp, rfl⟩ := sortK_mem hk.nd hq
    have := hk.w p hp
    show 1 ≤ p.2 ∧ p.2 ≤ 99999
    have : t.outs.length * 99 ≤ 6 * 99 := Nat.mul_le_mul_right _ l6
    omega
theorem hB_fine {g : Nat} {ts : List Tb} (h : HsOk g ts) {pay : Nat → Rat} (hp : ∀ x, x < g + 1 → Sm (pay x) ∧ 0 ≤ pay x) : BoFine (hB g ts pay) := by
  have g39 := h.g39
  refine ⟨by simp [hB], by simp [hB]; omega, fun x => ?_, fun x hx l hl => ?_, hp⟩
  · have := openS_len (ts := ts) x
    have := h.few
    show ((openS ts x).map _).length ≤ 12
    rw [List.length_map]
    omega
  · obtain ⟨p, hp, rfl⟩ := List.mem_map.mp hl
    obtain ⟨h1, h2, h3⟩ := mem_openS.mp hp
    exact slot_fine (h.tb _ h1) h3
theorem sum_cast {α : Type} (f : α → Nat) : ∀ l : List α, (l.map fun t => ((f t : Nat) : Int)).sum = (((l.map f).sum : Nat) : Int)
  | [] => rfl
  | t :: l => by
    rw [List.map_cons, List.map_cons, List.sum_cons, List.sum_cons, sum_cast f l]
    omega
theorem F_check_goal_eq {g : Nat} (h1 : 1 ≤ g) (h2 : g ≤ 39) : F_check_goal [.int g] = some .non := by
  have a1 : (1 : Int) ≤ (g : Int) := by omega
  have a2 : (g : Int) ≤ 39 := by omega
  have t1 : tBl (eChain leD leD (eC (.int 1)) (eVar 0) (eC (.int (39)))) (envOf 0 [.int g]) = some (true, envOf 0 [.int g]) := by
    simp [tBl, eChain, eC, eVar, envOf, leD, a1, a2]
  exact runP_nx ((if_f (not_t t1)).trans rfl)
theorem inD_names {z : Str} {zs : List Str} (h : z ∉ zs) : inD (.str z) (.lst (zs.map D.str)) = some (.bl false) := by
  have hf : D.flat (.str z) = true ∧ (zs.map D.str).all D.flat = true := ⟨rfl, by
    rw [List.all_eq_true]
    intro d hd
    obtain ⟨x, _, rfl⟩ := List.mem_map.mp hd
    rfl⟩
  refine (if_pos hf).trans ?_
  congr 2
  rw [List.any_eq_false]
  intro d hd
  obtain ⟨x, hx, rfl⟩ := List.mem_map.mp hd
  have hne : x ≠ z := fun e => h (e ▸ hx)
  show ¬ (x == z) = true
  simpa using hne
theorem cn_loop (T : D) : ∀ (ts : List Tb) (zs : List Str) (u : Option D), (∀ t ∈ ts, t.name ∉ zs) → (ts.map (·.name)).Nodup → zs.length + ts.length < 1000 → ∃ ρ, forG (gtN 2) (sSeq (sIf (tBor (tBl (eBin inD (eBin ixD (eVar 2) (eC (.int 0))) (eVar 1)))) sNever sNil) (sApp 1 (eBin ixD (eVar 2) (eC (.int 0))))) (ts.map tbD) [some T, some (.lst (zs.map D.str)), u] = some (.nx ρ)
  | [], zs, u, _, _, _ => ⟨_, rfl⟩
  | t :: ts, zs, u, h, hn, hl => by
    rw [List.map_cons] at hn
    rw [List.length_cons] at hl
    obtain ⟨n1, n2⟩ := List.nodup_cons.mp hn
    obtain ⟨ρ, hρ⟩ := cn_loop T ts (zs ++ [t.name]) (some (tbD t)) (fun t' ht' => by
      rw [List.mem_append, List.mem_singleton, not_or]
      exact ⟨h t' (List.mem_cons_of_mem _ ht'), fun e => n1 (e ▸ List.mem_map.mpr ⟨t', ht', rfl⟩)⟩) n2 (by rw [List.length_append]; simp; omega)
    refine ⟨ρ, (forG_nx (ρ1 := [some T, some (.lst (zs.map D.str)), some (tbD t)]) (ρ2 := [some T, some (.lst ((zs ++ [t.name]).map D.str)), some (tbD t)]) rfl ?_).trans hρ⟩
    have hi := inD_names (h t (List.mem_cons_self ..))
    have h0 : eBin ixD (eVar 2) (eC (.int 0)) [some T, some (.lst (zs.map D.str)), some (tbD t)] = some (.str t.name, [some T, some (.lst (zs.map D.str)), some (tbD t)]) := rfl
    have t1 : tBor (tBl (eBin inD (eBin ixD (eVar 2) (eC (.int 0))) (eVar 1))) [some T, some (.lst (zs.map D.str)), some (tbD t)] = some (false, [some T, some (.lst (zs.map D.str)), some (tbD t)]) := by
      unfold tBor
      rw [bl_eq (bin_eq h0 (v_eq rfl) hi)]
      rfl
    have t2 : sApp 1 (eBin ixD (eVar 2) (eC (.int 0))) [some T, some (.lst (zs.map D.str)), some (tbD t)] = some (.nx [some T, some (.lst ((zs ++ [t.name]).map D.str)), some (tbD t)]) := by
      have hlen : zs.length < 100000 := by omega
      simp [sApp, lstAt, h0, hlen]
    exact (seq_nx ((if_f t1).trans rfl)).trans t2
theorem F_check_names_eq {ts : List Tb} (hn : (ts.map (·.name)).Nodup) (h4 : ts.length ≤ 4) : F_check_names [tsD ts] = some .non := by
  obtain ⟨ρ, hρ⟩ := cn_loop (tsD ts) ts [] none (fun _ _ h => by cases h) hn (by simp; omega)
  exact runP_nx ((seq_nx (set_to (lst_eq a_nil (by decide)) rfl)).trans ((for_eq rfl).trans hρ))
theorem F_checked_house_eq {g : Nat} {ts : List Tb} (h : HsOk g ts) : F_checked_house [hsD g ts] = some (hsD g ts) := by
  have h4 := h.t4
  obtain ⟨ρ1, h1, a, u, rfl⟩ := forG_all (gt := gtT 2 (gtCons (gtN 3) (gtCons (gtN 4) gtNil))) (gb := sIf (tNotM (tTr (eCa F_is_table (aCons (eVar 4) aNil)))) sNever sNil) (fun ρ => ∃ a u, ρ = [some (hsD g ts), some (.int g), some (tsD ts), a, u, none])
    (enumL 0 (ts.map tbD)) [some (hsD g ts), some (.int g), some (tsD ts), none, none, none] ⟨none, none, rfl⟩ (fun d hd ρ hρ => by
      obtain ⟨i, e, he, rfl⟩ := enum_mem hd
      obtain ⟨t, ht, rfl⟩ := List.mem_map.mp he
      obtain ⟨a, u, rfl⟩ := hρ
      refine ⟨[some (hsD g ts), some (.int g), some (tsD ts), some (.int i), some (tbD t), none], [some (hsD g ts), some (.int g), some (tsD ts), some (.int i), some (tbD t), none], rfl, ?_, _, _, rfl⟩
      exact (if_f (not_t (tr_eq (ca_eq (a_cons (v_eq rfl) a_nil) (F_is_table_eq (h.tb t ht))) (tru_bl _)))).trans rfl)
  have t1 : sTgt (gtT 2 (gtCons (gtN 1) (gtCons (gtN 2) gtNil))) (eVar 0) (envOf 5 [hsD g ts]) = some (.nx [some (hsD g ts), some (.int g), some (tsD ts), none, none, none]) := rfl
  have g4 : gtD (.int (((ts.map tbD).length : Nat) : Int)) (.int 4) = some (.bl false) := gtD_f (by rw [List.length_map]; omega)
  have hl : eLc (iSeq (eVar 2)) [4] (gtN 4) tTrue (eCa lenD (aCons (eCa F_stakes (aCons (eVar 4) aNil)) aNil)) [some (hsD g ts), some (.int g), some (tsD ts), a, u, none] = some (.lst (ts.map fun t => .int (nStk t)), [some (hsD g ts), some (.int g), some (tsD ts), a, u, none]) := by
    have hl := eLc_pureT (fi := iSeq (eVar 2)) (vs := [4]) (gt := gtN 4) (f := eCa lenD (aCons (eCa F_stakes (aCons (eVar 4) aNil)) aNil)) (ρ := [some (hsD g ts), some (.int g), some (tsD ts), a, u, none]) (ρw := [some (hsD g ts), some (.int g), some (tsD ts), a, none, none]) (ds := ts.map tbD) rfl rfl (fun d => match F_stakes [d] with
      | some (.tup es) => .int es.length
      | _ => .non) (fun d hd => by
        obtain ⟨t, ht, rfl⟩ := List.mem_map.mp hd
        have e := F_stakes_eq (h.tb t ht)
        refine ⟨[some (hsD g ts), some (.int g), some (tsD ts), a, some (tbD t), none], rfl, ?_, rfl⟩
        rw [e]
        exact ca_eq (a_cons (ca_eq (a_cons (v_eq rfl) a_nil) e) a_nil) rfl) (by simp; omega)
    refine hl.trans ?_
    congr 3
    rw [List.map_map]
    refine List.map_congr_left fun t ht => ?_
    have e := F_stakes_eq (h.tb t ht)
    show (match F_stakes [tbD t] with
      | some (.tup es) => D.int es.length
      | _ => .non) = _
    rw [e]
    simp [natsD, stk]
  have hsum : sumD [.lst (ts.map fun t => .int (nStk t))] = some (.int (((ts.map nStk).sum : Nat) : Int)) := by
    have e1 := intsD_fn (fun t : Tb => ((nStk t : Nat) : Int)) ts
    show (intsD (ts.map fun t => .int (nStk t))).map _ = _
    rw [e1, Option.map_some]
    congr 2
    exact sum_cast nStk ts
  have few := h.few
  have g12 : gtD (.int (((ts.map nStk).sum : Nat) : Int)) (.int 12) = some (.bl false) := gtD_f (by omega)
  exact runP_rt ((seq_nx t1).trans ((seq_nx (drop_eq (ca_eq (a_cons (v_eq rfl) a_nil) (F_check_goal_eq h.g1 h.g39)))).trans ((seq_nx ((if_f (bl_eq (bin_eq (ca_eq (a_cons (v_eq rfl) a_nil) rfl) rfl g4))).trans rfl)).trans
    ((seq_nx ((for_eq rfl).trans h1)).trans ((seq_nx (drop_eq (ca_eq (a_cons (v_eq rfl) a_nil) (F_check_names_eq h.nd h.t4)))).trans ((seq_nx (set_to (ca_eq (a_cons hl a_nil) hsum) rfl)).trans
    ((seq_nx ((if_f (bl_eq (bin_eq (v_eq rfl) rfl g12))).trans rfl)).trans (ret_eq (tup_eq (a_cons (v_eq rfl) (a_cons (v_eq rfl) a_nil)) (show (2 : Nat) ≤ 100000 by decide))))))))))
theorem F_laid_eq {g : Nat} {ts : List Tb} (h : HsOk g ts) {pay : Nat → Rat} (hp : ∀ x, x < g + 1 → Sm (pay x) ∧ 0 ≤ pay x) : F_laid [hsD g ts, funD (g + 1) pay] = some (boardD (hB g ts pay)) := by
  have g39 := h.g39
  have t1 : sTgt (gtT 2 (gtCons (gtN 2) (gtCons (gtN 3) gtNil))) (eCa F_checked_house (aCons (eVar 0) aNil)) (envOf 3 [hsD g ts, funD (g + 1) pay]) = some (.nx [some (hsD g ts), some (funD (g + 1) pay), some (.int g), some (tsD ts), none]) := tgt_eq (ca_eq (a_cons (v_eq rfl) a_nil) (F_checked_house_eq h)) rfl
  have hlen : lenD [funD (g + 1) pay] = some (.int ((g + 1 : Nat) : Int)) := by simp [lenD, funD]
  have hne : neD (.int ((g + 1 : Nat) : Int)) (.int ((g : Int) + 1)) = some (.bl false) := by
    rw [neD_int]
    simp
  have hr : iRngM (aCons (eBin addD (eVar 2) (eC (.int 1))) aNil) [some (hsD g ts), some (funD (g + 1) pay), some (.int g), some (tsD ts), none] = some (natsD (List.range (g + 1)), [some (hsD g ts), some (funD (g + 1) pay), some (.int g), some (tsD ts), none]) := rng1 (a_cons (bin_eq (v_eq rfl) rfl rfl) a_nil) (by omega)
  have hl := eLc_pureT (fi := iRngM (aCons (eBin addD (eVar 2) (eC (.int 1))) aNil)) (vs := [4]) (gt := gtN 4) (f := eCa F_house_plays (aCons (eVar 2) (aCons (eVar 3) (aCons (eVar 4) aNil)))) (ρw := [some (hsD g ts), some (funD (g + 1) pay), some (.int g), some (tsD ts), none]) hr rfl (fun d => match d with
      | .int x => .tup ((housePl g ts x.toNat).map lotD)
      | _ => .non) (fun d hd => by
        obtain ⟨x, hx, rfl⟩ := List.mem_map.mp hd
        exact ⟨[some (hsD g ts), some (funD (g + 1) pay), some (.int g), some (tsD ts), some (natD x)], rfl, ca_eq (a_cons (v_eq rfl) (a_cons (v_eq rfl) (a_cons (v_eq rfl) a_nil))) (F_house_plays_eq h.tb h.t4 h.few g x), rfl⟩) (by simp [natsD]; omega)
  have hm : (natsD (List.range (g + 1))).map (fun d => match d with
      | .int x => D.tup ((housePl g ts x.toNat).map lotD)
      | _ => D.non) = (List.range (g + 1)).map fun x => D.tup ((housePl g ts x).map lotD) := by
    unfold natsD
    rw [List.map_map]
    rfl
  rw [hm] at hl
  have hmk := F_made_board_eq (hB_fine h hp)
  exact runP_rt ((seq_nx t1).trans ((seq_nx ((if_f (bl_eq (bin_eq (ca_eq (a_cons (v_eq rfl) a_nil) hlen) (bin_eq (v_eq rfl) rfl rfl) hne))).trans rfl)).trans (ret_eq (ca_eq (a_cons (v_eq rfl) (a_cons (ca_eq (a_cons hl a_nil) rfl) a_nil)) hmk))))
/-- the pays of the goal -/
def goalPay (g x : Nat) : Rat := if x = g then 1 else 0
theorem goalPay_sm (g x : Nat) : Sm (goalPay g x) ∧ 0 ≤ goalPay g x := by
  unfold goalPay
  split
  · exact ⟨⟨by decide +kernel, by decide +kernel⟩, by decide⟩
  · exact ⟨sm_zero, by decide⟩
end Z
/-! thrifty on data. -/
namespace Z
open PySem
theorem ok_rat (q : Rat) : D.ok 60 (rD q) = true := by
  simp [rD, D.ok, D.oks]
theorem rat_eq_iff {a b : Rat} : a = b ↔ a.num = b.num ∧ a.den = b.den := by
  constructor
  · rintro rfl
    exact ⟨rfl, rfl⟩
  · rintro ⟨h1, h2⟩
    exact Rat.ext h1 h2
theorem eqb_rat (a b : Rat) : D.eqb (rD a) (rD b) = decide (a = b) := by
  simp only [rD, D.eqb, D.eqbs, Bool.and_true]
  by_cases h : a = b
  · subst h
    simp
  · rw [decide_eq_false h]
    rw [rat_eq_iff] at h
    by_cases h1 : a.num = b.num
    · have h2 : a.den ≠ b.den := fun e => h ⟨h1, e⟩
      have h3 : ¬ ((a.den : Int) = (b.den : Int)) := by omega
      simp [h3]
    · simp [h1]
theorem eqD_rat (a b : Rat) : eqD (rD a) (rD b) = some (.bl (decide (a = b))) := by
  unfold eqD
  rw [if_pos ⟨ok_rat a, ok_rat b⟩, eqb_rat]
theorem neD_rat (a b : Rat) : neD (rD a) (rD b) = some (.bl (!decide (a = b))) := by
  unfold neD
  rw [if_pos ⟨ok_rat a, ok_rat b⟩, eqb_rat]
end Z
/-! The law's own ratios, on data. -/
namespace Z
open PySem
abbrev lwT : MT := tBl (eBin gtD (eVar 3) (eC (.int 0)))
abbrev lwB : MS := sPar [2, 3] (aCons (eVar 3) (aCons (eBin modD (eCa intD (aCons (eVar 2) aNil)) (eVar 3)) aNil))
theorem lw_stop (N D' : D) (a fuel : Nat) : whileG lwT lwB (fuel + 1) [some N, some D', some (.int a), some (.int 0)] = some (.nx [some N, some D', some (.int a), some (.int 0)]) := by
  have ht : lwT [some N, some D', some (.int a), some (.int 0)] = some (false, [some N, some D', some (.int a), some (.int 0)]) := bl_eq (bin_eq (v_eq rfl) rfl (gtD_f (by decide)))
  rw [whileG, ht]
  rfl
theorem lw_step (N D' : D) (a b fuel : Nat) (hb : 0 < b) : whileG lwT lwB (fuel + 1) [some N, some D', some (.int a), some (.int b)] = whileG lwT lwB fuel [some N, some D', some (.int b), some (.int ((a % b : Nat) : Int))] := by
  have ht : lwT [some N, some D', some (.int a), some (.int b)] = some (true, [some N, some D', some (.int a), some (.int b)]) := bl_eq (bin_eq (v_eq rfl) rfl (gtD_t (by omega)))
  have hm : modD (.int a) (.int b) = some (.int ((a % b : Nat) : Int)) := by
    have hne : (b : Int) ≠ 0 := by omega
    refine (if_pos hne).trans ?_
    rw [Int.fmod_eq_emod_of_nonneg _ (Int.natCast_nonneg b)]
    rfl
  have hb2 : lwB [some N, some D', some (.int a), some (.int b)] = some (.nx [some N, some D', some (.int b), some (.int ((a % b : Nat) : Int))]) := par_to (a_cons (v_eq rfl) (a_cons (bin_eq (ca_eq (a_cons (v_eq rfl) a_nil) rfl) (v_eq rfl) hm) a_nil)) rfl
  rw [whileG, ht]
  show ((lwB _).bind _) = _
  rw [hb2]
  rfl
theorem lw_loop (N D' : D) : ∀ (k a b fuel : Nat), b < 2 ^ k → 2 * k < fuel → whileG lwT lwB fuel [some N, some D', some (.int a), some (.int b)] = some (.nx [some N, some D', some (.int ((Nat.gcd a b : Nat) : Int)), some (.int 0)])
  | k, a, 0, fuel + 1, _, _ => by
    rw [Nat.gcd_zero_right]
    exact lw_stop N D' a fuel
  | 0, a, b + 1, fuel, h, _ => by omega
  | k + 1, a, b + 1, fuel + 1, h, hf => by
    rw [lw_step N D' a (b + 1) fuel (by omega)]
    have hr : a % (b + 1) < b + 1 := Nat.mod_lt _ (by omega)
    have hg : Nat.gcd a (b + 1) = Nat.gcd (b + 1) (a % (b + 1)) := by
      rw [Nat.gcd_comm a (b + 1), Nat.gcd_rec (b + 1) a, Nat.gcd_comm]
    rw [hg]
    generalize a % (b + 1) = r at *
    cases fuel with
    | zero => omega
    | succ fuel =>
      by_cases h0 : r = 0
      · subst h0
        rw [Nat.gcd_zero_right]
        exact lw_stop N D' (b + 1) fuel
      · rw [lw_step N D' (b + 1) r fuel (by omega)]
        have h2 : (b + 1) % r < 2 ^ k := by
          have h3 : 2 * ((b + 1) % r) < b + 1 := by
            by_cases hc : 2 * r ≤ b + 1
            · have := Nat.mod_lt (b + 1) (show 0 < r by omega)
              omega
            · have e : (b + 1) % r = b + 1 - r := by
                rw [Nat.mod_eq_sub_mod (by omega), Nat.mod_eq_of_lt (by omega)]
              omega
          rw [Nat.pow_succ] at h
          omega
        have hg2 : Nat.gcd (b + 1) r = Nat.gcd r ((b + 1) % r) := by
          rw [Nat.gcd_comm (b + 1) r, Nat.gcd_rec r (b + 1), Nat.gcd_comm]
        rw [hg2]
        exact lw_loop N D' k r ((b + 1) % r) fuel h2 (by omega)
theorem F__law_low_eq (n d : Int) (hd : 0 < d) (h1 : d.natAbs < BIG) : F__law_low [.int n, .int d] = some (rD (Rat.divInt n d)) := by
  have hg : 0 < Nat.gcd n.natAbs d.natAbs := Nat.gcd_pos_of_pos_right _ (by omega)
  have hgd : Nat.gcd n.natAbs d.natAbs ≤ d.natAbs := Nat.gcd_le_right _ (by omega)
  have hB : Nat.gcd n.natAbs d.natAbs < BIG := Nat.lt_of_le_of_lt hgd h1
  have dn : ((Nat.gcd n.natAbs d.natAbs : Nat) : Int) ∣ n := Int.gcd_dvd_left ..
  have dd : ((Nat.gcd n.natAbs d.natAbs : Nat) : Int) ∣ d := Int.gcd_dvd_right ..
  have hn := Rat.num_divInt n d
  have hden := Rat.den_divInt n d
  rw [if_neg (by omega)] at hden
  have hgc : d.gcd n = Nat.gcd n.natAbs d.natAbs := by
    rw [Int.gcd_comm]
    rfl
  rw [hgc] at hn hden
  have hdI : ((Rat.divInt n d).den : Int) = d.natAbs / (Nat.gcd n.natAbs d.natAbs : Nat) := by
    rw [hden]
    exact Int.natCast_ediv _ _
  have hl := lw_loop (.int n) (.int d) 4000 n.natAbs d.natAbs FUEL h1 (by decide +kernel)
  have e1 : max2D [.int n, .int (-n)] = some (.int (n.natAbs : Nat)) := by
    show some (D.int (if -n > n then -n else n)) = _
    congr 2
    split <;> omega
  have e2 : (d.natAbs : Int) = d := by omega
  rw [e2] at hl hdI
  generalize hge : Nat.gcd n.natAbs d.natAbs = g at *
  have hgi : (g : Int) ≠ 0 := by omega
  have hgB : ((g : Int)).natAbs < BIG := by simpa using hB
  have f1 : fdivD (.int n) (.int g) = some (.int (n / (g : Int))) := by
    refine (if_pos ⟨hgi, hgB⟩).trans ?_
    rw [Int.fdiv_eq_ediv_of_dvd dn]
  have f2 : fdivD (.int d) (.int g) = some (.int (d / (g : Int))) := by
    refine (if_pos ⟨hgi, hgB⟩).trans ?_
    rw [Int.fdiv_eq_ediv_of_dvd dd]
  have hres : rD (Rat.divInt n d) = .tup [.int (n / (g : Int)), .int (d / (g : Int))] := by
    unfold rD
    rw [hdI, hn, Int.sign_eq_one_of_pos hd, Int.one_mul]
  rw [hres]
  exact runP_rt ((seq_nx (par_to (a_cons (ca_eq (a_cons (v_eq rfl) (a_cons (un_eq (op := negD) (v_eq rfl) rfl) a_nil)) e1) (a_cons (v_eq rfl) a_nil)) rfl)).trans ((seq_nx (while_to hl)).trans (ret_eq (tup_eq (a_cons (bin_eq (v_eq rfl) (v_eq rfl) f1) (a_cons (bin_eq (v_eq rfl) (v_eq rfl) f2) a_nil)) (show (2 : Nat) ≤ 100000 by decide)))))
theorem tnot_f {f : M} {ρ ρ1 : Env} {d : D} (h : f ρ = some (d, ρ1)) (h2 : truD d = some true) : tNotM (tTr f) ρ = some (false, ρ1) := not_t (tr_eq h h2)
theorem F__law_is_ratio_eq {q : Rat} (hq : q.den < BIG) : F__law_is_ratio [rD q] = some (.bl true) := by
  have t1 : tOrM (tNotM (tTr (eUn (isiD "tuple") (eVar 0)))) (tBl (eBin neD (eCa lenD (aCons (eVar 0) aNil)) (eC (.int 2)))) (envOf 1 [rD q]) = some (false, envOf 1 [rD q]) :=
    (or_f (not_t (tr_eq (un_eq (v_eq rfl) (isi_tup_t _)) (tru_bl _)))).trans (bl_eq (bin_eq (ca_eq (a_cons (v_eq rfl) a_nil) rfl) rfl (neD_int 2 2)))
  obtain ⟨ρ1, h1, u, rfl⟩ := forG_all (gt := gtN 1) (gb := sIf (tOrM (tNotM (tTr (eUn (isiD "int") (eVar 1)))) (tTr (eUn (isiD "bool") (eVar 1)))) (sRet (eC (.bl false))) sNil) (fun ρ => ∃ u, ρ = [some (rD q), u]) [.int q.num, .int (q.den : Int)] [some (rD q), none] ⟨none, rfl⟩ (fun d hd ρ hρ => by
    obtain ⟨u, rfl⟩ := hρ
    obtain ⟨i, rfl⟩ : ∃ i, d = .int i := by
      rcases List.mem_cons.mp hd with h | h
      · exact ⟨_, h⟩
      · exact ⟨_, List.mem_singleton.mp h⟩
    refine ⟨[some (rD q), some (.int i)], [some (rD q), some (.int i)], rfl, ?_, _, rfl⟩
    exact (if_f ((or_f (not_t (tr_eq (un_eq (v_eq rfl) (isi_int_t i)) (tru_bl _)))).trans (tr_eq (un_eq (v_eq rfl) (isi_bool_int i)) (tru_bl _)))).trans rfl)
  have hd : (0 : Int) < (q.den : Int) := by
    have := q.den_pos
    omega
  have hl := F__law_low_eq q.num q.den hd (by simpa using hq)
  rw [Rat.num_divInt_den] at hl
  have he : eqD (rD q) (rD q) = some (.bl true) := by
    rw [eqD_rat]
    simp
  exact runP_rt ((seq_nx ((if_f t1).trans rfl)).trans ((seq_nx ((for_eq rfl).trans h1)).trans (ret_eq ((eand_t (bin_eq (a := .int q.den) (bin_eq (v_eq rfl) rfl rfl) rfl (geD_t (show (1 : Int) ≤ (q.den : Int) by omega)))).trans (bin_eq (ca_eq (a_cons (bin_eq (v_eq rfl) rfl rfl) (a_cons (bin_eq (v_eq rfl) rfl rfl) a_nil)) hl) (v_eq rfl) he)))))
theorem blsD_true {α : Type} : ∀ l : List α, blsD (l.map fun _ => .bl true) = some (l.map fun _ => true)
  | [] => rfl
  | x :: l => by
    rw [List.map_cons, blsD, blsD_true l]
    rfl
theorem F__law_is_function_eq (n : Nat) (hn : n ≤ 1000) (f : Nat → Rat) (hf : ∀ x, x < n → (f x).den < BIG) : F__law_is_function [funD n f, .int n] = some (.bl true) := by
  have hl0 : lenD [funD n f] = some (.int n) := by simp [lenD, funD]
  have hne : neD (.int n) (.int n) = some (.bl false) := by
    rw [neD_int]
    simp
  have t1 : tOrM (tNotM (tTr (eUn (isiD "tuple") (eVar 0)))) (tBl (eBin neD (eCa lenD (aCons (eVar 0) aNil)) (eVar 1))) (envOf 1 [funD n f, .int n]) = some (false, envOf 1 [funD n f, .int n]) :=
    (or_f (not_t (tr_eq (un_eq (v_eq rfl) (isi_tup_t _)) (tru_bl _)))).trans (bl_eq (bin_eq (ca_eq (a_cons (v_eq rfl) a_nil) hl0) (v_eq rfl) hne))
  have hc := eLc_pureT (fi := iSeq (eVar 0)) (vs := [2]) (gt := gtN 2) (f := eCa F__law_is_ratio (aCons (eVar 2) aNil)) (ρ := [some (funD n f), some (.int n), none]) (ρw := [some (funD n f), some (.int n), none]) (ds := (List.range n).map fun x => rD (f x)) rfl rfl (fun _ => .bl true) (fun d hd => by
    obtain ⟨x, hx, rfl⟩ := List.mem_map.mp hd
    exact ⟨[some (funD n f), some (.int n), some (rD (f x))], rfl, ca_eq (a_cons (v_eq rfl) a_nil) (F__law_is_ratio_eq (hf x (List.mem_range.mp hx))), rfl⟩) (by simp; omega)
  have ha : allD [.lst (((List.range n).map fun x => rD (f x)).map fun _ => .bl true)] = some (.bl true) := by
    show (blsD _).map _ = _
    rw [blsD_true, Option.map_some]
    congr 2
    rw [List.all_eq_true]
    intro b hb
    obtain ⟨_, _, rfl⟩ := List.mem_map.mp hb
    rfl
  exact runP_rt ((seq_nx ((if_f t1).trans rfl)).trans (ret_eq (ca_eq (a_cons hc a_nil) ha)))
end Z
/-! The law's draws, on data. -/
namespace Z
open PySem
def srcD (a b : Int) : D := .lst [.int a, .int b]
def SrcOk (b : Int) : Prop := 0 ≤ b ∧ b < 4294967296
theorem small_mul {i j : Int} (h : j.natAbs < 4294967296) : MulOk i j := .inr (.inl (Nat.lt_of_lt_of_le h (by decide)))
theorem mulD_s {i j : Int} (h : j.natAbs < 4294967296) : mulD (.int i) (.int j) = some (.int (i * j)) := if_pos (small_mul h)
theorem modD_p {i j : Int} (h : 0 < j) : ∃ r, modD (.int i) (.int j) = some (.int r) ∧ 0 ≤ r ∧ r < j := by
  have hne : j ≠ 0 := by omega
  exact ⟨i.fmod j, if_pos hne, Int.fmod_nonneg_of_pos i h, Int.fmod_lt_of_pos i h⟩
theorem fdivD_p {i j : Int} (h : 0 < j) (h2 : j.natAbs < 4294967296) : ∃ r, fdivD (.int i) (.int j) = some (.int r) := by
  have hne : j ≠ 0 := by omega
  exact ⟨i.fdiv j, if_pos ⟨hne, Nat.lt_of_lt_of_le h2 (by decide +kernel)⟩⟩
theorem oix0 {a b : Int} {ρ : Env} {i : Nat} (h : ρ[i]? = some (some (srcD a b))) : eOIx i (eC (.int 0)) ρ = some (.int a, ρ) := by
  have hl : lstAt i ρ = some [.int a, .int b] := by
    unfold lstAt
    rw [h]
    rfl
  unfold eOIx
  rw [hl, Option.bind_some]
  show ((lstAt i ρ).bind _) = _
  rw [hl]
  rfl
theorem oix1 {a b : Int} {ρ : Env} {i : Nat} (h : ρ[i]? = some (some (srcD a b))) : eOIx i (eC (.int 1)) ρ = some (.int b, ρ) := by
  have hl : lstAt i ρ = some [.int a, .int b] := by
    unfold lstAt
    rw [h]
    rfl
  unfold eOIx
  rw [hl, Option.bind_some]
  show ((lstAt i ρ).bind _) = _
  rw [hl]
  rfl
theorem put0 {a b v : Int} {fv : M} {ρ : Env} {i : Nat} (h : ρ[i]? = some (some (srcD a b))) (hv : fv ρ = some (.int v, ρ)) : sPut i fv (eC (.int 0)) ρ = some (.nx (ρ.set i (some (srcD v b)))) := by
  have hl : lstAt i ρ = some [.int a, .int b] := by
    unfold lstAt
    rw [h]
    rfl
  unfold sPut
  rw [hv, Option.bind_some, hl, Option.bind_some]
  show ((lstAt i ρ).bind _) = _
  rw [hl]
  rfl
theorem put1 {a b v : Int} {fv : M} {ρ : Env} {i : Nat} (h : ρ[i]? = some (some (srcD a b))) (hv : fv ρ = some (.int v, ρ)) : sPut i fv (eC (.int 1)) ρ = some (.nx (ρ.set i (some (srcD a v)))) := by
  have hl : lstAt i ρ = some [.int a, .int b] := by
    unfold lstAt
    rw [h]
    rfl
  unfold sPut
  rw [hv, Option.bind_some, hl, Option.bind_some]
  show ((lstAt i ρ).bind _) = _
  rw [hl]
  rfl
theorem int_eq {f : M} {ρ ρ1 : Env} {i : Int} (h : f ρ = some (.int i, ρ1)) : eCa intD (aCons f aNil) ρ = some (.int i, ρ1) := ca_eq (a_cons h a_nil) rfl
theorem runI_rt {m : Nat} {g : MS} {c c' : D} {ds : List D} {d : D} {ρ : Env} (h : g (envOf m (c :: ds)) = some (.rt d ρ)) (h2 : ρ[0]? = some (some c')) : runI m g c ds = some (d, c') := by
  unfold runI
  rw [h]
  simp only [h2]
theorem I_take_eq (a b top : Int) (hb : SrcOk b) (ht : 1 ≤ top) (ht2 : top < 4294967296) : ∃ r a' b', I__law_take (srcD a b) [.int top] = some (.int r, srcD a' b') ∧ 0 ≤ r ∧ r < top ∧ SrcOk b' := by
  by_cases h : 0 < a
  · obtain ⟨r, h1, h2, h3⟩ := modD_p (i := a) (j := top) (by omega)
    obtain ⟨q, h4⟩ := fdivD_p (i := a) (j := top) (by omega) (by omega)
    refine ⟨r, q, b, ?_, h2, h3, hb⟩
    have t1 : tBl (eBin gtD (eOIx 0 (eC (.int 0))) (eC (.int 0))) (envOf 1 (srcD a b :: [.int top])) = some (true, [some (srcD a b), some (.int top), none]) := bl_eq (bin_eq (oix0 rfl) rfl (gtD_t h))
    have s1 : sSet 2 (eBin modD (eCa intD (aCons (eOIx 0 (eC (.int 0))) aNil)) (eVar 1)) [some (srcD a b), some (.int top), none] = some (.nx [some (srcD a b), some (.int top), some (.int r)]) := set_to (bin_eq (int_eq (oix0 rfl)) (v_eq rfl) h1) rfl
    have s2 : sPut 0 (eBin fdivD (eOIx 0 (eC (.int 0))) (eVar 1)) (eC (.int 0)) [some (srcD a b), some (.int top), some (.int r)] = some (.nx [some (srcD q b), some (.int top), some (.int r)]) := put0 rfl (bin_eq (oix0 rfl) (v_eq rfl) h4)
    exact runI_rt (seq_rt ((if_t t1).trans ((seq_nx s1).trans ((seq_nx s2).trans (ret_eq (v_eq rfl)))))) rfl
  · obtain ⟨m, h1, h2, h3⟩ := modD_p (i := b * 39373 + 7) (j := 2147483647) (by decide)
    have hm : SrcOk m := ⟨h2, by omega⟩
    obtain ⟨n, h4, h5, h6⟩ := modD_p (i := m * m) (j := 2147483629) (by decide)
    obtain ⟨q, h7⟩ := fdivD_p (i := n) (j := 32) (by decide) (by decide)
    obtain ⟨r, h8, h9, h10⟩ := modD_p (i := q) (j := top) (by omega)
    refine ⟨r, a, m, ?_, h9, h10, hm⟩
    have t1 : tBl (eBin gtD (eOIx 0 (eC (.int 0))) (eC (.int 0))) (envOf 1 (srcD a b :: [.int top])) = some (false, [some (srcD a b), some (.int top), none]) := bl_eq (bin_eq (oix0 rfl) rfl (gtD_f h))
    have s1 : sPut 0 (eBin modD (eCa intD (aCons (eBin addD (eBin mulD (eOIx 0 (eC (.int 1))) (eC (.int 39373))) (eC (.int 7))) aNil)) (eC (.int 2147483647))) (eC (.int 1)) [some (srcD a b), some (.int top), none] = some (.nx [some (srcD a m), some (.int top), none]) := put1 rfl (bin_eq (int_eq (bin_eq (bin_eq (oix1 rfl) rfl (mulD_s (by decide))) rfl rfl)) rfl h1)
    have s2 : sRet (eBin modD (eCa intD (aCons (eBin fdivD (eBin modD (eCa intD (aCons (eBin mulD (eOIx 0 (eC (.int 1))) (eOIx 0 (eC (.int 1)))) aNil)) (eC (.int 2147483629))) (eC (.int 32))) aNil)) (eVar 1)) [some (srcD a m), some (.int top), none] = some (.rt (.int r) [some (srcD a m), some (.int top), none]) :=
      ret_eq (bin_eq (int_eq (bin_eq (bin_eq (int_eq (bin_eq (oix1 rfl) (oix1 rfl) (mulD_s (by have := hm.2; have := hm.1; omega)))) rfl h4) rfl h7)) (v_eq rfl) h8)
    exact runI_rt ((seq_nx ((if_f t1).trans rfl)).trans ((seq_nx s1).trans s2)) rfl
/-- a draw from the source in a slot -/
theorem take_at {i : Nat} {f : M} {ρ ρ1 : Env} {a b top : Int} (h0 : ∃ d, ρ[i]? = some (some d)) (h : f ρ = some (.int top, ρ1)) (h1 : ρ1[i]? = some (some (srcD a b))) (hb : SrcOk b) (ht : 1 ≤ top) (ht2 : top < 4294967296) : ∃ r a' b', eCaI i I__law_take (aCons f aNil) ρ = some (.int r, ρ1.set i (some (srcD a' b'))) ∧ 0 ≤ r ∧ r < top ∧ SrcOk b' := by
  obtain ⟨r, a', b', h2, h3, h4, h5⟩ := I_take_eq a b top hb ht ht2
  refine ⟨r, a', b', ?_, h3, h4, h5⟩
  obtain ⟨d, h0⟩ := h0
  unfold eCaI
  rw [v_eq h0, Option.bind_some, a_cons h a_nil, Option.bind_some]
  simp only [h1, h2]
  rfl
theorem I_one_eq (a b : Int) (xs : List D) (hb : SrcOk b) (h1 : 1 ≤ xs.length) (h2 : xs.length < 100000) : ∃ (r : Nat) (d : D) (a' b' : Int), I__law_one (srcD a b) [.lst xs] = some (d, srcD a' b') ∧ xs[r]? = some d ∧ SrcOk b' := by
  obtain ⟨r, a', b', h3, h4, h5, h6⟩ := take_at (i := 0) (f := eCa lenD (aCons (eVar 1) aNil)) (ρ := [some (srcD a b), some (.lst xs)]) (ρ1 := [some (srcD a b), some (.lst xs)]) (a := a) (b := b) (top := (xs.length : Nat)) ⟨_, rfl⟩ (ca_eq (a_cons (v_eq rfl) a_nil) rfl) rfl hb (by omega) (by omega)
  have hr : r.toNat < xs.length := by omega
  refine ⟨r.toNat, xs[r.toNat], a', b', ?_, List.getElem?_eq_getElem hr, h6⟩
  have hix : ixD (.lst xs) (.int r) = some xs[r.toNat] := by
    have e : ((r.toNat : Nat) : Int) = r := by omega
    have := L2.atI_nat (xs := xs) (j := r.toNat) (List.getElem?_eq_getElem hr)
    rw [e] at this
    exact this
  exact runI_rt (ret_eq (bin_eq (v_eq rfl) h3 hix)) rfl
theorem one_at {i : Nat} {f : M} {ρ ρ1 : Env} {a b : Int} {xs : List D} (h0 : ∃ d, ρ[i]? = some (some d)) (h : f ρ = some (.lst xs, ρ1)) (h1 : ρ1[i]? = some (some (srcD a b))) (hb : SrcOk b) (hl : 1 ≤ xs.length) (hl2 : xs.length < 100000) : ∃ (r : Nat) (d : D) (a' b' : Int), eCaI i I__law_one (aCons f aNil) ρ = some (d, ρ1.set i (some (srcD a' b'))) ∧ xs[r]? = some d ∧ SrcOk b' := by
  obtain ⟨r, d, a', b', h2, h3, h5⟩ := I_one_eq a b xs hb hl hl2
  refine ⟨r, d, a', b', ?_, h3, h5⟩
  obtain ⟨d, h0⟩ := h0
  unfold eCaI
  rw [v_eq h0, Option.bind_some, a_cons h a_nil, Option.bind_some]
  simp only [h1, h2]
  rfl
theorem F__law_pool_eq (ns : List Int) (k : Nat) (hk : k < 1000) : ∃ a b, F__law_pool [.lst (ns.map D.int), .int k] = some (srcD a b) ∧ SrcOk b := by
  -- the cell
  have hcell : ∃ c : Int, sIf (tBl (eBin ltD (eVar 1) (eCa lenD (aCons (eVar 0) aNil)))) (sSet 2 (eBin ixD (eVar 0) (eVar 1))) (sIf (tTr (eVar 0)) (sSet 2 (eBin ixD (eVar 0) (eC (.int 0)))) sNil) [some (.lst (ns.map D.int)), some (.int k), some (.int 0), none, none] = some (.nx [some (.lst (ns.map D.int)), some (.int k), some (.int c), none, none]) := by
    by_cases h : k < ns.length
    · refine ⟨ns[k], (if_t (bl_eq (bin_eq (v_eq rfl) (ca_eq (a_cons (v_eq rfl) a_nil) rfl) (ltD_t ?_)))).trans (set_to (bin_eq (v_eq rfl) (v_eq rfl) ?_) rfl)⟩
      · rw [List.length_map]
        omega
      · exact L2.atI_nat (by rw [List.getElem?_map, List.getElem?_eq_getElem h]; rfl)
    · have h1 := if_f (t := tBl (eBin ltD (eVar 1) (eCa lenD (aCons (eVar 0) aNil)))) (g1 := sSet 2 (eBin ixD (eVar 0) (eVar 1))) (g2 := sIf (tTr (eVar 0)) (sSet 2 (eBin ixD (eVar 0) (eC (.int 0)))) sNil) (ρ := [some (.lst (ns.map D.int)), some (.int k), some (.int 0), none, none]) (bl_eq (bin_eq (v_eq rfl) (ca_eq (a_cons (v_eq rfl) a_nil) rfl) (ltD_f (by rw [List.length_map]; omega))))
      cases ns with
      | nil => exact ⟨0, h1.trans ((if_f (tr_eq (v_eq rfl) rfl)).trans rfl)⟩
      | cons n ns => exact ⟨n, h1.trans ((if_t (tr_eq (v_eq rfl) rfl)).trans (set_to (bin_eq (v_eq rfl) rfl (show ixD (.lst ((n :: ns).map D.int)) (.int ((0 : Nat) : Int)) = some (.int n) from L2.atI_nat rfl)) rfl))⟩
  obtain ⟨c, hc⟩ := hcell
  obtain ⟨m, hm⟩ : ∃ m : Int, max2D [.int c, .int (-1 - c)] = some (.int m) := ⟨_, rfl⟩
  obtain ⟨r1, h1, _⟩ := modD_p (i := m) (j := 2147483629) (by decide)
  have hk1 : ((k : Int)).natAbs < 4294967296 := by simp; omega
  obtain ⟨r2, h2, h3, h4⟩ := modD_p (i := (r1 + 7919 * (k : Int) * (k : Int) + 31 * (k : Int) + 17) * 48271) (j := 2147483647) (by decide)
  obtain ⟨e, he⟩ : ∃ e : Int, eCa intD (aCons (eBin geD (eVar 3) (eBin powD (eC (.int 10)) (eC (.int 18)))) aNil) [some (.lst (ns.map D.int)), some (.int k), some (.int c), some (.int m), some (.int r2)] = some (.int e, [some (.lst (ns.map D.int)), some (.int k), some (.int c), some (.int m), some (.int r2)]) ∧ e.natAbs < 4294967296 := by
    have hp : powD (.int 10) (.int 18) = some (.int (10 ^ 18)) := (if_pos (show (0 : Int) ≤ 18 ∧ (18 : Int) ≤ 1000 ∧ (10 : Int).natAbs < 2 ^ 64 by decide) : (if (0 : Int) ≤ 18 ∧ (18 : Int) ≤ 1000 ∧ (10 : Int).natAbs < 2 ^ 64 then some (D.int ((10 : Int) ^ (18 : Int).toNat)) else none) = some (D.int ((10 : Int) ^ (18 : Int).toNat))).trans rfl
    by_cases hq : (10 ^ 18 : Int) ≤ m
    · exact ⟨1, ca_eq (a_cons (bin_eq (v_eq rfl) (bin_eq rfl rfl hp) (geD_t hq)) a_nil) rfl, by decide⟩
    · exact ⟨0, ca_eq (a_cons (bin_eq (v_eq rfl) (bin_eq rfl rfl hp) (geD_f hq)) a_nil) rfl, by decide⟩
  refine ⟨m * e, r2, ?_, h3, by omega⟩
  have s3 : sSet 3 (eCa max2D (aCons (eCa intD (aCons (eVar 2) aNil)) (aCons (eCa intD (aCons (eBin subD (eUn negD (eC (.int 1))) (eVar 2)) aNil)) aNil))) [some (.lst (ns.map D.int)), some (.int k), some (.int c), none, none] = some (.nx [some (.lst (ns.map D.int)), some (.int k), some (.int c), some (.int m), none]) :=
    set_to (ca_eq (a_cons (int_eq (v_eq rfl)) (a_cons (int_eq (bin_eq (un_eq (op := negD) (a := .int 1) (d := .int (-1)) rfl rfl) (v_eq rfl) rfl)) a_nil)) hm) rfl
  have s4 := bin_eq (op := modD) (fb := eC (.int 2147483647)) (int_eq (bin_eq (op := mulD) (fb := eC (.int 48271)) (bin_eq (op := addD) (fb := eC (.int 17)) (bin_eq (op := addD) (fb := eBin mulD (eC (.int 31)) (eVar 1)) (bin_eq (op := addD) (fb := eBin mulD (eBin mulD (eC (.int 7919)) (eVar 1)) (eVar 1)) (bin_eq (op := modD) (fb := eC (.int 2147483629)) (int_eq (v_eq (i := 3) (ρ := [some (.lst (ns.map D.int)), some (.int k), some (.int c), some (.int m), none]) rfl)) rfl h1) (bin_eq (bin_eq rfl (v_eq rfl) (mulD_s hk1)) (v_eq rfl) (mulD_s hk1)) rfl) (bin_eq rfl (v_eq rfl) (mulD_s hk1)) rfl) rfl rfl) rfl (mulD_s (by decide)))) rfl h2
  have s5 : (sRetF (eLst (aCons (eBin mulD (eVar 3) (eCa intD (aCons (eBin geD (eVar 3) (eBin powD (eC (.int 10)) (eC (.int 18)))) aNil))) (aCons (eVar 4) aNil)))) [some (.lst (ns.map D.int)), some (.int k), some (.int c), some (.int m), some (.int r2)] = some (.rf (srcD (m * e) r2) [some (.lst (ns.map D.int)), some (.int k), some (.int c), some (.int m), some (.int r2)]) := by
    have := lst_eq (a_cons (bin_eq (v_eq (i := 3) rfl) he.1 (mulD_s he.2)) (a_cons (v_eq (i := 4) rfl) a_nil)) (show (2 : Nat) ≤ 100000 by decide)
    unfold sRetF
    rw [this]
    rfl
  exact runF_rf ((seq_nx (set_to rfl rfl)).trans ((seq_nx hc).trans ((seq_nx s3).trans ((seq_nx (set_to s4 rfl)).trans s5))))
end Z
/-! Names that the law draws. -/
namespace Z
open PySem PySem.Spec PyProof.Rows L2 RZ GxR
theorem letters_eq : letters.cps.toList = (List.range 26).map (97 + ·) := by decide +kernel
theorem empty_cps : ("" : PySem.Str).cps = #[] := by decide +kernel
def sgD (c : Nat) : D := .str ⟨#[c]⟩
theorem strsD_sg : ∀ cs : List Nat, strsD (cs.map sgD) = some (cs.map fun c => (⟨#[c]⟩ : PySem.Str))
  | [] => rfl
  | c :: cs => by
    rw [List.map_cons]
    show (strsD (cs.map sgD)).map _ = _
    rw [strsD_sg cs]
    rfl
theorem glue_fold : ∀ (cs : List Nat) (a : Array Nat), ((cs.map fun c => (⟨#[c]⟩ : PySem.Str)).foldl (fun acc p => acc ++ ("" : PySem.Str).cps ++ p.cps) a) = a ++ cs.toArray
  | [], a => by simp
  | c :: cs, a => by
    rw [List.map_cons, List.foldl_cons, glue_fold cs, empty_cps]
    simp
theorem join_sg (cs : List Nat) : Txt.join ("" : PySem.Str) (cs.map fun c => (⟨#[c]⟩ : PySem.Str)) = (⟨cs.toArray⟩ : PySem.Str) := by
  cases cs with
  | nil => rfl
  | cons c cs =>
    have := glue_fold cs #[c]
    show (⟨(cs.map fun c => (⟨#[c]⟩ : PySem.Str)).foldl (fun acc p => acc ++ ("" : PySem.Str).cps ++ p.cps) #[c]⟩ : PySem.Str) = _
    rw [this]
    simp
theorem nameOk_of {cs : List Nat} (h1 : 1 ≤ cs.length) (h4 : cs.length ≤ 4) (h : ∀ c ∈ cs, c ∈ letters.cps.toList) : NameOk ⟨cs.toArray⟩ := by
  refine ⟨?_, ?_, ?_, ?_⟩
  · show 1 ≤ cs.toArray.size
    simpa using h1
  · show cs.toArray.size ≤ 4
    simpa using h4
  · intro c hc
    exact h c (by simpa using hc)
  · show cs.toArray.all (· < 0x110000) = true
    rw [List.all_toArray, List.all_eq_true]
    intro c hc
    have := h c hc
    rw [letters_eq] at this
    obtain ⟨i, hi, rfl⟩ := List.mem_map.mp this
    have := List.mem_range.mp hi
    exact decide_eq_true (by omega)
theorem compG_step {vs : List Nat} {gt : D → Env → Option Env} {t : MT} {f : M} {d x : D} {ds r : List D} {ρ ρ1 ρ2 ρ3 ρ4 : Env} (h1 : gt d (wipeE vs ρ) = some ρ1) (h2 : t ρ1 = some (true, ρ2)) (h3 : f ρ2 = some (x, ρ3)) (h4 : compG vs gt t f ds ρ3 = some (r, ρ4)) : compG vs gt t f (d :: ds) ρ = some (x :: r, ρ4) := by
  rw [compG, h1, Option.bind_some, h2, Option.bind_some]
  show ((f ρ2).bind _) = _
  rw [h3, Option.bind_some, h4]
  rfl
/-- the comprehension that draws letters: i is the source's slot, j the letters', k the turn's -/
theorem name_comp {N : Nat} {i j k : Nat} (hij : i ≠ k) (hjk : j ≠ k) (hne : i ≠ j) : ∀ (ds : List D) (ρ : Env) (a b : Int), ρ[i]? = some (some (srcD a b)) → ρ[j]? = some (some (.str letters)) → SrcOk b →
    ∃ (cs : List Nat) (ρ' : Env) (a' b' : Int), compG [k] (gtN k) tTrue (eBin ixD (eVar j) (eCaI i I__law_take (aCons (eC (.int 26)) aNil))) ds ρ = some (cs.map sgD, ρ') ∧ cs.length = ds.length ∧ (∀ c ∈ cs, c ∈ letters.cps.toList) ∧ SrcOk b' ∧ ρ'.length = ρ.length ∧ ρ'[i]? = some (some (srcD a' b')) ∧ ∀ m, m ≠ i → m ≠ k → ρ'[m]? = ρ[m]?
  | [], ρ, a, b, h1, h2, h3 => ⟨[], ρ, a, b, rfl, rfl, (fun _ h => by cases h), h3, rfl, h1, fun _ _ _ => rfl⟩
  | d :: ds, ρ, a, b, h1, h2, h3 => by
    have g1 : ((ρ.set k none).set k (some d))[i]? = some (some (srcD a b)) := by rw [List.getElem?_set_ne (Ne.symm hij), List.getElem?_set_ne (Ne.symm hij)]; exact h1
    have g2 : ((ρ.set k none).set k (some d))[j]? = some (some (.str letters)) := by rw [List.getElem?_set_ne (Ne.symm hjk), List.getElem?_set_ne (Ne.symm hjk)]; exact h2
    obtain ⟨r, a1, b1, t1, t2, t3, t4⟩ := take_at (i := i) (f := eC (.int 26)) (ρ := (ρ.set k none).set k (some d)) (ρ1 := (ρ.set k none).set k (some d)) (a := a) (b := b) (top := 26) ⟨_, g1⟩ rfl g1 h3 (by decide) (by decide)
    have hi : i < ρ.length := (List.getElem?_eq_some_iff.mp h1).1
    obtain ⟨cs, ρ', a', b', c1, c2, c3, c4, c5, c6, c7⟩ := name_comp (N := N) hij hjk hne ds (((ρ.set k none).set k (some d)).set i (some (srcD a1 b1))) a1 b1 (by rw [List.getElem?_set_self (by simp; exact hi)]) (by rw [List.getElem?_set_ne hne]; exact g2) t4
    have hr : r.toNat < 26 := by omega
    have hl : letters.cps.toList.length = 26 := by rw [letters_eq]; rfl
    have hix : ixD (.str letters) (.int r) = some (sgD (letters.cps.toList[r.toNat]'(by omega))) := by
      have e : ((r.toNat : Nat) : Int) = r := by omega
      have h4 := L2.atI_nat (xs := letters.cps.toList) (j := r.toNat) (List.getElem?_eq_getElem (by omega))
      rw [e] at h4
      have hle : letters.length ≤ 100000 := by
        show letters.cps.size ≤ 100000
        rw [← Array.length_toList, hl]
        decide
      show (if letters.length ≤ 100000 then (L2.atI letters.cps.toList r).map sgD else none) = _
      rw [if_pos hle, h4]
      rfl
    refine ⟨(letters.cps.toList[r.toNat]'(by omega)) :: cs, ρ', a', b', ?_, by simp [c2], fun c hc => ?_, c4, by rw [c5]; simp, c6, fun m m1 m2 => ?_⟩
    · exact compG_step rfl rfl (bin_eq (v_eq g2) t1 hix) c1
    · rcases List.mem_cons.mp hc with rfl | hc
      · exact List.getElem_mem _
      · exact c3 c hc
    · rw [c7 m m1 m2, List.getElem?_set_ne (Ne.symm m1), List.getElem?_set_ne (Ne.symm m2), List.getElem?_set_ne (Ne.symm m2)]
theorem env_fix {E ρ' : Env} {i k : Nat} {v w : Option D} (hik : i ≠ k) (hl : ρ'.length = E.length) (h1 : ρ'[i]? = some v) (h : ∀ m, m ≠ i → m ≠ k → ρ'[m]? = E[m]?) : ρ'.set k w = (E.set i v).set k w := by
  refine List.ext_getElem? fun m => ?_
  by_cases hk : m = k
  · subst hk
    by_cases hm : m < E.length
    · rw [List.getElem?_set_self (by omega), List.getElem?_set_self (by simpa using hm)]
    · rw [List.getElem?_eq_none (by simp; omega), List.getElem?_eq_none (by simp; omega)]
  · rw [List.getElem?_set_ne (Ne.symm hk), List.getElem?_set_ne (Ne.symm hk)]
    by_cases hi : m = i
    · subst hi
      have hm := (List.getElem?_eq_some_iff.mp h1).1
      rw [h1, List.getElem?_set_self (by omega)]
    · rw [List.getElem?_set_ne (Ne.symm hi)]
      exact h m hi hk
/-- the name drawn -/
theorem name_drawL {E : Env} {i j k : Nat} {fc : M} {E1 : Env} {a b n : Int} (hij : i ≠ k) (hjk : j ≠ k) (hne : i ≠ j) (hc : fc E = some (.int n, E1)) (hn : 1 ≤ n ∧ n ≤ 4) (h1 : E1[i]? = some (some (srcD a b))) (h2 : E1[j]? = some (some (.str letters))) (hk : E1[k]? = some none) (hb : SrcOk b) :
    ∃ (cs : List Nat) (a' b' : Int), eJoin (eC (.str "")) (eLc (iRngM (aCons fc aNil)) [k] (gtN k) tTrue (eBin ixD (eVar j) (eCaI i I__law_take (aCons (eC (.int 26)) aNil)))) E = some (.str ⟨cs.toArray⟩, (E1.set i (some (srcD a' b'))).set k none) ∧ (1 ≤ cs.length ∧ cs.length ≤ 4) ∧ (∀ c ∈ cs, c ∈ letters.cps.toList) ∧ SrcOk b' := by
  have hr : iRngM (aCons fc aNil) E = some (rngL 0 n.toNat, E1) := iRng1 (a_cons hc a_nil) (by
    have e : (1000 : Int) < P62 := by decide +kernel
    have e2 : -P62 ≤ 0 := by decide +kernel
    omega)
  have hlen : (rngL 0 n.toNat).length = n.toNat := by simp [rngL]
  obtain ⟨cs, ρ', a', b', c1, c2, c3, c4, c5, c6, c7⟩ := name_comp (N := 0) hij hjk hne (rngL 0 n.toNat) E1 a b h1 h2 hb
  have hcl : cs.length = n.toNat := c2.trans hlen
  refine ⟨cs, a', b', ?_, ⟨by omega, by omega⟩, c3, c4⟩
  have he : eLc (iRngM (aCons fc aNil)) [k] (gtN k) tTrue (eBin ixD (eVar j) (eCaI i I__law_take (aCons (eC (.int 26)) aNil))) E = some (.lst (cs.map sgD), (E1.set i (some (srcD a' b'))).set k none) := by
    unfold eLc
    rw [hr, Option.bind_some]
    show ((compG _ _ _ _ (rngL 0 n.toNat) E1).bind _) = _
    rw [c1, Option.bind_some]
    have hle : (rngL 0 n.toNat).length ≤ 100000 := by omega
    refine (if_pos hle).trans ?_
    have : restE [k] E1 ρ' = ρ'.set k none := by
      show (match E1[k]? with
        | some x => (restE [] E1 ρ').set k x
        | none => restE [] E1 ρ') = _
      rw [hk]
      rfl
    show some (D.lst (cs.map sgD), restE [k] E1 ρ') = _
    rw [this, env_fix hij c5 c6 c7]
  unfold eJoin
  show ((eLc _ _ _ _ _ E).bind _) = _
  rw [he, Option.bind_some]
  have hj : joinD (.str "") [.lst (cs.map sgD)] = some (.str ⟨cs.toArray⟩) := by
    show ((strsD (cs.map sgD)).bind _) = _
    rw [strsD_sg, Option.bind_some]
    have hcond : ((cs.map fun c => (⟨#[c]⟩ : PySem.Str)).map (·.length)).sum + (cs.map fun c => (⟨#[c]⟩ : PySem.Str)).length * ("" : PySem.Str).length ≤ 100000 := by
      have e1 : ((cs.map fun c => (⟨#[c]⟩ : PySem.Str)).map (·.length)).sum = cs.length := by
        rw [List.map_map]
        have : ∀ l : List Nat, (l.map ((fun x : PySem.Str => x.length) ∘ fun c => (⟨#[c]⟩ : PySem.Str))).sum = l.length := fun l => by
          induction l with
          | nil => rfl
          | cons c l ih =>
            rw [List.map_cons, List.sum_cons, ih, List.length_cons]
            show 1 + l.length = _
            omega
        exact this cs
      have e2 : ("" : PySem.Str).length = 0 := by decide +kernel
      rw [e1, e2, Nat.mul_zero]
      omega
    refine (if_pos hcond).trans ?_
    rw [join_sg]
  rw [hj]
  rfl
end Z
/-! Averages over stakes. -/
namespace Z
open PySem
/-- the weights of the outs -/
def outsW (l : List (Int × Int)) : Int := (l.map (·.2)).sum
/-- the sum of weight times f at the result -/
def outSum (g : Nat) (t : Tb) (x s : Nat) (f : Nat → Rat) : Rat := (t.outs.map fun p => (p.2 : Rat) * f (outZ g t x s p.1).toNat).sum
theorem slot_avgSum {t : Tb} (h : TbOk t) {g x s : Nat} (hx : s + t.fee ≤ x) (f : Nat → Rat) : avgSum f (slot g t x s) = outSum g t x s f := by
  have hk := slKV_ok h (g := g) hx
  unfold slot
  rw [sortK_sum f hk.nd]
  unfold slKV
  rw [mergeK_sum (fun k => f k.toNat) (outZ g t x s) t.outs [] List.Pairwise.nil]
  show (0 : Rat) + _ = _
  unfold outSum
  grind
theorem sum_castQ : ∀ l : List (Int × Int), (l.map fun p => (p.2 : Rat) * 1).sum = ((outsW l : Int) : Rat)
  | [] => rfl
  | p :: l => by
    have := sum_castQ l
    unfold outsW at this ⊢
    rw [List.map_cons, List.map_cons, List.sum_cons, List.sum_cons, this, Rat.intCast_add]
    grind
theorem slot_wsum {t : Tb} (h : TbOk t) {g x s : Nat} (hx : s + t.fee ≤ x) : wsum (slot g t x s) = outsW t.outs := by
  have h1 := slot_avgSum h (g := g) hx fun _ => 1
  rw [avgSum_const] at h1
  unfold outSum at h1
  rw [sum_castQ] at h1
  have h2 : ((wsum (slot g t x s) : Int) : Rat) = ((outsW t.outs : Int) : Rat) := by grind
  exact Rat.intCast_inj.mp h2
theorem slot_avg {t : Tb} (h : TbOk t) {g x s : Nat} (hx : s + t.fee ≤ x) (f : Nat → Rat) : avg f (slot g t x s) = outSum g t x s f / (outsW t.outs : Rat) := by
  unfold avg
  rw [slot_avgSum h hx, slot_wsum h hx]
theorem mem_plays {g : Nat} {ts : List Tb} {x : Nat} {l : Lot} : l ∈ housePl g ts x ↔ ∃ t s, t ∈ ts ∧ s ∈ stk t ∧ s + t.fee ≤ x ∧ l = slot g t x s := by
  unfold housePl
  rw [List.mem_map]
  constructor
  · rintro ⟨p, hp, rfl⟩
    obtain ⟨h1, h2, h3⟩ := mem_openS.mp hp
    exact ⟨p.1, p.2, h1, h2, h3, rfl⟩
  · rintro ⟨t, s, h1, h2, h3, rfl⟩
    exact ⟨(t, s), mem_openS.mpr ⟨h1, h2, h3⟩, rfl⟩
/-- a house's board is small -/
theorem house_tiny {g : Nat} {ts : List Tb} (h : HsOk g ts) {pay : Nat → Rat} {Q P W : Nat} (q0 : 0 < Q) (q64 : Q < L64) (w1 : 1 ≤ W) (hw : ∀ t ∈ ts, ∀ p ∈ t.outs, p.2 ≤ W) (hp : ∀ x, x < g + 1 → Qz Q P (pay x)) (big : ((g + 1) * (8 * (6 * W) * (P + Q))) ^ (g + 1) < SZ) : Tiny (hB g ts pay) Q P (6 * W) := by
  refine ⟨q0, q64, by omega, fun x hx l hl p hpl => ?_, hp, big, fun x hx l hl => ?_, ?_⟩
  · obtain ⟨t, s, h1, h2, h3, rfl⟩ := mem_plays.mp hl
    have hk := mergeK_ok (g := (g : Int)) (U := W) (out := outZ g t x s) t.outs [] 0 0 ⟨List.Pairwise.nil, Nat.le_refl 0, (fun _ h => by cases h), (fun _ h => by cases h)⟩ fun p hp => ⟨outZ_rng (h.tb t h1) h3 hp, by have := (h.tb t h1).outs.rng p hp; have := hw t h1 p hp; omega⟩
    obtain ⟨r, hr, rfl⟩ := sortK_mem hk.nd hpl
    have := hk.w r hr
    have h6 := (h.tb t h1).outs.l6
    have : t.outs.length * W ≤ 6 * W := Nat.mul_le_mul_right _ h6
    show r.2.natAbs ≤ 6 * W
    omega
  · obtain ⟨t, s, h1, h2, h3, rfl⟩ := mem_plays.mp hl
    exact asc_nodup (slot_fine (h.tb t h1) h3).asc
  · refine Nat.lt_of_le_of_lt ?_ big
    have h1 : 8 * (6 * W) * (P + Q) ≤ (g + 1) * (8 * (6 * W) * (P + Q)) := Nat.le_mul_of_pos_left _ (by omega)
    have hpos : 0 < (g + 1) * (8 * (6 * W) * (P + Q)) := by
      have : 1 * 1 ≤ (8 * (6 * W)) * (P + Q) := Nat.mul_le_mul (by omega) (by omega)
      exact Nat.mul_pos (by omega) (by omega)
    refine Nat.le_trans h1 ?_
    conv => lhs; rw [← Nat.pow_one ((g + 1) * (8 * (6 * W) * (P + Q)))]
    exact Nat.pow_le_pow_right hpos (by omega)
end Z
/-! The law's names, on data: unlike the used ones. -/
namespace Z
open PySem PySem.Spec PyProof.Rows L2 RZ GxR
/-- a text of signs -/
def txt (cs : List Nat) : PySem.Str := ⟨cs.toArray⟩
theorem txt_inj {a b : List Nat} (h : txt a = txt b) : a = b := by
  have := congrArg PySem.Str.cps h
  simpa [txt] using this
theorem txt_len (cs : List Nat) : (txt cs).length = cs.length := by
  show cs.toArray.size = cs.length
  simp
theorem txt_list (cs : List Nat) : (txt cs).cps.toList = cs := by simp [txt]
theorem sgD_txt (c : Nat) : sgD c = .str (txt [c]) := rfl
theorem letter_mem (i : Nat) (h : i < 26) : 97 + i ∈ letters.cps.toList := by
  rw [letters_eq]
  exact List.mem_map.mpr ⟨i, List.mem_range.mpr h, rfl⟩
theorem letter_of {c : Nat} (h : c ∈ letters.cps.toList) : ∃ i, i < 26 ∧ c = 97 + i := by
  rw [letters_eq] at h
  obtain ⟨i, hi, rfl⟩ := List.mem_map.mp h
  exact ⟨i, List.mem_range.mp hi, rfl⟩
theorem letters_len : letters.length ≤ 100000 := by
  show letters.cps.size ≤ 100000
  rw [← Array.length_toList, letters_eq]
  decide
theorem letters_ix (i : Nat) (h : i < 26) : ixD (.str letters) (.int (i : Nat)) = some (.str (txt [97 + i])) := by
  show (if letters.length ≤ 100000 then (L2.atI letters.cps.toList (i : Int)).map sgD else none) = _
  rw [if_pos letters_len, L2.atI_nat (v := 97 + i) (by rw [letters_eq, List.getElem?_map, List.getElem?_range h]; rfl)]
  rfl
def sidxN (i : Nat) : Option Nat := (Builtin.Str.occurrences letters (txt [97 + i]) 0 letters.length 1).head?
theorem sidx_all : ((List.range 26).all fun i => decide (sidxN i = some i)) = true := by decide +kernel
theorem sidx_letter (i : Nat) (h : i < 26) : sidxD (.str letters) (.str (txt [97 + i])) = some (.int (i : Nat)) := by
  have h1 := of_decide_eq_true (List.all_eq_true.mp sidx_all i (List.mem_range.mpr h))
  have h1 : (Builtin.Str.occurrences letters (txt [97 + i]) 0 letters.length 1).head? = some i := h1
  show (match Builtin.Str.occurrences letters (txt [97 + i]) 0 letters.length 1 with
    | i :: _ => some (D.int (i : Nat))
    | [] => none) = _
  cases e : Builtin.Str.occurrences letters (txt [97 + i]) 0 letters.length 1 with
  | nil =>
    rw [e] at h1
    cases h1
  | cons j rest =>
    rw [e] at h1
    cases h1
    rfl
theorem last_ix (p : List Nat) (c : Nat) (hl : p.length < 1000) : ixD (.str (txt (p ++ [c]))) (.int (-1)) = some (.str (txt [c])) := by
  have hle : (txt (p ++ [c])).length ≤ 100000 := by
    rw [txt_len, List.length_append, List.length_singleton]
    omega
  show (if (txt (p ++ [c])).length ≤ 100000 then (L2.atI (txt (p ++ [c])).cps.toList (-1)).map sgD else none) = _
  rw [if_pos hle, txt_list]
  have hix : L2.ixN (p ++ [c]).length (-1) = some p.length := by
    unfold L2.ixN
    rw [if_neg (by decide), if_pos (by rw [List.length_append, List.length_singleton]; omega), List.length_append, List.length_singleton]
    congr 1
    omega
  unfold L2.atI
  rw [hix, Option.bind_some, List.getElem?_append_right (Nat.le_refl _), Nat.sub_self]
  rfl
theorem cut_last (p : List Nat) (c : Nat) (hl : p.length < 1000) : slD (.str (txt (p ++ [c]))) none (some (-1)) = some (.str (txt p)) := by
  have hle : (txt (p ++ [c])).length ≤ 100000 := by
    rw [txt_len, List.length_append, List.length_singleton]
    omega
  refine (if_pos hle).trans ?_
  have : L2.cutS (txt (p ++ [c])) none (some (-1)) = txt p := by
    unfold L2.cutS
    have e1 : HT.sIx (txt (p ++ [c])).length 0 none = 0 := rfl
    have e2 : HT.sIx (txt (p ++ [c])).length (txt (p ++ [c])).length (some (-1)) = p.length := by
      show (if (-1 : Int) < 0 then ((-1 : Int) + ((txt (p ++ [c])).length : Int)).toNat else min (-1 : Int).toNat (txt (p ++ [c])).length) = _
      rw [if_pos (by decide), txt_len, List.length_append, List.length_singleton]
      omega
    rw [e1, e2, txt_list, List.drop_zero, Nat.sub_zero, List.take_left]
    rfl
  rw [this]
theorem app_txt (a b : List Nat) (h : a.length + b.length ≤ 100000) : addD (.str (txt a)) (.str (txt b)) = some (.str (txt (a ++ b))) := by
  have hle : (txt a).length + (txt b).length ≤ 100000 := by
    rw [txt_len, txt_len]
    exact h
  refine (if_pos hle).trans ?_
  have : txt a ++ txt b = txt (a ++ b) := by
    show PySem.Str.append (txt a) (txt b) = _
    unfold PySem.Str.append txt
    simp
  rw [this]
/-- names used: a list or a tuple of texts -/
structure UsedD (U : D) (us : List PySem.Str) : Prop where
  mem : ∀ z, inD (.str z) U = some (.bl (decide (z ∈ us)))
theorem any_strs (z : PySem.Str) (us : List PySem.Str) : (us.map D.str).any (fun e => D.eqb e (.str z)) = decide (z ∈ us) := by
  induction us with
  | nil => rfl
  | cons y us ih =>
    rw [List.map_cons, List.any_cons, ih]
    by_cases h : z = y
    · subst h
      simp [D.eqb]
    · have h1 : (y == z) = false := beq_eq_false_iff_ne.mpr fun e => h e.symm
      show ((y == z) || decide (z ∈ us)) = _
      rw [h1]
      simp [h]
theorem flat_strs (us : List PySem.Str) : (us.map D.str).all D.flat = true := by
  rw [List.all_eq_true]
  intro d hd
  obtain ⟨x, _, rfl⟩ := List.mem_map.mp hd
  rfl
theorem used_lst (us : List PySem.Str) : UsedD (.lst (us.map D.str)) us := ⟨fun z => by
  have h : D.flat (.str z) = true ∧ (us.map D.str).all D.flat = true := ⟨rfl, flat_strs us⟩
  refine (if_pos h).trans ?_
  rw [any_strs]⟩
theorem used_tup (us : List PySem.Str) : UsedD (.tup (us.map D.str)) us := ⟨fun z => by
  have h : D.flat (.str z) = true ∧ (us.map D.str).all D.flat = true := ⟨rfl, flat_strs us⟩
  refine (if_pos h).trans ?_
  rw [any_strs]⟩
/-- the name with the last letter i places on -/
def nmE (p : List Nat) (i : Nat) : PySem.Str := txt (p ++ [97 + i % 26])
abbrev nmB : MS := sIf (tBl (eBin inD (eVar 3) (eVar 1))) (sSet 3 (eBin addD (eSl (eVar 3) oNone (oSome (eUn negD (eC (.int 1))))) (eBin ixD (eVar 2) (eBin modD (eBin addD (eBin sidxD (eVar 2) (eBin ixD (eVar 3) (eUn negD (eC (.int 1))))) (eC (.int 1))) (eC (.int 26)))))) sNil
theorem nm_turn (S U : D) (us : List PySem.Str) (hU : UsedD U us) (p : List Nat) (hp : p.length < 10) (i : Nat) (T : Option D) : nmB [some S, some U, some (.str letters), some (.str (nmE p i)), T] = some (.nx [some S, some U, some (.str letters), some (.str (nmE p (if nmE p i ∈ us then i + 1 else i))), T]) := by
  have ht : tBl (eBin inD (eVar 3) (eVar 1)) [some S, some U, some (.str letters), some (.str (nmE p i)), T] = some (decide (nmE p i ∈ us), [some S, some U, some (.str letters), some (.str (nmE p i)), T]) := bl_eq (bin_eq (v_eq rfl) (v_eq rfl) (hU.mem _))
  by_cases h : nmE p i ∈ us
  · rw [decide_eq_true h] at ht
    rw [if_pos h]
    have hi : i % 26 < 26 := Nat.mod_lt _ (by decide)
    have hn : (-1 : Int) = -1 := rfl
    have e1 : eSl (eVar 3) oNone (oSome (eUn negD (eC (.int 1)))) [some S, some U, some (.str letters), some (.str (nmE p i)), T] = some (.str (txt p), [some S, some U, some (.str letters), some (.str (nmE p i)), T]) := by
      have := cut_last p (97 + i % 26) (by omega)
      show (slD (.str (nmE p i)) none (some (-1))).map _ = _
      unfold nmE
      rw [this]
      rfl
    have e2 : eBin ixD (eVar 3) (eUn negD (eC (.int 1))) [some S, some U, some (.str letters), some (.str (nmE p i)), T] = some (.str (txt [97 + i % 26]), [some S, some U, some (.str letters), some (.str (nmE p i)), T]) := bin_eq (v_eq rfl) (un_eq (op := negD) (a := .int 1) (d := .int (-1)) rfl rfl) (last_ix p (97 + i % 26) (by omega))
    have e3 : modD (.int (((i % 26 : Nat) : Int) + 1)) (.int 26) = some (.int (((i + 1) % 26 : Nat) : Int)) := by
      have hne : (26 : Int) ≠ 0 := by decide
      show (if (26 : Int) ≠ 0 then some (D.int ((((i % 26 : Nat) : Int) + 1).fmod 26)) else none) = _
      rw [if_pos hne, Int.fmod_eq_emod_of_nonneg _ (by decide)]
      refine congrArg (fun i => some (D.int i)) ?_
      omega
    have e4 := letters_ix ((i + 1) % 26) (Nat.mod_lt _ (by decide))
    have e5 := app_txt p [97 + (i + 1) % 26] (by rw [List.length_singleton]; omega)
    exact (if_t ht).trans (set_to (bin_eq e1 (bin_eq (v_eq rfl) (bin_eq (bin_eq (bin_eq (v_eq rfl) e2 (sidx_letter _ hi)) rfl rfl) rfl e3) e4) e5) rfl)
  · rw [decide_eq_false h] at ht
    rw [if_neg h]
    exact (if_f ht).trans rfl
/-- after some turns: k places on, all names on the way are used -/
theorem nm_loop (S U : D) (us : List PySem.Str) (hU : UsedD U us) (p : List Nat) (hp : p.length < 10) (i0 : Nat) : ∀ (ds : List D) (k : Nat) (T : Option D), (∀ j, j < k → nmE p (i0 + j) ∈ us) → ∃ k' T', forG (gtN 4) nmB ds [some S, some U, some (.str letters), some (.str (nmE p (i0 + k))), T] = some (.nx [some S, some U, some (.str letters), some (.str (nmE p (i0 + k'))), T']) ∧ (∀ j, j < k' → nmE p (i0 + j) ∈ us) ∧ (nmE p (i0 + k') ∈ us → k' = k + ds.length)
  | [], k, T, h => ⟨k, T, rfl, h, fun _ => rfl⟩
  | d :: ds, k, T, h => by
    have hb := nm_turn S U us hU p hp (i0 + k) (some d)
    by_cases hm : nmE p (i0 + k) ∈ us
    · rw [if_pos hm] at hb
      obtain ⟨k', T', h1, h2, h3⟩ := nm_loop S U us hU p hp i0 ds (k + 1) (some d) fun j hj => by
        by_cases e : j = k
        · rw [e]
          exact hm
        · exact h j (by omega)
      exact ⟨k', T', (forG_nx rfl hb).trans h1, h2, fun hx => by rw [h3 hx, List.length_cons]; omega⟩
    · rw [if_neg hm] at hb
      -- it stays as it is
      have stay : ∀ (es : List D) (T : Option D), ∃ T', forG (gtN 4) nmB es [some S, some U, some (.str letters), some (.str (nmE p (i0 + k))), T] = some (.nx [some S, some U, some (.str letters), some (.str (nmE p (i0 + k))), T']) := by
        intro es
        induction es with
        | nil => exact fun T => ⟨T, rfl⟩
        | cons e es ih =>
          intro T
          have hb := nm_turn S U us hU p hp (i0 + k) (some e)
          rw [if_neg hm] at hb
          obtain ⟨T', h1⟩ := ih (some e)
          exact ⟨T', (forG_nx rfl hb).trans h1⟩
      obtain ⟨T', h1⟩ := stay ds (some d)
      exact ⟨k, T', (forG_nx rfl hb).trans h1, h, fun hx => absurd hx hm⟩
theorem nodup_sub {α : Type} [DecidableEq α] : ∀ {l m : List α}, l.Nodup → (∀ x ∈ l, x ∈ m) → l.length ≤ m.length
  | [], _, _, _ => Nat.zero_le _
  | x :: l, m, hn, h => by
    obtain ⟨h1, h2⟩ := List.nodup_cons.mp hn
    have hx := h x (List.mem_cons_self ..)
    have := nodup_sub (m := m.erase x) h2 fun y hy => by
      have hne : y ≠ x := fun e => h1 (e ▸ hy)
      exact (List.mem_erase_of_ne hne).mpr (h y (List.mem_cons_of_mem _ hy))
    have hl := List.length_erase_of_mem hx
    have hp := List.length_pos_of_mem hx
    rw [List.length_cons]
    omega
theorem nm_far (us : List PySem.Str) (hus : us.length ≤ 20) (p : List Nat) (i0 : Nat) (h : ∀ j, j < 22 → nmE p (i0 + j) ∈ us) : False := by
  have hn : ((List.range 22).map fun j => nmE p (i0 + j)).Nodup := by
    refine List.pairwise_map.mpr (List.Pairwise.imp_of_mem (fun {a b} ha hb hab e => ?_) List.nodup_range)
    have ha := List.mem_range.mp ha
    have hb := List.mem_range.mp hb
    have e2 := txt_inj e
    rw [List.append_cancel_left_eq] at e2
    have e3 := (List.cons.inj e2).1
    have hab : a ≠ b := hab
    omega
  have := nodup_sub hn fun x hx => by
    obtain ⟨j, hj, rfl⟩ := List.mem_map.mp hx
    exact h j (List.mem_range.mp hj)
  rw [List.length_map, List.length_range] at this
  omega
theorem I_name_eq (a b : Int) (hb : SrcOk b) {U : D} {us : List PySem.Str} (hU : UsedD U us) (hus : us.length ≤ 20) : ∃ z a' b', I__law_name (srcD a b) [U] = some (.str z, srcD a' b') ∧ NameOk z ∧ z ∉ us ∧ SrcOk b' := by
  have s2 : sSet 2 (eC (.str "abcdefghijklmnopqrstuvwxyz")) (envOf 3 [srcD a b, U]) = some (.nx [some (srcD a b), some U, some (.str letters), none, none]) := rfl
  obtain ⟨t7, a7, b7, h7, t70, t71, hb7⟩ := take_at (i := 0) (f := eC (.int 4)) (ρ := [some (srcD a b), some U, some (.str letters), none, none]) (ρ1 := [some (srcD a b), some U, some (.str letters), none, none]) ⟨_, rfl⟩ rfl rfl hb (by decide) (by decide)
  have h7' : eCaI 0 I__law_take (aCons (eC (.int 4)) aNil) [some (srcD a b), some U, some (.str letters), none, none] = some (.int t7, [some (srcD a7 b7), some U, some (.str letters), none, none]) := h7
  obtain ⟨cs, a8, b8, h8, hl, hm, hb8⟩ := name_drawL (i := 0) (j := 2) (k := 4) (by decide) (by decide) (by decide) (bin_eq (op := addD) (fa := eC (.int 1)) (a := .int 1) rfl h7' rfl) (show 1 ≤ 1 + t7 ∧ 1 + t7 ≤ 4 by omega) rfl rfl rfl hb7
  have s3 := set_to (i := 3) (ρ2 := [some (srcD a8 b8), some U, some (.str letters), some (.str (txt cs)), none]) h8 rfl
  have hne : cs ≠ [] := fun e => by
    rw [e] at hl
    exact absurd hl.1 (by decide)
  have hsplit := List.dropLast_concat_getLast hne
  obtain ⟨i0, hi0, hc⟩ := letter_of (hm _ (List.getLast_mem hne))
  have hz0 : txt cs = nmE cs.dropLast (i0 + 0) := by
    unfold nmE
    rw [Nat.add_zero, Nat.mod_eq_of_lt hi0, ← hc, hsplit]
  obtain ⟨k', T', h9, h10, h11⟩ := nm_loop (srcD a8 b8) U us hU cs.dropLast (by rw [List.length_dropLast]; omega) i0 (natsD (List.range 21)) 0 none fun j hj => absurd hj (Nat.not_lt_zero j)
  rw [← hz0] at h9
  have hr : iRngM (aCons (eC (.int 21)) aNil) [some (srcD a8 b8), some U, some (.str letters), some (.str (txt cs)), none] = some (natsD (List.range 21), [some (srcD a8 b8), some U, some (.str letters), some (.str (txt cs)), none]) := rng1 (b := 21) rfl (by decide)
  refine ⟨nmE cs.dropLast (i0 + k'), a8, b8, runI_rt ((seq_nx s2).trans ((seq_nx s3).trans ((seq_nx ((for_eq hr).trans h9)).trans (ret_eq (v_eq rfl))))) rfl, ?_, ?_, hb8⟩
  · refine nameOk_of (cs := cs.dropLast ++ [97 + (i0 + k') % 26]) ?_ ?_ fun c hcm => ?_
    · rw [List.length_append, List.length_singleton]
      omega
    · rw [List.length_append, List.length_singleton, List.length_dropLast]
      omega
    · rcases List.mem_append.mp hcm with h | h
      · exact hm c ((List.dropLast_sublist cs).subset h)
      · rw [List.mem_singleton.mp h]
        exact letter_mem _ (Nat.mod_lt _ (by decide))
  · intro hin
    have hk := h11 hin
    simp only [natsD, List.length_map, List.length_range, Nat.zero_add] at hk
    refine nm_far us hus cs.dropLast i0 fun j hj => ?_
    by_cases e : j = k'
    · rw [e]
      exact hin
    · exact h10 j (by omega)
end Z
/-! The law's outs, on data. -/
namespace Z
open PySem
theorem perm_erase {α : Type} : ∀ (L : List α) (n : Nat) (x : α), L[n]? = some x → L.Perm (x :: L.eraseIdx n)
  | [], n, x, h => by simp at h
  | y :: L, 0, x, h => by
    simp at h
    subst h
    exact List.Perm.refl _
  | y :: L, n + 1, x, h => by
    simp at h
    have := perm_erase L n x (by simpa using h)
    rw [List.eraseIdx_cons_succ]
    exact (this.cons y).trans (List.Perm.swap x y _)
theorem eraseIdx_map' {α β : Type} (f : α → β) : ∀ (L : List α) (n : Nat), (L.map f).eraseIdx n = (L.eraseIdx n).map f
  | [], _ => rfl
  | _ :: _, 0 => rfl
  | y :: L, n + 1 => by
    rw [List.map_cons, List.eraseIdx_cons_succ, List.eraseIdx_cons_succ, List.map_cons, eraseIdx_map' f L n]
theorem popAt_eq {i : Nat} {f : M} {ρ ρ1 : Env} {ds0 ds : List D} {n : Nat} {d : D} (h0 : ρ[i]? = some (some (.lst ds0))) (h : f ρ = some (.int n, ρ1)) (h1 : ρ1[i]? = some (some (.lst ds))) (hd : ds[n]? = some d) (hn : n < 1000) : ePopAt i f ρ = some (d, ρ1.set i (some (.lst (ds.eraseIdx n)))) := by
  have hl0 : lstAt i ρ = some ds0 := by
    unfold lstAt
    rw [h0]
  have hl1 : lstAt i ρ1 = some ds := by
    unfold lstAt
    rw [h1]
  have hlt : n < ds.length := (List.getElem?_eq_some_iff.mp hd).1
  have hs : seqIndex? (n : Int) ds.length = some n := by
    unfold seqIndex?
    simp
    omega
  have hc : -(2 ^ 63) ≤ (n : Int) ∧ (n : Int) < 2 ^ 63 := by omega
  unfold ePopAt
  rw [hl0, Option.bind_some, h, Option.bind_some]
  show ((lstAt i ρ1).bind fun ds => if -(2 ^ 63) ≤ (n : Int) ∧ (n : Int) < 2 ^ 63 then (seqIndex? (n : Int) ds.length).bind fun k => (ds[k]?).map fun d => (d, ρ1.set i (some (.lst (ds.eraseIdx k)))) else none) = _
  rw [hl1, Option.bind_some, if_pos hc, hs, Option.bind_some, hd]
  rfl
theorem app_eq {i : Nat} {f : M} {ρ ρ1 : Env} {ds0 ds : List D} {d : D} (h0 : ρ[i]? = some (some (.lst ds0))) (h : f ρ = some (d, ρ1)) (h1 : ρ1[i]? = some (some (.lst ds))) (hl : ds.length < 100000) : sApp i f ρ = some (.nx (ρ1.set i (some (.lst (ds ++ [d]))))) := by
  have hl0 : lstAt i ρ = some ds0 := by
    unfold lstAt
    rw [h0]
  have hl1 : lstAt i ρ1 = some ds := by
    unfold lstAt
    rw [h1]
  unfold sApp
  rw [hl0, Option.bind_some, h, Option.bind_some, hl1, Option.bind_some]
  exact if_pos hl
theorem app_to {i : Nat} {f : M} {ρ ρ1 ρ2 : Env} {ds0 ds : List D} {d : D} (h0 : ρ[i]? = some (some (.lst ds0))) (h : f ρ = some (d, ρ1)) (h1 : ρ1[i]? = some (some (.lst ds))) (hl : ds.length < 100000) (e : ρ1.set i (some (.lst (ds ++ [d]))) = ρ2) : sApp i f ρ = some (.nx ρ2) := e ▸ app_eq h0 h h1 hl
/-- the gains left, the outs found -/
structure OuInv (L : List Int) (ps : List (Int × Int)) : Prop where
  nd : (L ++ ps.map (·.1)).Nodup
  rg : ∀ x ∈ L, -1 ≤ x ∧ x ≤ 9
  rp : ∀ p ∈ ps, (-1 ≤ p.1 ∧ p.1 ≤ 9) ∧ 1 ≤ p.2 ∧ p.2 ≤ 9
  len : L.length + ps.length = 11
theorem OuInv.step {L : List Int} {ps : List (Int × Int)} (h : OuInv L ps) {n : Nat} {x w : Int} (hx : L[n]? = some x) (hw : 1 ≤ w ∧ w ≤ 9) : OuInv (L.eraseIdx n) (ps ++ [(x, w)]) := by
  obtain ⟨hn, hxe⟩ := List.getElem?_eq_some_iff.mp hx
  have hm : x ∈ L := List.mem_of_getElem? hx
  have hp : L.Perm (x :: L.eraseIdx n) := perm_erase L n x hx
  refine ⟨?_, fun y hy => h.rg y (hp.mem_iff.mpr (List.mem_cons_of_mem _ hy)), fun p hp2 => ?_, ?_⟩
  · have h2 : (L ++ ps.map (·.1)).Perm (L.eraseIdx n ++ (ps ++ [(x, w)]).map (·.1)) := by
      rw [List.map_append, List.map_singleton]
      refine (List.Perm.append_right _ hp).trans ?_
      rw [List.cons_append, ← List.append_assoc]
      exact (List.perm_append_singleton x (L.eraseIdx n ++ ps.map (·.1))).symm
    exact (h2.nodup_iff).mp h.nd
  · rcases List.mem_append.mp hp2 with h3 | h3
    · exact h.rp p h3
    · rw [List.mem_singleton] at h3
      subst h3
      exact ⟨h.rg x hm, hw⟩
  · rw [List.length_append, List.length_singleton, List.length_eraseIdx_of_lt hn]
    have := h.len
    omega
abbrev ouB : MS := sSeq (sSet 4 (ePopAt 2 (eCaI 0 I__law_one (aCons (eLst (aCons (eC (.int 0)) (aCons (eCaI 0 I__law_take (aCons (eBor (eCa lenD (aCons (eVar 2) aNil))) aNil)) aNil))) aNil)))) (sApp 3 (eTup (aCons (eVar 4) (aCons (eBin addD (eC (.int 1)) (eCaI 0 I__law_take (aCons (eC (.int 9)) aNil))) aNil))))
theorem ou_loop (Mo : D) : ∀ (ds : List D) (L : List Int) (ps : List (Int × Int)) (a b : Int) (g T : Option D), OuInv L ps → SrcOk b → ds.length + ps.length ≤ 10 → ∃ (L' : List Int) (ps' : List (Int × Int)) (a' b' : Int) (g' T' : Option D), forG (gtN 5) ouB ds [some (srcD a b), some Mo, some (.lst (L.map D.int)), some (.lst (ps.map pairE)), g, T] = some (.nx [some (srcD a' b'), some Mo, some (.lst (L'.map D.int)), some (.lst (ps'.map pairE)), g', T']) ∧ OuInv L' ps' ∧ SrcOk b' ∧ ps'.length = ps.length + ds.length
  | [], L, ps, a, b, g, T, I, hb, _ => ⟨L, ps, a, b, g, T, rfl, I, hb, rfl⟩
  | d :: ds, L, ps, a, b, g, T, I, hb, hl => by
    rw [List.length_cons] at hl
    have hlen := I.len
    have hL : 1 ≤ L.length := by omega
    -- the draw of an index
    have hle : eBor (eCa lenD (aCons (eVar 2) aNil)) [some (srcD a b), some Mo, some (.lst (L.map D.int)), some (.lst (ps.map pairE)), g, some d] = some (.int (L.length : Nat), [some (srcD a b), some Mo, some (.lst (L.map D.int)), some (.lst (ps.map pairE)), g, some d]) := by
      unfold eBor
      rw [ca_eq (d := .int (L.length : Nat)) (a_cons (v_eq rfl) a_nil) (by simp [lenD])]
      rfl
    obtain ⟨t, a1, b1, h1, t0, t1, hb1⟩ := take_at (i := 0) ⟨_, rfl⟩ hle rfl hb (by omega) (by omega)
    have h1' : eCaI 0 I__law_take (aCons (eBor (eCa lenD (aCons (eVar 2) aNil))) aNil) [some (srcD a b), some Mo, some (.lst (L.map D.int)), some (.lst (ps.map pairE)), g, some d] = some (.int t, [some (srcD a1 b1), some Mo, some (.lst (L.map D.int)), some (.lst (ps.map pairE)), g, some d]) := h1
    obtain ⟨r, e, a2, b2, h2, m2, hb2⟩ := one_at (i := 0) (ρ1 := [some (srcD a1 b1), some Mo, some (.lst (L.map D.int)), some (.lst (ps.map pairE)), g, some d]) ⟨_, rfl⟩ (lst_eq (a_cons (fa := eC (.int 0)) rfl (a_cons h1' a_nil)) (show (2 : Nat) ≤ 100000 by decide)) rfl hb1 (show (1 : Nat) ≤ 2 by decide) (show (2 : Nat) < 100000 by decide)
    have he : ∃ n : Nat, e = .int n ∧ n < L.length := by
      have hm := List.mem_of_getElem? m2
      simp only [List.mem_cons, List.not_mem_nil, or_false] at hm
      rcases hm with h | h <;> subst h
      · exact ⟨0, rfl, by omega⟩
      · exact ⟨t.toNat, by rw [Int.toNat_of_nonneg t0], by omega⟩
    obtain ⟨n, rfl, hn⟩ := he
    have hx : L[n]? = some L[n] := List.getElem?_eq_getElem hn
    generalize L[n] = x at hx
    have hpop := popAt_eq (i := 2) (ds0 := L.map D.int) (ds := L.map D.int) (d := .int x) rfl h2 rfl (by rw [List.getElem?_map, hx]; rfl) (by omega)
    have ee : (L.map D.int).eraseIdx n = (L.eraseIdx n).map D.int := eraseIdx_map' D.int L n
    rw [ee] at hpop
    have s1 := set_to (i := 4) (ρ2 := [some (srcD a2 b2), some Mo, some (.lst ((L.eraseIdx n).map D.int)), some (.lst (ps.map pairE)), some (.int x), some d]) hpop rfl
    obtain ⟨w, a3, b3, h3, w0, w1, hb3⟩ := take_at (i := 0) (f := eC (.int 9)) (ρ := [some (srcD a2 b2), some Mo, some (.lst ((L.eraseIdx n).map D.int)), some (.lst (ps.map pairE)), some (.int x), some d]) (ρ1 := [some (srcD a2 b2), some Mo, some (.lst ((L.eraseIdx n).map D.int)), some (.lst (ps.map pairE)), some (.int x), some d]) ⟨_, rfl⟩ rfl rfl hb2 (by decide) (by decide)
    have s2 : sApp 3 (eTup (aCons (eVar 4) (aCons (eBin addD (eC (.int 1)) (eCaI 0 I__law_take (aCons (eC (.int 9)) aNil))) aNil))) [some (srcD a2 b2), some Mo, some (.lst ((L.eraseIdx n).map D.int)), some (.lst (ps.map pairE)), some (.int x), some d] = some (.nx [some (srcD a3 b3), some Mo, some (.lst ((L.eraseIdx n).map D.int)), some (.lst ((ps ++ [(x, 1 + w)]).map pairE)), some (.int x), some d]) :=
      app_to (d := pairE (x, 1 + w)) rfl (tup_eq (a_cons (v_eq rfl) (a_cons (bin_eq (op := addD) (fa := eC (.int 1)) rfl h3 rfl) a_nil)) (show (2 : Nat) ≤ 100000 by decide)) (ds := ps.map pairE) rfl (by rw [List.length_map]; omega) (by rw [List.map_append]; rfl)
    obtain ⟨L', ps', a', b', g', T', h4, h5, h6, h7⟩ := ou_loop Mo ds (L.eraseIdx n) (ps ++ [(x, 1 + w)]) a3 b3 (some (.int x)) (some d) (I.step hx ⟨by omega, by omega⟩) hb3 (by rw [List.length_append, List.length_singleton]; omega)
    exact ⟨L', ps', a', b', g', T', (forG_nx rfl ((seq_nx s1).trans s2)).trans h4, h5, h6, by rw [h7, List.length_append, List.length_singleton, List.length_cons]; omega⟩
theorem pairsD_E : ∀ ps : List (Int × Int), pairsD (ps.map pairE) = some ps
  | [] => rfl
  | p :: ps => by
    rw [List.map_cons, pairsD, pairsD_E ps]
    rfl
theorem outs_ok {L : List Int} {ps : List (Int × Int)} (I : OuInv L ps) (h1 : 1 ≤ ps.length) (h6 : ps.length ≤ 6) : OutsOk (sortP ps) ∧ (∀ p ∈ sortP ps, p.2 ≤ 9) ∧ (sortP ps).length = ps.length := by
  have hp := sortP_perm ps
  have hl := hp.length_eq
  refine ⟨⟨fun e => ?_, by omega, ?_, fun p hpm => ?_⟩, fun p hpm => (I.rp p (hp.mem_iff.mp hpm)).2.2, hl⟩
  · rw [e] at hl
    simp at hl
    omega
  · have h2 := sortP_sorted ps
    have h3 : ((sortP ps).map (·.1)).Nodup := ((hp.map (·.1)).nodup_iff).mpr (List.nodup_append.mp I.nd).2.1
    have h4 : (sortP ps).Pairwise fun p q => p.1 ≠ q.1 := List.pairwise_map.mp h3
    refine (List.pairwise_and_iff.mpr ⟨h2, h4⟩).imp fun {p q} h => ?_
    have := SrtO.lexB_no.mp h.1
    have := h.2
    omega
  · have := I.rp p (hp.mem_iff.mp hpm)
    omega
theorem gains_start : (List.range 11).map (fun i : Nat => (-1 : Int) + (i : Nat)) = [-1, 0, 1, 2, 3, 4, 5, 6, 7, 8, 9] := by decide
theorem I_outs_eq (a b : Int) (hb : SrcOk b) (most : Nat) (h1 : 1 ≤ most) (h6 : most ≤ 6) : ∃ outs a' b', I__law_outs (srcD a b) [.int most] = some (outsL plO outs, srcD a' b') ∧ OutsOk outs ∧ (∀ p ∈ outs, p.2 ≤ 9) ∧ outs.length ≤ most ∧ SrcOk b' := by
  have hr : iRngM (aCons (eUn negD (eC (.int 1))) (aCons (eC (.int 10)) aNil)) (envOf 4 [srcD a b, .int most]) = some (rngL (-1) 11, envOf 4 [srcD a b, .int most]) := by
    have := iRng2 (fs := aCons (eUn negD (eC (.int 1))) (aCons (eC (.int 10)) aNil)) (ρ := envOf 4 [srcD a b, .int most]) (ρ' := envOf 4 [srcD a b, .int most]) (a := -1) (b := 10) rfl (by
      have e : (1000 : Int) < P62 := by decide +kernel
      omega)
    exact this
  have hL := eLc_pureT (fi := iRngM (aCons (eUn negD (eC (.int 1))) (aCons (eC (.int 10)) aNil))) (vs := [4]) (gt := gtN 4) (f := eVar 4) (ρw := [some (srcD a b), some (.int most), none, none, none, none]) hr rfl id (fun d _ => ⟨[some (srcD a b), some (.int most), none, none, some d, none], rfl, rfl, rfl⟩) (by simp [rngL])
  have hL2 : (rngL (-1) 11).map id = ([-1, 0, 1, 2, 3, 4, 5, 6, 7, 8, 9] : List Int).map D.int := by
    rw [List.map_id, ← gains_start, List.map_map]
    rfl
  rw [hL2] at hL
  have s1 : sPar [2, 3] (aCons (eLc (iRngM (aCons (eUn negD (eC (.int 1))) (aCons (eC (.int 10)) aNil))) [4] (gtN 4) tTrue (eVar 4)) (aCons (eLst aNil) aNil)) (envOf 4 [srcD a b, .int most]) = some (.nx [some (srcD a b), some (.int most), some (.lst (([-1, 0, 1, 2, 3, 4, 5, 6, 7, 8, 9] : List Int).map D.int)), some (.lst (([] : List (Int × Int)).map pairE)), none, none]) := par_to (a_cons hL (a_cons (lst_eq a_nil (by decide)) a_nil)) rfl
  obtain ⟨t, a1, b1, h2, t0, t1, hb1⟩ := take_at (i := 0) (f := eVar 1) (ρ := [some (srcD a b), some (.int most), some (.lst (([-1, 0, 1, 2, 3, 4, 5, 6, 7, 8, 9] : List Int).map D.int)), some (.lst (([] : List (Int × Int)).map pairE)), none, none]) (top := most) ⟨_, rfl⟩ (v_eq rfl) rfl hb (by omega) (by omega)
  have h2' : eCaI 0 I__law_take (aCons (eVar 1) aNil) [some (srcD a b), some (.int most), some (.lst (([-1, 0, 1, 2, 3, 4, 5, 6, 7, 8, 9] : List Int).map D.int)), some (.lst (([] : List (Int × Int)).map pairE)), none, none] = some (.int t, [some (srcD a1 b1), some (.int most), some (.lst (([-1, 0, 1, 2, 3, 4, 5, 6, 7, 8, 9] : List Int).map D.int)), some (.lst (([] : List (Int × Int)).map pairE)), none, none]) := h2
  have hr2 : iRngM (aCons (eBin addD (eC (.int 1)) (eCaI 0 I__law_take (aCons (eVar 1) aNil))) aNil) [some (srcD a b), some (.int most), some (.lst (([-1, 0, 1, 2, 3, 4, 5, 6, 7, 8, 9] : List Int).map D.int)), some (.lst (([] : List (Int × Int)).map pairE)), none, none] = some (rngL 0 (1 + t).toNat, [some (srcD a1 b1), some (.int most), some (.lst (([-1, 0, 1, 2, 3, 4, 5, 6, 7, 8, 9] : List Int).map D.int)), some (.lst (([] : List (Int × Int)).map pairE)), none, none]) := iRng1 (a_cons (bin_eq (op := addD) (fa := eC (.int 1)) (a := .int 1) rfl h2' rfl) a_nil) (by
      have e : (1000 : Int) < P62 := by decide +kernel
      omega)
  have hlen : (rngL 0 (1 + t).toNat).length = (1 + t).toNat := by simp [rngL]
  obtain ⟨L', ps, a2, b2, g', T', h3, I, hb2, hpl⟩ := ou_loop (.int most) (rngL 0 (1 + t).toNat) ([-1, 0, 1, 2, 3, 4, 5, 6, 7, 8, 9] : List Int) ([] : List (Int × Int)) a1 b1 none none ⟨by decide, by decide, (fun _ h => by cases h), by decide⟩ hb1 (by rw [hlen]; simp; omega)
  rw [hlen] at hpl
  simp only [List.length_nil, Nat.zero_add] at hpl
  obtain ⟨o1, o2, o3⟩ := outs_ok I (by omega) (by omega)
  refine ⟨sortP ps, a2, b2, ?_, o1, o2, by omega, hb2⟩
  have hs : sortPD [.lst (ps.map pairE)] = some (.lst ((sortP ps).map pairE)) := by
    show (pairsD (ps.map pairE)).map _ = _
    rw [pairsD_E]
    rfl
  exact runI_rt ((seq_nx s1).trans ((seq_nx ((for_eq hr2).trans h3)).trans (ret_eq (ca_eq (a_cons (ca_eq (a_cons (v_eq rfl) a_nil) hs) a_nil) rfl)))) rfl
end Z
/-! A table of the law's. -/
namespace Z
open PySem

theorem addI {x y z : Int} (h : x + y = z) : addD (.int x) (.int y) = some (.int z) := h ▸ rfl
theorem caI_to {i : Nat} {g : D → List D → Option (D × D)} {fs : MA} {ρ ρ1 ρ2 : Env} {as : List D} {c c' d : D} (h0 : ∃ d, ρ[i]? = some (some d)) (h : fs ρ = some (as, ρ1)) (h1 : ρ1[i]? = some (some c)) (hg : g c as = some (d, c')) (e : ρ1.set i (some c') = ρ2) : eCaI i g fs ρ = some (d, ρ2) := by
  subst e
  obtain ⟨d0, h0⟩ := h0
  unfold eCaI
  rw [v_eq h0, Option.bind_some, h, Option.bind_some]
  simp only [h1, hg]
  rfl
theorem take_to {i : Nat} {f : M} {ρ ρ1 : Env} {a b top : Int} (h0 : ∃ d, ρ[i]? = some (some d)) (h : f ρ = some (.int top, ρ1)) (h1 : ρ1[i]? = some (some (srcD a b))) (hb : SrcOk b) (ht : 1 ≤ top) (ht2 : top < 4294967296) : ∃ (r : Nat) (a' b' : Int), (∀ ρ2, ρ1.set i (some (srcD a' b')) = ρ2 → eCaI i I__law_take (aCons f aNil) ρ = some (.int r, ρ2)) ∧ (r : Int) < top ∧ SrcOk b' := by
  obtain ⟨r, a', b', h2, h3, h4, h5⟩ := take_at h0 h h1 hb ht ht2
  refine ⟨r.toNat, a', b', fun ρ2 e => ?_, by omega, h5⟩
  subst e
  rw [h2]
  have : ((r.toNat : Nat) : Int) = r := by omega
  rw [this]
theorem one_to {i : Nat} {f : M} {ρ ρ1 : Env} {a b : Int} {xs : List Nat} (h0 : ∃ d, ρ[i]? = some (some d)) (h : f ρ = some (.lst (natsD xs), ρ1)) (h1 : ρ1[i]? = some (some (srcD a b))) (hb : SrcOk b) (hl : 1 ≤ xs.length) (hl2 : xs.length < 100000) : ∃ (r : Nat) (a' b' : Int), (∀ ρ2, ρ1.set i (some (srcD a' b')) = ρ2 → eCaI i I__law_one (aCons f aNil) ρ = some (.int r, ρ2)) ∧ r ∈ xs ∧ SrcOk b' := by
  have hlen : (natsD xs).length = xs.length := by simp [natsD]
  obtain ⟨r, d, a', b', h2, h3, h4⟩ := one_at h0 h h1 hb (by omega) (by omega)
  have hm := List.mem_of_getElem? h3
  simp only [natsD, List.mem_map] at hm
  obtain ⟨n, hn, rfl⟩ := hm
  exact ⟨n, a', b', fun ρ2 e => e ▸ h2, hn, h4⟩
/-- a table as the law makes it -/
structure LTb (t : Tb) : Prop where
  ok : TbOk t
  n4 : nStk t ≤ 4
  w9 : ∀ p ∈ t.outs, p.2 ≤ 9
  l3 : t.outs.length ≤ 3
  hi : t.high ≤ 14
  st : t.step ≤ 3
  fe : t.fee ≤ 2
  pl : t.pl = plO

theorem I_table_eq (a0 b0 : Int) (hb0 : SrcOk b0) {U : D} {us : List PySem.Str} (hU : UsedD U us) (hus : us.length ≤ 20) : ∃ t a' b', I__law_table (srcD a0 b0) [U] = some (tbD t, srcD a' b') ∧ LTb t ∧ t.name ∉ us ∧ SrcOk b' := by
  obtain ⟨t0, a1, b1, g0, lt0, hb1⟩ := take_to (i := 0) (f := eC (.int 3)) (ρ := [some (srcD a0 b0), some U, none, none, none]) (ρ1 := [some (srcD a0 b0), some U, none, none, none]) ⟨_, rfl⟩ rfl rfl hb0 (by decide) (by decide)
  have h0 : eCaI 0 I__law_take (aCons (eC (.int 3)) aNil) [some (srcD a0 b0), some U, none, none, none] = some (.int t0, [some (srcD a1 b1), some U, none, none, none]) := g0 _ rfl
  obtain ⟨t1, a2, b2, g1, m1, hb2⟩ := one_to (i := 0) (f := eLst (aCons (eC (.int 1)) (aCons (eC (.int 1)) (aCons (eC (.int 1)) (aCons (eC (.int 2)) (aCons (eC (.int 3)) (aNil))))))) (ρ := [some (srcD a1 b1), some U, none, none, none]) (ρ1 := [some (srcD a1 b1), some U, none, none, none]) (xs := [1, 1, 1, 2, 3]) ⟨_, rfl⟩ (lst_eq rfl (show (5 : Nat) ≤ 100000 by decide)) rfl hb1 (by decide) (by decide)
  have h1 : eCaI 0 I__law_one (aCons (eLst (aCons (eC (.int 1)) (aCons (eC (.int 1)) (aCons (eC (.int 1)) (aCons (eC (.int 2)) (aCons (eC (.int 3)) (aNil))))))) aNil) [some (srcD a1 b1), some U, none, none, none] = some (.int t1, [some (srcD a2 b2), some U, none, none, none]) := g1 _ rfl
  have s1 : sPar [2, 3] (aCons (eBin addD (eC (.int 1)) (eCaI 0 I__law_take (aCons (eC (.int 3)) aNil))) (aCons (eCaI 0 I__law_one (aCons (eLst (aCons (eC (.int 1)) (aCons (eC (.int 1)) (aCons (eC (.int 1)) (aCons (eC (.int 2)) (aCons (eC (.int 3)) (aNil))))))) aNil)) aNil)) [some (srcD a0 b0), some U, none, none, none] = some (.nx [some (srcD a2 b2), some U, some (.int (1 + t0 : Nat)), some (.int t1), none]) := par_to (a_cons (bin_eq (op := addD) (fa := eC (.int 1)) rfl h0 (show addD (.int 1) (.int t0) = some (.int (1 + t0 : Nat)) by rw [Int.natCast_add]; rfl)) (a_cons h1 a_nil)) rfl
  have q1 : 1 ≤ t1 ∧ t1 ≤ 3 := by
    simp only [List.mem_cons, List.not_mem_nil, or_false] at m1
    omega
  obtain ⟨t2, a3, b3, g2, lt2, hb3⟩ := take_to (i := 0) (f := eC (.int 4)) (ρ := [some (srcD a2 b2), some U, some (.int (1 + t0 : Nat)), some (.int t1), none]) (ρ1 := [some (srcD a2 b2), some U, some (.int (1 + t0 : Nat)), some (.int t1), none]) ⟨_, rfl⟩ rfl rfl hb2 (by decide) (by decide)
  have h2 : eCaI 0 I__law_take (aCons (eC (.int 4)) aNil) [some (srcD a2 b2), some U, some (.int (1 + t0 : Nat)), some (.int t1), none] = some (.int t2, [some (srcD a3 b3), some U, some (.int (1 + t0 : Nat)), some (.int t1), none]) := g2 _ rfl
  obtain ⟨t3, a4, b4, g3, lt3, hb4⟩ := take_to (i := 0) (f := eVar 3) (ρ := [some (srcD a3 b3), some U, some (.int (1 + t0 : Nat)), some (.int t1), none]) (ρ1 := [some (srcD a3 b3), some U, some (.int (1 + t0 : Nat)), some (.int t1), none]) ⟨_, rfl⟩ (v_eq rfl) rfl hb3 (by omega) (by omega)
  have h3 : eCaI 0 I__law_take (aCons (eVar 3) aNil) [some (srcD a3 b3), some U, some (.int (1 + t0 : Nat)), some (.int t1), none] = some (.int t3, [some (srcD a4 b4), some U, some (.int (1 + t0 : Nat)), some (.int t1), none]) := g3 _ rfl
  have s2 : sSet 4 (eBin addD (eBin addD (eVar 2) (eBin mulD (eVar 3) (eCaI 0 I__law_take (aCons (eC (.int 4)) aNil)))) (eCaI 0 I__law_take (aCons (eVar 3) aNil))) [some (srcD a2 b2), some U, some (.int (1 + t0 : Nat)), some (.int t1), none] = some (.nx [some (srcD a4 b4), some U, some (.int (1 + t0 : Nat)), some (.int t1), some (.int (1 + t0 + t1 * t2 + t3 : Nat))]) := set_to (bin_eq (bin_eq (v_eq rfl) (bin_eq (v_eq rfl) h2 (mulD_s (by omega))) (show addD (.int (1 + t0 : Nat)) (.int (t1 * t2)) = some (.int ((1 + t0 : Nat) + t1 * t2)) from rfl)) h3 (addI (by simp only [Int.natCast_add, Int.natCast_mul]))) rfl
  obtain ⟨z, a5, b5, h4, nz, fz, hb5⟩ := I_name_eq a4 b4 hb4 hU hus
  have h4' : eCaI 0 I__law_name (aCons (eVar 1) aNil) [some (srcD a4 b4), some U, some (.int (1 + t0 : Nat)), some (.int t1), some (.int (1 + t0 + t1 * t2 + t3 : Nat))] = some (.str z, [some (srcD a5 b5), some U, some (.int (1 + t0 : Nat)), some (.int t1), some (.int (1 + t0 + t1 * t2 + t3 : Nat))]) := caI_to ⟨_, rfl⟩ (a_cons (v_eq rfl) a_nil) rfl h4 rfl
  obtain ⟨outs, a6, b6, h5, oo, o9, o3, hb6⟩ := I_outs_eq a5 b5 hb5 3 (by decide) (by decide)
  have h5' : eCaI 0 I__law_outs (aCons (eC (.int 3)) aNil) [some (srcD a5 b5), some U, some (.int (1 + t0 : Nat)), some (.int t1), some (.int (1 + t0 + t1 * t2 + t3 : Nat))] = some (outsL plO outs, [some (srcD a6 b6), some U, some (.int (1 + t0 : Nat)), some (.int t1), some (.int (1 + t0 + t1 * t2 + t3 : Nat))]) := caI_to (as := [.int 3]) ⟨_, rfl⟩ rfl rfl h5 rfl
  obtain ⟨t6, a7, b7, g6, m6, hb7⟩ := one_to (i := 0) (f := eLst (aCons (eC (.int 0)) (aCons (eC (.int 0)) (aCons (eC (.int 0)) (aCons (eC (.int 1)) (aCons (eC (.int 2)) (aNil))))))) (ρ := [some (srcD a6 b6), some U, some (.int (1 + t0 : Nat)), some (.int t1), some (.int (1 + t0 + t1 * t2 + t3 : Nat))]) (ρ1 := [some (srcD a6 b6), some U, some (.int (1 + t0 : Nat)), some (.int t1), some (.int (1 + t0 + t1 * t2 + t3 : Nat))]) (xs := [0, 0, 0, 1, 2]) ⟨_, rfl⟩ (lst_eq rfl (show (5 : Nat) ≤ 100000 by decide)) rfl hb6 (by decide) (by decide)
  have h6 : eCaI 0 I__law_one (aCons (eLst (aCons (eC (.int 0)) (aCons (eC (.int 0)) (aCons (eC (.int 0)) (aCons (eC (.int 1)) (aCons (eC (.int 2)) (aNil))))))) aNil) [some (srcD a6 b6), some U, some (.int (1 + t0 : Nat)), some (.int t1), some (.int (1 + t0 + t1 * t2 + t3 : Nat))] = some (.int t6, [some (srcD a7 b7), some U, some (.int (1 + t0 : Nat)), some (.int t1), some (.int (1 + t0 + t1 * t2 + t3 : Nat))]) := g6 _ rfl
  have b6' : t6 ≤ 2 := by
    simp only [List.mem_cons, List.not_mem_nil, or_false] at m6
    omega
  have hm : t1 * t2 ≤ 9 := by
    have := Nat.mul_le_mul q1.2 (show t2 ≤ 3 by omega)
    omega
  refine ⟨⟨z, outs, 1 + t0, 1 + t0 + t1 * t2 + t3, t1, t6, plO⟩, a7, b7, runI_rt ((seq_nx s1).trans ((seq_nx s2).trans (ret_eq (tup_eq (a_cons h4' (a_cons h5' (a_cons (v_eq rfl) (a_cons (v_eq rfl) (a_cons (v_eq rfl) (a_cons h6 a_nil)))))) (show (6 : Nat) ≤ 100000 by decide))))) rfl, ⟨⟨nz, oo, by show 1 ≤ 1 + t0 ∧ 1 + t0 ≤ 1 + t0 + t1 * t2 + t3; omega, by show 1 + t0 + t1 * t2 + t3 ≤ 39; omega, by show 1 ≤ t1 ∧ t1 ≤ 39; omega, by show t6 ≤ 9; omega⟩, ?_, o9, o3, by show 1 + t0 + t1 * t2 + t3 ≤ 14; omega, q1.2, b6', rfl⟩, fz, hb7⟩
  show (1 + t0 + t1 * t2 + t3 - (1 + t0)) / t1 + 1 ≤ 4
  have e : 1 + t0 + t1 * t2 + t3 - (1 + t0) = t3 + t1 * t2 := by omega
  rw [e, Nat.add_mul_div_left _ _ (by omega), Nat.div_eq_of_lt (by omega)]
  omega
end Z
/-! A house of the law's. -/
namespace Z
open PySem
def nmsD (ts : List Tb) : List D := (ts.map (·.name)).map D.str
theorem names_lc {i j : Nat} {ρ : Env} {ts : List Tb} (hf : iSeq (eVar i) ρ = some (ts.map tbD, ρ)) (hw : wipeE [j] ρ = ρ) (hj : j < ρ.length) (hl : ts.length ≤ 1000) : eLc (iSeq (eVar i)) [j] (gtN j) tTrue (eBin ixD (eVar j) (eC (.int 0))) ρ = some (.lst (nmsD ts), ρ) := by
  have := eLc_pureT (fi := iSeq (eVar i)) (vs := [j]) (gt := gtN j) (f := eBin ixD (eVar j) (eC (.int 0))) (ρ := ρ) (ρw := ρ) hf hw (fun d => (ixD d (.int 0)).getD .non) (fun d hd => by
    obtain ⟨t, ht, rfl⟩ := List.mem_map.mp hd
    refine ⟨ρ.set j (some (tbD t)), rfl, bin_eq (v_eq (d := tbD t) ?_) rfl rfl, ?_⟩
    · rw [List.getElem?_set_self hj]
    · show (ρ.set j (some (tbD t))).set j none = ρ
      rw [List.set_set]
      exact hw) (by rw [List.length_map]; omega)
  rw [this]
  refine congrArg (fun l => some (D.lst l, ρ)) ?_
  unfold nmsD
  rw [List.map_map, List.map_map]
  rfl
theorem lfs_strs : ∀ zs : List PySem.Str, D.lfs (zs.map D.str) = true
  | [] => rfl
  | z :: zs => by
    rw [List.map_cons]
    show (D.lf (.str z) && D.lfs (zs.map D.str)) = true
    rw [lfs_strs zs]
    rfl
theorem borL_eq {f : M} {ρ ρ1 : Env} {zs : List PySem.Str} (h : f ρ = some (.lst (zs.map D.str), ρ1)) : eBorL f ρ = some (.lst (zs.map D.str), ρ) := by
  unfold eBorL
  rw [h, Option.bind_some]
  exact if_pos (lfs_strs zs)
/-- the tables as the law makes them -/
structure LTs (ts : List Tb) : Prop where
  tb : ∀ t ∈ ts, LTb t
  nd : (ts.map (·.name)).Nodup
theorem LTs.snoc {ts : List Tb} (h : LTs ts) {t : Tb} (ht : LTb t) (hn : t.name ∉ ts.map (·.name)) : LTs (ts ++ [t]) where
  tb := fun u hu => by
    rcases List.mem_append.mp hu with h1 | h1
    · exact h.tb u h1
    · rw [List.mem_singleton.mp h1]
      exact ht
  nd := by
    rw [List.map_append, List.map_singleton]
    refine List.nodup_append.mpr ⟨h.nd, by simp, fun a ha b hb e => ?_⟩
    rw [List.mem_singleton] at hb
    subst e
    subst hb
    exact hn ha
abbrev hoB : MS := sApp 3 (eCaI 0 I__law_table (aCons (eBorL (eLc (iSeq (eVar 3)) [5] (gtN 5) tTrue (eBin ixD (eVar 5) (eC (.int 0))))) aNil))
theorem ho_loop (Mo G : D) : ∀ (ds : List D) (ts : List Tb) (a b : Int) (T : Option D), LTs ts → SrcOk b → ds.length + ts.length ≤ 10 → ∃ (ts' : List Tb) (a' b' : Int) (T' : Option D), forG (gtN 4) hoB ds [some (srcD a b), some Mo, some G, some (.lst (ts.map tbD)), T, none] = some (.nx [some (srcD a' b'), some Mo, some G, some (.lst (ts'.map tbD)), T', none]) ∧ LTs ts' ∧ SrcOk b' ∧ ts'.length = ts.length + ds.length
  | [], ts, a, b, T, I, hb, _ => ⟨ts, a, b, T, rfl, I, hb, rfl⟩
  | d :: ds, ts, a, b, T, I, hb, hl => by
    rw [List.length_cons] at hl
    have hn : eLc (iSeq (eVar 3)) [5] (gtN 5) tTrue (eBin ixD (eVar 5) (eC (.int 0))) [some (srcD a b), some Mo, some G, some (.lst (ts.map tbD)), some d, none] = some (.lst (nmsD ts), [some (srcD a b), some Mo, some G, some (.lst (ts.map tbD)), some d, none]) := names_lc rfl rfl (by simp) (by omega)
    obtain ⟨t, a1, b1, h1, ht, hnm, hb1⟩ := I_table_eq a b hb (used_lst (ts.map (·.name))) (by rw [List.length_map]; omega)
    have h2 : eCaI 0 I__law_table (aCons (eBorL (eLc (iSeq (eVar 3)) [5] (gtN 5) tTrue (eBin ixD (eVar 5) (eC (.int 0))))) aNil) [some (srcD a b), some Mo, some G, some (.lst (ts.map tbD)), some d, none] = some (tbD t, [some (srcD a1 b1), some Mo, some G, some (.lst (ts.map tbD)), some d, none]) := caI_to ⟨_, rfl⟩ (a_cons (borL_eq (zs := ts.map Tb.name) hn) a_nil) rfl h1 rfl
    have s1 : hoB [some (srcD a b), some Mo, some G, some (.lst (ts.map tbD)), some d, none] = some (.nx [some (srcD a1 b1), some Mo, some G, some (.lst ((ts ++ [t]).map tbD)), some d, none]) := app_to rfl h2 rfl (by rw [List.length_map]; omega) (by rw [List.map_append]; rfl)
    obtain ⟨ts', a', b', T', h3, h4, h5, h6⟩ := ho_loop Mo G ds (ts ++ [t]) a1 b1 (some d) (I.snoc ht hnm) hb1 (by rw [List.length_append, List.length_singleton]; omega)
    exact ⟨ts', a', b', T', (forG_nx rfl s1).trans h3, h4, h5, by rw [h6, List.length_append, List.length_singleton, List.length_cons]; omega⟩
theorem I_house_eq (a0 b0 : Int) (hb0 : SrcOk b0) (most : Nat) (hm : most ≤ 4) : ∃ (g : Nat) (ts : List Tb) (a' b' : Int), I__law_house (srcD a0 b0) [.int most] = some (hsD g ts, srcD a' b') ∧ 1 ≤ g ∧ g ≤ 8 ∧ LTs ts ∧ ts.length ≤ most ∧ SrcOk b' := by
  obtain ⟨g, a1, b1, g0, m0, hb1⟩ := one_to (i := 0) (f := eLst (aCons (eC (.int 1)) (aCons (eC (.int 2)) (aCons (eC (.int 3)) (aCons (eC (.int 4)) (aCons (eC (.int 5)) (aCons (eC (.int 6)) (aCons (eC (.int 6)) (aCons (eC (.int 8)) aNil))))))))) (ρ := [some (srcD a0 b0), some (.int most), none, none, none, none]) (ρ1 := [some (srcD a0 b0), some (.int most), none, none, none, none]) (xs := [1, 2, 3, 4, 5, 6, 6, 8]) ⟨_, rfl⟩ (lst_eq rfl (show (8 : Nat) ≤ 100000 by decide)) rfl hb0 (by decide) (by decide)
  have hg : 1 ≤ g ∧ g ≤ 8 := by
    simp only [List.mem_cons, List.not_mem_nil, or_false] at m0
    omega
  have s1 := par_to (is := [2, 3]) (fs := aCons (eCaI 0 I__law_one (aCons (eLst (aCons (eC (.int 1)) (aCons (eC (.int 2)) (aCons (eC (.int 3)) (aCons (eC (.int 4)) (aCons (eC (.int 5)) (aCons (eC (.int 6)) (aCons (eC (.int 6)) (aCons (eC (.int 8)) aNil))))))))) aNil)) (aCons (eLst aNil) aNil)) (ρ := envOf 4 [srcD a0 b0, .int most]) (ρ2 := [some (srcD a1 b1), some (.int most), some (.int g), some (.lst (([] : List Tb).map tbD)), none, none]) (a_cons (g0 [some (srcD a1 b1), some (.int most), none, none, none, none] rfl) (a_cons (lst_eq a_nil (by decide)) a_nil)) rfl
  obtain ⟨n, a2, b2, g2, l2, hb2⟩ := take_to (i := 0) (f := eBin addD (eVar 1) (eC (.int 1))) (ρ := [some (srcD a1 b1), some (.int most), some (.int g), some (.lst (([] : List Tb).map tbD)), none, none]) (ρ1 := [some (srcD a1 b1), some (.int most), some (.int g), some (.lst (([] : List Tb).map tbD)), none, none]) (top := (most : Nat) + 1) ⟨_, rfl⟩ (bin_eq (v_eq rfl) rfl rfl) rfl hb1 (by omega) (by omega)
  have hr : iRngM (aCons (eCaI 0 I__law_take (aCons (eBin addD (eVar 1) (eC (.int 1))) aNil)) aNil) [some (srcD a1 b1), some (.int most), some (.int g), some (.lst (([] : List Tb).map tbD)), none, none] = some (natsD (List.range n), [some (srcD a2 b2), some (.int most), some (.int g), some (.lst (([] : List Tb).map tbD)), none, none]) := rng1 (a_cons (g2 _ rfl) a_nil) (by omega)
  obtain ⟨ts, a3, b3, T', h3, h4, h5, h6⟩ := ho_loop (.int most) (.int g) (natsD (List.range n)) [] a2 b2 none ⟨(fun _ h => by cases h), by simp⟩ hb2 (by simp [natsD]; omega)
  have hlen : (natsD (List.range n)).length = n := by simp [natsD]
  rw [hlen] at h6
  simp only [List.length_nil, Nat.zero_add] at h6
  exact ⟨g, ts, a3, b3, runI_rt ((seq_nx s1).trans ((seq_nx ((for_eq hr).trans h3)).trans (ret_eq (tup_eq (a_cons (v_eq rfl) (a_cons (ca_eq (a_cons (v_eq rfl) a_nil) rfl) a_nil)) (show (2 : Nat) ≤ 100000 by decide))))) rfl, hg.1, hg.2, h4, by omega, h5⟩
end Z
/-! The law's rising pays. -/
namespace Z
open PySem
theorem goal_rep (g : Nat) (h1 : 1 ≤ g) (h2 : g ≤ 39) : repD (.tup [.tup [.int 0, .int 1]]) (.int g) = some (.tup ((List.range g).map fun _ => .tup [.int 0, .int 1])) := by
  have hc : [D.tup [.int 0, .int 1]] ≠ [] ∧ (1 : Int) ≤ (g : Int) ∧ (g : Int) ≤ 1000 ∧ [D.tup [.int 0, .int 1]].length ≤ 1000 := ⟨by simp, by omega, by omega, by simp⟩
  refine (if_pos hc).trans ?_
  rw [Int.toNat_natCast]
  have : ∀ k : Nat, (List.replicate k [D.tup [.int 0, .int 1]]).flatten = (List.range k).map fun _ => .tup [.int 0, .int 1] := fun k => by
    induction k with
    | zero => rfl
    | succ k ih =>
      rw [List.replicate_succ', List.flatten_append, ih, List.range_succ, List.map_append]
      simp
  exact congrArg (fun l => some (D.tup l)) (this g)
theorem goal_snoc (g : Nat) (h2 : g ≤ 39) : addD (.tup ((List.range g).map fun _ => .tup [.int 0, .int 1])) (.tup [.tup [.int 1, .int 1]]) = some (funD (g + 1) (goalPay g)) := by
  have hc : ((List.range g).map fun _ => D.tup [.int 0, .int 1]).length + [D.tup [.int 1, .int 1]].length ≤ 100000 := by simp; omega
  refine (if_pos hc).trans ?_
  unfold funD
  rw [List.range_succ, List.map_append]
  refine congrArg (fun l => some (D.tup l)) ?_
  refine congr (congrArg _ ?_) ?_
  · refine List.map_congr_left fun x hx => ?_
    have := List.mem_range.mp hx
    unfold goalPay
    rw [if_neg (by omega)]
    rfl
  · unfold goalPay
    simp only [List.map_cons, List.map_nil, if_pos]
    rfl
theorem mulBB {i j : Int} (h1 : i.natAbs < BIG) (h2 : j.natAbs < BIG) : mulD (.int i) (.int j) = some (.int (i * j)) := if_pos (mulOk_of h1 h2)
theorem law_add_at {a b c d : Int} (h1 : a.natAbs < BIG) (h2 : b.natAbs < BIG) (h3 : c.natAbs < BIG) (h4 : d.natAbs < BIG) : F__law_add [.tup [.int a, .int b], .tup [.int c, .int d]] = some (.tup [.int (a * d + c * b), .int (b * d)]) :=
  runP_rt (ret_eq (tup_eq (a_cons (bin_eq (bin_eq (bin_eq (v_eq rfl) rfl rfl) (bin_eq (v_eq rfl) rfl rfl) (mulBB h1 h4)) (bin_eq (bin_eq (v_eq rfl) rfl rfl) (bin_eq (v_eq rfl) rfl rfl) (mulBB h3 h2)) rfl) (a_cons (bin_eq (bin_eq (v_eq rfl) rfl rfl) (bin_eq (v_eq rfl) rfl rfl) (mulBB h2 h4)) a_nil)) (show (2 : Nat) ≤ 100000 by decide)))
theorem law_below_at {a b c d : Int} (h1 : a.natAbs < BIG) (h2 : b.natAbs < BIG) (h3 : c.natAbs < BIG) (h4 : d.natAbs < BIG) : F__law_below [.tup [.int a, .int b], .tup [.int c, .int d]] = some (.bl (decide (a * d < c * b))) :=
  runP_rt (ret_eq (bin_eq (bin_eq (bin_eq (v_eq rfl) rfl rfl) (bin_eq (v_eq rfl) rfl rfl) (mulBB h1 h4)) (bin_eq (bin_eq (v_eq rfl) rfl rfl) (bin_eq (v_eq rfl) rfl rfl) (mulBB h3 h2)) rfl))
theorem big4 : 10000 < BIG := by decide +kernel
theorem part_qz (t u : Nat) (ht : t < 30) (hu : u < 4) : Qz 12 348 (Rat.divInt t (1 + u : Nat)) ∧ 0 ≤ Rat.divInt t (1 + u : Nat) := by
  refine ⟨⟨t * (12 / (1 + u) : Nat), ?_, ?_⟩, ?_⟩
  · have h : (1 + u) * (12 / (1 + u)) = 12 := by
      have : u = 0 ∨ u = 1 ∨ u = 2 ∨ u = 3 := by omega
      rcases this with h | h | h | h <;> subst h <;> rfl
    rw [Rat.divInt_eq_divInt_iff (by omega) (by decide)]
    have h2 : ((1 + u : Nat) : Int) * ((12 / (1 + u) : Nat) : Int) = 12 := by
      rw [← Int.natCast_mul, h]
      rfl
    calc (t : Int) * ((12 : Nat) : Int) = t * (((1 + u : Nat) : Int) * ((12 / (1 + u) : Nat) : Int)) := by rw [h2]; rfl
      _ = t * ((12 / (1 + u) : Nat) : Int) * ((1 + u : Nat) : Int) := by rw [Int.mul_comm ((1 + u : Nat) : Int), Int.mul_assoc]
  · rw [Int.natAbs_mul]
    have h1 : 12 / (1 + u) ≤ 12 := Nat.div_le_self _ _
    have := Nat.mul_le_mul (show t ≤ 29 by omega) h1
    simp only [Int.natAbs_natCast]
    omega
  · rw [Rat.divInt_nonneg_iff_of_pos_right (by omega)]
    omega

abbrev riB : MS := sSeq (sSet 3 (eCa F__law_add (aCons (eVar 3) (aCons (eTup (aCons (eCaI 0 I__law_take (aCons (eCaI 0 I__law_one (aCons (eLst (aCons (eC (.int 1)) (aCons (eC (.int 1)) (aCons (eC (.int 9)) (aCons (eC (.int 30)) (aNil)))))) aNil)) aNil)) (aCons (eBin addD (eC (.int 1)) (eCaI 0 I__law_take (aCons (eC (.int 4)) aNil))) aNil))) aNil)))) (sSeq (sSet 3 (eCa F__law_low (aCons (eBin ixD (eVar 3) (eC (.int 0))) (aCons (eBin ixD (eVar 3) (eC (.int 1))) aNil)))) (sApp 2 (eVar 3)))
theorem ri_turn (G d : D) (qs : List Rat) (s : Rat) (B : Nat) (a0 b0 : Int) (hb0 : SrcOk b0) (h0 : 0 ≤ s) (hs : Qz 12 B s) (hB : B ≤ 10000) (hl : qs.length < 1000) : ∃ (s' : Rat) (a' b' : Int), riB [some (srcD a0 b0), some G, some (.lst (qs.map rD)), some (rD s), some d] = some (.nx [some (srcD a' b'), some G, some (.lst ((qs ++ [s']).map rD)), some (rD s'), some d]) ∧ s ≤ s' ∧ Qz 12 (B + 348) s' ∧ SrcOk b' := by
  obtain ⟨c, a1, b1, g1, m1, hb1⟩ := one_to (i := 0) (f := eLst (aCons (eC (.int 1)) (aCons (eC (.int 1)) (aCons (eC (.int 9)) (aCons (eC (.int 30)) (aNil)))))) (ρ := [some (srcD a0 b0), some G, some (.lst (qs.map rD)), some (rD s), some d]) (ρ1 := [some (srcD a0 b0), some G, some (.lst (qs.map rD)), some (rD s), some d]) (xs := [1, 1, 9, 30]) ⟨_, rfl⟩ (lst_eq rfl (show (4 : Nat) ≤ 100000 by decide)) rfl hb0 (by decide) (by decide)
  have hc : 1 ≤ c ∧ c ≤ 30 := by
    simp only [List.mem_cons, List.not_mem_nil, or_false] at m1
    omega
  obtain ⟨t, a2, b2, g2, l2, hb2⟩ := take_to (i := 0) (f := eCaI 0 I__law_one (aCons (eLst (aCons (eC (.int 1)) (aCons (eC (.int 1)) (aCons (eC (.int 9)) (aCons (eC (.int 30)) (aNil)))))) aNil)) (ρ := [some (srcD a0 b0), some G, some (.lst (qs.map rD)), some (rD s), some d]) (ρ1 := [some (srcD a1 b1), some G, some (.lst (qs.map rD)), some (rD s), some d]) ⟨_, rfl⟩ (g1 _ rfl) rfl hb1 (by omega) (by omega)
  have h2 := g2 [some (srcD a2 b2), some G, some (.lst (qs.map rD)), some (rD s), some d] rfl
  obtain ⟨u, a3, b3, g3, l3, hb3⟩ := take_to (i := 0) (f := eC (.int 4)) (ρ := [some (srcD a2 b2), some G, some (.lst (qs.map rD)), some (rD s), some d]) (ρ1 := [some (srcD a2 b2), some G, some (.lst (qs.map rD)), some (rD s), some d]) ⟨_, rfl⟩ rfl rfl hb2 (by decide) (by decide)
  have h3 := g3 [some (srcD a3 b3), some G, some (.lst (qs.map rD)), some (rD s), some d] rfl
  have big := big4
  have n1 := hs.num (by decide)
  have n2 := hs.den (by decide)
  have n3 := s.den_pos
  have hadd : F__law_add [rD s, .tup [.int t, .int (1 + u : Nat)]] = some (.tup [.int (s.num * (1 + u : Nat) + t * s.den), .int (s.den * (1 + u : Nat))]) := law_add_at (by omega) (by omega) (by omega) (by omega)
  have s1 : sSet 3 (eCa F__law_add (aCons (eVar 3) (aCons (eTup (aCons (eCaI 0 I__law_take (aCons (eCaI 0 I__law_one (aCons (eLst (aCons (eC (.int 1)) (aCons (eC (.int 1)) (aCons (eC (.int 9)) (aCons (eC (.int 30)) (aNil)))))) aNil)) aNil)) (aCons (eBin addD (eC (.int 1)) (eCaI 0 I__law_take (aCons (eC (.int 4)) aNil))) aNil))) aNil))) [some (srcD a0 b0), some G, some (.lst (qs.map rD)), some (rD s), some d] = some (.nx [some (srcD a3 b3), some G, some (.lst (qs.map rD)), some (.tup [.int (s.num * (1 + u : Nat) + t * s.den), .int (s.den * (1 + u : Nat))]), some d]) := set_to (ca_eq (a_cons (v_eq rfl) (a_cons (tup_eq (a_cons h2 (a_cons (bin_eq (op := addD) (fa := eC (.int 1)) rfl h3 (addI (z := ((1 + u : Nat) : Int)) (by rw [Int.natCast_add]; rfl))) a_nil)) (show (2 : Nat) ≤ 100000 by decide)) a_nil)) hadd) rfl
  have hd : (0 : Int) < s.den * (1 + u : Nat) := Int.mul_pos (by omega) (by omega)
  have hdb : ((s.den : Int) * (1 + u : Nat)).natAbs < BIG := by
    rw [Int.natAbs_mul]
    simp only [Int.natAbs_natCast]
    have := Nat.mul_le_mul n2 (show 1 + u ≤ 4 by omega)
    omega
  have he : Rat.divInt (s.num * (1 + u : Nat) + t * s.den) (s.den * (1 + u : Nat)) = s + Rat.divInt t (1 + u : Nat) := by
    have := Rat.divInt_add_divInt s.num t (d₁ := s.den) (d₂ := ((1 + u : Nat) : Int)) (by omega) (by omega)
    rw [Rat.num_divInt_den] at this
    exact this.symm
  have hlow := F__law_low_eq (s.num * (1 + u : Nat) + t * s.den) (s.den * (1 + u : Nat)) hd hdb
  rw [he] at hlow
  have s2 : sSet 3 (eCa F__law_low (aCons (eBin ixD (eVar 3) (eC (.int 0))) (aCons (eBin ixD (eVar 3) (eC (.int 1))) aNil))) [some (srcD a3 b3), some G, some (.lst (qs.map rD)), some (.tup [.int (s.num * (1 + u : Nat) + t * s.den), .int (s.den * (1 + u : Nat))]), some d] = some (.nx [some (srcD a3 b3), some G, some (.lst (qs.map rD)), some (rD (s + Rat.divInt t (1 + u : Nat))), some d]) := set_to (ca_eq (a_cons (bin_eq (v_eq rfl) rfl rfl) (a_cons (bin_eq (v_eq rfl) rfl rfl) a_nil)) hlow) rfl
  obtain ⟨p1, p2⟩ := part_qz t u (by omega) (by omega)
  refine ⟨s + Rat.divInt t (1 + u : Nat), a3, b3, (seq_nx s1).trans ((seq_nx s2).trans (app_to rfl (v_eq rfl) rfl (by rw [List.length_map]; omega) (by rw [List.map_append]; rfl))), ?_, Qz.add (by decide) hs p1, hb3⟩
  grind
theorem ri_loop (G : D) : ∀ (ds : List D) (qs : List Rat) (s : Rat) (B : Nat) (a b : Int) (T : Option D), SrcOk b → 0 ≤ s → Qz 12 B s → B + 348 * ds.length ≤ 10000 → qs.length + ds.length < 1000 → qs.Pairwise (· ≤ ·) → (∀ q ∈ qs, 0 ≤ q ∧ q ≤ s ∧ Qz 12 B q) → ∃ (qs' : List Rat) (a' b' : Int) (S' T' : Option D), forG (gtN 4) riB ds [some (srcD a b), some G, some (.lst (qs.map rD)), some (rD s), T] = some (.nx [some (srcD a' b'), some G, some (.lst (qs'.map rD)), S', T']) ∧ qs'.Pairwise (· ≤ ·) ∧ (∀ q ∈ qs', 0 ≤ q ∧ Qz 12 (B + 348 * ds.length) q) ∧ qs'.length = qs.length + ds.length ∧ SrcOk b'
  | [], qs, s, B, a, b, T, hb, h0, hs, hB, hl, hp, hq => ⟨qs, a, b, _, T, rfl, hp, fun q h => ⟨(hq q h).1, (hq q h).2.2⟩, rfl, hb⟩
  | d :: ds, qs, s, B, a, b, T, hb, h0, hs, hB, hl, hp, hq => by
    rw [List.length_cons] at hB hl
    obtain ⟨s', a1, b1, h1, hle, hs', hb1⟩ := ri_turn G d qs s B a b hb h0 hs (by omega) (by omega)
    have hle0 : 0 ≤ s' := Rat.le_trans h0 hle
    obtain ⟨qs', a', b', S', T', h2, h3, h4, h5, h6⟩ := ri_loop G ds (qs ++ [s']) s' (B + 348) a1 b1 (some d) hb1 hle0 hs' (by omega) (by rw [List.length_append, List.length_singleton]; omega) (List.pairwise_append.mpr ⟨hp, List.pairwise_singleton _ _, fun q hq1 r hr => by
        rw [List.mem_singleton.mp hr]
        exact Rat.le_trans (hq q hq1).2.1 hle⟩) (fun q hq1 => by
        rcases List.mem_append.mp hq1 with h | h
        · exact ⟨(hq q h).1, Rat.le_trans (hq q h).2.1 hle, (hq q h).2.2.mono (by decide) (by omega)⟩
        · rw [List.mem_singleton.mp h]
          exact ⟨hle0, Rat.le_refl, hs'⟩)
    refine ⟨qs', a', b', S', T', (forG_nx rfl h1).trans h2, h3, fun q hq => ⟨(h4 q hq).1, ?_⟩, ?_, h6⟩
    · have := (h4 q hq).2
      have e : B + 348 + 348 * ds.length = B + 348 * (d :: ds).length := by
        rw [List.length_cons]
        omega
      rw [e] at this
      exact this
    · rw [h5, List.length_append, List.length_singleton, List.length_cons]
      omega
theorem fun_list (qs : List Rat) : D.tup (qs.map rD) = funD qs.length fun x => qs.getD x 0 := by
  unfold funD
  refine congrArg D.tup (List.ext_getElem (by simp) fun i h1 h2 => ?_)
  simp at h1
  simp [h1]
theorem getD_pair {qs : List Rat} (hp : qs.Pairwise (· ≤ ·)) {x y : Nat} (hxy : x ≤ y) (hy : y < qs.length) : qs.getD x 0 ≤ qs.getD y 0 := by
  have hx : x < qs.length := by omega
  rw [List.getD_eq_getElem?_getD, List.getD_eq_getElem?_getD, List.getElem?_eq_getElem hx, List.getElem?_eq_getElem hy]
  by_cases e : x = y
  · subst e
    exact Rat.le_refl
  · exact List.pairwise_iff_getElem.mp hp x y hx hy (by omega)
/-- pays that never fall -/
structure RisOk (g : Nat) (pay : Nat → Rat) : Prop where
  mono : ∀ x y, x ≤ y → y < g + 1 → pay x ≤ pay y
  nn : ∀ x, x < g + 1 → 0 ≤ pay x
  qz : ∀ x, x < g + 1 → Qz 12 3132 (pay x)
theorem I_rising_eq (a0 b0 : Int) (hb0 : SrcOk b0) (g : Nat) (h1 : 1 ≤ g) (h8 : g ≤ 8) : ∃ (pay : Nat → Rat) (a' b' : Int), I__law_rising (srcD a0 b0) [.int g] = some (funD (g + 1) pay, srcD a' b') ∧ RisOk g pay ∧ SrcOk b' := by
  obtain ⟨t, a1, b1, g1, l1, hb1⟩ := take_to (i := 0) (f := eC (.int 2)) (ρ := envOf 3 [srcD a0 b0, .int g]) (ρ1 := envOf 3 [srcD a0 b0, .int g]) (a := a0) (b := b0) ⟨_, rfl⟩ rfl rfl hb0 (by decide) (by decide)
  have h2 := g1 [some (srcD a1 b1), some (.int g), none, none, none] rfl
  by_cases ht : t = 0
  · subst ht
    refine ⟨goalPay g, a1, b1, runI_rt (seq_rt ((if_t (bl_eq (bin_eq (op := eqD) h2 rfl (eqD_int _ _)))).trans (ret_eq (bin_eq (bin_eq (op := repD) (tup_eq (a_cons (tup_eq (a_cons rfl (a_cons rfl a_nil)) (show (2 : Nat) ≤ 100000 by decide)) a_nil) (show (1 : Nat) ≤ 100000 by decide)) (v_eq rfl) (goal_rep g h1 (by omega))) (tup_eq (a_cons (tup_eq (a_cons rfl (a_cons rfl a_nil)) (show (2 : Nat) ≤ 100000 by decide)) a_nil) (show (1 : Nat) ≤ 100000 by decide)) (goal_snoc g (by omega)))))) rfl, ⟨fun x y hxy hy => ?_, fun x hx => ?_, fun x hx => ?_⟩, hb1⟩
    · unfold goalPay
      by_cases e : x = g
      · rw [if_pos e, if_pos (by omega)]
        exact Rat.le_refl
      · rw [if_neg e]
        split <;> decide
    · unfold goalPay
      split <;> decide
    · unfold goalPay
      split
      · exact ⟨12, by decide +kernel, by decide⟩
      · exact Qz.zero (by decide)
  · have s1 := par_to (is := [2, 3]) (fs := aCons (eLst aNil) (aCons (eTup (aCons (eC (.int 0)) (aCons (eC (.int 1)) aNil))) aNil)) (ρ := [some (srcD a1 b1), some (.int g), none, none, none]) (ρ2 := [some (srcD a1 b1), some (.int g), some (.lst (([] : List Rat).map rD)), some (rD 0), none]) (a_cons (lst_eq a_nil (by decide)) (a_cons (tup_eq (ds := [.int 0, .int 1]) rfl (by decide)) a_nil)) rfl
    obtain ⟨qs, a', b', S', T', h3, h4, h5, h6, h7⟩ := ri_loop (.int g) (natsD (List.range (g + 1))) [] 0 0 a1 b1 none hb1 (by decide) (Qz.zero (by decide)) (by simp [natsD]; omega) (by simp [natsD]; omega) List.Pairwise.nil (fun q h => by cases h)
    have hlen : (natsD (List.range (g + 1))).length = g + 1 := by simp [natsD]
    rw [hlen] at h5 h6
    simp only [List.length_nil, Nat.zero_add] at h5 h6
    have hr : iRngM (aCons (eBin addD (eVar 1) (eC (.int 1))) aNil) [some (srcD a1 b1), some (.int g), some (.lst (([] : List Rat).map rD)), some (rD 0), none] = some (natsD (List.range (g + 1)), [some (srcD a1 b1), some (.int g), some (.lst (([] : List Rat).map rD)), some (rD 0), none]) := rng1 (a_cons (bin_eq (op := addD) (v_eq rfl) rfl (addI (by rw [Int.natCast_add]; rfl))) a_nil) (by omega)
    have hmem : ∀ x, x < g + 1 → qs.getD x 0 ∈ qs := fun x hx => by
      rw [List.getD_eq_getElem?_getD, List.getElem?_eq_getElem (by omega)]
      exact List.getElem_mem _
    refine ⟨fun x => qs.getD x 0, a', b', ?_, ⟨fun x y hxy hy => getD_pair h4 hxy (by omega), fun x hx => (h5 _ (hmem x hx)).1, fun x hx => (h5 _ (hmem x hx)).2.mono (by decide) (by omega)⟩, h7⟩
    have hf := fun_list qs
    rw [h6] at hf
    rw [← hf]
    have hne : eqD (.int t) (.int 0) = some (.bl false) := (eqD_int _ _).trans (congrArg (fun b => some (D.bl b)) (decide_eq_false (by omega)))
    exact runI_rt ((seq_nx ((if_f (bl_eq (bin_eq (op := eqD) h2 rfl hne))).trans rfl)).trans ((seq_nx s1).trans ((seq_nx ((for_eq hr).trans h3)).trans (ret_eq (ca_eq (a_cons (v_eq rfl) a_nil) rfl))))) rfl
end Z
/-! Poorer outs. -/
namespace Z
open PySem
theorem addK_mem {kv : KV} {k w : Int} {p : Int × Int} (h : p ∈ addK kv k w) : p ∈ kv ∨ p = (k, (lookK k kv).getD 0 + w) := by
  unfold addK at h
  split at h
  · obtain ⟨q, hq, e⟩ := List.mem_map.mp h
    by_cases hk : q.1 = k
    · rw [if_pos hk] at e
      rw [← e, hk]
      exact .inr rfl
    · rw [if_neg hk] at e
      rw [← e]
      exact .inl hq
  · rename_i hk
    rcases List.mem_append.mp h with h | h
    · exact .inl h
    · rw [List.mem_singleton.mp h, lookK_none hk]
      exact .inr (by simp)
theorem addK_keep {kv : KV} {k w : Int} {p : Int × Int} (h : p ∈ kv) (hk : p.1 ≠ k) : p ∈ addK kv k w := by
  unfold addK
  split
  · exact List.mem_map.mpr ⟨p, h, if_neg hk⟩
  · exact List.mem_append_left _ h
theorem sum_filter {α : Type} (f : α → Rat) (q : α → Bool) : ∀ l : List α, (∀ x ∈ l, q x = false → f x = 0) → ((l.filter q).map f).sum = (l.map f).sum
  | [], _ => rfl
  | x :: l, h => by
    have ih := sum_filter f q l fun y hy => h y (List.mem_cons_of_mem _ hy)
    cases hq : q x with
    | true => rw [List.filter_cons_of_pos hq, List.map_cons, List.map_cons, List.sum_cons, List.sum_cons, ih]
    | false =>
      rw [List.filter_cons_of_neg (by rw [hq]; decide), ih, List.map_cons, List.sum_cons, h x List.mem_cons_self hq]
      grind
def finK (kv : KV) : List (Int × Int) := ((sortI (kv.map (·.1))).filter fun k => decide (0 < (lookK k kv).getD 0)).map fun k => (k, (lookK k kv).getD 0)
theorem finK_sum (h : Int → Rat) {kv : KV} (hn : (kv.map (·.1)).Nodup) (h0 : ∀ p ∈ kv, 0 ≤ p.2) : ((finK kv).map fun p => (p.2 : Rat) * h p.1).sum = sumK h kv := by
  unfold finK
  rw [List.map_map]
  refine (sum_filter _ _ _ fun k hk hq => ?_).trans ?_
  · have hk2 := (sortI_perm _).mem_iff.mp hk
    obtain ⟨p, hp, rfl⟩ := List.mem_map.mp hk2
    have := of_decide_eq_false hq
    have h1 := h0 p hp
    have e := lookK_mem hn p hp
    rw [e] at this
    simp only [Option.getD_some] at this
    show (((lookK p.1 kv).getD 0 : Int) : Rat) * h p.1 = 0
    rw [e]
    have : p.2 = 0 := by omega
    show ((p.2 : Int) : Rat) * h p.1 = 0
    rw [this]
    show (0 : Rat) * h p.1 = 0
    grind
  · refine Eq.trans (sum_perm _ (sortI_perm _)) ?_
    rw [List.map_map]
    unfold sumK
    refine congrArg List.sum (List.map_congr_left fun p hp => ?_)
    show (((lookK p.1 kv).getD 0 : Int) : Rat) * h p.1 = (p.2 : Rat) * h p.1
    rw [lookK_mem hn p hp]
    rfl
theorem finK_mem {kv : KV} (hn : (kv.map (·.1)).Nodup) {q : Int × Int} (h : q ∈ finK kv) : q ∈ kv ∧ 0 < q.2 := by
  obtain ⟨k, hk, rfl⟩ := List.mem_map.mp h
  obtain ⟨hk1, hk2⟩ := List.mem_filter.mp hk
  have hk3 := (sortI_perm _).mem_iff.mp hk1
  obtain ⟨p, hp, rfl⟩ := List.mem_map.mp hk3
  have := of_decide_eq_true hk2
  rw [lookK_mem hn p hp] at this ⊢
  exact ⟨hp, this⟩
theorem finK_len (kv : KV) : (finK kv).length ≤ kv.length := by
  unfold finK
  rw [List.length_map]
  refine Nat.le_trans (List.length_filter_le _ _) ?_
  rw [(sortI_perm _).length_eq, List.length_map]
  exact Nat.le_refl _
theorem finK_asc {kv : KV} (hn : (kv.map (·.1)).Nodup) : (finK kv).Pairwise fun p q => p.1 < q.1 := by
  unfold finK
  rw [List.pairwise_map]
  have h1 := sortI_sorted (kv.map (·.1))
  have h2 : (sortI (kv.map (·.1))).Nodup := ((sortI_perm _).nodup_iff).mpr hn
  refine List.Pairwise.filter _ ((List.pairwise_and_iff.mpr ⟨h1, h2⟩).imp fun {a b} h => ?_)
  have h5 := h.1
  have h6 : a ≠ b := h.2
  show a < b
  omega
/-- outs l' that are no better than the outs l -/
structure Poorer (l l' : List (Int × Int)) : Prop where
  ok : OutsOk l'
  w : ∀ p ∈ l', p.2 ≤ 18
  whole : outsW l' = outsW l
  low : ∀ h : Int → Rat, (∀ i j, i ≤ j → h i ≤ h j) → (l'.map fun p => (p.2 : Rat) * h p.1).sum ≤ (l.map fun p => (p.2 : Rat) * h p.1).sum
theorem Poorer.same {l : List (Int × Int)} (h : OutsOk l) (h9 : ∀ p ∈ l, p.2 ≤ 9) : Poorer l l := ⟨h, fun p hp => by have := h9 p hp; omega, rfl, fun _ _ => Rat.le_refl⟩
theorem OutsOk.nodup {l : List (Int × Int)} (h : OutsOk l) : (l.map (·.1)).Nodup := by
  show List.Pairwise (· ≠ ·) (l.map (·.1))
  rw [List.pairwise_map]
  exact h.asc.imp fun h => by omega
theorem outsW_pos {l : List (Int × Int)} (h : OutsOk l) : 0 < outsW l := by
  match l, h.ne, h.rng with
  | p :: l, _, hr =>
    have h1 := (hr p List.mem_cons_self).2.2.1
    have : ∀ m : List (Int × Int), (∀ q ∈ m, 1 ≤ q.2) → 0 ≤ outsW m := fun m => by
      induction m with
      | nil => intro _; decide
      | cons q m ih =>
        intro hm
        have := ih fun r hr => hm r (List.mem_cons_of_mem _ hr)
        have := hm q List.mem_cons_self
        unfold outsW at *
        rw [List.map_cons, List.sum_cons]
        omega
    have h2 := this l fun q hq => (hr q (List.mem_cons_of_mem _ hq)).2.2.1
    unfold outsW at *
    rw [List.map_cons, List.sum_cons]
    omega
theorem moved_poorer {l : List (Int × Int)} (h : OutsOk l) (h9 : ∀ p ∈ l, p.2 ≤ 9) (h3 : l.length ≤ 5) {g c : Int} (hg : (g, c) ∈ l) {to m : Int} (ht : -1 ≤ to ∧ to < g) (hm : 0 ≤ m ∧ m ≤ c) : lookK g (addK l to m) = some c ∧ Poorer l (finK (addK (addK l to m) g (-m))) := by
  have n0 := h.nodup
  have n1 := addK_nodup to m n0
  have n2 := addK_nodup g (-m) n1
  have hg1 : (g, c) ∈ addK l to m := addK_keep hg (by show g ≠ to; omega)
  have hlk : lookK g (addK l to m) = some c := lookK_mem n1 _ hg1
  have hb : ∀ p ∈ addK l to m, 0 ≤ p.2 ∧ p.2 ≤ 18 ∧ -1 ≤ p.1 ∧ p.1 ≤ 9 := fun p hp => by
    have hc9 := h9 _ hg
    have hcr := h.rng _ hg
    rcases addK_mem hp with h1 | h1
    · have := h9 p h1
      have := h.rng p h1
      omega
    · subst h1
      simp only at hc9 hcr
      refine ⟨?_, ?_, ht.1, by show to ≤ 9; omega⟩
      · show 0 ≤ (lookK to l).getD 0 + m
        by_cases hk : to ∈ l.map (·.1)
        · obtain ⟨d, hd, hd2⟩ := lookK_some hk
          rw [hd]
          have := (h.rng _ hd2).2.2.1
          simp only [Option.getD_some] at *
          omega
        · rw [lookK_none hk]
          simp only [Option.getD_none]
          omega
      · show (lookK to l).getD 0 + m ≤ 18
        by_cases hk : to ∈ l.map (·.1)
        · obtain ⟨d, hd, hd2⟩ := lookK_some hk
          rw [hd]
          have := h9 _ hd2
          simp only [Option.getD_some] at *
          omega
        · rw [lookK_none hk]
          simp only [Option.getD_none]
          omega
  have hb2 : ∀ p ∈ addK (addK l to m) g (-m), 0 ≤ p.2 ∧ p.2 ≤ 18 ∧ -1 ≤ p.1 ∧ p.1 ≤ 9 := fun p hp => by
    rcases addK_mem hp with h1 | h1
    · exact hb p h1
    · subst h1
      rw [hlk]
      have hc9 := h9 _ hg
      have hcr := h.rng _ hg
      simp only [Option.getD_some] at *
      omega
  have hs : ∀ f : Int → Rat, ((finK (addK (addK l to m) g (-m))).map fun p => (p.2 : Rat) * f p.1).sum = (l.map fun p => (p.2 : Rat) * f p.1).sum + (m : Rat) * (f to - f g) := fun f => by
    rw [finK_sum f n2 fun p hp => (hb2 p hp).1, addK_sum f g (-m) n1, addK_sum f to m n0]
    show sumK f l + (m : Rat) * f to + ((-m : Int) : Rat) * f g = sumK f l + (m : Rat) * (f to - f g)
    rw [Rat.intCast_neg]
    grind
  have hw : outsW (finK (addK (addK l to m) g (-m))) = outsW l := by
    have := hs fun _ => 1
    rw [sum_castQ, sum_castQ] at this
    refine Rat.intCast_inj.mp ?_
    grind
  refine ⟨hlk, ⟨?_, ?_, h.asc |> fun _ => finK_asc n2, fun p hp => ?_⟩, fun p hp => (hb2 p (finK_mem n2 hp).1).2.1, hw, fun f hf => ?_⟩
  · intro e
    rw [e] at hw
    have := outsW_pos h
    rw [← hw] at this
    exact absurd this (by decide)
  · refine Nat.le_trans (finK_len _) ?_
    have e2 : ((addK (addK l to m) g (-m)).map (·.1)).length = ((addK l to m).map (·.1)).length := by
      rw [addK_keys, if_pos (List.mem_map.mpr ⟨_, hg1, rfl⟩)]
    have e1 : ((addK l to m).map (·.1)).length ≤ (l.map (·.1)).length + 1 := by
      rw [addK_keys]
      split
      · omega
      · rw [List.length_append, List.length_singleton]
        omega
    rw [List.length_map, List.length_map] at e2
    rw [List.length_map, List.length_map] at e1
    omega
  · obtain ⟨h1, h2⟩ := finK_mem n2 hp
    have := hb2 p h1
    omega
  · rw [hs f]
    have h1 := hf to g (by omega)
    have h2 : (0 : Rat) ≤ (m : Rat) := Rat.intCast_nonneg.mpr hm.1
    have h3 : (m : Rat) * (f to - f g) ≤ 0 := by
      have := Rat.mul_nonneg h2 (show 0 ≤ f g - f to by grind)
      grind
    grind
end Z
/-! The law's poorer outs. -/
namespace Z
open PySem
theorem dput_val {i j : Nat} {ρ : Env} {kv : KV} {key w : Int} {fv : M} (h1 : ρ[i]? = some (some (dicD kv))) (h2 : ρ[j]? = some (some (.int key))) (hf : fv ρ = some (.int ((lookK key kv).getD 0 + w), ρ)) (hl : kv.length < 1000) : sDPutM i fv (eVar j) ρ = some (.nx (ρ.set i (some (dicD (addK kv key w))))) := by
  have e4 : dicAt i ρ = some (kv.map fun p => (Sum.inl p.1 : L2.Key), kv.map fun p => .int p.2) := by
    unfold dicAt
    rw [h1]
    rfl
  unfold sDPutM
  rw [hf, Option.bind_some, e4, Option.bind_some, v_eq h2, Option.bind_some, e4, Option.bind_some]
  show (some (Sum.inl key : L2.Key)).bind _ = _
  rw [Option.bind_some]
  have hl2 : (kv.map fun p => (Sum.inl p.1 : L2.Key)).length < 100000 := by
    rw [List.length_map]
    omega
  refine (if_pos hl2).trans ?_
  rw [putKD_kv]
theorem dix_kv {kv : KV} {k c : Int} (h : lookK k kv = some c) : dixD (dicD kv) (.int k) = some (.int c) := by
  have := lookD_kv k kv
  rw [h] at this
  exact this
theorem bor_int {f : M} {ρ ρ1 : Env} {i : Int} (h : f ρ = some (.int i, ρ1)) : eBor f ρ = some (.int i, ρ) := by
  unfold eBor
  rw [h]
  rfl
theorem dict_outs {l : List (Int × Int)} (h : OutsOk l) : dictPD [outsL plO l] = some (dicD l) := by
  show (pairsD (l.map pairE)).bind _ = _
  rw [pairsD_E, Option.bind_some]
  exact if_pos h.nodup
theorem oks_intL (n : Nat) : ∀ l : List Int, D.oks n (l.map D.int) = true
  | [] => by simp [D.oks]
  | x :: l => by
    rw [List.map_cons, D.oks, ok_int, oks_intL n l]
    rfl
theorem eq_nil (l : List Int) : eqD (.lst (l.map D.int)) (.lst []) = some (.bl l.isEmpty) := by
  have e1 : D.ok 60 (.lst (l.map D.int)) = true := by rw [D.ok]; exact oks_intL 59 l
  have e2 : D.ok 60 (.lst []) = true := by rw [D.ok, D.oks]
  unfold eqD
  rw [if_pos ⟨e1, e2⟩]
  cases l with
  | nil => simp [D.eqb, D.eqbs]
  | cons a l => simp [D.eqb, D.eqbs]
theorem addK_len (kv : KV) (k w : Int) : (addK kv k w).length ≤ kv.length + 1 := by
  unfold addK
  split
  · rw [List.length_map]
    omega
  · rw [List.length_append, List.length_singleton]
    omega

def smL (l : List (Int × Int)) : List Int := (l.filter fun p => decide (-1 < p.1)).map (·.1)
theorem some_lc (S : D) (l : List (Int × Int)) (hl : l.length ≤ 100) : eLc (iSeq (eVar 1)) [4, 5] (gtT 2 (gtCons (gtN 4) (gtCons (gtN 5) gtNil))) (tBl (eBin gtD (eVar 4) (eUn negD (eC (.int 1))))) (eVar 4) [some S, some (outsL plO l), some (dicD l), none, none, none, none, none, none] = some ((.lst ((smL l).map D.int)), [some S, some (outsL plO l), some (dicD l), none, none, none, none, none, none]) := by
  have := eLc_pure (fi := iSeq (eVar 1)) (vs := [4, 5]) (gt := gtT 2 (gtCons (gtN 4) (gtCons (gtN 5) gtNil))) (t := tBl (eBin gtD (eVar 4) (eUn negD (eC (.int 1))))) (f := eVar 4) (ρ := [some S, some (outsL plO l), some (dicD l), none, none, none, none, none, none]) (ρw := [some S, some (outsL plO l), some (dicD l), none, none, none, none, none, none]) (outsL_seq (v_eq rfl)) rfl (fun d => match d with | .tup [.int g, .int _] => decide (-1 < g) | _ => false) (fun d => match d with | .tup [.int g, .int _] => .int g | _ => .non) (fun d hd => by
    obtain ⟨p, hp, rfl⟩ := List.mem_map.mp hd
    refine ⟨[some S, some (outsL plO l), some (dicD l), none, some (.int p.1), some (.int p.2), none, none, none], rfl, bl_eq (bin_eq (v_eq rfl) (un_eq (op := negD) (a := .int 1) (d := .int (-1)) rfl rfl) rfl), fun _ => v_eq rfl, rfl⟩) (by rw [List.length_map]; omega)
  rw [this, List.filter_map, List.map_map]
  unfold smL
  rw [List.map_map]
  rfl

theorem fin_lc (S U : D) (kv : KV) (s3 s4 s5 s6 s7 : Option D) (hn : (kv.map (·.1)).Nodup) (hl : kv.length < 64) : eLc (iSeq (eCa sortDD (aCons (eVar 2) aNil))) [8] (gtN 8) (tBl (eBin gtD (eBin dixD (eVar 2) (eVar 8)) (eC (.int 0)))) (eTup (aCons (eVar 8) (aCons (eBin dixD (eVar 2) (eVar 8)) aNil))) [some S, some U, some (dicD kv), s3, s4, s5, s6, s7, none] = some ((.lst ((finK kv).map pairE)), [some S, some U, some (dicD kv), s3, s4, s5, s6, s7, none]) := by
  have hi : iSeq (eCa sortDD (aCons (eVar 2) aNil)) [some S, some U, some (dicD kv), s3, s4, s5, s6, s7, none] = some ((sortI (kv.map (·.1))).map D.int, [some S, some U, some (dicD kv), s3, s4, s5, s6, s7, none]) := by
    unfold iSeq
    rw [ca_eq (a_cons (v_eq rfl) a_nil) (sortDD_kv hl)]
    rfl
  have := eLc_pure (vs := [8]) (gt := gtN 8) (t := tBl (eBin gtD (eBin dixD (eVar 2) (eVar 8)) (eC (.int 0)))) (f := eTup (aCons (eVar 8) (aCons (eBin dixD (eVar 2) (eVar 8)) aNil))) (ρw := [some S, some U, some (dicD kv), s3, s4, s5, s6, s7, none]) hi rfl (fun d => match d with | .int k => decide (0 < (lookK k kv).getD 0) | _ => false) (fun d => match d with | .int k => pairE (k, (lookK k kv).getD 0) | _ => .non) (fun d hd => by
    obtain ⟨k, hk, rfl⟩ := List.mem_map.mp hd
    have hk3 := (sortI_perm _).mem_iff.mp hk
    obtain ⟨c, hc, _⟩ := lookK_some hk3
    have hx : eBin dixD (eVar 2) (eVar 8) [some S, some U, some (dicD kv), s3, s4, s5, s6, s7, some (.int k)] = some (.int ((lookK k kv).getD 0), [some S, some U, some (dicD kv), s3, s4, s5, s6, s7, some (.int k)]) := bin_eq (v_eq rfl) (v_eq rfl) (by rw [hc]; exact dix_kv hc)
    exact ⟨[some S, some U, some (dicD kv), s3, s4, s5, s6, s7, some (.int k)], rfl, bl_eq (bin_eq hx rfl rfl), fun _ => tup_eq (a_cons (v_eq rfl) (a_cons hx a_nil)) (show (2 : Nat) ≤ 100000 by decide), rfl⟩) (by rw [List.length_map, (sortI_perm _).length_eq, List.length_map]; omega)
  rw [this, List.filter_map, List.map_map]
  unfold finK
  rw [List.map_map]
  rfl

theorem I_poorer_eq (a0 b0 : Int) (hb0 : SrcOk b0) (l : List (Int × Int)) (h : OutsOk l) (h9 : ∀ p ∈ l, p.2 ≤ 9) (h3 : l.length ≤ 3) : ∃ (l' : List (Int × Int)) (a' b' : Int), I__law_poorer (srcD a0 b0) [outsL plO l] = some (outsL plO l', srcD a' b') ∧ Poorer l l' ∧ SrcOk b' := by
  have s2 : sSet 2 (eCa dictPD (aCons (eVar 1) aNil)) (envOf 7 [srcD a0 b0, outsL plO l]) = some (.nx [some (srcD a0 b0), some (outsL plO l), some (dicD l), none, none, none, none, none, none]) := set_to (ca_eq (a_cons (v_eq rfl) a_nil) (dict_outs h)) rfl
  have s3 := set_to (i := 3) (ρ2 := [some (srcD a0 b0), some (outsL plO l), some (dicD l), some (.lst ((smL l).map D.int)), none, none, none, none, none]) (some_lc (srcD a0 b0) l (by omega)) rfl
  have hif : eBin eqD (eVar 3) (eLst aNil) [some (srcD a0 b0), some (outsL plO l), some (dicD l), some (.lst ((smL l).map D.int)), none, none, none, none, none] = some (.bl (smL l).isEmpty, [some (srcD a0 b0), some (outsL plO l), some (dicD l), some (.lst ((smL l).map D.int)), none, none, none, none, none]) := bin_eq (v_eq rfl) (lst_eq a_nil (by decide)) (eq_nil _)
  by_cases hE : (smL l).isEmpty = true
  · rw [hE] at hif
    exact ⟨l, a0, b0, runI_rt ((seq_nx s2).trans ((seq_nx s3).trans (seq_rt ((if_t (bl_eq hif)).trans (ret_eq (v_eq rfl)))))) rfl, Poorer.same h h9, hb0⟩
  · rw [Bool.not_eq_true] at hE
    rw [hE] at hif
    have hne : 1 ≤ ((smL l).map D.int).length := by
      rw [List.length_map]
      cases hh : smL l with
      | nil =>
        rw [hh] at hE
        cases hE
      | cons a m =>
        rw [List.length_cons]
        omega
    have hll : ((smL l).map D.int).length < 100000 := by
      unfold smL
      rw [List.length_map, List.length_map]
      have := List.length_filter_le (fun p : Int × Int => decide (-1 < p.1)) l
      omega
    obtain ⟨r, d, a1, b1, h4, m4, hb1⟩ := one_at (i := 0) (f := eVar 3) (ρ := [some (srcD a0 b0), some (outsL plO l), some (dicD l), some (.lst ((smL l).map D.int)), none, none, none, none, none]) (ρ1 := [some (srcD a0 b0), some (outsL plO l), some (dicD l), some (.lst ((smL l).map D.int)), none, none, none, none, none]) ⟨_, rfl⟩ (v_eq rfl) rfl hb0 hne hll
    obtain ⟨g, hg, rfl⟩ := List.mem_map.mp (List.mem_of_getElem? m4)
    obtain ⟨p, hp, rfl⟩ := List.mem_map.mp hg
    obtain ⟨hpl, hpg⟩ := List.mem_filter.mp hp
    have hpg := of_decide_eq_true hpg
    have s4 := set_to (i := 4) (ρ2 := [some (srcD a1 b1), some (outsL plO l), some (dicD l), some (.lst ((smL l).map D.int)), some (.int p.1), none, none, none, none]) h4 rfl
    have hr := h.rng p hpl
    obtain ⟨t, a2, b2, g5, l5, hb2⟩ := take_to (i := 0) (f := eBin addD (eVar 4) (eC (.int 1))) (ρ := [some (srcD a1 b1), some (outsL plO l), some (dicD l), some (.lst ((smL l).map D.int)), some (.int p.1), none, none, none, none]) (ρ1 := [some (srcD a1 b1), some (outsL plO l), some (dicD l), some (.lst ((smL l).map D.int)), some (.int p.1), none, none, none, none]) (top := p.1 + 1) ⟨_, rfl⟩ (bin_eq (v_eq rfl) rfl rfl) rfl hb1 (by omega) (by omega)
    have h5 := g5 [some (srcD a2 b2), some (outsL plO l), some (dicD l), some (.lst ((smL l).map D.int)), some (.int p.1), none, none, none, none] rfl
    have hlp : lookK p.1 l = some p.2 := lookK_mem h.nodup p hpl
    obtain ⟨m, a3, b3, g6, l6, hb3⟩ := take_to (i := 0) (f := eBin addD (eBor (eBin dixD (eVar 2) (eVar 4))) (eC (.int 1))) (ρ := [some (srcD a2 b2), some (outsL plO l), some (dicD l), some (.lst ((smL l).map D.int)), some (.int p.1), none, none, none, none]) (ρ1 := [some (srcD a2 b2), some (outsL plO l), some (dicD l), some (.lst ((smL l).map D.int)), some (.int p.1), none, none, none, none]) (top := p.2 + 1) ⟨_, rfl⟩ (bin_eq (op := addD) (bor_int (bin_eq (v_eq rfl) (v_eq rfl) (dix_kv hlp))) rfl rfl) rfl hb2 (by omega) (by omega)
    have h6 := g6 [some (srcD a3 b3), some (outsL plO l), some (dicD l), some (.lst ((smL l).map D.int)), some (.int p.1), none, none, none, none] rfl
    have s5 := par_to (is := [6, 7]) (ρ2 := [some (srcD a3 b3), some (outsL plO l), some (dicD l), some (.lst ((smL l).map D.int)), some (.int p.1), none, some (.int ((t : Int) - 1)), some (.int m), none]) (a_cons (bin_eq (op := subD) (fb := eC (.int 1)) h5 rfl rfl) (a_cons h6 a_nil)) rfl
    have s6 : sDPutM 2 (eBin addD (eBor (eTri dgetD (eVar 2) (eVar 6) (eC (.int 0)))) (eVar 7)) (eVar 6) [some (srcD a3 b3), some (outsL plO l), some (dicD l), some (.lst ((smL l).map D.int)), some (.int p.1), none, some (.int ((t : Int) - 1)), some (.int m), none] = some (.nx [some (srcD a3 b3), some (outsL plO l), some (dicD (addK l ((t : Int) - 1) m)), some (.lst ((smL l).map D.int)), some (.int p.1), none, some (.int ((t : Int) - 1)), some (.int m), none]) := dput_kv rfl rfl rfl (by omega)
    obtain ⟨q1, q2⟩ := moved_poorer h h9 (by omega) (g := p.1) (c := p.2) hpl (to := (t : Int) - 1) (m := m) ⟨by omega, by omega⟩ ⟨by omega, by omega⟩
    have len1 := addK_len l ((t : Int) - 1) m
    have len2 := addK_len (addK l ((t : Int) - 1) m) p.1 (-m)
    have hsub : eBin subD (eBor (eBin dixD (eVar 2) (eVar 4))) (eVar 7) [some (srcD a3 b3), some (outsL plO l), some (dicD (addK l ((t : Int) - 1) m)), some (.lst ((smL l).map D.int)), some (.int p.1), none, some (.int ((t : Int) - 1)), some (.int m), none] = some (.int ((lookK p.1 (addK l ((t : Int) - 1) m)).getD 0 + -(m : Int)), [some (srcD a3 b3), some (outsL plO l), some (dicD (addK l ((t : Int) - 1) m)), some (.lst ((smL l).map D.int)), some (.int p.1), none, some (.int ((t : Int) - 1)), some (.int m), none]) := by
      rw [q1]
      exact bin_eq (op := subD) (bor_int (bin_eq (v_eq rfl) (v_eq rfl) (dix_kv q1))) (v_eq rfl) rfl
    have s7 : sDPutM 2 (eBin subD (eBor (eBin dixD (eVar 2) (eVar 4))) (eVar 7)) (eVar 4) [some (srcD a3 b3), some (outsL plO l), some (dicD (addK l ((t : Int) - 1) m)), some (.lst ((smL l).map D.int)), some (.int p.1), none, some (.int ((t : Int) - 1)), some (.int m), none] = some (.nx [some (srcD a3 b3), some (outsL plO l), some (dicD (addK (addK l ((t : Int) - 1) m) p.1 (-m))), some (.lst ((smL l).map D.int)), some (.int p.1), none, some (.int ((t : Int) - 1)), some (.int m), none]) := dput_val rfl rfl hsub (by omega)
    have hfin := fin_lc (srcD a3 b3) (outsL plO l) (addK (addK l ((t : Int) - 1) m) p.1 (-m)) (some (.lst ((smL l).map D.int))) (some (.int p.1)) none (some (.int ((t : Int) - 1))) (some (.int m)) (addK_nodup _ _ (addK_nodup _ _ h.nodup)) (by omega)
    exact ⟨finK (addK (addK l ((t : Int) - 1) m) p.1 (-m)), a3, b3, runI_rt ((seq_nx s2).trans ((seq_nx s3).trans ((seq_nx ((if_f (bl_eq hif)).trans rfl)).trans ((seq_nx s4).trans ((seq_nx s5).trans ((seq_nx s6).trans ((seq_nx s7).trans (ret_eq (ca_eq (a_cons hfin a_nil) rfl))))))))) rfl, q2, hb3⟩
end Z
/-! The worth of houses beside each other. -/
namespace Z
open PySem
/-- never falling up to n -/
def MonoF (n : Nat) (f : Nat → Rat) : Prop := ∀ x y, x ≤ y → y < n → f x ≤ f y
theorem sum_leL {α : Type} (f g : α → Rat) : ∀ l : List α, (∀ x ∈ l, f x ≤ g x) → (l.map f).sum ≤ (l.map g).sum
  | [], _ => Rat.le_refl
  | x :: l, h => by
    have ih := sum_leL f g l fun y hy => h y (List.mem_cons_of_mem _ hy)
    have := h x List.mem_cons_self
    rw [List.map_cons, List.map_cons, List.sum_cons, List.sum_cons]
    grind
theorem wgt_le {w : Int} {a c : Rat} (hw : 0 ≤ w) (h : a ≤ c) : (w : Rat) * a ≤ (w : Rat) * c := by
  have h2 : (0 : Rat) ≤ (w : Rat) := Rat.intCast_nonneg.mpr hw
  have := Rat.mul_nonneg h2 (show 0 ≤ c - a by grind)
  grind
theorem slot_le {t t' : Tb} (h : TbOk t) (h' : TbOk t') {g x s y r : Nat} (hx : s + t.fee ≤ x) (hy : r + t'.fee ≤ y) (hw : outsW t.outs = outsW t'.outs) {f f' : Nat → Rat} (hs : outSum g t x s f ≤ outSum g t' y r f') : avg f (slot g t x s) ≤ avg f' (slot g t' y r) := by
  rw [slot_avg h hx, slot_avg h' hy, hw]
  have h0 : (0 : Rat) < ((outsW t'.outs : Int) : Rat) := Rat.intCast_pos.mpr (outsW_pos h'.outs)
  rw [Rat.div_def, Rat.div_def]
  have hi : (0 : Rat) ≤ ((outsW t'.outs : Int) : Rat)⁻¹ := Rat.le_of_lt (Rat.inv_pos.mpr h0)
  exact Rat.mul_le_mul_of_nonneg_right hs hi
/-- the least of f from x, k further -/
def lowF (f : Nat → Rat) : Nat → Nat → Rat
  | x, 0 => f x
  | x, k + 1 => if f x ≤ lowF f (x + 1) k then f x else lowF f (x + 1) k
theorem lowF_le (f : Nat → Rat) : ∀ (k x y : Nat), x ≤ y → y ≤ x + k → lowF f x k ≤ f y
  | 0, x, y, h1, h2 => by
    have : y = x := by omega
    subst this
    exact Rat.le_refl
  | k + 1, x, y, h1, h2 => by
    unfold lowF
    by_cases e : y = x
    · subst e
      split
      · exact Rat.le_refl
      · grind
    · have := lowF_le f k (x + 1) y (by omega) (by omega)
      split
      · grind
      · exact this
theorem lowF_ex (f : Nat → Rat) : ∀ (k x : Nat), ∃ y, x ≤ y ∧ y ≤ x + k ∧ lowF f x k = f y
  | 0, x => ⟨x, by omega, by omega, rfl⟩
  | k + 1, x => by
    obtain ⟨y, h1, h2, h3⟩ := lowF_ex f k (x + 1)
    unfold lowF
    split
    · exact ⟨x, by omega, by omega, rfl⟩
    · exact ⟨y, by omega, by omega, h3⟩
theorem outZ_mono {g : Nat} {t : Tb} {x y s : Nat} (h : x ≤ y) (gain : Int) : (outZ g t x s gain).toNat ≤ (outZ g t y s gain).toNat := by
  unfold outZ
  omega
theorem outZ_lt (g : Nat) (t : Tb) (x s : Nat) (gain : Int) : (outZ g t x s gain).toNat < g + 1 := by
  unfold outZ
  omega
theorem worth_mono {g : Nat} {ts : List Tb} (hs : ∀ t ∈ ts, TbOk t) {pay V : Nat → Rat} (hp : MonoF (g + 1) pay) (W : IsWorth (hB g ts pay) V) : MonoF (g + 1) V := by
  have cov : Cov (hB g ts pay) fun x => lowF V x (g - x) := by
    refine ⟨fun x hx => ?_, fun x hx l hl => ?_, fun x hx => ?_⟩
    · obtain ⟨y, h1, h2, h3⟩ := lowF_ex V (g - x) x
      have hx' : x < g + 1 := hx
      show pay x ≤ lowF V x (g - x)
      rw [h3]
      exact Rat.le_trans (hp x y h1 (by omega)) (W.cov.pay y (show y < g + 1 by omega))
    · obtain ⟨y, h1, h2, h3⟩ := lowF_ex V (g - x) x
      have hx' : x < g + 1 := hx
      obtain ⟨t, s, ht, hst, hsx, rfl⟩ := mem_plays.mp hl
      show avg _ (slot g t x s) ≤ lowF V x (g - x)
      rw [h3]
      refine Rat.le_trans ?_ (W.cov.avg y (show y < g + 1 by omega) (slot g t y s) (mem_plays.mpr ⟨t, s, ht, hst, by omega, rfl⟩))
      refine slot_le (hs t ht) (hs t ht) hsx (by omega) rfl (sum_leL _ _ _ fun p hp2 => wgt_le (by have := ((hs t ht).outs.rng p hp2).2.2.1; omega) ?_)
      have hlt := outZ_lt g t y s p.1
      exact lowF_le V _ _ _ (outZ_mono h1 p.1) (by have := outZ_lt g t x s p.1; omega)
    · obtain ⟨y, h1, h2, h3⟩ := lowF_ex V (g - x) x
      have hx' : x < g + 1 := hx
      show 0 ≤ lowF V x (g - x)
      rw [h3]
      exact W.cov.nn y (show y < g + 1 by omega)
  intro x y hxy hy
  have h := W.least _ cov x (show x < g + 1 by omega)
  exact Rat.le_trans h (lowF_le V _ _ _ hxy (by omega))
theorem worth_le {g : Nat} {ts ts' : List Tb} {pay V V' : Nat → Rat} (W : IsWorth (hB g ts pay) V) (W' : IsWorth (hB g ts' pay) V') (h : ∀ x, x < g + 1 → ∀ t' ∈ ts', ∀ s ∈ stk t', s + t'.fee ≤ x → ∃ t ∈ ts, s ∈ stk t ∧ s + t.fee ≤ x ∧ avg V (slot g t' x s) ≤ avg V (slot g t x s)) : ∀ x, x < g + 1 → V' x ≤ V x := by
  refine fun x hx => W'.least V ⟨fun x hx => W.cov.pay x hx, fun x hx l hl => ?_, fun x hx => W.cov.nn x hx⟩ x hx
  obtain ⟨t', s, ht, hst, hsx, rfl⟩ := mem_plays.mp hl
  obtain ⟨t, h1, h2, h3, h4⟩ := h x hx t' ht s hst hsx
  exact Rat.le_trans h4 (W.cov.avg x hx _ (mem_plays.mpr ⟨t, s, h1, h2, h3, rfl⟩))
/-- a table no better than another: dearer, or of poorer outs -/
structure WorseT (t t' : Tb) : Prop where
  low : t'.low = t.low
  high : t'.high = t.high
  step : t'.step = t.step
  fee : t.fee ≤ t'.fee
  outs : t'.outs = t.outs ∨ (Poorer t.outs t'.outs ∧ t'.fee = t.fee)
theorem WorseT.avg {t t' : Tb} (h : WorseT t t') (o : TbOk t) (o' : TbOk t') {g : Nat} {V : Nat → Rat} (hV : MonoF (g + 1) V) {x s : Nat} (hs : s ∈ stk t') (hx : s + t'.fee ≤ x) : s ∈ stk t ∧ s + t.fee ≤ x ∧ avg V (slot g t' x s) ≤ avg V (slot g t x s) := by
  have hfee := h.fee
  refine ⟨?_, by omega, ?_⟩
  · unfold stk nStk at hs ⊢
    rw [h.low, h.high, h.step] at hs
    exact hs
  · rcases h.outs with e | ⟨e, e2⟩
    · refine slot_le o' o hx (by omega) (by rw [e]) ?_
      unfold outSum
      rw [e]
      refine sum_leL _ _ _ fun p hp => wgt_le (by have := (o.outs.rng p hp).2.2.1; omega) (hV _ _ ?_ (outZ_lt g t x s p.1))
      unfold outZ
      omega
    · refine slot_le o' o hx (by omega) e.whole ?_
      have := e.low (fun i => V (outZ g t x s i).toNat) fun i j hij => hV _ _ (by
        have := Int.mul_le_mul_of_nonneg_right hij (show (0 : Int) ≤ (s : Int) by omega)
        unfold outZ
        omega) (outZ_lt g t x s j)
      unfold outSum
      have e3 : ∀ i, outZ g t' x s i = outZ g t x s i := fun i => by
        unfold outZ
        rw [e2]
      simp only [e3]
      exact this
end Z
/-! A house changed. -/
namespace Z
open PySem
theorem cut_to (ds : List D) (n : Nat) (h : n ≤ ds.length) : slD (.tup ds) none (some (n : Int)) = some (.tup (ds.take n)) := by
  show some (D.tup (cutD ds none (some (n : Int)))) = _
  refine congrArg (fun l => some (D.tup l)) ?_
  unfold cutD
  have e1 : HT.sIx ds.length 0 none = 0 := rfl
  have e2 : HT.sIx ds.length ds.length (some (n : Int)) = n := by
    show (if (n : Int) < 0 then ((n : Int) + (ds.length : Int)).toNat else min (n : Int).toNat ds.length) = _
    rw [if_neg (by omega)]
    omega
  rw [e1, e2, List.drop_zero, Nat.sub_zero]
theorem cut_from (ds : List D) (n : Nat) (h : n ≤ ds.length) : slD (.tup ds) (some (n : Int)) none = some (.tup (ds.drop n)) := by
  show some (D.tup (cutD ds (some (n : Int)) none)) = _
  refine congrArg (fun l => some (D.tup l)) ?_
  unfold cutD
  have e1 : HT.sIx ds.length ds.length none = ds.length := rfl
  have e2 : HT.sIx ds.length 0 (some (n : Int)) = n := by
    show (if (n : Int) < 0 then ((n : Int) + (ds.length : Int)).toNat else min (n : Int).toNat ds.length) = _
    rw [if_neg (by omega)]
    omega
  rw [e1, e2]
  exact List.take_of_length_le (by rw [List.length_drop]; exact Nat.le_refl _)
theorem sl_to {fa f : M} {ρ ρ1 ρ2 : Env} {ds : List D} {n : Nat} (h1 : fa ρ = some (.tup ds, ρ1)) (h2 : f ρ1 = some (.int n, ρ2)) (hn : n ≤ ds.length) : eSl fa oNone (oSome f) ρ = some (.tup (ds.take n), ρ2) := by
  unfold eSl oNone oSome
  rw [h1, Option.bind_some, Option.bind_some, h2, Option.bind_some]
  show ((slD (.tup ds) none (some (n : Int))).map fun d => (d, ρ2)) = _
  rw [cut_to ds n hn]
  rfl
theorem sl_from {fa f : M} {ρ ρ1 ρ2 : Env} {ds : List D} {n : Nat} (h1 : fa ρ = some (.tup ds, ρ1)) (h2 : f ρ1 = some (.int n, ρ2)) (hn : n ≤ ds.length) : eSl fa (oSome f) oNone ρ = some (.tup (ds.drop n), ρ2) := by
  unfold eSl oNone oSome
  rw [h1, Option.bind_some, h2, Option.bind_some]
  show ((slD (.tup ds) (some (n : Int)) none).map fun d => (d, ρ2)) = _
  rw [cut_from ds n hn]
  rfl
theorem tup_app {a b : List D} (h : a.length + b.length ≤ 100000) : addD (.tup a) (.tup b) = some (.tup (a ++ b)) := if_pos h
theorem sum_bnd (k : Nat) : ∀ ts : List Tb, (∀ t ∈ ts, nStk t ≤ k) → (ts.map nStk).sum ≤ k * ts.length
  | [], _ => Nat.zero_le _
  | t :: ts, h => by
    have := sum_bnd k ts fun u hu => h u (List.mem_cons_of_mem _ hu)
    have := h t List.mem_cons_self
    rw [List.map_cons, List.sum_cons, List.length_cons, Nat.mul_add]
    omega
/-- how the house was changed -/
structure Chg (g : Nat) (ts ts' : List Tb) (up : Bool) : Prop where
  hs : HsOk g ts'
  w : ∀ t ∈ ts', ∀ p ∈ t.outs, p.2 ≤ 18
  more : up = true → ∀ t ∈ ts, ∃ t' ∈ ts', t'.outs = t.outs ∧ t'.fee = t.fee ∧ ∀ s ∈ stk t, s ∈ stk t'
  less : up = false → ∀ t' ∈ ts', ∃ t ∈ ts, WorseT t t'
theorem WorseT.same (t : Tb) : WorseT t t := ⟨rfl, rfl, rfl, Nat.le_refl _, .inl rfl⟩
theorem LTs.hs {g : Nat} (g1 : 1 ≤ g) (g8 : g ≤ 8) {ts : List Tb} (h : LTs ts) (h3 : ts.length ≤ 3) : HsOk g ts := ⟨g1, by omega, by omega, fun t ht => (h.tb t ht).ok, h.nd, by
  have := sum_bnd 4 ts fun t ht => (h.tb t ht).n4
  omega⟩
/-- one table changed -/
theorem chg_set {g : Nat} (g1 : 1 ≤ g) (g8 : g ≤ 8) {ts : List Tb} (h : LTs ts) (h2 : ts.length ≤ 2) {n : Nat} (hn : n < ts.length) {t' : Tb} (ht : TbOk t') (hk : nStk t' ≤ 6) (hw : ∀ p ∈ t'.outs, p.2 ≤ 18) (hm : t'.name = ts[n].name) {up : Bool} (hup : up = true → t'.outs = ts[n].outs ∧ t'.fee = ts[n].fee ∧ ∀ s ∈ stk ts[n], s ∈ stk t') (hdn : up = false → WorseT ts[n] t') : Chg g ts (ts.set n t') up where
  hs := ⟨g1, by omega, by rw [List.length_set]; omega, fun t hmem => by
    rcases List.mem_or_eq_of_mem_set hmem with h1 | h1
    · exact (h.tb t h1).ok
    · rw [h1]; exact ht, by
    have e : (ts.set n t').map (·.name) = ts.map (·.name) := by
      rw [List.map_set]
      show (ts.map (·.name)).set n t'.name = _
      rw [hm]
      refine List.ext_getElem (by simp) fun i h3 h4 => ?_
      rw [List.getElem_set]
      split
      · rename_i e
        subst e
        simp
      · rfl
    rw [e]
    exact h.nd, by
    have := sum_bnd 6 (ts.set n t') fun t hmem => by
      rcases List.mem_or_eq_of_mem_set hmem with h1 | h1
      · have := (h.tb t h1).n4
        omega
      · rw [h1]; exact hk
    rw [List.length_set] at this
    omega⟩
  w := fun t hmem p hp => by
    rcases List.mem_or_eq_of_mem_set hmem with h1 | h1
    · have := (h.tb t h1).w9 p hp
      omega
    · rw [h1] at hp
      exact hw p hp
  more := fun hu t hmem => by
    obtain ⟨i, hi, rfl⟩ := List.mem_iff_getElem.mp hmem
    by_cases e : n = i
    · subst e
      exact ⟨t', List.mem_iff_getElem.mpr ⟨n, by rw [List.length_set]; exact hn, by rw [List.getElem_set_self]⟩, hup hu⟩
    · exact ⟨ts[i], List.mem_iff_getElem.mpr ⟨i, by rw [List.length_set]; exact hi, by rw [List.getElem_set_ne e]⟩, rfl, rfl, fun s hs => hs⟩
  less := fun hd t hmem => by
    rcases List.mem_or_eq_of_mem_set hmem with h1 | h1
    · exact ⟨t, h1, WorseT.same t⟩
    · rw [h1]
      exact ⟨ts[n], List.getElem_mem _, hdn hd⟩

theorem ch_ret (a0 b0 : Int) (g : Nat) (ts : List Tb) (n y : Nat) (u : Tb) (hn : n < ts.length) (hl : ts.length ≤ 4) (hpl : u.pl = plO) : (sRet (eTup (aCons (eTup (aCons (eVar 2) (aCons (eBin addD (eBin addD (eSl (eVar 3) oNone (oSome (eVar 4))) (eTup (aCons (eTup (aCons (eVar 6) (aCons (eVar 7) (aCons (eVar 8) (aCons (eVar 9) (aCons (eVar 10) (aCons (eVar 11) aNil))))))) aNil))) (eSl (eVar 3) (oSome (eBin addD (eVar 4) (eC (.int 1)))) oNone)) aNil))) (aCons (eBin eqD (eVar 5) (eC (.int 1))) aNil)))) [some (srcD a0 b0), some (hsD g ts), some (.int g), some (tsD ts), some (.int n), some (.int y), some (.str u.name), some (outsL plO u.outs), some (.int u.low), some (.int u.high), some (.int u.step), some (.int u.fee), none] = some (.rt (.tup [hsD g (ts.set n u), .bl (decide ((y : Int) = 1))]) [some (srcD a0 b0), some (hsD g ts), some (.int g), some (tsD ts), some (.int n), some (.int y), some (.str u.name), some (outsL plO u.outs), some (.int u.low), some (.int u.high), some (.int u.step), some (.int u.fee), none]) := by
  have hu : D.tup [(.str u.name), (outsL plO u.outs), (.int u.low), (.int u.high), (.int u.step), (.int u.fee)] = tbD u := by
    unfold tbD
    rw [hpl]
  have h1 : eSl (eVar 3) oNone (oSome (eVar 4)) [some (srcD a0 b0), some (hsD g ts), some (.int g), some (tsD ts), some (.int n), some (.int y), some (.str u.name), some (outsL plO u.outs), some (.int u.low), some (.int u.high), some (.int u.step), some (.int u.fee), none] = some (.tup ((ts.map tbD).take n), [some (srcD a0 b0), some (hsD g ts), some (.int g), some (tsD ts), some (.int n), some (.int y), some (.str u.name), some (outsL plO u.outs), some (.int u.low), some (.int u.high), some (.int u.step), some (.int u.fee), none]) := sl_to (v_eq rfl) (v_eq rfl) (by rw [List.length_map]; omega)
  have h2 : eSl (eVar 3) (oSome (eBin addD (eVar 4) (eC (.int 1)))) oNone [some (srcD a0 b0), some (hsD g ts), some (.int g), some (tsD ts), some (.int n), some (.int y), some (.str u.name), some (outsL plO u.outs), some (.int u.low), some (.int u.high), some (.int u.step), some (.int u.fee), none] = some (.tup ((ts.map tbD).drop (n + 1)), [some (srcD a0 b0), some (hsD g ts), some (.int g), some (tsD ts), some (.int n), some (.int y), some (.str u.name), some (outsL plO u.outs), some (.int u.low), some (.int u.high), some (.int u.step), some (.int u.fee), none]) := sl_from (n := n + 1) (v_eq rfl) (bin_eq (op := addD) (v_eq rfl) rfl rfl) (by rw [List.length_map]; omega)
  have e : (ts.map tbD).take n ++ [tbD u] ++ (ts.map tbD).drop (n + 1) = (ts.set n u).map tbD := by
    rw [List.map_set, List.set_eq_take_append_cons_drop, if_pos (by rw [List.length_map]; exact hn), List.append_assoc]
    rfl
  have h3 : eTup (aCons (eVar 6) (aCons (eVar 7) (aCons (eVar 8) (aCons (eVar 9) (aCons (eVar 10) (aCons (eVar 11) aNil)))))) [some (srcD a0 b0), some (hsD g ts), some (.int g), some (tsD ts), some (.int n), some (.int y), some (.str u.name), some (outsL plO u.outs), some (.int u.low), some (.int u.high), some (.int u.step), some (.int u.fee), none] = some (tbD u, [some (srcD a0 b0), some (hsD g ts), some (.int g), some (tsD ts), some (.int n), some (.int y), some (.str u.name), some (outsL plO u.outs), some (.int u.low), some (.int u.high), some (.int u.step), some (.int u.fee), none]) := by
    rw [← hu]
    exact tup_eq (a_cons (v_eq rfl) (a_cons (v_eq rfl) (a_cons (v_eq rfl) (a_cons (v_eq rfl) (a_cons (v_eq rfl) (a_cons (v_eq rfl) a_nil)))))) (show (6 : Nat) ≤ 100000 by decide)
  have h4 : addD (.tup ((ts.map tbD).take n)) (.tup [tbD u]) = some (.tup ((ts.map tbD).take n ++ [tbD u])) := tup_app (by rw [List.length_take, List.length_map, List.length_singleton]; omega)
  have h5 : addD (.tup ((ts.map tbD).take n ++ [tbD u])) (.tup ((ts.map tbD).drop (n + 1))) = some (.tup ((ts.set n u).map tbD)) := by
    rw [← e]
    exact tup_app (by rw [List.length_append, List.length_take, List.length_drop, List.length_map, List.length_singleton]; omega)
  exact ret_eq (tup_eq (a_cons (tup_eq (a_cons (v_eq rfl) (a_cons (bin_eq (bin_eq h1 (tup_eq (a_cons h3 a_nil) (show (1 : Nat) ≤ 100000 by decide)) h4) h2 h5) a_nil)) (show (2 : Nat) ≤ 100000 by decide)) (a_cons (bin_eq (op := eqD) (v_eq rfl) rfl (eqD_int _ _)) a_nil)) (show (2 : Nat) ≤ 100000 by decide))

theorem eqI_t {i j : Int} (h : i = j) : eqD (.int i) (.int j) = some (.bl true) := (eqD_int i j).trans (congrArg (fun b => some (D.bl b)) (decide_eq_true h))
theorem eqI_f {i j : Int} (h : ¬ i = j) : eqD (.int i) (.int j) = some (.bl false) := (eqD_int i j).trans (congrArg (fun b => some (D.bl b)) (decide_eq_false h))
theorem I_changed_eq (a0 b0 : Int) (hb0 : SrcOk b0) {g : Nat} (g1 : 1 ≤ g) (g8 : g ≤ 8) {ts : List Tb} (h : LTs ts) (h1 : 1 ≤ ts.length) (h2 : ts.length ≤ 2) : ∃ (ts' : List Tb) (up : Bool) (a' b' : Int), I__law_changed (srcD a0 b0) [hsD g ts] = some (.tup [hsD g ts', .bl up], srcD a' b') ∧ Chg g ts ts' up ∧ SrcOk b' := by
  have s1 : sTgt (gtT 2 (gtCons (gtN 2) (gtCons (gtN 3) gtNil))) (eVar 1) (envOf 11 [srcD a0 b0, hsD g ts]) = some (.nx [some (srcD a0 b0), some (hsD g ts), some (.int g), some (tsD ts), none, none, none, none, none, none, none, none, none]) := tgt_eq (v_eq rfl) rfl
  obtain ⟨n, a1, b1, g2, l2, hb1⟩ := take_to (i := 0) (f := eCa lenD (aCons (eVar 3) aNil)) (ρ := [some (srcD a0 b0), some (hsD g ts), some (.int g), some (tsD ts), none, none, none, none, none, none, none, none, none]) (ρ1 := [some (srcD a0 b0), some (hsD g ts), some (.int g), some (tsD ts), none, none, none, none, none, none, none, none, none]) (top := (ts.length : Nat)) ⟨_, rfl⟩ (ca_eq (a_cons (v_eq rfl) a_nil) (by show some (D.int ((ts.map tbD).length : Nat)) = _; rw [List.length_map])) rfl hb0 (by omega) (by omega)
  have h3 := g2 [some (srcD a1 b1), some (hsD g ts), some (.int g), some (tsD ts), none, none, none, none, none, none, none, none, none] rfl
  obtain ⟨y, a2, b2, g4, l4, hb2⟩ := take_to (i := 0) (f := eC (.int 4)) (ρ := [some (srcD a1 b1), some (hsD g ts), some (.int g), some (tsD ts), none, none, none, none, none, none, none, none, none]) (ρ1 := [some (srcD a1 b1), some (hsD g ts), some (.int g), some (tsD ts), none, none, none, none, none, none, none, none, none]) ⟨_, rfl⟩ rfl rfl hb1 (by decide) (by decide)
  have h4 := g4 [some (srcD a2 b2), some (hsD g ts), some (.int g), some (tsD ts), none, none, none, none, none, none, none, none, none] rfl
  have s2 := par_to (is := [4, 5]) (ρ2 := [some (srcD a2 b2), some (hsD g ts), some (.int g), some (tsD ts), some (.int n), some (.int y), none, none, none, none, none, none, none]) (a_cons h3 (a_cons h4 a_nil)) rfl
  have hn : n < ts.length := by omega
  have hget : ts[n]? = some ts[n] := List.getElem?_eq_getElem hn
  have hlt : LTb ts[n] := h.tb _ (List.getElem_mem _)
  have hset : ∀ u : Tb, u.name = ts[n].name → u.name = ts[n].name := fun _ e => e
  generalize ht : ts[n] = t at hget hlt hset
  have htb : tbD t = .tup [(.str t.name), (outsL plO t.outs), (.int t.low), (.int t.high), (.int t.step), (.int t.fee)] := by
    unfold tbD
    rw [hlt.pl]
  have hix : ixD (tsD ts) (.int n) = some (tbD t) := L2.atI_nat (by rw [List.getElem?_map, hget]; rfl)
  rw [htb] at hix
  have s3 : sTgt (gtT 6 (gtCons (gtN 6) (gtCons (gtN 7) (gtCons (gtN 8) (gtCons (gtN 9) (gtCons (gtN 10) (gtCons (gtN 11) gtNil))))))) (eBin ixD (eVar 3) (eVar 4)) [some (srcD a2 b2), some (hsD g ts), some (.int g), some (tsD ts), some (.int n), some (.int y), none, none, none, none, none, none, none] = some (.nx [some (srcD a2 b2), some (hsD g ts), some (.int g), some (tsD ts), some (.int n), some (.int y), some (.str t.name), some (outsL plO t.outs), some (.int t.low), some (.int t.high), some (.int t.step), some (.int t.fee), none]) := tgt_eq (bin_eq (v_eq rfl) (v_eq rfl) hix) rfl
  have o := hlt.ok
  have hy : y = 0 ∨ y = 1 ∨ y = 2 ∨ y = 3 := by omega
  have hlow := o.low
  have hst := o.step
  have hhi := hlt.hi
  have hs3 := hlt.st
  have hfe := hlt.fe
  rcases hy with hy | hy | hy | hy
  · -- one table more
    obtain ⟨t', a3, b3, h5, ht', hnm, hb3⟩ := I_table_eq a2 b2 hb2 (used_lst (ts.map Tb.name)) (by rw [List.length_map]; omega)
    have hlc : eLc (iSeq (eVar 3)) [12] (gtN 12) tTrue (eBin ixD (eVar 12) (eC (.int 0))) [some (srcD a2 b2), some (hsD g ts), some (.int g), some (tsD ts), some (.int n), some (.int y), some (.str t.name), some (outsL plO t.outs), some (.int t.low), some (.int t.high), some (.int t.step), some (.int t.fee), none] = some (.lst ((ts.map Tb.name).map D.str), [some (srcD a2 b2), some (hsD g ts), some (.int g), some (tsD ts), some (.int n), some (.int y), some (.str t.name), some (outsL plO t.outs), some (.int t.low), some (.int t.high), some (.int t.step), some (.int t.fee), none]) := names_lc rfl rfl (by simp) (by omega)
    have h6 : eCaI 0 I__law_table (aCons (eLc (iSeq (eVar 3)) [12] (gtN 12) tTrue (eBin ixD (eVar 12) (eC (.int 0)))) aNil) [some (srcD a2 b2), some (hsD g ts), some (.int g), some (tsD ts), some (.int n), some (.int y), some (.str t.name), some (outsL plO t.outs), some (.int t.low), some (.int t.high), some (.int t.step), some (.int t.fee), none] = some (tbD t', [some (srcD a3 b3), some (hsD g ts), some (.int g), some (tsD ts), some (.int n), some (.int y), some (.str t.name), some (outsL plO t.outs), some (.int t.low), some (.int t.high), some (.int t.step), some (.int t.fee), none]) := caI_to ⟨_, rfl⟩ (a_cons hlc a_nil) rfl h5 rfl
    have hadd : addD (tsD ts) (.tup [tbD t']) = some (tsD (ts ++ [t'])) := (tup_app (by rw [List.length_map, List.length_singleton]; omega)).trans (by unfold tsD; rw [List.map_append]; rfl)
    have hL := h.snoc ht' hnm
    refine ⟨ts ++ [t'], true, a3, b3, runI_rt ((seq_nx s1).trans ((seq_nx s2).trans ((seq_nx s3).trans (seq_rt ((if_t (bl_eq (bin_eq (op := eqD) (fb := eC (.int 0)) (v_eq rfl) rfl (eqI_t (by omega))))).trans (ret_eq (tup_eq (a_cons (tup_eq (a_cons (v_eq rfl) (a_cons (bin_eq (v_eq rfl) (tup_eq (a_cons h6 a_nil) (show (1 : Nat) ≤ 100000 by decide)) hadd) a_nil)) (show (2 : Nat) ≤ 100000 by decide)) (a_cons rfl a_nil)) (show (2 : Nat) ≤ 100000 by decide)))))))) rfl, ⟨hL.hs g1 g8 (by rw [List.length_append, List.length_singleton]; omega), fun u hu p hp => by have := (hL.tb u hu).w9 p hp; omega, fun _ u hu => ⟨u, List.mem_append_left _ hu, rfl, rfl, fun s hs => hs⟩, fun e => by cases e⟩, hb3⟩
  · -- a higher limit
    obtain ⟨k, a3, b3, g5, l5, hb3⟩ := take_to (i := 0) (f := eC (.int 2)) (ρ := [some (srcD a2 b2), some (hsD g ts), some (.int g), some (tsD ts), some (.int n), some (.int y), some (.str t.name), some (outsL plO t.outs), some (.int t.low), some (.int t.high), some (.int t.step), some (.int t.fee), none]) (ρ1 := [some (srcD a2 b2), some (hsD g ts), some (.int g), some (tsD ts), some (.int n), some (.int y), some (.str t.name), some (outsL plO t.outs), some (.int t.low), some (.int t.high), some (.int t.step), some (.int t.fee), none]) ⟨_, rfl⟩ rfl rfl hb2 (by decide) (by decide)
    have h5 := g5 [some (srcD a3 b3), some (hsD g ts), some (.int g), some (tsD ts), some (.int n), some (.int y), some (.str t.name), some (outsL plO t.outs), some (.int t.low), some (.int t.high), some (.int t.step), some (.int t.fee), none] rfl
    have hm : t.step * (1 + k) ≤ 6 := by
      have := Nat.mul_le_mul hs3 (show 1 + k ≤ 2 by omega)
      omega
    have s5 : (sSet 9 (eBin addD (eVar 9) (eBin mulD (eVar 10) (eBin addD (eC (.int 1)) (eCaI 0 I__law_take (aCons (eC (.int 2)) aNil)))))) [some (srcD a2 b2), some (hsD g ts), some (.int g), some (tsD ts), some (.int n), some (.int y), some (.str t.name), some (outsL plO t.outs), some (.int t.low), some (.int t.high), some (.int t.step), some (.int t.fee), none] = some (.nx [some (srcD a3 b3), some (hsD g ts), some (.int g), some (tsD ts), some (.int n), some (.int y), some (.str t.name), some (outsL plO t.outs), some (.int t.low), some (.int (t.high + t.step * (1 + k) : Nat)), some (.int t.step), some (.int t.fee), none]) := set_to (bin_eq (v_eq rfl) (bin_eq (v_eq rfl) (bin_eq (op := addD) (fa := eC (.int 1)) rfl h5 rfl) (mulD_s (by omega))) (addI (by simp only [Int.natCast_add, Int.natCast_mul]; rfl))) rfl
    have hr := ch_ret a3 b3 g ts n y ⟨t.name, t.outs, t.low, t.high + t.step * (1 + k), t.step, t.fee, plO⟩ hn (by omega) rfl
    have hd : decide ((y : Int) = 1) = true := decide_eq_true (by omega)
    rw [hd] at hr
    have hns : nStk ⟨t.name, t.outs, t.low, t.high + t.step * (1 + k), t.step, t.fee, plO⟩ = nStk t + (1 + k) := by
      show (t.high + t.step * (1 + k) - t.low) / t.step + 1 = (t.high - t.low) / t.step + 1 + (1 + k)
      have e : t.high + t.step * (1 + k) - t.low = t.high - t.low + t.step * (1 + k) := by omega
      rw [e, Nat.add_mul_div_left _ _ (by omega)]
      omega
    have h4n := hlt.n4
    exact ⟨_, true, a3, b3, runI_rt ((seq_nx s1).trans ((seq_nx s2).trans ((seq_nx s3).trans ((seq_nx ((if_f (bl_eq (bin_eq (op := eqD) (fb := eC (.int 0)) (v_eq rfl) rfl (eqI_f (by omega))))).trans rfl)).trans ((seq_nx ((if_t (bl_eq (bin_eq (op := eqD) (fb := eC (.int 1)) (v_eq rfl) rfl (eqI_t (by omega))))).trans s5)).trans hr))))) rfl, chg_set (t' := ⟨t.name, t.outs, t.low, t.high + t.step * (1 + k), t.step, t.fee, plO⟩) g1 g8 h h2 hn ⟨o.name, o.outs, ⟨hlow.1, by show t.low ≤ t.high + t.step * (1 + k); omega⟩, by show t.high + t.step * (1 + k) ≤ 39; omega, o.step, o.fee⟩ (by rw [hns]; omega) (fun p hp => by have := hlt.w9 p hp; omega) (by rw [ht]) (fun _ => by
      rw [ht]
      refine ⟨rfl, rfl, fun s hs => ?_⟩
      unfold stk at hs ⊢
      rw [hns]
      obtain ⟨i, hi, rfl⟩ := List.mem_map.mp hs
      exact List.mem_map.mpr ⟨i, List.mem_range.mpr (by have := List.mem_range.mp hi; omega), rfl⟩) (fun e => by cases e), hb3⟩
  · -- a dearer table
    obtain ⟨k, a3, b3, g5, l5, hb3⟩ := take_to (i := 0) (f := eBin subD (eC (.int 10)) (eVar 11)) (ρ := [some (srcD a2 b2), some (hsD g ts), some (.int g), some (tsD ts), some (.int n), some (.int y), some (.str t.name), some (outsL plO t.outs), some (.int t.low), some (.int t.high), some (.int t.step), some (.int t.fee), none]) (ρ1 := [some (srcD a2 b2), some (hsD g ts), some (.int g), some (tsD ts), some (.int n), some (.int y), some (.str t.name), some (outsL plO t.outs), some (.int t.low), some (.int t.high), some (.int t.step), some (.int t.fee), none]) (top := 10 - (t.fee : Int)) ⟨_, rfl⟩ (bin_eq (op := subD) (fa := eC (.int 10)) rfl (v_eq rfl) rfl) rfl hb2 (by omega) (by omega)
    have h5 := g5 [some (srcD a3 b3), some (hsD g ts), some (.int g), some (tsD ts), some (.int n), some (.int y), some (.str t.name), some (outsL plO t.outs), some (.int t.low), some (.int t.high), some (.int t.step), some (.int t.fee), none] rfl
    have s5 : (sSet 11 (eBin addD (eVar 11) (eCaI 0 I__law_take (aCons (eBin subD (eC (.int 10)) (eVar 11)) aNil)))) [some (srcD a2 b2), some (hsD g ts), some (.int g), some (tsD ts), some (.int n), some (.int y), some (.str t.name), some (outsL plO t.outs), some (.int t.low), some (.int t.high), some (.int t.step), some (.int t.fee), none] = some (.nx [some (srcD a3 b3), some (hsD g ts), some (.int g), some (tsD ts), some (.int n), some (.int y), some (.str t.name), some (outsL plO t.outs), some (.int t.low), some (.int t.high), some (.int t.step), some (.int (t.fee + k : Nat)), none]) := set_to (bin_eq (v_eq rfl) h5 (addI (by simp only [Int.natCast_add]))) rfl
    have hr := ch_ret a3 b3 g ts n y ⟨t.name, t.outs, t.low, t.high, t.step, t.fee + k, plO⟩ hn (by omega) rfl
    have hd : decide ((y : Int) = 1) = false := decide_eq_false (by omega)
    rw [hd] at hr
    have h4n := hlt.n4
    exact ⟨_, false, a3, b3, runI_rt ((seq_nx s1).trans ((seq_nx s2).trans ((seq_nx s3).trans ((seq_nx ((if_f (bl_eq (bin_eq (op := eqD) (fb := eC (.int 0)) (v_eq rfl) rfl (eqI_f (by omega))))).trans rfl)).trans ((seq_nx ((if_f (bl_eq (bin_eq (op := eqD) (fb := eC (.int 1)) (v_eq rfl) rfl (eqI_f (by omega))))).trans ((if_t (bl_eq (bin_eq (op := eqD) (fb := eC (.int 2)) (v_eq rfl) rfl (eqI_t (by omega))))).trans s5))).trans hr))))) rfl, chg_set (t' := ⟨t.name, t.outs, t.low, t.high, t.step, t.fee + k, plO⟩) g1 g8 h h2 hn ⟨o.name, o.outs, o.low, o.high, o.step, by show t.fee + k ≤ 9; omega⟩ (by show nStk t ≤ 6; omega) (fun p hp => by have := hlt.w9 p hp; omega) (by rw [ht]) (fun e => by cases e) (fun _ => by
      rw [ht]
      exact ⟨rfl, rfl, rfl, Nat.le_add_right _ _, .inl rfl⟩), hb3⟩
  · -- poorer outs
    obtain ⟨l', a3, b3, h5, hp, hb3⟩ := I_poorer_eq a2 b2 hb2 t.outs o.outs hlt.w9 hlt.l3
    have h6 : eCaI 0 I__law_poorer (aCons (eVar 7) aNil) [some (srcD a2 b2), some (hsD g ts), some (.int g), some (tsD ts), some (.int n), some (.int y), some (.str t.name), some (outsL plO t.outs), some (.int t.low), some (.int t.high), some (.int t.step), some (.int t.fee), none] = some (outsL plO l', [some (srcD a3 b3), some (hsD g ts), some (.int g), some (tsD ts), some (.int n), some (.int y), some (.str t.name), some (outsL plO t.outs), some (.int t.low), some (.int t.high), some (.int t.step), some (.int t.fee), none]) := caI_to ⟨_, rfl⟩ (a_cons (v_eq rfl) a_nil) rfl h5 rfl
    have s5 : (sSet 7 (eCaI 0 I__law_poorer (aCons (eVar 7) aNil))) [some (srcD a2 b2), some (hsD g ts), some (.int g), some (tsD ts), some (.int n), some (.int y), some (.str t.name), some (outsL plO t.outs), some (.int t.low), some (.int t.high), some (.int t.step), some (.int t.fee), none] = some (.nx [some (srcD a3 b3), some (hsD g ts), some (.int g), some (tsD ts), some (.int n), some (.int y), some (.str t.name), some (outsL plO l'), some (.int t.low), some (.int t.high), some (.int t.step), some (.int t.fee), none]) := set_to h6 rfl
    have hr := ch_ret a3 b3 g ts n y ⟨t.name, l', t.low, t.high, t.step, t.fee, plO⟩ hn (by omega) rfl
    have hd : decide ((y : Int) = 1) = false := decide_eq_false (by omega)
    rw [hd] at hr
    have h4n := hlt.n4
    exact ⟨_, false, a3, b3, runI_rt ((seq_nx s1).trans ((seq_nx s2).trans ((seq_nx s3).trans ((seq_nx ((if_f (bl_eq (bin_eq (op := eqD) (fb := eC (.int 0)) (v_eq rfl) rfl (eqI_f (by omega))))).trans rfl)).trans ((seq_nx ((if_f (bl_eq (bin_eq (op := eqD) (fb := eC (.int 1)) (v_eq rfl) rfl (eqI_f (by omega))))).trans ((if_f (bl_eq (bin_eq (op := eqD) (fb := eC (.int 2)) (v_eq rfl) rfl (eqI_f (by omega))))).trans s5))).trans hr))))) rfl, chg_set (t' := ⟨t.name, l', t.low, t.high, t.step, t.fee, plO⟩) g1 g8 h h2 hn ⟨o.name, hp.ok, o.low, o.high, o.step, o.fee⟩ (by show nStk t ≤ 6; omega) hp.w (by rw [ht]) (fun e => by cases e) (fun _ => by
      rw [ht]
      exact ⟨rfl, rfl, rfl, Nat.le_refl _, .inr ⟨hp, rfl⟩⟩), hb3⟩
end Z
/-! Houses made worse: the law. -/
namespace Z
open PySem
theorem le_not_below {q r : Rat} (h : q ≤ r) : decide (r.num * (q.den : Int) < q.num * (r.den : Int)) = false := by
  refine decide_eq_false fun hlt => ?_
  have := (Rat.lt_iff r q).mpr hlt
  grind
theorem sm_big {q : Rat} (h : Sm q) : q.num.natAbs < BIG ∧ q.den < BIG := by
  have e : SZ < BIG := by decide +kernel
  exact ⟨Nat.lt_trans h.1 e, Nat.lt_trans h.2 e⟩
theorem below_fun {q r : Rat} (hq : Sm q) (hr : Sm r) (h : q ≤ r) : F__law_below [rD r, rD q] = some (.bl false) := by
  have := law_below_at (a := r.num) (b := r.den) (c := q.num) (d := q.den) (sm_big hr).1 (by have := (sm_big hr).2; omega) (sm_big hq).1 (by have := (sm_big hq).2; omega)
  rw [le_not_below h] at this
  exact this
theorem house_big {g : Nat} (g8 : g ≤ 8) : ((g + 1) * (8 * (6 * 18) * (3132 + 12))) ^ (g + 1) < SZ := by
  have h1 : (g + 1) * (8 * (6 * 18) * (3132 + 12)) ≤ 9 * (8 * (6 * 18) * (3132 + 12)) := Nat.mul_le_mul_right _ (by omega)
  have h2 := Nat.pow_le_pow_left h1 (g + 1)
  have h3 : (9 * (8 * (6 * 18) * (3132 + 12))) ^ (g + 1) ≤ (9 * (8 * (6 * 18) * (3132 + 12))) ^ 9 := Nat.pow_le_pow_right (by decide) (by omega)
  exact Nat.lt_of_le_of_lt (Nat.le_trans h2 h3) (by decide +kernel)
/-- the worth of a house that the law lays -/
theorem house_worth {g : Nat} (g8 : g ≤ 8) {ts : List Tb} (h : HsOk g ts) (hw : ∀ t ∈ ts, ∀ p ∈ t.outs, p.2 ≤ 18) {pay : Nat → Rat} (hp : RisOk g pay) : ∃ V, eCa F_worth (aCons (eCa F_laid (aCons (eVar 0) (aCons (eVar 1) aNil))) aNil) [some (hsD g ts), some (funD (g + 1) pay)] = some (funD (g + 1) V, [some (hsD g ts), some (funD (g + 1) pay)]) ∧ F_laid [hsD g ts, funD (g + 1) pay] = some (boardD (hB g ts pay)) ∧ F_worth [boardD (hB g ts pay)] = some (funD (g + 1) V) ∧ IsWorth (hB g ts pay) V ∧ SmF (g + 1) V := by
  have hs : ∀ x, x < g + 1 → Sm (pay x) ∧ 0 ≤ pay x := fun x hx => ⟨(hp.qz x hx).sm (by decide) (by decide +kernel) (by decide +kernel), hp.nn x hx⟩
  have ok : (hB g ts pay).Ok := (hB_fine h hs).ok
  have tn := house_tiny h (pay := pay) (Q := 12) (P := 3132) (W := 18) (by decide) (by decide +kernel) (by decide) hw hp.qz (house_big g8)
  obtain ⟨V, h1, h2, h3⟩ := F_worth_eq (hB g ts pay) ok (tiny_vals _ ok tn)
  have hl := F_laid_eq h hs
  exact ⟨V, ca_eq (a_cons (ca_eq (a_cons (v_eq rfl) (a_cons (v_eq rfl) a_nil)) hl) a_nil) h1, hl, h1, h2, h3⟩
theorem chg_worth {g : Nat} {ts ts' : List Tb} {up : Bool} (h : LTs ts) (c : Chg g ts ts' up) {pay V V' : Nat → Rat} (hp : RisOk g pay) (W : IsWorth (hB g ts pay) V) (W' : IsWorth (hB g ts' pay) V') : ∀ x, x < g + 1 → if up = true then V x ≤ V' x else V' x ≤ V x := by
  intro x hx
  cases up with
  | true =>
    rw [if_pos rfl]
    refine worth_le W' W (fun x hx t ht s hs hsx => ?_) x hx
    obtain ⟨t', h1, h2, h3, h4⟩ := c.more rfl t ht
    refine ⟨t', h1, h4 s hs, by omega, slot_le (h.tb t ht).ok (c.hs.tb t' h1) hsx (by omega) (by rw [h2]) ?_⟩
    have e : ∀ i, outZ g t' x s i = outZ g t x s i := fun i => by
      unfold outZ
      rw [h3]
    unfold outSum
    simp only [e, h2]
    exact Rat.le_refl
  | false =>
    rw [if_neg (by decide)]
    have hV := worth_mono (fun t ht => (h.tb t ht).ok) (fun x y hxy hy => hp.mono x y hxy hy) W
    refine worth_le W W' (fun x hx t' ht s hs hsx => ?_) x hx
    obtain ⟨t, h1, h2⟩ := c.less rfl t' ht
    obtain ⟨q1, q2, q3⟩ := h2.avg (h.tb t h1).ok (c.hs.tb t' ht) hV hs hsx
    exact ⟨t, h1, q1, q2, q3⟩

theorem law_end (scr : D) (a0 b0 : Int) (g : Nat) (g8 : g ≤ 8) (ts ts' : List Tb) (t : Tb) (pay V V' L U : Nat → Rat) (up : Bool) (hL : SmF (g + 1) L) (hU : SmF (g + 1) U) (h : ∀ x, x < g + 1 → L x ≤ U x) : sRet (eBin eqD (eLc (iRngM (aCons (eBin addD (eVar 2) (eC (.int 1))) aNil)) [13] (gtN 13) (tTr (eCa F__law_below (aCons (eBin ixD (eVar 12) (eVar 13)) (aCons (eBin ixD (eVar 11) (eVar 13)) aNil)))) (eVar 13)) (eLst aNil)) [some scr, some (srcD a0 b0), some (.int g), some (tsD ts), some (hsD g (ts ++ [t])), none, some (funD (g + 1) pay), some (hsD g ts'), some (.bl up), some (funD (g + 1) V), some (funD (g + 1) V'), some (funD (g + 1) L), some (funD (g + 1) U), none] = some (.rt (.bl true) [some scr, some (srcD a0 b0), some (.int g), some (tsD ts), some (hsD g (ts ++ [t])), none, some (funD (g + 1) pay), some (hsD g ts'), some (.bl up), some (funD (g + 1) V), some (funD (g + 1) V'), some (funD (g + 1) L), some (funD (g + 1) U), none]) := by
  have hr : iRngM (aCons (eBin addD (eVar 2) (eC (.int 1))) aNil) [some scr, some (srcD a0 b0), some (.int g), some (tsD ts), some (hsD g (ts ++ [t])), none, some (funD (g + 1) pay), some (hsD g ts'), some (.bl up), some (funD (g + 1) V), some (funD (g + 1) V'), some (funD (g + 1) L), some (funD (g + 1) U), none] = some (natsD (List.range (g + 1)), [some scr, some (srcD a0 b0), some (.int g), some (tsD ts), some (hsD g (ts ++ [t])), none, some (funD (g + 1) pay), some (hsD g ts'), some (.bl up), some (funD (g + 1) V), some (funD (g + 1) V'), some (funD (g + 1) L), some (funD (g + 1) U), none]) := rng1 (a_cons (bin_eq (op := addD) (v_eq rfl) rfl (addI (by rw [Int.natCast_add]; rfl))) a_nil) (by omega)
  have := eLc_pure (vs := [13]) (gt := gtN 13) (t := tTr (eCa F__law_below (aCons (eBin ixD (eVar 12) (eVar 13)) (aCons (eBin ixD (eVar 11) (eVar 13)) aNil)))) (f := eVar 13) (ρw := [some scr, some (srcD a0 b0), some (.int g), some (tsD ts), some (hsD g (ts ++ [t])), none, some (funD (g + 1) pay), some (hsD g ts'), some (.bl up), some (funD (g + 1) V), some (funD (g + 1) V'), some (funD (g + 1) L), some (funD (g + 1) U), none]) hr rfl (fun _ => false) id (fun d hd => by
    obtain ⟨x, hx, rfl⟩ := List.mem_map.mp hd
    have hx := List.mem_range.mp hx
    exact ⟨[some scr, some (srcD a0 b0), some (.int g), some (tsD ts), some (hsD g (ts ++ [t])), none, some (funD (g + 1) pay), some (hsD g ts'), some (.bl up), some (funD (g + 1) V), some (funD (g + 1) V'), some (funD (g + 1) L), some (funD (g + 1) U), some (.int x)], rfl, tr_eq (ca_eq (a_cons (bin_eq (v_eq rfl) (v_eq rfl) (ix_fun U hx)) (a_cons (bin_eq (v_eq rfl) (v_eq rfl) (ix_fun L hx)) a_nil)) (below_fun (hL x hx) (hU x hx) (h x hx))) (tru_bl _), (fun e => by cases e), rfl⟩) (by simp [natsD]; omega)
  have e : ((natsD (List.range (g + 1))).filter fun _ => false).map id = [] := by simp
  rw [e] at this
  exact ret_eq (bin_eq this (lst_eq a_nil (by decide)) (eq_nil []))
theorem k91_plain (ns : List Int) : F_law [.lst (ns.map D.int)] = some (.bl true) := by
  obtain ⟨a0, b0, hp0, hb0⟩ := F__law_pool_eq ns 0 (by decide)
  generalize hscr : D.lst (ns.map D.int) = scr at hp0
  have s1 : sSet 1 (eCa F__law_pool (aCons (eVar 0) (aCons (eC (.int 0)) aNil))) (envOf 13 [scr]) = some (.nx [some scr, some (srcD a0 b0), none, none, none, none, none, none, none, none, none, none, none, none]) := set_to (ca_eq (ds := [scr, .int 0]) (a_cons (v_eq rfl) (a_cons rfl a_nil)) hp0) rfl
  obtain ⟨g, ts, a1, b1, h2, g1, g8, hts, hl1, hb1⟩ := I_house_eq a0 b0 hb0 1 (by decide)
  have h2' : eCaI 1 I__law_house (aCons (eC (.int 1)) aNil) [some scr, some (srcD a0 b0), none, none, none, none, none, none, none, none, none, none, none, none] = some (hsD g ts, [some scr, some (srcD a1 b1), none, none, none, none, none, none, none, none, none, none, none, none]) := caI_to (as := [.int 1]) ⟨_, rfl⟩ rfl rfl h2 rfl
  have s2 : sTgt (gtT 2 (gtCons (gtN 2) (gtCons (gtN 3) gtNil))) (eCaI 1 I__law_house (aCons (eC (.int 1)) aNil)) [some scr, some (srcD a0 b0), none, none, none, none, none, none, none, none, none, none, none, none] = some (.nx [some scr, some (srcD a1 b1), some (.int g), some (tsD ts), none, none, none, none, none, none, none, none, none, none]) := tgt_eq h2' rfl
  obtain ⟨t, a2, b2, h3, ht, hnm, hb2⟩ := I_table_eq a1 b1 hb1 (used_lst (ts.map Tb.name)) (by rw [List.length_map]; omega)
  have hlc : eLc (iSeq (eVar 3)) [5] (gtN 5) tTrue (eBin ixD (eVar 5) (eC (.int 0))) [some scr, some (srcD a1 b1), some (.int g), some (tsD ts), none, none, none, none, none, none, none, none, none, none] = some (.lst ((ts.map Tb.name).map D.str), [some scr, some (srcD a1 b1), some (.int g), some (tsD ts), none, none, none, none, none, none, none, none, none, none]) := names_lc rfl rfl (by simp) (by omega)
  have h3' : eCaI 1 I__law_table (aCons (eLc (iSeq (eVar 3)) [5] (gtN 5) tTrue (eBin ixD (eVar 5) (eC (.int 0)))) aNil) [some scr, some (srcD a1 b1), some (.int g), some (tsD ts), none, none, none, none, none, none, none, none, none, none] = some (tbD t, [some scr, some (srcD a2 b2), some (.int g), some (tsD ts), none, none, none, none, none, none, none, none, none, none]) := caI_to ⟨_, rfl⟩ (a_cons hlc a_nil) rfl h3 rfl
  have hadd : addD (tsD ts) (.tup [tbD t]) = some (tsD (ts ++ [t])) := (tup_app (by rw [List.length_map, List.length_singleton]; omega)).trans (by unfold tsD; rw [List.map_append]; rfl)
  have s3 : sSet 4 (eTup (aCons (eVar 2) (aCons (eBin addD (eVar 3) (eTup (aCons (eCaI 1 I__law_table (aCons (eLc (iSeq (eVar 3)) [5] (gtN 5) tTrue (eBin ixD (eVar 5) (eC (.int 0)))) aNil)) aNil))) aNil))) [some scr, some (srcD a1 b1), some (.int g), some (tsD ts), none, none, none, none, none, none, none, none, none, none] = some (.nx [some scr, some (srcD a2 b2), some (.int g), some (tsD ts), some (hsD g (ts ++ [t])), none, none, none, none, none, none, none, none, none]) := set_to (tup_eq (a_cons (v_eq rfl) (a_cons (bin_eq (v_eq rfl) (tup_eq (a_cons h3' a_nil) (show (1 : Nat) ≤ 100000 by decide)) hadd) a_nil)) (show (2 : Nat) ≤ 100000 by decide)) rfl
  have hL := hts.snoc ht hnm
  have len : (ts ++ [t]).length = ts.length + 1 := by rw [List.length_append, List.length_singleton]
  obtain ⟨pay, a3, b3, h4, hpay, hb3⟩ := I_rising_eq a2 b2 hb2 g g1 g8
  have s4 : sSet 6 (eCaI 1 I__law_rising (aCons (eVar 2) aNil)) [some scr, some (srcD a2 b2), some (.int g), some (tsD ts), some (hsD g (ts ++ [t])), none, none, none, none, none, none, none, none, none] = some (.nx [some scr, some (srcD a3 b3), some (.int g), some (tsD ts), some (hsD g (ts ++ [t])), none, some (funD (g + 1) pay), none, none, none, none, none, none, none]) := set_to (caI_to ⟨_, rfl⟩ (a_cons (v_eq rfl) a_nil) rfl h4 rfl) rfl
  obtain ⟨ts', up, a4, b4, h5, hc, hb4⟩ := I_changed_eq a3 b3 hb3 g1 g8 hL (by omega) (by omega)
  have s5 : sTgt (gtT 2 (gtCons (gtN 7) (gtCons (gtN 8) gtNil))) (eCaI 1 I__law_changed (aCons (eVar 4) aNil)) [some scr, some (srcD a3 b3), some (.int g), some (tsD ts), some (hsD g (ts ++ [t])), none, some (funD (g + 1) pay), none, none, none, none, none, none, none] = some (.nx [some scr, some (srcD a4 b4), some (.int g), some (tsD ts), some (hsD g (ts ++ [t])), none, some (funD (g + 1) pay), some (hsD g ts'), some (.bl up), none, none, none, none, none]) := tgt_eq (caI_to (ρ2 := [some scr, some (srcD a4 b4), some (.int g), some (tsD ts), some (hsD g (ts ++ [t])), none, some (funD (g + 1) pay), none, none, none, none, none, none, none]) ⟨_, rfl⟩ (a_cons (v_eq rfl) a_nil) rfl h5 rfl) rfl
  obtain ⟨V, -, l1, w1, W, smV⟩ := house_worth g8 (hL.hs g1 g8 (by omega)) (fun u hu p hp => by have := (hL.tb u hu).w9 p hp; omega) hpay
  obtain ⟨V', -, l2, w2, W', smV'⟩ := house_worth g8 hc.hs hc.w hpay
  have s6 := par_to (is := [9, 10]) (fs := aCons (eCa F_worth (aCons (eCa F_laid (aCons (eVar 4) (aCons (eVar 6) aNil))) aNil)) (aCons (eCa F_worth (aCons (eCa F_laid (aCons (eVar 7) (aCons (eVar 6) aNil))) aNil)) aNil)) (ρ := [some scr, some (srcD a4 b4), some (.int g), some (tsD ts), some (hsD g (ts ++ [t])), none, some (funD (g + 1) pay), some (hsD g ts'), some (.bl up), none, none, none, none, none]) (ρ2 := [some scr, some (srcD a4 b4), some (.int g), some (tsD ts), some (hsD g (ts ++ [t])), none, some (funD (g + 1) pay), some (hsD g ts'), some (.bl up), some (funD (g + 1) V), some (funD (g + 1) V'), none, none, none]) (a_cons (ca_eq (a_cons (ca_eq (a_cons (v_eq rfl) (a_cons (v_eq rfl) a_nil)) l1) a_nil) w1) (a_cons (ca_eq (a_cons (ca_eq (a_cons (v_eq rfl) (a_cons (v_eq rfl) a_nil)) l2) a_nil) w2) a_nil)) rfl
  have hf : ∀ f : Nat → Rat, SmF (g + 1) f → F__law_is_function [funD (g + 1) f, .int ((g + 1 : Nat) : Int)] = some (.bl true) := fun f hs => F__law_is_function_eq (g + 1) (by omega) f fun x hx => (sm_big (hs x hx)).2
  have hg : addD (.int g) (.int 1) = some (.int ((g + 1 : Nat) : Int)) := addI (by rw [Int.natCast_add]; rfl)
  have t7 : tOrM (tNotM (tTr (eCa F__law_is_function (aCons (eVar 9) (aCons (eBin addD (eVar 2) (eC (.int 1))) aNil))))) (tNotM (tTr (eCa F__law_is_function (aCons (eVar 10) (aCons (eBin addD (eVar 2) (eC (.int 1))) aNil))))) [some scr, some (srcD a4 b4), some (.int g), some (tsD ts), some (hsD g (ts ++ [t])), none, some (funD (g + 1) pay), some (hsD g ts'), some (.bl up), some (funD (g + 1) V), some (funD (g + 1) V'), none, none, none] = some (false, [some scr, some (srcD a4 b4), some (.int g), some (tsD ts), some (hsD g (ts ++ [t])), none, some (funD (g + 1) pay), some (hsD g ts'), some (.bl up), some (funD (g + 1) V), some (funD (g + 1) V'), none, none, none]) := (or_f (tnot_f (ca_eq (a_cons (v_eq rfl) (a_cons (bin_eq (v_eq rfl) rfl hg) a_nil)) (hf V smV)) (tru_bl _))).trans (tnot_f (ca_eq (a_cons (v_eq rfl) (a_cons (bin_eq (v_eq rfl) rfl hg) a_nil)) (hf V' smV')) (tru_bl _))
  have hcw := chg_worth hL hc hpay W W'
  cases up with
  | true =>
    have s8 : sTgt (gtT 2 (gtCons (gtN 11) (gtCons (gtN 12) gtNil))) (eIf (tTr (eVar 8)) (eTup (aCons (eVar 9) (aCons (eVar 10) aNil))) (eTup (aCons (eVar 10) (aCons (eVar 9) aNil)))) [some scr, some (srcD a4 b4), some (.int g), some (tsD ts), some (hsD g (ts ++ [t])), none, some (funD (g + 1) pay), some (hsD g ts'), some (.bl true), some (funD (g + 1) V), some (funD (g + 1) V'), none, none, none] = some (.nx [some scr, some (srcD a4 b4), some (.int g), some (tsD ts), some (hsD g (ts ++ [t])), none, some (funD (g + 1) pay), some (hsD g ts'), some (.bl true), some (funD (g + 1) V), some (funD (g + 1) V'), some (funD (g + 1) V), some (funD (g + 1) V'), none]) := tgt_eq ((eif_t (tr_eq (v_eq rfl) (tru_bl _))).trans (tup_eq (a_cons (v_eq rfl) (a_cons (v_eq rfl) a_nil)) (show (2 : Nat) ≤ 100000 by decide))) rfl
    have h9 := law_end scr a4 b4 g g8 ts ts' t pay V V' V V' true smV smV' fun x hx => hcw x hx
    exact runP_rt ((seq_nx s1).trans ((seq_nx s2).trans ((seq_nx s3).trans ((seq_nx s4).trans ((seq_nx s5).trans ((seq_nx s6).trans ((seq_nx ((if_f t7).trans rfl)).trans ((seq_nx s8).trans h9))))))))
  | false =>
    have s8 : sTgt (gtT 2 (gtCons (gtN 11) (gtCons (gtN 12) gtNil))) (eIf (tTr (eVar 8)) (eTup (aCons (eVar 9) (aCons (eVar 10) aNil))) (eTup (aCons (eVar 10) (aCons (eVar 9) aNil)))) [some scr, some (srcD a4 b4), some (.int g), some (tsD ts), some (hsD g (ts ++ [t])), none, some (funD (g + 1) pay), some (hsD g ts'), some (.bl false), some (funD (g + 1) V), some (funD (g + 1) V'), none, none, none] = some (.nx [some scr, some (srcD a4 b4), some (.int g), some (tsD ts), some (hsD g (ts ++ [t])), none, some (funD (g + 1) pay), some (hsD g ts'), some (.bl false), some (funD (g + 1) V), some (funD (g + 1) V'), some (funD (g + 1) V'), some (funD (g + 1) V), none]) := tgt_eq ((eif_f (tr_eq (v_eq rfl) (tru_bl _))).trans (tup_eq (a_cons (v_eq rfl) (a_cons (v_eq rfl) a_nil)) (show (2 : Nat) ≤ 100000 by decide))) rfl
    have h9 := law_end scr a4 b4 g g8 ts ts' t pay V V' V' V false smV' smV fun x hx => hcw x hx
    exact runP_rt ((seq_nx s1).trans ((seq_nx s2).trans ((seq_nx s3).trans ((seq_nx s4).trans ((seq_nx s5).trans ((seq_nx s6).trans ((seq_nx ((if_f t7).trans rfl)).trans ((seq_nx s8).trans h9))))))))
end Z
/-! Facts that the walks lean on. -/
namespace Z
open PySem PySem.Spec PyProof.Rows L2 RZ GxR
abbrev FnT (K : PySem.W.Frag) (x : PySem.Str) (st : Stmt) (f : Addr) (fd : FuncData) : Prop := FunD K x x (defArgs st) (defBody st) (defScope st) [] [] f fd
structure Wd (K : PySem.W.Frag) (mg : PySem.Str → Option Value) : Prop where
  c_LETTERS : ∃ t, mg "LETTERS" = some (.str "abcdefghijklmnopqrstuvwxyz" t)
  c_MOST_GOAL : ∃ t, mg "MOST_GOAL" = some (.int (39) t)
  c_MOST_OUTS : ∃ t, mg "MOST_OUTS" = some (.int (6) t)
  c_MOST_PAIRS : ∃ t, mg "MOST_PAIRS" = some (.int (8) t)
  c_MOST_PLACES : ∃ t, mg "MOST_PLACES" = some (.int (40) t)
  c_MOST_PLAYS : ∃ t, mg "MOST_PLAYS" = some (.int (12) t)
  c_MOST_STAKE : ∃ t, mg "MOST_STAKE" = some (.int (39) t)
  c_MOST_STAKES : ∃ t, mg "MOST_STAKES" = some (.int (12) t)
  c_MOST_TABLES : ∃ t, mg "MOST_TABLES" = some (.int (4) t)
  c_MOST_UNKNOWNS : ∃ t, mg "MOST_UNKNOWNS" = some (.int (40) t)
  c_MOST_WEIGHT : ∃ t, mg "MOST_WEIGHT" = some (.int (99999) t)
  c_PAY_LIMIT : ∃ t, mg "PAY_LIMIT" = some (.int (1000000000000000000000000000000000000000000000000000000000000000000000000000000000000000000000000000000000000000000000000000000000000000000000000000000000000000000000000000000000000000000000000000000000000000000000000000000000000000000000000000000000000000000000000000000000000000000000000000000000000000000000000000000000000000000000000000000000000000000000000000000000000000000000000000000000000000000000000000000000000000000000000000000000000000000000000000000000000000000000000000000000000000000000000000000000000000000000000000000000000000000000000000000000000000000000000000000000000000000000000) t)
  c_STOP : ∃ t, mg "STOP" = some (.int (-1) t)
  cls_Board : Cls K (He.ga K "Board")
  g_Board : mg "Board" = some (.ref (He.ga K "Board"))
  g_gcd : mg "gcd" = some (.builtin "math.gcd")
  g_lcm : mg "lcm" = some (.builtin "math.lcm")
  m_all : mg "all" = none
  m_any : mg "any" = none
  m_bool : mg "bool" = none
  m_dict : mg "dict" = none
  m_enumerate : mg "enumerate" = none
  m_int : mg "int" = none
  m_isinstance : mg "isinstance" = none
  m_len : mg "len" = none
  m_list : mg "list" = none
  m_max : mg "max" = none
  m_min : mg "min" = none
  m_range : mg "range" = none
  m_sorted : mg "sorted" = none
  m_str : mg "str" = none
  m_sum : mg "sum" = none
  m_tuple : mg "tuple" = none
  m_zip : mg "zip" = none
  mk_Board : Mk K (He.ga K "Board") (He.ma K (He.ga K "Board") "__init__")
  na_Board_pays : NoAttr K (He.ga K "Board") "pays"
  na_Board_plays : NoAttr K (He.ga K "Board") "plays"
  na_Board_size : NoAttr K (He.ga K "Board") "size"
theorem ok_Board {P : Program} {w : World} {K : PySem.W.Frag} {T : List Addr} {mg : PySem.Str → Option Value} {base : Heap} {f : Addr} {fd : FuncData} (W : Wd K mg) (F : FunD K "__init__" "Board.__init__" (defArgs si_Board) (defBody si_Board) (defScope si_Board) [] [] f fd) : CaM P w K mg base 1 f fd ["self", "pays", "plays"] (spMk K T (He.ga K "Board") 2 gBoard) := by
  have sc : FnScope ["self", "pays", "plays"] ["self", "pays", "plays"] (defScope si_Board) := ⟨rfl, rfl, rfl, by decide +kernel, rfl, by decide +kernel, by decide +kernel⟩
  refine ⟨fnBoard (k := 0) F sc rfl rfl fun cdv A outer s H E hr => ?_, F.bindsN fun _ _ _ _ _ _ us hl => match us, hl with | [_, _, _], _ => rfl⟩
  exact board_body W.cls_Board W.na_Board_size W.na_Board_pays W.na_Board_plays (ps_fld (pv 0) (pe_callB call_len rfl W.m_len boot_len (pa_cons (pv 1) pa_nil)) rfl) (ps_fld (pv 0) (pv 1) rfl) (ps_fld (pv 0) (pv 2) rfl)
theorem sc__law_pool : FnScope ["_law_script", "_law_k", "_law_cell", "_law_big", "_law_mixed"] ["_law_script", "_law_k"] (defScope (top 86)) := ⟨rfl, rfl, rfl, by decide +kernel, rfl, by decide +kernel, by decide +kernel⟩
theorem sc__law_take : FnScope ["_law_source", "_law_top", "_law_drawn"] ["_law_source", "_law_top"] (defScope (top 87)) := ⟨rfl, rfl, rfl, by decide +kernel, rfl, by decide +kernel, by decide +kernel⟩
theorem sc__law_one : FnScope ["_law_source", "_law_things"] ["_law_source", "_law_things"] (defScope (top 88)) := ⟨rfl, rfl, rfl, by decide +kernel, rfl, by decide +kernel, by decide +kernel⟩
theorem sc__law_name : FnScope ["_law_source", "_law_used", "_law_letters", "_law_name_here", "_law_turn"] ["_law_source", "_law_used"] (defScope (top 94)) := ⟨rfl, rfl, rfl, by decide +kernel, rfl, by decide +kernel, by decide +kernel⟩
theorem sc__law_outs : FnScope ["_law_source", "_law_most", "_law_left", "_law_found", "_law_gain", "_law_turn"] ["_law_source", "_law_most"] (defScope (top 95)) := ⟨rfl, rfl, rfl, by decide +kernel, rfl, by decide +kernel, by decide +kernel⟩
theorem sc__law_table : FnScope ["_law_source", "_law_used", "_law_low_here", "_law_step", "_law_high"] ["_law_source", "_law_used"] (defScope (top 96)) := ⟨rfl, rfl, rfl, by decide +kernel, rfl, by decide +kernel, by decide +kernel⟩
theorem sc__law_house : FnScope ["_law_source", "_law_most", "_law_goal", "_law_tables", "_law_turn", "_law_table_here"] ["_law_source", "_law_most"] (defScope (top 97)) := ⟨rfl, rfl, rfl, by decide +kernel, rfl, by decide +kernel, by decide +kernel⟩
theorem sc__law_add : FnScope ["_law_a", "_law_b"] ["_law_a", "_law_b"] (defScope (top 89)) := ⟨rfl, rfl, rfl, by decide +kernel, rfl, by decide +kernel, by decide +kernel⟩
theorem sc__law_low : FnScope ["_law_n", "_law_d", "_law_a", "_law_b"] ["_law_n", "_law_d"] (defScope (top 91)) := ⟨rfl, rfl, rfl, by decide +kernel, rfl, by decide +kernel, by decide +kernel⟩
theorem sc__law_rising : FnScope ["_law_source", "_law_goal", "_law_found", "_law_here", "_law_x"] ["_law_source", "_law_goal"] (defScope (top 98)) := ⟨rfl, rfl, rfl, by decide +kernel, rfl, by decide +kernel, by decide +kernel⟩
theorem sc__law_poorer : FnScope ["_law_source", "_law_outs_here", "_law_weights", "_law_some", "_law_gain", "_law_weight", "_law_goal", "_law_moved", "_law_one_here"] ["_law_source", "_law_outs_here"] (defScope (top 99)) := ⟨rfl, rfl, rfl, by decide +kernel, rfl, by decide +kernel, by decide +kernel⟩
theorem sc__law_changed : FnScope ["_law_source", "_law_house_here", "_law_goal", "_law_tables", "_law_at", "_law_way", "_law_name_here", "_law_outs_here", "_law_low_here", "_law_high", "_law_step", "_law_fee", "_law_table_here"] ["_law_source", "_law_house_here"] (defScope (top 100)) := ⟨rfl, rfl, rfl, by decide +kernel, rfl, by decide +kernel, by decide +kernel⟩
theorem sc_ratio : FnScope ["n", "d", "common"] ["n", "d"] (defScope (top 15)) := ⟨rfl, rfl, rfl, by decide +kernel, rfl, by decide +kernel, by decide +kernel⟩
theorem sc_weight_of : FnScope ["lottery", "place", "weight"] ["lottery"] (defScope (top 56)) := ⟨rfl, rfl, rfl, by decide +kernel, rfl, by decide +kernel, by decide +kernel⟩
theorem sc_average : FnScope ["f", "lottery", "n", "d", "place", "weight", "part"] ["f", "lottery"] (defScope (top 57)) := ⟨rfl, rfl, rfl, by decide +kernel, rfl, by decide +kernel, by decide +kernel⟩
theorem sc_amounts : FnScope ["board", "f", "x", "lottery"] ["board", "f", "x"] (defScope (top 81)) := ⟨rfl, rfl, rfl, by decide +kernel, rfl, by decide +kernel, by decide +kernel⟩
theorem sc_less : FnScope ["a", "b"] ["a", "b"] (defScope (top 18)) := ⟨rfl, rfl, rfl, by decide +kernel, rfl, by decide +kernel, by decide +kernel⟩
theorem sc_better_choice : FnScope ["board", "f", "x", "choice", "most", "at", "amount"] ["board", "f", "x", "choice"] (defScope (top 82)) := ⟨rfl, rfl, rfl, by decide +kernel, rfl, by decide +kernel, by decide +kernel⟩
theorem sc_improved_for : FnScope ["board", "way", "f", "x", "choice"] ["board", "way", "f"] (defScope (top 83)) := ⟨rfl, rfl, rfl, by decide +kernel, rfl, by decide +kernel, by decide +kernel⟩
theorem sc_is_choice : FnScope ["board", "x", "choice"] ["board", "x", "choice"] (defScope (top 69)) := ⟨rfl, rfl, rfl, by decide +kernel, rfl, by decide +kernel, by decide +kernel⟩
theorem sc_want_way : FnScope ["board", "way", "x", "choice"] ["board", "way"] (defScope (top 70)) := ⟨rfl, rfl, rfl, by decide +kernel, rfl, by decide +kernel, by decide +kernel⟩
theorem sc_led_to : FnScope ["board", "x", "choice", "y", "weight"] ["board", "x", "choice"] (defScope (top 71)) := ⟨rfl, rfl, rfl, by decide +kernel, rfl, by decide +kernel, by decide +kernel⟩
theorem sc_arrows_back : FnScope ["arrows", "found", "row", "x", "y"] ["arrows"] (defScope (top 65)) := ⟨rfl, rfl, rfl, by decide +kernel, rfl, by decide +kernel, by decide +kernel⟩
theorem sc_comes : FnScope ["arrows", "targets", "back", "reached", "row", "waiting", "here", "x", "is_reached"] ["arrows", "targets"] (defScope (top 66)) := ⟨rfl, rfl, rfl, by decide +kernel, rfl, by decide +kernel, by decide +kernel⟩
theorem sc_live_places : FnScope ["board", "way", "arrows", "x", "choice"] ["board", "way"] (defScope (top 72)) := ⟨rfl, rfl, rfl, by decide +kernel, rfl, by decide +kernel, by decide +kernel⟩
theorem sc_inner_places : FnScope ["board", "way", "x"] ["board", "way"] (defScope (top 73)) := ⟨rfl, rfl, rfl, by decide +kernel, rfl, by decide +kernel, by decide +kernel⟩
theorem sc_plus : FnScope ["a", "b"] ["a", "b"] (defScope (top 16)) := ⟨rfl, rfl, rfl, by decide +kernel, rfl, by decide +kernel, by decide +kernel⟩
theorem sc_times : FnScope ["a", "b"] ["a", "b"] (defScope (top 17)) := ⟨rfl, rfl, rfl, by decide +kernel, rfl, by decide +kernel, by decide +kernel⟩
theorem sc_stopping_sum : FnScope ["board", "way", "x", "found", "y", "weight"] ["board", "way", "x"] (defScope (top 78)) := ⟨rfl, rfl, rfl, by decide +kernel, rfl, by decide +kernel, by decide +kernel⟩
theorem sc_whole_row : FnScope ["row", "common", "n", "d"] ["row"] (defScope (top 60)) := ⟨rfl, rfl, rfl, by decide +kernel, rfl, by decide +kernel, by decide +kernel⟩
theorem sc_pivot_of : FnScope ["table", "at", "index"] ["table", "at"] (defScope (top 61)) := ⟨rfl, rfl, rfl, by decide +kernel, rfl, by decide +kernel, by decide +kernel⟩
theorem sc_cleared : FnScope ["table", "at", "before", "pivot", "found", "index", "row", "factor", "a", "b"] ["table", "at", "before"] (defScope (top 62)) := ⟨rfl, rfl, rfl, by decide +kernel, rfl, by decide +kernel, by decide +kernel⟩
theorem sc_solved : FnScope ["rows", "rights", "size", "table", "before", "row", "right", "at", "index", "pivot"] ["rows", "rights"] (defScope (top 63)) := ⟨rfl, rfl, rfl, by decide +kernel, rfl, by decide +kernel, by decide +kernel⟩
theorem sc_weight_to : FnScope ["lottery", "target", "y", "weight"] ["lottery", "target"] (defScope (top 75)) := ⟨rfl, rfl, rfl, by decide +kernel, rfl, by decide +kernel, by decide +kernel⟩
theorem sc_square_row : FnScope ["board", "way", "inner", "x", "lottery", "whole", "y"] ["board", "way", "inner", "x"] (defScope (top 76)) := ⟨rfl, rfl, rfl, by decide +kernel, rfl, by decide +kernel, by decide +kernel⟩
theorem sc_way_square : FnScope ["board", "way", "inner", "x"] ["board", "way", "inner"] (defScope (top 77)) := ⟨rfl, rfl, rfl, by decide +kernel, rfl, by decide +kernel, by decide +kernel⟩
theorem sc_value : FnScope ["board", "way", "inner", "found", "x", "choice", "rights", "worth_there"] ["board", "way"] (defScope (top 79)) := ⟨rfl, rfl, rfl, by decide +kernel, rfl, by decide +kernel, by decide +kernel⟩
theorem sc_worth : FnScope ["board", "way", "f", "following"] ["board"] (defScope (top 84)) := ⟨rfl, rfl, rfl, by decide +kernel, rfl, by decide +kernel, by decide +kernel⟩
theorem sc_check_goal : FnScope ["goal"] ["goal"] (defScope (top 46)) := ⟨rfl, rfl, rfl, by decide +kernel, rfl, by decide +kernel, by decide +kernel⟩
theorem sc_is_name : FnScope ["thing"] ["thing"] (defScope (top 38)) := ⟨rfl, rfl, rfl, by decide +kernel, rfl, by decide +kernel, by decide +kernel⟩
theorem sc_is_number : FnScope ["thing"] ["thing"] (defScope (top 19)) := ⟨rfl, rfl, rfl, by decide +kernel, rfl, by decide +kernel, by decide +kernel⟩
theorem sc_is_within : FnScope ["thing", "least", "most"] ["thing", "least", "most"] (defScope (top 37)) := ⟨rfl, rfl, rfl, by decide +kernel, rfl, by decide +kernel, by decide +kernel⟩
theorem sc_are_outs : FnScope ["thing", "before", "out", "gain", "weight"] ["thing"] (defScope (top 39)) := ⟨rfl, rfl, rfl, by decide +kernel, rfl, by decide +kernel, by decide +kernel⟩
theorem sc_is_table : FnScope ["thing", "name", "outs", "low", "high", "step", "fee"] ["thing"] (defScope (top 40)) := ⟨rfl, rfl, rfl, by decide +kernel, rfl, by decide +kernel, by decide +kernel⟩
theorem sc_check_names : FnScope ["tables", "names", "table"] ["tables"] (defScope (top 47)) := ⟨rfl, rfl, rfl, by decide +kernel, rfl, by decide +kernel, by decide +kernel⟩
theorem sc_stakes : FnScope ["table", "name", "outs", "low", "high", "step", "fee", "k"] ["table"] (defScope (top 41)) := ⟨rfl, rfl, rfl, by decide +kernel, rfl, by decide +kernel, by decide +kernel⟩
theorem sc_checked_house : FnScope ["house", "goal", "tables", "index", "table", "many"] ["house"] (defScope (top 48)) := ⟨rfl, rfl, rfl, by decide +kernel, rfl, by decide +kernel, by decide +kernel⟩
theorem sc_is_ratio : FnScope ["thing", "n", "d"] ["thing"] (defScope (top 20)) := ⟨rfl, rfl, rfl, by decide +kernel, rfl, by decide +kernel, by decide +kernel⟩
theorem sc_is_pay : FnScope ["thing"] ["thing"] (defScope (top 28)) := ⟨rfl, rfl, rfl, by decide +kernel, rfl, by decide +kernel, by decide +kernel⟩
theorem sc_want_pays : FnScope ["pays", "size", "x", "pay"] ["pays", "size"] (defScope (top 30)) := ⟨rfl, rfl, rfl, by decide +kernel, rfl, by decide +kernel, by decide +kernel⟩
theorem sc_is_lottery : FnScope ["lottery", "size", "before", "place", "weight"] ["lottery", "size"] (defScope (top 29)) := ⟨rfl, rfl, rfl, by decide +kernel, rfl, by decide +kernel, by decide +kernel⟩
theorem sc_want_plays : FnScope ["plays", "size", "x", "row", "k", "lottery"] ["plays", "size"] (defScope (top 31)) := ⟨rfl, rfl, rfl, by decide +kernel, rfl, by decide +kernel, by decide +kernel⟩
theorem sc_made_board : FnScope ["pays", "plays", "size"] ["pays", "plays"] (defScope (top 32)) := ⟨rfl, rfl, rfl, by decide +kernel, rfl, by decide +kernel, by decide +kernel⟩
theorem sc_out_of : FnScope ["goal", "table", "x", "stake", "gain"] ["goal", "table", "x", "stake", "gain"] (defScope (top 50)) := ⟨rfl, rfl, rfl, by decide +kernel, rfl, by decide +kernel, by decide +kernel⟩
theorem sc_stake_lottery : FnScope ["goal", "table", "x", "stake", "weights", "gain", "weight", "purse"] ["goal", "table", "x", "stake"] (defScope (top 52)) := ⟨rfl, rfl, rfl, by decide +kernel, rfl, by decide +kernel, by decide +kernel⟩
theorem sc_open_stakes : FnScope ["tables", "x", "table", "stake"] ["tables", "x"] (defScope (top 49)) := ⟨rfl, rfl, rfl, by decide +kernel, rfl, by decide +kernel, by decide +kernel⟩
theorem sc_house_plays : FnScope ["goal", "tables", "x", "table", "stake"] ["goal", "tables", "x"] (defScope (top 53)) := ⟨rfl, rfl, rfl, by decide +kernel, rfl, by decide +kernel, by decide +kernel⟩
theorem sc_laid : FnScope ["house", "pays", "goal", "tables", "x"] ["house", "pays"] (defScope (top 54)) := ⟨rfl, rfl, rfl, by decide +kernel, rfl, by decide +kernel, by decide +kernel⟩
theorem sc__law_is_ratio : FnScope ["_law_thing", "_law_part"] ["_law_thing"] (defScope (top 92)) := ⟨rfl, rfl, rfl, by decide +kernel, rfl, by decide +kernel, by decide +kernel⟩
theorem sc__law_is_function : FnScope ["_law_thing", "_law_size", "_law_part"] ["_law_thing", "_law_size"] (defScope (top 93)) := ⟨rfl, rfl, rfl, by decide +kernel, rfl, by decide +kernel, by decide +kernel⟩
theorem sc__law_below : FnScope ["_law_a", "_law_b"] ["_law_a", "_law_b"] (defScope (top 90)) := ⟨rfl, rfl, rfl, by decide +kernel, rfl, by decide +kernel, by decide +kernel⟩
theorem sc_law : FnScope ["_law_script", "_law_source", "_law_goal", "_law_tables", "_law_house_here", "_law_table_here", "_law_pays", "_law_other", "_law_is_better", "_law_f", "_law_g", "_law_less", "_law_more", "_law_x"] ["_law_script"] (defScope (top 101)) := ⟨rfl, rfl, rfl, by decide +kernel, rfl, by decide +kernel, by decide +kernel⟩
end Z
/-! Walks. -/
namespace Z
open PySem PySem.Spec PyProof.Rows L2 RZ GxR
section
variable {P : Program} {w : World} {K : PySem.W.Frag} {T : List Addr} {mg : PySem.Str → Option Value} {base : Heap} {f : Addr} {fd : FuncData}
theorem ok__law_pool (W : Wd K mg) (F : FnT K "_law_pool" (top 86) f fd) (G : mg "_law_pool" = some (.ref f)) : Ca P w K mg base "_law_pool" 1 f fd ["_law_script", "_law_k"] (spF K T 2 F__law_pool) := by
  have sc := sc__law_pool
  refine ⟨fnF (k := 0) F sc rfl rfl fun cdv A outer s H E hr => ⟨[], ?_⟩, F.bindsN fun _ _ _ _ _ _ us hl => match us, hl with | [_, _], _ => rfl, G, F.kp⟩
  exact (dss_cons (ds_set (ps_set (i := 2) sc.nd rfl (Or.inl rfl) (de_int pe_int)) rfl) (dss_cons (ds_if (dt_cmpR op_lt ops_lt (de_var (pv 1) rfl) (de_ca (pe_callB call_len rfl W.m_len boot_len (da_cons (de_var (pv 0) rfl) da_nil)) cas_len)) (dss_one (ds_set (ps_set (i := 2) sc.nd rfl (Or.inl rfl) (de_ix (de_var (pv 0) rfl) (de_var (pv 1) rfl))) rfl)) (dss_one (ds_if (dt_tr (de_var (pv 0) rfl)) (dss_one (ds_set (ps_set (i := 2) sc.nd rfl (Or.inl rfl) (de_ix (de_var (pv 0) rfl) (de_int pe_int))) rfl)) dss_nil))) (dss_cons (ds_set (ps_set (i := 3) sc.nd rfl (Or.inl rfl) (de_ca (pe_callB (call_max2 rfl) rfl W.m_max (by decide +kernel) (da_cons (de_ca (pe_callTy call_int1 rfl W.m_int (by decide +kernel) (da_cons (de_var (pv 2) rfl) da_nil)) cas_int) (da_cons (de_ca (pe_callTy call_int1 rfl W.m_int (by decide +kernel) (da_cons (de_bin (pe_op op_sub (de_un (pe_un un_neg (de_int pe_int)) uns_neg) (de_var (pv 2) rfl)) ops_sub) da_nil)) cas_int) da_nil))) cas_max2)) rfl) (dss_cons (ds_set (ps_set (i := 4) sc.nd rfl (Or.inl rfl) (de_bin (pe_op op_modN (de_ca (pe_callTy call_int1 rfl W.m_int (by decide +kernel) (da_cons (de_bin (pe_op op_mulZ (de_bin (pe_op op_addA (de_bin (pe_op op_addA (de_bin (pe_op op_addA (de_bin (pe_op op_modN (de_ca (pe_callTy call_int1 rfl W.m_int (by decide +kernel) (da_cons (de_var (pv 3) rfl) da_nil)) cas_int) (de_int pe_int)) ops_mod) (de_bin (pe_op op_mulZ (de_bin (pe_op op_mulZ (de_int pe_int) (de_var (pv 1) rfl)) ops_mul) (de_var (pv 1) rfl)) ops_mul)) ops_add) (de_bin (pe_op op_mulZ (de_int pe_int) (de_var (pv 1) rfl)) ops_mul)) ops_add) (de_int pe_int)) ops_add) (de_int pe_int)) ops_mul) da_nil)) cas_int) (de_int pe_int)) ops_mod)) rfl) (dss_one (ds_retF (dl_lst (da_cons (de_bin (pe_op op_mulZ (de_var (pv 3) rfl) (de_ca (pe_callTy call_int1 rfl W.m_int (by decide +kernel) (da_cons (de_cmp op_ge ops_ge (de_var (pv 3) rfl) (de_bin (pe_op op_pow (de_int pe_int) (de_int pe_int)) ops_pow)) da_nil)) cas_int)) ops_mul) (da_cons (de_var (pv 4) rfl) da_nil)))))))))
theorem ok__law_take (W : Wd K mg) (F : FnT K "_law_take" (top 87) f fd) (G : mg "_law_take" = some (.ref f)) : Ca P w K mg base "_law_take" 1 f fd ["_law_source", "_law_top"] (spI K T 1 I__law_take) := by
  have sc := sc__law_take
  refine ⟨fnI (k := 0) F sc rfl rfl fun cdv A outer s H E hr => ⟨[], ?_⟩, F.bindsN fun _ _ _ _ _ _ us hl => match us, hl with | [_, _], _ => rfl, G, F.kp⟩
  exact (dss_cons (ds_if (dt_cmpR op_gt ops_gt (de_oix (pv 0) (de_int pe_int) rfl) (de_int pe_int)) (dss_cons (ds_set (ps_set (i := 2) sc.nd rfl (Or.inl rfl) (de_bin (pe_op op_modN (de_ca (pe_callTy call_int1 rfl W.m_int (by decide +kernel) (da_cons (de_oix (pv 0) (de_int pe_int) rfl) da_nil)) cas_int) (de_var (pv 1) rfl)) ops_mod)) rfl) (dss_cons (ds_put (ps_asg (de_bin (pe_op op_fdivZ (de_oix (pv 0) (de_int pe_int) rfl) (de_var (pv 1) rfl)) ops_fdiv) (pg_sub (pv 0) (de_int pe_int) set_list)) rfl) (dss_one (ds_ret (de_var (pv 2) rfl))))) dss_nil) (dss_cons (ds_put (ps_asg (de_bin (pe_op op_modN (de_ca (pe_callTy call_int1 rfl W.m_int (by decide +kernel) (da_cons (de_bin (pe_op op_addA (de_bin (pe_op op_mulZ (de_oix (pv 0) (de_int pe_int) rfl) (de_int pe_int)) ops_mul) (de_int pe_int)) ops_add) da_nil)) cas_int) (de_int pe_int)) ops_mod) (pg_sub (pv 0) (de_int pe_int) set_list)) rfl) (dss_one (ds_ret (de_bin (pe_op op_modN (de_ca (pe_callTy call_int1 rfl W.m_int (by decide +kernel) (da_cons (de_bin (pe_op op_fdivZ (de_bin (pe_op op_modN (de_ca (pe_callTy call_int1 rfl W.m_int (by decide +kernel) (da_cons (de_bin (pe_op op_mulZ (de_oix (pv 0) (de_int pe_int) rfl) (de_oix (pv 0) (de_int pe_int) rfl)) ops_mul) da_nil)) cas_int) (de_int pe_int)) ops_mod) (de_int pe_int)) ops_fdiv) da_nil)) cas_int) (de_var (pv 1) rfl)) ops_mod)))))
theorem ok__law_one (W : Wd K mg) (F : FnT K "_law_one" (top 88) f fd) (G : mg "_law_one" = some (.ref f)) {f__law_take : Addr} {fd__law_take : FuncData} (C__law_take : Ca P w K mg base "_law_take" 1 f__law_take fd__law_take ["_law_source", "_law_top"] (spI K T 1 I__law_take)) : Ca P w K mg base "_law_one" 2 f fd ["_law_source", "_law_things"] (spI K T 1 I__law_one) := by
  have sc := sc__law_one
  refine ⟨fnI (k := 1) F sc rfl rfl fun cdv A outer s H E hr => ⟨[], ?_⟩, F.bindsN fun _ _ _ _ _ _ us hl => match us, hl with | [_, _], _ => rfl, G, F.kp⟩
  exact (dss_one (ds_ret (de_ix (de_var (pv 1) rfl) (de_callI (pe_call (C__law_take.F.mono (by decide)) hr rfl C__law_take.G C__law_take.Kp C__law_take.B .nil pass0 (pa_cons (pv 0) (da_cons (de_ca (pe_callB call_len rfl W.m_len boot_len (da_cons (de_var (pv 1) rfl) da_nil)) cas_len) da_nil))) (an_cons an_nil) rfl))))
theorem ok__law_name (W : Wd K mg) (F : FnT K "_law_name" (top 94) f fd) (G : mg "_law_name" = some (.ref f)) {f__law_take : Addr} {fd__law_take : FuncData} (C__law_take : Ca P w K mg base "_law_take" 1 f__law_take fd__law_take ["_law_source", "_law_top"] (spI K T 1 I__law_take)) : Ca P w K mg base "_law_name" 2 f fd ["_law_source", "_law_used"] (spI K T 1 I__law_name) := by
  have sc := sc__law_name
  refine ⟨fnI (k := 1) F sc rfl rfl fun cdv A outer s H E hr => ⟨[], ?_⟩, F.bindsN fun _ _ _ _ _ _ us hl => match us, hl with | [_, _], _ => rfl, G, F.kp⟩
  exact (dss_cons (ds_set (ps_set (i := 2) sc.nd rfl (Or.inr rfl) (de_str pe_str)) rfl) (dss_cons (ds_set (ps_set (i := 3) sc.nd rfl (Or.inl rfl) (de_join (de_str pe_str) (de_frz (dl_lc rfl sc.nd (di_rng1 (pi_range1 rfl W.m_range (da_cons (de_bin (pe_op op_addA (de_int pe_int) (de_callI (pe_call (C__law_take.F.mono (by decide)) hr rfl C__law_take.G C__law_take.Kp C__law_take.B .nil pass0 (pa_cons (pv 0) (da_cons (de_int pe_int) da_nil))) (an_cons an_nil) rfl)) ops_add) da_nil)) (an_cons an_nil)) (own := [("_law_turn", 4)]) (blk_ok (by kernel_rfl)) (fun _ _ _ _ _ => (dg_name (pg_name (i := 4) sc.nd rfl (by first | exact Or.inl rfl | exact Or.inr rfl)) rfl)) (fun _ _ _ _ _ => dts_nil) (fun _ _ _ _ _ => (de_ix (de_var (pv 2) rfl) (de_callI (pe_call (C__law_take.F.mono (by decide)) hr rfl C__law_take.G C__law_take.Kp C__law_take.B .nil pass0 (pa_cons (pv 0) (da_cons (de_int pe_int) da_nil))) (an_cons an_nil) rfl))) rfl rfl)))) rfl) (dss_cons (ds_for PassesOwn.never rfl (di_rng1 (pi_range1 rfl W.m_range (da_cons (de_int pe_int) da_nil)) (an_cons an_nil)) (dg_name (pg_name (i := 4) sc.nd rfl (Or.inl rfl)) rfl) (dss_one (ds_if (dt_cmpR op_in_seq ops_in (de_var (pv 3) rfl) (de_var (pv 1) rfl)) (dss_one (ds_set (ps_set (i := 3) sc.nd rfl (Or.inl rfl) (de_bin (pe_op op_addA (de_sl (de_var (pv 3) rfl) do_none (do_some (de_un (pe_un un_neg (de_int pe_int)) uns_neg))) (de_ix (de_var (pv 2) rfl) (de_bin (pe_op op_modN (de_bin (pe_op op_addA (de_sidx (pe_bm PySem.F.plainAttrs_str PySem.F.slot_str_index PySem.F.type_str_index mt_sindex (de_var (pv 2) rfl) (pa_cons (de_ix (de_var (pv 3) rfl) (de_un (pe_un un_neg (de_int pe_int)) uns_neg)) pa_nil))) (de_int pe_int)) ops_add) (de_int pe_int)) ops_mod))) ops_add)) rfl)) dss_nil))) (dss_one (ds_ret (de_var (pv 3) rfl))))))
theorem ok__law_outs (W : Wd K mg) (F : FnT K "_law_outs" (top 95) f fd) (G : mg "_law_outs" = some (.ref f)) {f__law_take : Addr} {fd__law_take : FuncData} (C__law_take : Ca P w K mg base "_law_take" 1 f__law_take fd__law_take ["_law_source", "_law_top"] (spI K T 1 I__law_take)) {f__law_one : Addr} {fd__law_one : FuncData} (C__law_one : Ca P w K mg base "_law_one" 2 f__law_one fd__law_one ["_law_source", "_law_things"] (spI K T 1 I__law_one)) : Ca P w K mg base "_law_outs" 3 f fd ["_law_source", "_law_most"] (spI K T 1 I__law_outs) := by
  have sc := sc__law_outs
  refine ⟨fnI (k := 2) F sc rfl rfl fun cdv A outer s H E hr => ⟨[], ?_⟩, F.bindsN fun _ _ _ _ _ _ us hl => match us, hl with | [_, _], _ => rfl, G, F.kp⟩
  exact (dss_cons (ds_par2 (fl := [true, true]) (ps_par (i := 2) (j := 3) rfl sc.nd rfl rfl (by decide) rfl rfl (dax_ow (dl_lc rfl sc.nd (di_rng2 (pi_range2 rfl W.m_range (da_cons (de_un (pe_un un_neg (de_int pe_int)) uns_neg) (da_cons (de_int pe_int) da_nil))) (an_cons (an_cons an_nil))) (own := [("_law_gain", 4)]) (blk_ok (by kernel_rfl)) (fun _ _ _ _ _ => (dg_name (pg_name (i := 4) sc.nd rfl (by first | exact Or.inl rfl | exact Or.inr rfl)) rfl)) (fun _ _ _ _ _ => dts_nil) (fun _ _ _ _ _ => (de_var (pv 4) rfl)) rfl rfl) (dax_ow (dl_lst da_nil) dax_nil)) rfl) rfl) (dss_cons (ds_for PassesOwn.never rfl (di_rng1 (pi_range1 rfl W.m_range (da_cons (de_bin (pe_op op_addA (de_int pe_int) (de_callI (pe_call (C__law_take.F.mono (by decide)) hr rfl C__law_take.G C__law_take.Kp C__law_take.B .nil pass0 (pa_cons (pv 0) (da_cons (de_var (pv 1) rfl) da_nil))) (an_cons an_nil) rfl)) ops_add) da_nil)) (an_cons an_nil)) (dg_name (pg_name (i := 5) sc.nd rfl (Or.inl rfl)) rfl) (dss_cons (ds_set (ps_set (i := 4) sc.nd rfl (Or.inl rfl) (de_popAt (pe_bm PySem.F.plainAttrs_list PySem.F.slot_list_pop PySem.F.type_list_pop mt_popAt (pv 2) (pa_cons (de_callI (pe_call (C__law_one.F.mono (by decide)) hr rfl C__law_one.G C__law_one.Kp C__law_one.B .nil pass0 (pa_cons (pv 0) (da_cons (de_frz (dl_lst (da_cons (de_int pe_int) (da_cons (de_callI (pe_call (C__law_take.F.mono (by decide)) hr rfl C__law_take.G C__law_take.Kp C__law_take.B .nil pass0 (pa_cons (pv 0) (da_cons (de_bor (de_ca (pe_callB call_len rfl W.m_len boot_len (da_cons (de_var (pv 2) rfl) da_nil)) cas_len)) da_nil))) (an_cons an_nil) rfl) da_nil)))) da_nil))) (an_cons an_nil) rfl) pa_nil)) rfl)) rfl) (dss_one (ds_app (ps_expr (pe_bm PySem.F.plainAttrs_list PySem.F.slot_list_append PySem.F.type_list_append mt_append (pv 3) (pa_cons (de_tup (da_cons (de_var (pv 4) rfl) (da_cons (de_bin (pe_op op_addA (de_int pe_int) (de_callI (pe_call (C__law_take.F.mono (by decide)) hr rfl C__law_take.G C__law_take.Kp C__law_take.B .nil pass0 (pa_cons (pv 0) (da_cons (de_int pe_int) da_nil))) (an_cons an_nil) rfl)) ops_add) da_nil))) pa_nil))) rfl)))) (dss_one (ds_frz 3 rfl (.inr (by decide)) (ds_frz 2 rfl (.inr (by decide)) (ds_ret (de_ca (pe_callTy cr_tupP rfl W.m_tuple (by decide +kernel) (da_cons (de_frz (dl_ca (pe_callB cr_sortedPO rfl W.m_sorted (by decide +kernel) (da_cons (de_var (pv 3) rfl) da_nil)) cal_sortPD)) da_nil)) cas_ptup)))))))
theorem ok__law_table (W : Wd K mg) (F : FnT K "_law_table" (top 96) f fd) (G : mg "_law_table" = some (.ref f)) {f__law_one : Addr} {fd__law_one : FuncData} (C__law_one : Ca P w K mg base "_law_one" 2 f__law_one fd__law_one ["_law_source", "_law_things"] (spI K T 1 I__law_one)) {f__law_take : Addr} {fd__law_take : FuncData} (C__law_take : Ca P w K mg base "_law_take" 1 f__law_take fd__law_take ["_law_source", "_law_top"] (spI K T 1 I__law_take)) {f__law_outs : Addr} {fd__law_outs : FuncData} (C__law_outs : Ca P w K mg base "_law_outs" 3 f__law_outs fd__law_outs ["_law_source", "_law_most"] (spI K T 1 I__law_outs)) {f__law_name : Addr} {fd__law_name : FuncData} (C__law_name : Ca P w K mg base "_law_name" 2 f__law_name fd__law_name ["_law_source", "_law_used"] (spI K T 1 I__law_name)) : Ca P w K mg base "_law_table" 4 f fd ["_law_source", "_law_used"] (spI K T 1 I__law_table) := by
  have sc := sc__law_table
  refine ⟨fnI (k := 3) F sc rfl rfl fun cdv A outer s H E hr => ⟨[], ?_⟩, F.bindsN fun _ _ _ _ _ _ us hl => match us, hl with | [_, _], _ => rfl, G, F.kp⟩
  exact (dss_cons (ds_par2 (fl := [false, false]) (ps_par (i := 2) (j := 3) rfl sc.nd rfl rfl (by decide) rfl rfl (dax_sh (de_bin (pe_op op_addA (de_int pe_int) (de_callI (pe_call (C__law_take.F.mono (by decide)) hr rfl C__law_take.G C__law_take.Kp C__law_take.B .nil pass0 (pa_cons (pv 0) (da_cons (de_int pe_int) da_nil))) (an_cons an_nil) rfl)) ops_add) (dax_sh (de_callI (pe_call (C__law_one.F.mono (by decide)) hr rfl C__law_one.G C__law_one.Kp C__law_one.B .nil pass0 (pa_cons (pv 0) (da_cons (de_frz (dl_lst (da_cons (de_int pe_int) (da_cons (de_int pe_int) (da_cons (de_int pe_int) (da_cons (de_int pe_int) (da_cons (de_int pe_int) da_nil))))))) da_nil))) (an_cons an_nil) rfl) dax_nil)) rfl) rfl) (dss_cons (ds_set (ps_set (i := 4) sc.nd rfl (Or.inl rfl) (de_bin (pe_op op_addA (de_bin (pe_op op_addA (de_var (pv 2) rfl) (de_bin (pe_op op_mulZ (de_var (pv 3) rfl) (de_callI (pe_call (C__law_take.F.mono (by decide)) hr rfl C__law_take.G C__law_take.Kp C__law_take.B .nil pass0 (pa_cons (pv 0) (da_cons (de_int pe_int) da_nil))) (an_cons an_nil) rfl)) ops_mul)) ops_add) (de_callI (pe_call (C__law_take.F.mono (by decide)) hr rfl C__law_take.G C__law_take.Kp C__law_take.B .nil pass0 (pa_cons (pv 0) (da_cons (de_var (pv 3) rfl) da_nil))) (an_cons an_nil) rfl)) ops_add)) rfl) (dss_one (ds_ret (de_tup (da_cons (de_callI (pe_call (C__law_name.F.mono (by decide)) hr rfl C__law_name.G C__law_name.Kp C__law_name.B .nil pass0 (pa_cons (pv 0) (da_cons (de_var (pv 1) rfl) da_nil))) (an_cons an_nil) rfl) (da_cons (de_callI (pe_call (C__law_outs.F.mono (by decide)) hr rfl C__law_outs.G C__law_outs.Kp C__law_outs.B .nil pass0 (pa_cons (pv 0) (da_cons (de_int pe_int) da_nil))) (an_cons an_nil) rfl) (da_cons (de_var (pv 2) rfl) (da_cons (de_var (pv 4) rfl) (da_cons (de_var (pv 3) rfl) (da_cons (de_callI (pe_call (C__law_one.F.mono (by decide)) hr rfl C__law_one.G C__law_one.Kp C__law_one.B .nil pass0 (pa_cons (pv 0) (da_cons (de_frz (dl_lst (da_cons (de_int pe_int) (da_cons (de_int pe_int) (da_cons (de_int pe_int) (da_cons (de_int pe_int) (da_cons (de_int pe_int) da_nil))))))) da_nil))) (an_cons an_nil) rfl) da_nil)))))))))))
theorem ok__law_house (W : Wd K mg) (F : FnT K "_law_house" (top 97) f fd) (G : mg "_law_house" = some (.ref f)) {f__law_one : Addr} {fd__law_one : FuncData} (C__law_one : Ca P w K mg base "_law_one" 2 f__law_one fd__law_one ["_law_source", "_law_things"] (spI K T 1 I__law_one)) {f__law_take : Addr} {fd__law_take : FuncData} (C__law_take : Ca P w K mg base "_law_take" 1 f__law_take fd__law_take ["_law_source", "_law_top"] (spI K T 1 I__law_take)) {f__law_table : Addr} {fd__law_table : FuncData} (C__law_table : Ca P w K mg base "_law_table" 4 f__law_table fd__law_table ["_law_source", "_law_used"] (spI K T 1 I__law_table)) : Ca P w K mg base "_law_house" 5 f fd ["_law_source", "_law_most"] (spI K T 1 I__law_house) := by
  have sc := sc__law_house
  refine ⟨fnI (k := 4) F sc rfl rfl fun cdv A outer s H E hr => ⟨[], ?_⟩, F.bindsN fun _ _ _ _ _ _ us hl => match us, hl with | [_, _], _ => rfl, G, F.kp⟩
  exact (dss_cons (ds_par2 (fl := [false, true]) (ps_par (i := 2) (j := 3) rfl sc.nd rfl rfl (by decide) rfl rfl (dax_sh (de_callI (pe_call (C__law_one.F.mono (by decide)) hr rfl C__law_one.G C__law_one.Kp C__law_one.B .nil pass0 (pa_cons (pv 0) (da_cons (de_frz (dl_lst (da_cons (de_int pe_int) (da_cons (de_int pe_int) (da_cons (de_int pe_int) (da_cons (de_int pe_int) (da_cons (de_int pe_int) (da_cons (de_int pe_int) (da_cons (de_int pe_int) (da_cons (de_int pe_int) da_nil)))))))))) da_nil))) (an_cons an_nil) rfl) (dax_ow (dl_lst da_nil) dax_nil)) rfl) rfl) (dss_cons (ds_for PassesOwn.never rfl (di_rng1 (pi_range1 rfl W.m_range (da_cons (de_callI (pe_call (C__law_take.F.mono (by decide)) hr rfl C__law_take.G C__law_take.Kp C__law_take.B .nil pass0 (pa_cons (pv 0) (da_cons (de_bin (pe_op op_addA (de_var (pv 1) rfl) (de_int pe_int)) ops_add) da_nil))) (an_cons an_nil) rfl) da_nil)) (an_cons an_nil)) (dg_name (pg_name (i := 4) sc.nd rfl (Or.inl rfl)) rfl) (dss_one (ds_app (ps_expr (pe_bm PySem.F.plainAttrs_list PySem.F.slot_list_append PySem.F.type_list_append mt_append (pv 3) (pa_cons (de_callI (pe_call (C__law_table.F.mono (by decide)) hr rfl C__law_table.G C__law_table.Kp C__law_table.B .nil pass0 (pa_cons (pv 0) (da_cons (de_frz (dl_bor (dl_lc rfl sc.nd (di_seq (de_var (pv 3) rfl)) (own := [("_law_table_here", 5)]) (blk_ok (by kernel_rfl)) (fun _ _ _ _ _ => (dg_name (pg_name (i := 5) sc.nd rfl (by first | exact Or.inl rfl | exact Or.inr rfl)) rfl)) (fun _ _ _ _ _ => dts_nil) (fun _ _ _ _ _ => (de_ix (de_var (pv 5) rfl) (de_int pe_int))) rfl rfl))) da_nil))) (an_cons an_nil) rfl) pa_nil))) rfl))) (dss_one (ds_frz 3 rfl (.inr (by decide)) (ds_ret (de_tup (da_cons (de_var (pv 2) rfl) (da_cons (de_ca (pe_callTy call_tuple_of rfl W.m_tuple (by decide +kernel) (da_cons (de_var (pv 3) rfl) da_nil)) cas_tuple) da_nil))))))))
theorem ok__law_add (W : Wd K mg) (F : FnT K "_law_add" (top 89) f fd) (G : mg "_law_add" = some (.ref f)) : Ca P w K mg base "_law_add" 1 f fd ["_law_a", "_law_b"] (spP K T 2 F__law_add) := by
  have sc := sc__law_add
  refine ⟨fnP (k := 0) F sc rfl rfl fun cdv A outer s H E hr => ⟨[], ?_⟩, F.bindsN fun _ _ _ _ _ _ us hl => match us, hl with | [_, _], _ => rfl, G, F.kp⟩
  exact (dss_one (ds_ret (de_tup (da_cons (de_bin (pe_op op_addA (de_bin (pe_op op_mulZ (de_ix (de_var (pv 0) rfl) (de_int pe_int)) (de_ix (de_var (pv 1) rfl) (de_int pe_int))) ops_mul) (de_bin (pe_op op_mulZ (de_ix (de_var (pv 1) rfl) (de_int pe_int)) (de_ix (de_var (pv 0) rfl) (de_int pe_int))) ops_mul)) ops_add) (da_cons (de_bin (pe_op op_mulZ (de_ix (de_var (pv 0) rfl) (de_int pe_int)) (de_ix (de_var (pv 1) rfl) (de_int pe_int))) ops_mul) da_nil)))))
theorem ok__law_low (W : Wd K mg) (F : FnT K "_law_low" (top 91) f fd) (G : mg "_law_low" = some (.ref f)) : Ca P w K mg base "_law_low" 1 f fd ["_law_n", "_law_d"] (spP K T 2 F__law_low) := by
  have sc := sc__law_low
  refine ⟨fnP (k := 0) F sc rfl rfl fun cdv A outer s H E hr => ⟨[], ?_⟩, F.bindsN fun _ _ _ _ _ _ us hl => match us, hl with | [_, _], _ => rfl, G, F.kp⟩
  exact (dss_cons (ds_par2 (fl := [false, false]) (ps_par (i := 2) (j := 3) rfl sc.nd rfl rfl (by decide) rfl rfl (dax_sh (de_ca (pe_callB (call_max2 rfl) rfl W.m_max (by decide +kernel) (da_cons (de_var (pv 0) rfl) (da_cons (de_un (pe_un un_neg (de_var (pv 0) rfl)) uns_neg) da_nil))) cas_max2) (dax_sh (de_var (pv 1) rfl) dax_nil)) rfl) rfl) (dss_cons (ds_while PassesOwn.never (dt_cmpR op_gt ops_gt (de_var (pv 3) rfl) (de_int pe_int)) (dss_one (ds_par2 (fl := [false, false]) (ps_par (i := 2) (j := 3) rfl sc.nd rfl rfl (by decide) rfl rfl (dax_sh (de_var (pv 3) rfl) (dax_sh (de_bin (pe_op op_modN (de_ca (pe_callTy call_int1 rfl W.m_int (by decide +kernel) (da_cons (de_var (pv 2) rfl) da_nil)) cas_int) (de_var (pv 3) rfl)) ops_mod) dax_nil)) rfl) rfl))) (dss_one (ds_ret (de_tup (da_cons (de_bin (pe_op op_fdivZ (de_var (pv 0) rfl) (de_var (pv 2) rfl)) ops_fdiv) (da_cons (de_bin (pe_op op_fdivZ (de_var (pv 1) rfl) (de_var (pv 2) rfl)) ops_fdiv) da_nil)))))))
theorem ok__law_rising (W : Wd K mg) (F : FnT K "_law_rising" (top 98) f fd) (G : mg "_law_rising" = some (.ref f)) {f__law_take : Addr} {fd__law_take : FuncData} (C__law_take : Ca P w K mg base "_law_take" 1 f__law_take fd__law_take ["_law_source", "_law_top"] (spI K T 1 I__law_take)) {f__law_one : Addr} {fd__law_one : FuncData} (C__law_one : Ca P w K mg base "_law_one" 2 f__law_one fd__law_one ["_law_source", "_law_things"] (spI K T 1 I__law_one)) {f__law_add : Addr} {fd__law_add : FuncData} (C__law_add : Ca P w K mg base "_law_add" 1 f__law_add fd__law_add ["_law_a", "_law_b"] (spP K T 2 F__law_add)) {f__law_low : Addr} {fd__law_low : FuncData} (C__law_low : Ca P w K mg base "_law_low" 1 f__law_low fd__law_low ["_law_n", "_law_d"] (spP K T 2 F__law_low)) : Ca P w K mg base "_law_rising" 3 f fd ["_law_source", "_law_goal"] (spI K T 1 I__law_rising) := by
  have sc := sc__law_rising
  refine ⟨fnI (k := 2) F sc rfl rfl fun cdv A outer s H E hr => ⟨[], ?_⟩, F.bindsN fun _ _ _ _ _ _ us hl => match us, hl with | [_, _], _ => rfl, G, F.kp⟩
  exact (dss_cons (ds_if (dt_cmpR (op_eqD hr.units) ops_eq (de_callI (pe_call (C__law_take.F.mono (by decide)) hr rfl C__law_take.G C__law_take.Kp C__law_take.B .nil pass0 (pa_cons (pv 0) (da_cons (de_int pe_int) da_nil))) (an_cons an_nil) rfl) (de_int pe_int)) (dss_one (ds_ret (de_bin (pe_op op_addA (de_bin (pe_op op_repA (de_tup (da_cons (de_tup (da_cons (de_int pe_int) (da_cons (de_int pe_int) da_nil))) da_nil)) (de_var (pv 1) rfl)) ops_rep) (de_tup (da_cons (de_tup (da_cons (de_int pe_int) (da_cons (de_int pe_int) da_nil))) da_nil))) ops_add))) dss_nil) (dss_cons (ds_par2 (fl := [true, false]) (ps_par (i := 2) (j := 3) rfl sc.nd rfl rfl (by decide) rfl rfl (dax_ow (dl_lst da_nil) (dax_sh (de_tup (da_cons (de_int pe_int) (da_cons (de_int pe_int) da_nil))) dax_nil)) rfl) rfl) (dss_cons (ds_for PassesOwn.never rfl (di_rng1 (pi_range1 rfl W.m_range (da_cons (de_bin (pe_op op_addA (de_var (pv 1) rfl) (de_int pe_int)) ops_add) da_nil)) (an_cons an_nil)) (dg_name (pg_name (i := 4) sc.nd rfl (Or.inl rfl)) rfl) (dss_cons (ds_set (ps_set (i := 3) sc.nd rfl (Or.inl rfl) (de_call (pe_call (C__law_add.F.mono (by decide)) hr rfl C__law_add.G C__law_add.Kp C__law_add.B .nil pass0 (da_cons (de_var (pv 3) rfl) (da_cons (de_tup (da_cons (de_callI (pe_call (C__law_take.F.mono (by decide)) hr rfl C__law_take.G C__law_take.Kp C__law_take.B .nil pass0 (pa_cons (pv 0) (da_cons (de_callI (pe_call (C__law_one.F.mono (by decide)) hr rfl C__law_one.G C__law_one.Kp C__law_one.B .nil pass0 (pa_cons (pv 0) (da_cons (de_frz (dl_lst (da_cons (de_int pe_int) (da_cons (de_int pe_int) (da_cons (de_int pe_int) (da_cons (de_int pe_int) da_nil)))))) da_nil))) (an_cons an_nil) rfl) da_nil))) (an_cons an_nil) rfl) (da_cons (de_bin (pe_op op_addA (de_int pe_int) (de_callI (pe_call (C__law_take.F.mono (by decide)) hr rfl C__law_take.G C__law_take.Kp C__law_take.B .nil pass0 (pa_cons (pv 0) (da_cons (de_int pe_int) da_nil))) (an_cons an_nil) rfl)) ops_add) da_nil))) da_nil))) (an_cons (an_cons an_nil)))) rfl) (dss_cons (ds_set (ps_set (i := 3) sc.nd rfl (Or.inl rfl) (de_call (pe_call (C__law_low.F.mono (by decide)) hr rfl C__law_low.G C__law_low.Kp C__law_low.B .nil pass0 (da_cons (de_ix (de_var (pv 3) rfl) (de_int pe_int)) (da_cons (de_ix (de_var (pv 3) rfl) (de_int pe_int)) da_nil))) (an_cons (an_cons an_nil)))) rfl) (dss_one (ds_app (ps_expr (pe_bm PySem.F.plainAttrs_list PySem.F.slot_list_append PySem.F.type_list_append mt_append (pv 2) (pa_cons (de_var (pv 3) rfl) pa_nil))) rfl))))) (dss_one (ds_frz 2 rfl (.inr (by decide)) (ds_ret (de_ca (pe_callTy call_tuple_of rfl W.m_tuple (by decide +kernel) (da_cons (de_var (pv 2) rfl) da_nil)) cas_tuple)))))))
theorem ok__law_poorer (W : Wd K mg) (F : FnT K "_law_poorer" (top 99) f fd) (G : mg "_law_poorer" = some (.ref f)) {f__law_one : Addr} {fd__law_one : FuncData} (C__law_one : Ca P w K mg base "_law_one" 2 f__law_one fd__law_one ["_law_source", "_law_things"] (spI K T 1 I__law_one)) {f__law_take : Addr} {fd__law_take : FuncData} (C__law_take : Ca P w K mg base "_law_take" 1 f__law_take fd__law_take ["_law_source", "_law_top"] (spI K T 1 I__law_take)) : Ca P w K mg base "_law_poorer" 3 f fd ["_law_source", "_law_outs_here"] (spI K T 1 I__law_poorer) := by
  have sc := sc__law_poorer
  refine ⟨fnI (k := 2) F sc rfl rfl fun cdv A outer s H E hr => ⟨[], ?_⟩, F.bindsN fun _ _ _ _ _ _ us hl => match us, hl with | [_, _], _ => rfl, G, F.kp⟩
  exact (dss_cons (ds_own (ps_set (i := 2) sc.nd rfl (Or.inr rfl) (dl_dictP (pe_callTy (cr_dictPl rfl) rfl W.m_dict (by decide +kernel) (da_cons (de_var (pv 1) rfl) da_nil)))) rfl) (dss_cons (ds_setLc (i := 3) rfl sc.nd rfl rfl rfl (di_seq (de_var (pv 1) rfl)) (own := [("_law_gain", 4), ("_law_weight", 5)]) (blk_ok (by kernel_rfl)) (fun _ _ _ _ _ => (dg_tup rfl (dgs_cons (dg_name (pg_name (i := 4) sc.nd rfl (by first | exact Or.inl rfl | exact Or.inr rfl)) rfl) (dgs_cons (dg_name (pg_name (i := 5) sc.nd rfl (by first | exact Or.inl rfl | exact Or.inr rfl)) rfl) dgs_nil)))) (fun _ _ _ _ _ => (dts_one (dt_cmpR op_gt ops_gt (de_var (pv 4) rfl) (de_un (pe_un un_neg (de_int pe_int)) uns_neg)))) (fun _ _ _ _ _ => (de_var (pv 4) rfl)) rfl rfl rfl) (dss_cons (ds_if (dt_cmpR (op_eqD hr.units) ops_eq (de_var (pv 3) rfl) (de_frz (dl_lst da_nil))) (dss_one (ds_frz 2 rfl (.inr (by decide)) (ds_ret (de_var (pv 1) rfl)))) dss_nil) (dss_cons (ds_set (ps_set (i := 4) sc.nd rfl (Or.inl rfl) (de_callI (pe_call (C__law_one.F.mono (by decide)) hr rfl C__law_one.G C__law_one.Kp C__law_one.B .nil pass0 (pa_cons (pv 0) (da_cons (de_var (pv 3) rfl) da_nil))) (an_cons an_nil) rfl)) rfl) (dss_cons (ds_par2 (fl := [false, false]) (ps_par (i := 6) (j := 7) rfl sc.nd rfl rfl (by decide) rfl rfl (dax_sh (de_bin (pe_op op_sub (de_callI (pe_call (C__law_take.F.mono (by decide)) hr rfl C__law_take.G C__law_take.Kp C__law_take.B .nil pass0 (pa_cons (pv 0) (da_cons (de_bin (pe_op op_addA (de_var (pv 4) rfl) (de_int pe_int)) ops_add) da_nil))) (an_cons an_nil) rfl) (de_int pe_int)) ops_sub) (dax_sh (de_callI (pe_call (C__law_take.F.mono (by decide)) hr rfl C__law_take.G C__law_take.Kp C__law_take.B .nil pass0 (pa_cons (pv 0) (da_cons (de_bin (pe_op op_addA (de_bor (de_dix hr (de_var (pv 2) rfl) (de_var (pv 4) rfl))) (de_int pe_int)) ops_add) da_nil))) (an_cons an_nil) rfl) dax_nil)) rfl) rfl) (dss_cons (ds_dput (ps_dput (hu_of hr) (pv 2) (de_var (pv 6) rfl) (de_bin (pe_op op_addA (de_bor (de_dget2 hr (de_var (pv 2) rfl) (de_var (pv 6) rfl) (de_int pe_int) ⟨rfl, rfl, rfl, rfl⟩)) (de_var (pv 7) rfl)) ops_add) rfl) rfl) (dss_cons (ds_dput (ps_dput (hu_of hr) (pv 2) (de_var (pv 4) rfl) (de_bin (pe_op op_sub (de_bor (de_dix hr (de_var (pv 2) rfl) (de_var (pv 4) rfl))) (de_var (pv 7) rfl)) ops_sub) rfl) rfl) (dss_one (ds_frz 2 rfl (.inr (by decide)) (ds_ret (de_ca (pe_callTy cr_tupP rfl W.m_tuple (by decide +kernel) (da_cons (de_frz (dl_lc rfl sc.nd (di_seq (de_frz (dl_ca (pe_callB (call_sortedDI rfl) rfl W.m_sorted (by decide +kernel) (da_cons (de_var (pv 2) rfl) da_nil)) cal_sortDD))) (own := [("_law_one_here", 8)]) (blk_ok (by kernel_rfl)) (fun _ _ _ _ _ => (dg_name (pg_name (i := 8) sc.nd rfl (by first | exact Or.inl rfl | exact Or.inr rfl)) rfl)) (fun _ _ _ _ _ => (dts_one (dt_cmpR op_gt ops_gt (de_dix hr (de_var (pv 2) rfl) (de_var (pv 8) rfl)) (de_int pe_int)))) (fun _ _ _ _ _ => (de_tup (da_cons (de_var (pv 8) rfl) (da_cons (de_dix hr (de_var (pv 2) rfl) (de_var (pv 8) rfl)) da_nil)))) rfl rfl)) da_nil)) cas_ptup)))))))))))
theorem ok__law_changed (W : Wd K mg) (F : FnT K "_law_changed" (top 100) f fd) (G : mg "_law_changed" = some (.ref f)) {f__law_take : Addr} {fd__law_take : FuncData} (C__law_take : Ca P w K mg base "_law_take" 1 f__law_take fd__law_take ["_law_source", "_law_top"] (spI K T 1 I__law_take)) {f__law_table : Addr} {fd__law_table : FuncData} (C__law_table : Ca P w K mg base "_law_table" 4 f__law_table fd__law_table ["_law_source", "_law_used"] (spI K T 1 I__law_table)) {f__law_poorer : Addr} {fd__law_poorer : FuncData} (C__law_poorer : Ca P w K mg base "_law_poorer" 3 f__law_poorer fd__law_poorer ["_law_source", "_law_outs_here"] (spI K T 1 I__law_poorer)) : Ca P w K mg base "_law_changed" 5 f fd ["_law_source", "_law_house_here"] (spI K T 1 I__law_changed) := by
  have sc := sc__law_changed
  refine ⟨fnI (k := 4) F sc rfl rfl fun cdv A outer s H E hr => ⟨[], ?_⟩, F.bindsN fun _ _ _ _ _ _ us hl => match us, hl with | [_, _], _ => rfl, G, F.kp⟩
  exact (dss_cons (ds_tgt (ps_asg (de_var (pv 1) rfl) (dg_tup rfl (dgs_cons (dg_name (pg_name (i := 2) sc.nd rfl (Or.inl rfl)) rfl) (dgs_cons (dg_name (pg_name (i := 3) sc.nd rfl (Or.inl rfl)) rfl) dgs_nil))))) (dss_cons (ds_par2 (fl := [false, false]) (ps_par (i := 4) (j := 5) rfl sc.nd rfl rfl (by decide) rfl rfl (dax_sh (de_callI (pe_call (C__law_take.F.mono (by decide)) hr rfl C__law_take.G C__law_take.Kp C__law_take.B .nil pass0 (pa_cons (pv 0) (da_cons (de_ca (pe_callB call_len rfl W.m_len boot_len (da_cons (de_var (pv 3) rfl) da_nil)) cas_len) da_nil))) (an_cons an_nil) rfl) (dax_sh (de_callI (pe_call (C__law_take.F.mono (by decide)) hr rfl C__law_take.G C__law_take.Kp C__law_take.B .nil pass0 (pa_cons (pv 0) (da_cons (de_int pe_int) da_nil))) (an_cons an_nil) rfl) dax_nil)) rfl) rfl) (dss_cons (ds_tgt (ps_asg (de_ix (de_var (pv 3) rfl) (de_var (pv 4) rfl)) (dg_tup rfl (dgs_cons (dg_name (pg_name (i := 6) sc.nd rfl (Or.inl rfl)) rfl) (dgs_cons (dg_name (pg_name (i := 7) sc.nd rfl (Or.inl rfl)) rfl) (dgs_cons (dg_name (pg_name (i := 8) sc.nd rfl (Or.inl rfl)) rfl) (dgs_cons (dg_name (pg_name (i := 9) sc.nd rfl (Or.inl rfl)) rfl) (dgs_cons (dg_name (pg_name (i := 10) sc.nd rfl (Or.inl rfl)) rfl) (dgs_cons (dg_name (pg_name (i := 11) sc.nd rfl (Or.inl rfl)) rfl) dgs_nil))))))))) (dss_cons (ds_if (dt_cmpR (op_eqD hr.units) ops_eq (de_var (pv 5) rfl) (de_int pe_int)) (dss_one (ds_ret (de_tup (da_cons (de_tup (da_cons (de_var (pv 2) rfl) (da_cons (de_bin (pe_op op_addA (de_var (pv 3) rfl) (de_tup (da_cons (de_callI (pe_call (C__law_table.F.mono (by decide)) hr rfl C__law_table.G C__law_table.Kp C__law_table.B .nil pass0 (pa_cons (pv 0) (da_cons (de_frz (dl_lc rfl sc.nd (di_seq (de_var (pv 3) rfl)) (own := [("_law_table_here", 12)]) (blk_ok (by kernel_rfl)) (fun _ _ _ _ _ => (dg_name (pg_name (i := 12) sc.nd rfl (by first | exact Or.inl rfl | exact Or.inr rfl)) rfl)) (fun _ _ _ _ _ => dts_nil) (fun _ _ _ _ _ => (de_ix (de_var (pv 12) rfl) (de_int pe_int))) rfl rfl)) da_nil))) (an_cons an_nil) rfl) da_nil))) ops_add) da_nil))) (da_cons (de_bl pe_bl) da_nil))))) dss_nil) (dss_cons (ds_if (dt_cmpR (op_eqD hr.units) ops_eq (de_var (pv 5) rfl) (de_int pe_int)) (dss_one (ds_set (ps_set (i := 9) sc.nd rfl (Or.inl rfl) (de_bin (pe_op op_addA (de_var (pv 9) rfl) (de_bin (pe_op op_mulZ (de_var (pv 10) rfl) (de_bin (pe_op op_addA (de_int pe_int) (de_callI (pe_call (C__law_take.F.mono (by decide)) hr rfl C__law_take.G C__law_take.Kp C__law_take.B .nil pass0 (pa_cons (pv 0) (da_cons (de_int pe_int) da_nil))) (an_cons an_nil) rfl)) ops_add)) ops_mul)) ops_add)) rfl)) (dss_one (ds_if (dt_cmpR (op_eqD hr.units) ops_eq (de_var (pv 5) rfl) (de_int pe_int)) (dss_one (ds_set (ps_set (i := 11) sc.nd rfl (Or.inl rfl) (de_bin (pe_op op_addA (de_var (pv 11) rfl) (de_callI (pe_call (C__law_take.F.mono (by decide)) hr rfl C__law_take.G C__law_take.Kp C__law_take.B .nil pass0 (pa_cons (pv 0) (da_cons (de_bin (pe_op op_sub (de_int pe_int) (de_var (pv 11) rfl)) ops_sub) da_nil))) (an_cons an_nil) rfl)) ops_add)) rfl)) (dss_one (ds_set (ps_set (i := 7) sc.nd rfl (Or.inl rfl) (de_callI (pe_call (C__law_poorer.F.mono (by decide)) hr rfl C__law_poorer.G C__law_poorer.Kp C__law_poorer.B .nil pass0 (pa_cons (pv 0) (da_cons (de_var (pv 7) rfl) da_nil))) (an_cons an_nil) rfl)) rfl))))) (dss_one (ds_ret (de_tup (da_cons (de_tup (da_cons (de_var (pv 2) rfl) (da_cons (de_bin (pe_op op_addA (de_bin (pe_op op_addA (de_sl (de_var (pv 3) rfl) do_none (do_some (de_var (pv 4) rfl))) (de_tup (da_cons (de_tup (da_cons (de_var (pv 6) rfl) (da_cons (de_var (pv 7) rfl) (da_cons (de_var (pv 8) rfl) (da_cons (de_var (pv 9) rfl) (da_cons (de_var (pv 10) rfl) (da_cons (de_var (pv 11) rfl) da_nil))))))) da_nil))) ops_add) (de_sl (de_var (pv 3) rfl) (do_some (de_bin (pe_op op_addA (de_var (pv 4) rfl) (de_int pe_int)) ops_add)) do_none)) ops_add) da_nil))) (da_cons (de_cmp (op_eqD hr.units) ops_eq (de_var (pv 5) rfl) (de_int pe_int)) da_nil))))))))))
end
end Z
/-! Walks. -/
namespace Z
open PySem PySem.Spec PyProof.Rows L2 RZ GxR
section
variable {P : Program} {w : World} {K : PySem.W.Frag} {T : List Addr} {mg : PySem.Str → Option Value} {base : Heap} {f : Addr} {fd : FuncData}
theorem ok_ratio (W : Wd K mg) (F : FnT K "ratio" (top 15) f fd) (G : mg "ratio" = some (.ref f)) : Ca P w K mg base "ratio" 1 f fd ["n", "d"] (spP K T 2 F_ratio) := by
  have sc := sc_ratio
  refine ⟨fnP (k := 0) F sc rfl rfl fun cdv A outer s H E hr => ⟨[], ?_⟩, F.bindsN fun _ _ _ _ _ _ us hl => match us, hl with | [_, _], _ => rfl, G, F.kp⟩
  exact (dss_cons (ds_if (dt_cmpR (op_eqD hr.units) ops_eq (de_var (pv 1) rfl) (de_int pe_int)) (dss_one ds_never) dss_nil) (dss_cons (ds_set (ps_set (i := 2) sc.nd rfl (Or.inl rfl) (de_ca (pe_callBfun cr_gcd rfl W.g_gcd (da_cons (de_var (pv 0) rfl) (da_cons (de_var (pv 1) rfl) da_nil))) cas_gcd)) rfl) (dss_cons (ds_if (dt_cmpR op_lt ops_lt (de_var (pv 1) rfl) (de_int pe_int)) (dss_one (ds_set (ps_set (i := 2) sc.nd rfl (Or.inl rfl) (de_un (pe_un un_neg (de_var (pv 2) rfl)) uns_neg)) rfl)) dss_nil) (dss_one (ds_ret (de_tup (da_cons (de_bin (pe_op op_fdivZ (de_var (pv 0) rfl) (de_var (pv 2) rfl)) ops_fdiv) (da_cons (de_bin (pe_op op_fdivZ (de_var (pv 1) rfl) (de_var (pv 2) rfl)) ops_fdiv) da_nil))))))))
theorem ok_weight_of (W : Wd K mg) (F : FnT K "weight_of" (top 56) f fd) (G : mg "weight_of" = some (.ref f)) : Ca P w K mg base "weight_of" 1 f fd ["lottery"] (spP K T 1 F_weight_of) := by
  have sc := sc_weight_of
  refine ⟨fnP (k := 0) F sc rfl rfl fun cdv A outer s H E hr => ⟨[], ?_⟩, F.bindsN fun _ _ _ _ _ _ us hl => match us, hl with | [_], _ => rfl, G, F.kp⟩
  exact (dss_one (ds_ret (de_ca (pe_callB (cr_sum rfl) rfl W.m_sum (by decide +kernel) (da_cons (de_frz (dl_lc rfl sc.nd (di_seq (de_var (pv 0) rfl)) (own := [("place", 1), ("weight", 2)]) (blk_ok (by kernel_rfl)) (fun _ _ _ _ _ => (dg_tup rfl (dgs_cons (dg_name (pg_name (i := 1) sc.nd rfl (by first | exact Or.inl rfl | exact Or.inr rfl)) rfl) (dgs_cons (dg_name (pg_name (i := 2) sc.nd rfl (by first | exact Or.inl rfl | exact Or.inr rfl)) rfl) dgs_nil)))) (fun _ _ _ _ _ => dts_nil) (fun _ _ _ _ _ => (de_var (pv 2) rfl)) rfl rfl)) da_nil)) cas_sum)))
theorem ok_average (W : Wd K mg) (F : FnT K "average" (top 57) f fd) (G : mg "average" = some (.ref f)) {f_weight_of : Addr} {fd_weight_of : FuncData} (C_weight_of : Ca P w K mg base "weight_of" 1 f_weight_of fd_weight_of ["lottery"] (spP K T 1 F_weight_of)) {f_ratio : Addr} {fd_ratio : FuncData} (C_ratio : Ca P w K mg base "ratio" 1 f_ratio fd_ratio ["n", "d"] (spP K T 2 F_ratio)) : Ca P w K mg base "average" 2 f fd ["f", "lottery"] (spP K T 2 F_average) := by
  have sc := sc_average
  refine ⟨fnP (k := 1) F sc rfl rfl fun cdv A outer s H E hr => ⟨[], ?_⟩, F.bindsN fun _ _ _ _ _ _ us hl => match us, hl with | [_, _], _ => rfl, G, F.kp⟩
  exact (dss_cons (ds_parU (fl := [false, false]) (is := [2, 3]) (ps_asg (pe_tup (dax_sh (de_int pe_int) (dax_sh (de_int pe_int) dax_nil))) (pg_tup rfl (pgs_cons (pg_name (i := 2) sc.nd rfl (Or.inl rfl)) (pgs_cons (pg_name (i := 3) sc.nd rfl (Or.inl rfl)) pgs_nil)))) rfl) (dss_cons (ds_for PassesOwn.never rfl (di_seq (de_var (pv 1) rfl)) (dg_tup rfl (dgs_cons (dg_name (pg_name (i := 4) sc.nd rfl (Or.inl rfl)) rfl) (dgs_cons (dg_name (pg_name (i := 5) sc.nd rfl (Or.inl rfl)) rfl) dgs_nil))) (dss_cons (ds_set (ps_set (i := 6) sc.nd rfl (Or.inl rfl) (de_ix (de_var (pv 0) rfl) (de_var (pv 4) rfl))) rfl) (dss_one (ds_par2 (fl := [false, false]) (ps_par (i := 2) (j := 3) rfl sc.nd rfl rfl (by decide) rfl rfl (dax_sh (de_bin (pe_op op_addA (de_bin (pe_op op_mulZ (de_var (pv 2) rfl) (de_ix (de_var (pv 6) rfl) (de_int pe_int))) ops_mul) (de_bin (pe_op op_mulZ (de_bin (pe_op op_mulZ (de_var (pv 5) rfl) (de_ix (de_var (pv 6) rfl) (de_int pe_int))) ops_mul) (de_var (pv 3) rfl)) ops_mul)) ops_add) (dax_sh (de_bin (pe_op op_mulZ (de_var (pv 3) rfl) (de_ix (de_var (pv 6) rfl) (de_int pe_int))) ops_mul) dax_nil)) rfl) rfl)))) (dss_one (ds_ret (de_call (pe_call (C_ratio.F.mono (by decide)) hr rfl C_ratio.G C_ratio.Kp C_ratio.B .nil pass0 (da_cons (de_var (pv 2) rfl) (da_cons (de_bin (pe_op op_mulZ (de_var (pv 3) rfl) (de_call (pe_call (C_weight_of.F.mono (by decide)) hr rfl C_weight_of.G C_weight_of.Kp C_weight_of.B .nil pass0 (da_cons (de_var (pv 1) rfl) da_nil)) (an_cons an_nil))) ops_mul) da_nil))) (an_cons (an_cons an_nil)))))))
theorem ok_amounts (W : Wd K mg) (F : FnT K "amounts" (top 81) f fd) (G : mg "amounts" = some (.ref f)) {f_average : Addr} {fd_average : FuncData} (C_average : Ca P w K mg base "average" 2 f_average fd_average ["f", "lottery"] (spP K T 2 F_average)) : Ca P w K mg base "amounts" 3 f fd ["board", "f", "x"] (spP K T 3 F_amounts) := by
  have sc := sc_amounts
  refine ⟨fnP (k := 2) F sc rfl rfl fun cdv A outer s H E hr => ⟨[], ?_⟩, F.bindsN fun _ _ _ _ _ _ us hl => match us, hl with | [_, _, _], _ => rfl, G, F.kp⟩
  exact (dss_one (ds_ret (de_frz (dl_cat (pe_op op_cat (dl_lst (da_cons (de_ix (de_att W.cls_Board W.na_Board_pays (de_var (pv 0) rfl)) (de_var (pv 2) rfl)) da_nil)) (dl_lc rfl sc.nd (di_seq (de_ix (de_att W.cls_Board W.na_Board_plays (de_var (pv 0) rfl)) (de_var (pv 2) rfl))) (own := [("lottery", 3)]) (blk_ok (by kernel_rfl)) (fun _ _ _ _ _ => (dg_name (pg_name (i := 3) sc.nd rfl (by first | exact Or.inl rfl | exact Or.inr rfl)) rfl)) (fun _ _ _ _ _ => dts_nil) (fun _ _ _ _ _ => (de_call (pe_call (C_average.F.mono (by decide)) hr rfl C_average.G C_average.Kp C_average.B .nil pass0 (da_cons (de_var (pv 1) rfl) (da_cons (de_var (pv 3) rfl) da_nil))) (an_cons (an_cons an_nil)))) rfl rfl))))))
theorem ok_less (W : Wd K mg) (F : FnT K "less" (top 18) f fd) (G : mg "less" = some (.ref f)) : Ca P w K mg base "less" 1 f fd ["a", "b"] (spP K T 2 F_less) := by
  have sc := sc_less
  refine ⟨fnP (k := 0) F sc rfl rfl fun cdv A outer s H E hr => ⟨[], ?_⟩, F.bindsN fun _ _ _ _ _ _ us hl => match us, hl with | [_, _], _ => rfl, G, F.kp⟩
  exact (dss_one (ds_ret (de_cmp op_lt ops_lt (de_bin (pe_op op_mulZ (de_ix (de_var (pv 0) rfl) (de_int pe_int)) (de_ix (de_var (pv 1) rfl) (de_int pe_int))) ops_mul) (de_bin (pe_op op_mulZ (de_ix (de_var (pv 1) rfl) (de_int pe_int)) (de_ix (de_var (pv 0) rfl) (de_int pe_int))) ops_mul))))
theorem ok_better_choice (W : Wd K mg) (F : FnT K "better_choice" (top 82) f fd) (G : mg "better_choice" = some (.ref f)) {f_amounts : Addr} {fd_amounts : FuncData} (C_amounts : Ca P w K mg base "amounts" 3 f_amounts fd_amounts ["board", "f", "x"] (spP K T 3 F_amounts)) {f_less : Addr} {fd_less : FuncData} (C_less : Ca P w K mg base "less" 1 f_less fd_less ["a", "b"] (spP K T 2 F_less)) : Ca P w K mg base "better_choice" 4 f fd ["board", "f", "x", "choice"] (spP K T 4 F_better_choice) := by
  have sc := sc_better_choice
  refine ⟨fnP (k := 3) F sc rfl rfl fun cdv A outer s H E hr => ⟨[], ?_⟩, F.bindsN fun _ _ _ _ _ _ us hl => match us, hl with | [_, _, _, _], _ => rfl, G, F.kp⟩
  exact (dss_cons (ds_set (ps_set (i := 4) sc.nd rfl (Or.inl rfl) (de_ix (de_var (pv 1) rfl) (de_var (pv 2) rfl))) rfl) (dss_cons (ds_for PassesOwn.never rfl (di_enum rfl W.m_enumerate (de_call (pe_call (C_amounts.F.mono (by decide)) hr rfl C_amounts.G C_amounts.Kp C_amounts.B .nil pass0 (da_cons (de_var (pv 0) rfl) (da_cons (de_var (pv 1) rfl) (da_cons (de_var (pv 2) rfl) da_nil)))) (an_cons (an_cons (an_cons an_nil))))) (dg_tup rfl (dgs_cons (dg_name (pg_name (i := 5) sc.nd rfl (Or.inl rfl)) rfl) (dgs_cons (dg_name (pg_name (i := 6) sc.nd rfl (Or.inl rfl)) rfl) dgs_nil))) (dss_one (ds_if (dt_tr (de_call (pe_call (C_less.F.mono (by decide)) hr rfl C_less.G C_less.Kp C_less.B .nil pass0 (da_cons (de_var (pv 4) rfl) (da_cons (de_var (pv 6) rfl) da_nil))) (an_cons (an_cons an_nil)))) (dss_one (ds_par2 (fl := [false, false]) (ps_par (i := 3) (j := 4) rfl sc.nd rfl rfl (by decide) rfl rfl (dax_sh (de_bin (pe_op op_addA (de_var (pv 5) rfl) (de_int (pe_glob rfl W.c_STOP.choose_spec ⟨_, rfl⟩))) ops_add) (dax_sh (de_var (pv 6) rfl) dax_nil)) rfl) rfl)) dss_nil))) (dss_one (ds_ret (de_var (pv 3) rfl)))))
theorem ok_improved_for (W : Wd K mg) (F : FnT K "improved_for" (top 83) f fd) (G : mg "improved_for" = some (.ref f)) {f_better_choice : Addr} {fd_better_choice : FuncData} (C_better_choice : Ca P w K mg base "better_choice" 4 f_better_choice fd_better_choice ["board", "f", "x", "choice"] (spP K T 4 F_better_choice)) : Ca P w K mg base "improved_for" 5 f fd ["board", "way", "f"] (spP K T 3 F_improved_for) := by
  have sc := sc_improved_for
  refine ⟨fnP (k := 4) F sc rfl rfl fun cdv A outer s H E hr => ⟨[], ?_⟩, F.bindsN fun _ _ _ _ _ _ us hl => match us, hl with | [_, _, _], _ => rfl, G, F.kp⟩
  exact (dss_one (ds_ret (de_ca (pe_callTy call_tuple_of rfl W.m_tuple (by decide +kernel) (da_cons (de_frz (dl_lc rfl sc.nd (di_enum rfl W.m_enumerate (de_var (pv 1) rfl)) (own := [("x", 3), ("choice", 4)]) (blk_ok (by kernel_rfl)) (fun _ _ _ _ _ => (dg_tup rfl (dgs_cons (dg_name (pg_name (i := 3) sc.nd rfl (by first | exact Or.inl rfl | exact Or.inr rfl)) rfl) (dgs_cons (dg_name (pg_name (i := 4) sc.nd rfl (by first | exact Or.inl rfl | exact Or.inr rfl)) rfl) dgs_nil)))) (fun _ _ _ _ _ => dts_nil) (fun _ _ _ _ _ => (de_call (pe_call (C_better_choice.F.mono (by decide)) hr rfl C_better_choice.G C_better_choice.Kp C_better_choice.B .nil pass0 (da_cons (de_var (pv 0) rfl) (da_cons (de_var (pv 2) rfl) (da_cons (de_var (pv 3) rfl) (da_cons (de_var (pv 4) rfl) da_nil))))) (an_cons (an_cons (an_cons (an_cons an_nil)))))) rfl rfl)) da_nil)) cas_tuple)))
theorem ok_is_choice (W : Wd K mg) (F : FnT K "is_choice" (top 69) f fd) (G : mg "is_choice" = some (.ref f)) : Ca P w K mg base "is_choice" 1 f fd ["board", "x", "choice"] (spP K T 3 F_is_choice) := by
  have sc := sc_is_choice
  refine ⟨fnP (k := 0) F sc rfl rfl fun cdv A outer s H E hr => ⟨[], ?_⟩, F.bindsN fun _ _ _ _ _ _ us hl => match us, hl with | [_, _, _], _ => rfl, G, F.kp⟩
  exact (dss_one (ds_ret (de_and (de_isi isi_int (pe_callB call_isi rfl W.m_isinstance (by decide +kernel) (pa_cons (de_var (pv 2) rfl) (pa_cons (pe_bltn rfl W.m_int (by decide +kernel) rfl) pa_nil)))) (de_one (de_chain op_le ops_le op_lt ops_lt (de_int (pe_glob rfl W.c_STOP.choose_spec ⟨_, rfl⟩)) (de_var (pv 2) rfl) (de_ca (pe_callB call_len rfl W.m_len boot_len (da_cons (de_ix (de_att W.cls_Board W.na_Board_plays (de_var (pv 0) rfl)) (de_var (pv 1) rfl)) da_nil)) cas_len))))))
theorem ok_want_way (W : Wd K mg) (F : FnT K "want_way" (top 70) f fd) (G : mg "want_way" = some (.ref f)) {f_is_choice : Addr} {fd_is_choice : FuncData} (C_is_choice : Ca P w K mg base "is_choice" 1 f_is_choice fd_is_choice ["board", "x", "choice"] (spP K T 3 F_is_choice)) : Ca P w K mg base "want_way" 2 f fd ["board", "way"] (spP K T 2 F_want_way) := by
  have sc := sc_want_way
  refine ⟨fnP (k := 1) F sc rfl rfl fun cdv A outer s H E hr => ⟨[], ?_⟩, F.bindsN fun _ _ _ _ _ _ us hl => match us, hl with | [_, _], _ => rfl, G, F.kp⟩
  exact (dss_cons (ds_if (dt_cmpR (op_neD hr.units) ops_ne (de_ca (pe_callB call_len rfl W.m_len boot_len (da_cons (de_var (pv 1) rfl) da_nil)) cas_len) (de_att W.cls_Board W.na_Board_size (de_var (pv 0) rfl))) (dss_one ds_never) dss_nil) (dss_one (ds_for PassesOwn.never rfl (di_enum rfl W.m_enumerate (de_var (pv 1) rfl)) (dg_tup rfl (dgs_cons (dg_name (pg_name (i := 2) sc.nd rfl (Or.inl rfl)) rfl) (dgs_cons (dg_name (pg_name (i := 3) sc.nd rfl (Or.inl rfl)) rfl) dgs_nil))) (dss_one (ds_if (dt_not (dt_tr (de_call (pe_call (C_is_choice.F.mono (by decide)) hr rfl C_is_choice.G C_is_choice.Kp C_is_choice.B .nil pass0 (da_cons (de_var (pv 0) rfl) (da_cons (de_var (pv 2) rfl) (da_cons (de_var (pv 3) rfl) da_nil)))) (an_cons (an_cons (an_cons an_nil)))))) (dss_one ds_never) dss_nil)))))
theorem ok_led_to (W : Wd K mg) (F : FnT K "led_to" (top 71) f fd) (G : mg "led_to" = some (.ref f)) : Ca P w K mg base "led_to" 1 f fd ["board", "x", "choice"] (spP K T 3 F_led_to) := by
  have sc := sc_led_to
  refine ⟨fnP (k := 0) F sc rfl rfl fun cdv A outer s H E hr => ⟨[], ?_⟩, F.bindsN fun _ _ _ _ _ _ us hl => match us, hl with | [_, _, _], _ => rfl, G, F.kp⟩
  exact (dss_one (ds_ret (de_if (dt_cmpR (op_eqD hr.units) ops_eq (de_var (pv 2) rfl) (de_int (pe_glob rfl W.c_STOP.choose_spec ⟨_, rfl⟩))) (de_tup da_nil) (de_ca (pe_callTy call_tuple_of rfl W.m_tuple (by decide +kernel) (da_cons (de_frz (dl_lc rfl sc.nd (di_seq (de_ix (de_ix (de_att W.cls_Board W.na_Board_plays (de_var (pv 0) rfl)) (de_var (pv 1) rfl)) (de_var (pv 2) rfl))) (own := [("y", 3), ("weight", 4)]) (blk_ok (by kernel_rfl)) (fun _ _ _ _ _ => (dg_tup rfl (dgs_cons (dg_name (pg_name (i := 3) sc.nd rfl (by first | exact Or.inl rfl | exact Or.inr rfl)) rfl) (dgs_cons (dg_name (pg_name (i := 4) sc.nd rfl (by first | exact Or.inl rfl | exact Or.inr rfl)) rfl) dgs_nil)))) (fun _ _ _ _ _ => dts_nil) (fun _ _ _ _ _ => (de_var (pv 3) rfl)) rfl rfl)) da_nil)) cas_tuple))))
theorem ok_arrows_back (W : Wd K mg) (F : FnT K "arrows_back" (top 65) f fd) (G : mg "arrows_back" = some (.ref f)) : Ca P w K mg base "arrows_back" 1 f fd ["arrows"] (spP K T 1 F_arrows_back) := by
  have sc := sc_arrows_back
  refine ⟨fnP (k := 0) F sc rfl rfl fun cdv A outer s H E hr => ⟨[], ?_⟩, F.bindsN fun _ _ _ _ _ _ us hl => match us, hl with | [_], _ => rfl, G, F.kp⟩
  exact (dss_nst (ps_setLc (i := 1) rfl sc.nd rfl rfl rfl (di_seq (de_var (pv 0) rfl)) (own := [("row", 2)]) (blk_ok (by kernel_rfl)) (fun _ _ _ _ _ => (dg_name (pg_name (i := 2) sc.nd rfl (by first | exact Or.inl rfl | exact Or.inr rfl)) rfl)) (fun _ _ _ _ _ => dts_nil) (fun _ _ _ _ _ => pe_lst pa_nil)) (dn_for PassesOwn.never rfl (di_enum rfl W.m_enumerate (de_var (pv 0) rfl)) (dg_tup rfl (dgs_cons (dg_name (pg_name (i := 3) sc.nd rfl (Or.inl rfl)) rfl) (dgs_cons (dg_name (pg_name (i := 2) sc.nd rfl (Or.inl rfl)) rfl) dgs_nil))) (dns_one (dn_for PassesOwn.never rfl (di_seq (de_var (pv 2) rfl)) (dg_name (pg_name (i := 4) sc.nd rfl (Or.inl rfl)) rfl) (dns_one (dn_app (ps_expr (pe_bm PySem.F.plainAttrs_list PySem.F.slot_list_append PySem.F.type_list_append mt_append (pe_ix ix_seq (pv 1) (de_var (pv 4) rfl) (by exact fun _ _ => rfl)) (pa_cons (de_var (pv 3) rfl) pa_nil))))) rfl)) rfl) (ps_ret (pv 1)) rfl)
theorem ok_comes (W : Wd K mg) (F : FnT K "comes" (top 66) f fd) (G : mg "comes" = some (.ref f)) {f_arrows_back : Addr} {fd_arrows_back : FuncData} (C_arrows_back : Ca P w K mg base "arrows_back" 1 f_arrows_back fd_arrows_back ["arrows"] (spP K T 1 F_arrows_back)) : Ca P w K mg base "comes" 2 f fd ["arrows", "targets"] (spP K T 2 F_comes) := by
  have sc := sc_comes
  refine ⟨fnP (k := 1) F sc rfl rfl fun cdv A outer s H E hr => ⟨[], ?_⟩, F.bindsN fun _ _ _ _ _ _ us hl => match us, hl with | [_, _], _ => rfl, G, F.kp⟩
  exact (dss_cons (ds_par2 (fl := [false, true]) (ps_par (i := 2) (j := 3) rfl sc.nd rfl rfl (by decide) rfl rfl (dax_sh (de_call (pe_call (C_arrows_back.F.mono (by decide)) hr rfl C_arrows_back.G C_arrows_back.Kp C_arrows_back.B .nil pass0 (da_cons (de_var (pv 0) rfl) da_nil)) (an_cons an_nil)) (dax_ow (dl_lc rfl sc.nd (di_seq (de_var (pv 0) rfl)) (own := [("row", 4)]) (blk_ok (by kernel_rfl)) (fun _ _ _ _ _ => (dg_name (pg_name (i := 4) sc.nd rfl (by first | exact Or.inl rfl | exact Or.inr rfl)) rfl)) (fun _ _ _ _ _ => dts_nil) (fun _ _ _ _ _ => (de_bl pe_bl)) rfl rfl) dax_nil)) rfl) rfl) (dss_cons (ds_own (ps_set (i := 5) sc.nd rfl (Or.inl rfl) (dl_ca (pe_callTy call_list_of rfl W.m_list (by decide +kernel) (da_cons (de_var (pv 1) rfl) da_nil)) cal_list)) rfl) (dss_cons (ds_while PassesOwn.never (dt_bor (dt_cmpR (op_neD hr.units) ops_ne (de_var (pv 5) rfl) (de_frz (dl_lst da_nil)))) (dss_cons (ds_set (ps_set (i := 6) sc.nd rfl (Or.inl rfl) (de_pop (pe_bm0 PySem.F.plainAttrs_list PySem.F.slot_list_pop PySem.F.type_list_pop mt_pop (pv 5)) rfl)) rfl) (dss_one (ds_if (dt_not (dt_tr (de_oix (pv 3) (de_var (pv 6) rfl) rfl))) (dss_cons (ds_put (ps_asg (de_bl pe_bl) (pg_sub (pv 3) (de_var (pv 6) rfl) set_list)) rfl) (dss_one (ds_ext (ps_expr (pe_bm PySem.F.plainAttrs_list PySem.F.slot_list_extend PySem.F.type_list_extend mt_extS (pv 5) (pa_cons (de_ix (de_var (pv 2) rfl) (de_var (pv 6) rfl)) pa_nil))) rfl))) dss_nil)))) (dss_one (ds_frz 5 rfl (.inl rfl) (ds_frz 3 rfl (.inl rfl) (ds_ret (de_ca (pe_callTy call_tuple_of rfl W.m_tuple (by decide +kernel) (da_cons (de_frz (dl_lc rfl sc.nd (di_enum rfl W.m_enumerate (de_var (pv 3) rfl)) (own := [("x", 7), ("is_reached", 8)]) (blk_ok (by kernel_rfl)) (fun _ _ _ _ _ => (dg_tup rfl (dgs_cons (dg_name (pg_name (i := 7) sc.nd rfl (by first | exact Or.inl rfl | exact Or.inr rfl)) rfl) (dgs_cons (dg_name (pg_name (i := 8) sc.nd rfl (by first | exact Or.inl rfl | exact Or.inr rfl)) rfl) dgs_nil)))) (fun _ _ _ _ _ => (dts_one (dt_tr (de_var (pv 8) rfl)))) (fun _ _ _ _ _ => (de_var (pv 7) rfl)) rfl rfl)) da_nil)) cas_tuple))))))))
end
end Z
/-! Walks. -/
namespace Z
open PySem PySem.Spec PyProof.Rows L2 RZ GxR
section
variable {P : Program} {w : World} {K : PySem.W.Frag} {T : List Addr} {mg : PySem.Str → Option Value} {base : Heap} {f : Addr} {fd : FuncData}
theorem ok_live_places (W : Wd K mg) (F : FnT K "live_places" (top 72) f fd) (G : mg "live_places" = some (.ref f)) {f_led_to : Addr} {fd_led_to : FuncData} (C_led_to : Ca P w K mg base "led_to" 1 f_led_to fd_led_to ["board", "x", "choice"] (spP K T 3 F_led_to)) {f_comes : Addr} {fd_comes : FuncData} (C_comes : Ca P w K mg base "comes" 2 f_comes fd_comes ["arrows", "targets"] (spP K T 2 F_comes)) : Ca P w K mg base "live_places" 3 f fd ["board", "way"] (spP K T 2 F_live_places) := by
  have sc := sc_live_places
  refine ⟨fnP (k := 2) F sc rfl rfl fun cdv A outer s H E hr => ⟨[], ?_⟩, F.bindsN fun _ _ _ _ _ _ us hl => match us, hl with | [_, _], _ => rfl, G, F.kp⟩
  exact (dss_cons (ds_set (ps_set (i := 2) sc.nd rfl (Or.inl rfl) (de_ca (pe_callTy call_tuple_of rfl W.m_tuple (by decide +kernel) (da_cons (de_frz (dl_lc rfl sc.nd (di_enum rfl W.m_enumerate (de_var (pv 1) rfl)) (own := [("x", 3), ("choice", 4)]) (blk_ok (by kernel_rfl)) (fun _ _ _ _ _ => (dg_tup rfl (dgs_cons (dg_name (pg_name (i := 3) sc.nd rfl (by first | exact Or.inl rfl | exact Or.inr rfl)) rfl) (dgs_cons (dg_name (pg_name (i := 4) sc.nd rfl (by first | exact Or.inl rfl | exact Or.inr rfl)) rfl) dgs_nil)))) (fun _ _ _ _ _ => dts_nil) (fun _ _ _ _ _ => (de_call (pe_call (C_led_to.F.mono (by decide)) hr rfl C_led_to.G C_led_to.Kp C_led_to.B .nil pass0 (da_cons (de_var (pv 0) rfl) (da_cons (de_var (pv 3) rfl) (da_cons (de_var (pv 4) rfl) da_nil)))) (an_cons (an_cons (an_cons an_nil))))) rfl rfl)) da_nil)) cas_tuple)) rfl) (dss_one (ds_ret (de_call (pe_call (C_comes.F.mono (by decide)) hr rfl C_comes.G C_comes.Kp C_comes.B .nil pass0 (da_cons (de_var (pv 2) rfl) (da_cons (de_ca (pe_callTy call_tuple_of rfl W.m_tuple (by decide +kernel) (da_cons (de_frz (dl_lc rfl sc.nd (di_enum rfl W.m_enumerate (de_var (pv 1) rfl)) (own := [("x", 3), ("choice", 4)]) (blk_ok (by kernel_rfl)) (fun _ _ _ _ _ => (dg_tup rfl (dgs_cons (dg_name (pg_name (i := 3) sc.nd rfl (by first | exact Or.inl rfl | exact Or.inr rfl)) rfl) (dgs_cons (dg_name (pg_name (i := 4) sc.nd rfl (by first | exact Or.inl rfl | exact Or.inr rfl)) rfl) dgs_nil)))) (fun _ _ _ _ _ => (dts_one (dt_cmpR (op_eqD hr.units) ops_eq (de_var (pv 4) rfl) (de_int (pe_glob rfl W.c_STOP.choose_spec ⟨_, rfl⟩))))) (fun _ _ _ _ _ => (de_var (pv 3) rfl)) rfl rfl)) da_nil)) cas_tuple) da_nil))) (an_cons (an_cons an_nil))))))
theorem ok_inner_places (W : Wd K mg) (F : FnT K "inner_places" (top 73) f fd) (G : mg "inner_places" = some (.ref f)) {f_live_places : Addr} {fd_live_places : FuncData} (C_live_places : Ca P w K mg base "live_places" 3 f_live_places fd_live_places ["board", "way"] (spP K T 2 F_live_places)) : Ca P w K mg base "inner_places" 4 f fd ["board", "way"] (spP K T 2 F_inner_places) := by
  have sc := sc_inner_places
  refine ⟨fnP (k := 3) F sc rfl rfl fun cdv A outer s H E hr => ⟨[], ?_⟩, F.bindsN fun _ _ _ _ _ _ us hl => match us, hl with | [_, _], _ => rfl, G, F.kp⟩
  exact (dss_one (ds_ret (de_ca (pe_callTy call_tuple_of rfl W.m_tuple (by decide +kernel) (da_cons (de_frz (dl_lc rfl sc.nd (di_seq (de_call (pe_call (C_live_places.F.mono (by decide)) hr rfl C_live_places.G C_live_places.Kp C_live_places.B .nil pass0 (da_cons (de_var (pv 0) rfl) (da_cons (de_var (pv 1) rfl) da_nil))) (an_cons (an_cons an_nil)))) (own := [("x", 2)]) (blk_ok (by kernel_rfl)) (fun _ _ _ _ _ => (dg_name (pg_name (i := 2) sc.nd rfl (by first | exact Or.inl rfl | exact Or.inr rfl)) rfl)) (fun _ _ _ _ _ => (dts_one (dt_cmpR (op_neD hr.units) ops_ne (de_ix (de_var (pv 1) rfl) (de_var (pv 2) rfl)) (de_int (pe_glob rfl W.c_STOP.choose_spec ⟨_, rfl⟩))))) (fun _ _ _ _ _ => (de_var (pv 2) rfl)) rfl rfl)) da_nil)) cas_tuple)))
theorem ok_plus (W : Wd K mg) (F : FnT K "plus" (top 16) f fd) (G : mg "plus" = some (.ref f)) {f_ratio : Addr} {fd_ratio : FuncData} (C_ratio : Ca P w K mg base "ratio" 1 f_ratio fd_ratio ["n", "d"] (spP K T 2 F_ratio)) : Ca P w K mg base "plus" 2 f fd ["a", "b"] (spP K T 2 F_plus) := by
  have sc := sc_plus
  refine ⟨fnP (k := 1) F sc rfl rfl fun cdv A outer s H E hr => ⟨[], ?_⟩, F.bindsN fun _ _ _ _ _ _ us hl => match us, hl with | [_, _], _ => rfl, G, F.kp⟩
  exact (dss_one (ds_ret (de_call (pe_call (C_ratio.F.mono (by decide)) hr rfl C_ratio.G C_ratio.Kp C_ratio.B .nil pass0 (da_cons (de_bin (pe_op op_addA (de_bin (pe_op op_mulZ (de_ix (de_var (pv 0) rfl) (de_int pe_int)) (de_ix (de_var (pv 1) rfl) (de_int pe_int))) ops_mul) (de_bin (pe_op op_mulZ (de_ix (de_var (pv 1) rfl) (de_int pe_int)) (de_ix (de_var (pv 0) rfl) (de_int pe_int))) ops_mul)) ops_add) (da_cons (de_bin (pe_op op_mulZ (de_ix (de_var (pv 0) rfl) (de_int pe_int)) (de_ix (de_var (pv 1) rfl) (de_int pe_int))) ops_mul) da_nil))) (an_cons (an_cons an_nil)))))
theorem ok_times (W : Wd K mg) (F : FnT K "times" (top 17) f fd) (G : mg "times" = some (.ref f)) {f_ratio : Addr} {fd_ratio : FuncData} (C_ratio : Ca P w K mg base "ratio" 1 f_ratio fd_ratio ["n", "d"] (spP K T 2 F_ratio)) : Ca P w K mg base "times" 2 f fd ["a", "b"] (spP K T 2 F_times) := by
  have sc := sc_times
  refine ⟨fnP (k := 1) F sc rfl rfl fun cdv A outer s H E hr => ⟨[], ?_⟩, F.bindsN fun _ _ _ _ _ _ us hl => match us, hl with | [_, _], _ => rfl, G, F.kp⟩
  exact (dss_one (ds_ret (de_call (pe_call (C_ratio.F.mono (by decide)) hr rfl C_ratio.G C_ratio.Kp C_ratio.B .nil pass0 (da_cons (de_bin (pe_op op_mulZ (de_ix (de_var (pv 0) rfl) (de_int pe_int)) (de_ix (de_var (pv 1) rfl) (de_int pe_int))) ops_mul) (da_cons (de_bin (pe_op op_mulZ (de_ix (de_var (pv 0) rfl) (de_int pe_int)) (de_ix (de_var (pv 1) rfl) (de_int pe_int))) ops_mul) da_nil))) (an_cons (an_cons an_nil)))))
theorem ok_stopping_sum (W : Wd K mg) (F : FnT K "stopping_sum" (top 78) f fd) (G : mg "stopping_sum" = some (.ref f)) {f_times : Addr} {fd_times : FuncData} (C_times : Ca P w K mg base "times" 2 f_times fd_times ["a", "b"] (spP K T 2 F_times)) {f_plus : Addr} {fd_plus : FuncData} (C_plus : Ca P w K mg base "plus" 2 f_plus fd_plus ["a", "b"] (spP K T 2 F_plus)) : Ca P w K mg base "stopping_sum" 3 f fd ["board", "way", "x"] (spP K T 3 F_stopping_sum) := by
  have sc := sc_stopping_sum
  refine ⟨fnP (k := 2) F sc rfl rfl fun cdv A outer s H E hr => ⟨[], ?_⟩, F.bindsN fun _ _ _ _ _ _ us hl => match us, hl with | [_, _, _], _ => rfl, G, F.kp⟩
  exact (dss_cons (ds_set (ps_set (i := 3) sc.nd rfl (Or.inl rfl) (de_tup (da_cons (de_int pe_int) (da_cons (de_int pe_int) da_nil)))) rfl) (dss_cons (ds_for PassesOwn.never rfl (di_seq (de_ix (de_ix (de_att W.cls_Board W.na_Board_plays (de_var (pv 0) rfl)) (de_var (pv 2) rfl)) (de_ix (de_var (pv 1) rfl) (de_var (pv 2) rfl)))) (dg_tup rfl (dgs_cons (dg_name (pg_name (i := 4) sc.nd rfl (Or.inl rfl)) rfl) (dgs_cons (dg_name (pg_name (i := 5) sc.nd rfl (Or.inl rfl)) rfl) dgs_nil))) (dss_one (ds_if (dt_cmpR (op_eqD hr.units) ops_eq (de_ix (de_var (pv 1) rfl) (de_var (pv 4) rfl)) (de_int (pe_glob rfl W.c_STOP.choose_spec ⟨_, rfl⟩))) (dss_one (ds_set (ps_set (i := 3) sc.nd rfl (Or.inl rfl) (de_call (pe_call (C_plus.F.mono (by decide)) hr rfl C_plus.G C_plus.Kp C_plus.B .nil pass0 (da_cons (de_var (pv 3) rfl) (da_cons (de_call (pe_call (C_times.F.mono (by decide)) hr rfl C_times.G C_times.Kp C_times.B .nil pass0 (da_cons (de_tup (da_cons (de_var (pv 5) rfl) (da_cons (de_int pe_int) da_nil))) (da_cons (de_ix (de_att W.cls_Board W.na_Board_pays (de_var (pv 0) rfl)) (de_var (pv 4) rfl)) da_nil))) (an_cons (an_cons an_nil))) da_nil))) (an_cons (an_cons an_nil)))) rfl)) dss_nil))) (dss_one (ds_ret (de_var (pv 3) rfl)))))
theorem ok_whole_row (W : Wd K mg) (F : FnT K "whole_row" (top 60) f fd) (G : mg "whole_row" = some (.ref f)) : Ca P w K mg base "whole_row" 1 f fd ["row"] (spP K T 1 F_whole_row) := by
  have sc := sc_whole_row
  refine ⟨fnP (k := 0) F sc rfl rfl fun cdv A outer s H E hr => ⟨[], ?_⟩, F.bindsN fun _ _ _ _ _ _ us hl => match us, hl with | [_], _ => rfl, G, F.kp⟩
  exact (dss_cons (ds_set (ps_set (i := 1) sc.nd rfl (Or.inr rfl) (de_int pe_int)) rfl) (dss_cons (ds_for PassesOwn.never rfl (di_seq (de_var (pv 0) rfl)) (dg_tup rfl (dgs_cons (dg_name (pg_name (i := 2) sc.nd rfl (Or.inl rfl)) rfl) (dgs_cons (dg_name (pg_name (i := 3) sc.nd rfl (Or.inl rfl)) rfl) dgs_nil))) (dss_one (ds_set (ps_set (i := 1) sc.nd rfl (Or.inr rfl) (de_ca (pe_callBfun cr_lcm rfl W.g_lcm (da_cons (de_var (pv 1) rfl) (da_cons (de_var (pv 3) rfl) da_nil))) cas_lcm)) rfl))) (dss_one (ds_ret (de_frz (dl_lc rfl sc.nd (di_seq (de_var (pv 0) rfl)) (own := [("n", 2), ("d", 3)]) (blk_ok (by kernel_rfl)) (fun _ _ _ _ _ => (dg_tup rfl (dgs_cons (dg_name (pg_name (i := 2) sc.nd rfl (by first | exact Or.inl rfl | exact Or.inr rfl)) rfl) (dgs_cons (dg_name (pg_name (i := 3) sc.nd rfl (by first | exact Or.inl rfl | exact Or.inr rfl)) rfl) dgs_nil)))) (fun _ _ _ _ _ => dts_nil) (fun _ _ _ _ _ => (de_bin (pe_op op_mulZ (de_var (pv 2) rfl) (de_bin (pe_op op_fdivZ (de_var (pv 1) rfl) (de_var (pv 3) rfl)) ops_fdiv)) ops_mul)) rfl rfl))))))
theorem ok_pivot_of (W : Wd K mg) (F : FnT K "pivot_of" (top 61) f fd) (G : mg "pivot_of" = some (.ref f)) : Ca P w K mg base "pivot_of" 1 f fd ["table", "at"] (spP K T 2 F_pivot_of) := by
  have sc := sc_pivot_of
  refine ⟨fnP (k := 0) F sc rfl rfl fun cdv A outer s H E hr => ⟨[], ?_⟩, F.bindsN fun _ _ _ _ _ _ us hl => match us, hl with | [_, _], _ => rfl, G, F.kp⟩
  exact (dss_cons (ds_for PassesOwn.never rfl (di_rng2 (pi_range2 rfl W.m_range (da_cons (de_var (pv 1) rfl) (da_cons (de_ca (pe_callB call_len rfl W.m_len boot_len (da_cons (de_var (pv 0) rfl) da_nil)) cas_len) da_nil))) (an_cons (an_cons an_nil))) (dg_name (pg_name (i := 2) sc.nd rfl (Or.inl rfl)) rfl) (dss_one (ds_if (dt_cmpR (op_neD hr.units) ops_ne (de_ix (de_ix (de_var (pv 0) rfl) (de_var (pv 2) rfl)) (de_var (pv 1) rfl)) (de_int pe_int)) (dss_one (ds_ret (de_var (pv 2) rfl))) dss_nil))) (dss_one (ds_ret (de_non pe_non))))
theorem ok_cleared (W : Wd K mg) (F : FnT K "cleared" (top 62) f fd) (G : mg "cleared" = some (.ref f)) : Ca P w K mg base "cleared" 1 f fd ["table", "at", "before"] (spF K T 3 F_cleared) := by
  have sc := sc_cleared
  refine ⟨fnF (k := 0) F sc rfl rfl fun cdv A outer s H E hr => ⟨[], ?_⟩, F.bindsN fun _ _ _ _ _ _ us hl => match us, hl with | [_, _, _], _ => rfl, G, F.kp⟩
  exact (dss_cons (ds_parU (fl := [false, true]) (is := [3, 4]) (ps_asg (pe_tup (dax_sh (de_ix (de_var (pv 0) rfl) (de_var (pv 1) rfl)) (dax_ow (dl_lst da_nil) dax_nil))) (pg_tup rfl (pgs_cons (pg_name (i := 3) sc.nd rfl (Or.inr rfl)) (pgs_cons (pg_name (i := 4) sc.nd rfl (Or.inl rfl)) pgs_nil)))) rfl) (dss_cons (ds_for PassesOwn.never rfl (di_enum rfl W.m_enumerate (de_var (pv 0) rfl)) (dg_tup rfl (dgs_cons (dg_name (pg_name (i := 5) sc.nd rfl (Or.inl rfl)) rfl) (dgs_cons (dg_name (pg_name (i := 6) sc.nd rfl (Or.inl rfl)) rfl) dgs_nil))) (dss_one (ds_if (dt_cmpR (op_eqD hr.units) ops_eq (de_var (pv 5) rfl) (de_var (pv 1) rfl)) (dss_one (ds_app (ps_expr (pe_bm PySem.F.plainAttrs_list PySem.F.slot_list_append PySem.F.type_list_append mt_append (pv 4) (pa_cons (de_var (pv 6) rfl) pa_nil))) rfl)) (dss_cons (ds_set (ps_set (i := 7) sc.nd rfl (Or.inr rfl) (de_ix (de_var (pv 6) rfl) (de_var (pv 1) rfl))) rfl) (dss_one (ds_app (ps_expr (pe_bm PySem.F.plainAttrs_list PySem.F.slot_list_append PySem.F.type_list_append mt_append (pv 4) (pa_cons (de_frz (dl_lc rfl sc.nd (di_zip (pi_zipA rfl W.m_zip (da_cons (de_var (pv 6) rfl) (da_cons (de_var (pv 3) rfl) da_nil)))) (own := [("a", 8), ("b", 9)]) (blk_ok (by kernel_rfl)) (fun _ _ _ _ _ => (dg_tup rfl (dgs_cons (dg_name (pg_name (i := 8) sc.nd rfl (by first | exact Or.inl rfl | exact Or.inr rfl)) rfl) (dgs_cons (dg_name (pg_name (i := 9) sc.nd rfl (by first | exact Or.inl rfl | exact Or.inr rfl)) rfl) dgs_nil)))) (fun _ _ _ _ _ => dts_nil) (fun _ _ _ _ _ => (de_bin (pe_op op_fdivZ (de_bin (pe_op op_sub (de_bin (pe_op op_mulZ (de_ix (de_var (pv 3) rfl) (de_var (pv 1) rfl)) (de_var (pv 8) rfl)) ops_mul) (de_bin (pe_op op_mulZ (de_var (pv 7) rfl) (de_var (pv 9) rfl)) ops_mul)) ops_sub) (de_var (pv 2) rfl)) ops_fdiv)) rfl rfl)) pa_nil))) rfl)))))) (dss_one (ds_retO (pv 4) rfl (.inl rfl)))))
theorem ok_solved (W : Wd K mg) (F : FnT K "solved" (top 63) f fd) (G : mg "solved" = some (.ref f)) {PT : Addr} (TB : TabB base mg (codeAt K f) PT) (hPT : PT ∈ T) {f_whole_row : Addr} {fd_whole_row : FuncData} (C_whole_row : Ca P w K mg base "whole_row" 1 f_whole_row fd_whole_row ["row"] (spP K T 1 F_whole_row)) {f_pivot_of : Addr} {fd_pivot_of : FuncData} (C_pivot_of : Ca P w K mg base "pivot_of" 1 f_pivot_of fd_pivot_of ["table", "at"] (spP K T 2 F_pivot_of)) {f_cleared : Addr} {fd_cleared : FuncData} (C_cleared : Ca P w K mg base "cleared" 1 f_cleared fd_cleared ["table", "at", "before"] (spF K T 3 F_cleared)) {f_ratio : Addr} {fd_ratio : FuncData} (C_ratio : Ca P w K mg base "ratio" 1 f_ratio fd_ratio ["n", "d"] (spP K T 2 F_ratio)) : Ca P w K mg base "solved" 2 f fd ["rows", "rights"] (spP K T 2 F_solved) := by
  have sc := sc_solved
  refine ⟨fnPC (k := 1) F sc rfl rfl fun A outer s H E hr => ⟨[], ?_⟩, F.bindsN fun _ _ _ _ _ _ us hl => match us, hl with | [_, _], _ => rfl, G, F.kp⟩
  exact (dss_cons (ds_set (ps_set (i := 2) sc.nd rfl (Or.inr rfl) (de_ca (pe_callB call_len rfl W.m_len boot_len (da_cons (de_var (pv 1) rfl) da_nil)) cas_len)) rfl) (dss_cons (ds_if (PW.pt (dw_or (dt_cmpR op_gt ops_gt (de_var (pv 2) rfl) (de_int (pe_glob rfl W.c_MOST_UNKNOWNS.choose_spec ⟨_, rfl⟩))) (dw_or (dt_cmpR (op_neD hr.units) ops_ne (de_ca (pe_callB call_len rfl W.m_len boot_len (da_cons (de_var (pv 0) rfl) da_nil)) cas_len) (de_var (pv 2) rfl)) (dw_oneO (dt_tr (de_anyLen (pe_anyG hr rfl W.m_any TB rfl (x := "row") ⟨rfl, rfl, by decide +kernel, rfl, rfl, gs_free1 (y := "size") (by kernel_rfl) ⟨_, rfl⟩⟩ (de_var (pv 0) rfl) (gen_len (j := 2) TB ⟨rfl, rfl, by decide +kernel, rfl, rfl, gs_free1 (y := "size") (by kernel_rfl) ⟨_, rfl⟩⟩ rfl W.m_len rfl rfl rfl rfl)) hPT rfl)))))) (dss_one ds_never) dss_nil) (dss_cons (ds_parU (fl := [true, false]) (is := [3, 4]) (ps_asg (pe_tup (dax_ow (dl_lc rfl sc.nd (di_zip (pi_zipA rfl W.m_zip (da_cons (de_var (pv 0) rfl) (da_cons (de_var (pv 1) rfl) da_nil)))) (own := [("row", 5), ("right", 6)]) (blk_ok (by kernel_rfl)) (fun _ _ _ _ _ => (dg_tup rfl (dgs_cons (dg_name (pg_name (i := 5) sc.nd rfl (by first | exact Or.inl rfl | exact Or.inr rfl)) rfl) (dgs_cons (dg_name (pg_name (i := 6) sc.nd rfl (by first | exact Or.inl rfl | exact Or.inr rfl)) rfl) dgs_nil)))) (fun _ _ _ _ _ => dts_nil) (fun _ _ _ _ _ => (de_call (pe_call (C_whole_row.F.mono (by decide)) hr rfl C_whole_row.G C_whole_row.Kp C_whole_row.B .nil pass0 (da_cons (de_bin (pe_op op_addA (de_var (pv 5) rfl) (de_tup (da_cons (de_var (pv 6) rfl) da_nil))) ops_add) da_nil)) (an_cons an_nil))) rfl rfl) (dax_sh (de_int pe_int) dax_nil))) (pg_tup rfl (pgs_cons (pg_name (i := 3) sc.nd rfl (Or.inl rfl)) (pgs_cons (pg_name (i := 4) sc.nd rfl (Or.inr rfl)) pgs_nil)))) rfl) (dss_cons (ds_for PassesOwn.never rfl (di_rng1 (pi_range1 rfl W.m_range (da_cons (de_var (pv 2) rfl) da_nil)) (an_cons an_nil)) (dg_name (pg_name (i := 7) sc.nd rfl (Or.inl rfl)) rfl) (dss_cons (ds_set (ps_set (i := 8) sc.nd rfl (Or.inl rfl) (de_bor (de_call (pe_call (C_pivot_of.F.mono (by decide)) hr rfl C_pivot_of.G C_pivot_of.Kp C_pivot_of.B .nil pass0 (da_cons (de_var (pv 3) rfl) (da_cons (de_var (pv 7) rfl) da_nil))) (an_cons (an_cons an_nil))))) rfl) (dss_cons (ds_if (dt_isN (de_var (pv 8) rfl)) (dss_one (ds_frz 3 rfl (.inl rfl) (ds_ret (de_non pe_non)))) dss_nil) (dss_cons (ds_set (ps_set (i := 9) sc.nd rfl (Or.inl rfl) (de_oix (pv 3) (de_var (pv 8) rfl) rfl)) rfl) (dss_cons (ds_put (ps_asg (de_oix (pv 3) (de_var (pv 7) rfl) rfl) (pg_sub (pv 3) (de_var (pv 8) rfl) set_list)) rfl) (dss_cons (ds_put (ps_asg (de_var (pv 9) rfl) (pg_sub (pv 3) (de_var (pv 7) rfl) set_list)) rfl) (dss_cons (ds_frz 3 rfl (.inl rfl) (ds_own (ps_set (i := 3) sc.nd rfl (Or.inl rfl) (dl_call (pe_call (C_cleared.F.mono (by decide)) hr rfl C_cleared.G C_cleared.Kp C_cleared.B .nil pass0 (da_cons (de_var (pv 3) rfl) (da_cons (de_var (pv 7) rfl) (da_cons (de_var (pv 4) rfl) da_nil)))) (an_cons (an_cons (an_cons an_nil))))) rfl)) (dss_one (ds_set (ps_set (i := 4) sc.nd rfl (Or.inr rfl) (de_ix (de_var (pv 9) rfl) (de_var (pv 7) rfl))) rfl))))))))) (dss_one (ds_frz 3 rfl (.inl rfl) (ds_ret (de_ca (pe_callTy call_tuple_of rfl W.m_tuple (by decide +kernel) (da_cons (de_frz (dl_lc rfl sc.nd (di_seq (de_var (pv 3) rfl)) (own := [("row", 5)]) (blk_ok (by kernel_rfl)) (fun _ _ _ _ _ => (dg_name (pg_name (i := 5) sc.nd rfl (by first | exact Or.inl rfl | exact Or.inr rfl)) rfl)) (fun _ _ _ _ _ => dts_nil) (fun _ _ _ _ _ => (de_call (pe_call (C_ratio.F.mono (by decide)) hr rfl C_ratio.G C_ratio.Kp C_ratio.B .nil pass0 (da_cons (de_ix (de_var (pv 5) rfl) (de_var (pv 2) rfl)) (da_cons (de_var (pv 4) rfl) da_nil))) (an_cons (an_cons an_nil)))) rfl rfl)) da_nil)) cas_tuple))))))))
theorem ok_weight_to (W : Wd K mg) (F : FnT K "weight_to" (top 75) f fd) (G : mg "weight_to" = some (.ref f)) : Ca P w K mg base "weight_to" 1 f fd ["lottery", "target"] (spP K T 2 F_weight_to) := by
  have sc := sc_weight_to
  refine ⟨fnP (k := 0) F sc rfl rfl fun cdv A outer s H E hr => ⟨[], ?_⟩, F.bindsN fun _ _ _ _ _ _ us hl => match us, hl with | [_, _], _ => rfl, G, F.kp⟩
  exact (dss_cons (ds_for PassesOwn.never rfl (di_seq (de_var (pv 0) rfl)) (dg_tup rfl (dgs_cons (dg_name (pg_name (i := 2) sc.nd rfl (Or.inl rfl)) rfl) (dgs_cons (dg_name (pg_name (i := 3) sc.nd rfl (Or.inl rfl)) rfl) dgs_nil))) (dss_one (ds_if (dt_cmpR (op_eqD hr.units) ops_eq (de_var (pv 2) rfl) (de_var (pv 1) rfl)) (dss_one (ds_ret (de_var (pv 3) rfl))) dss_nil))) (dss_one (ds_ret (de_int pe_int))))
theorem ok_square_row (W : Wd K mg) (F : FnT K "square_row" (top 76) f fd) (G : mg "square_row" = some (.ref f)) {f_weight_of : Addr} {fd_weight_of : FuncData} (C_weight_of : Ca P w K mg base "weight_of" 1 f_weight_of fd_weight_of ["lottery"] (spP K T 1 F_weight_of)) {f_weight_to : Addr} {fd_weight_to : FuncData} (C_weight_to : Ca P w K mg base "weight_to" 1 f_weight_to fd_weight_to ["lottery", "target"] (spP K T 2 F_weight_to)) : Ca P w K mg base "square_row" 2 f fd ["board", "way", "inner", "x"] (spP K T 4 F_square_row) := by
  have sc := sc_square_row
  refine ⟨fnP (k := 1) F sc rfl rfl fun cdv A outer s H E hr => ⟨[], ?_⟩, F.bindsN fun _ _ _ _ _ _ us hl => match us, hl with | [_, _, _, _], _ => rfl, G, F.kp⟩
  exact (dss_cons (ds_set (ps_set (i := 4) sc.nd rfl (Or.inr rfl) (de_ix (de_ix (de_att W.cls_Board W.na_Board_plays (de_var (pv 0) rfl)) (de_var (pv 3) rfl)) (de_ix (de_var (pv 1) rfl) (de_var (pv 3) rfl)))) rfl) (dss_cons (ds_set (ps_set (i := 5) sc.nd rfl (Or.inr rfl) (de_call (pe_call (C_weight_of.F.mono (by decide)) hr rfl C_weight_of.G C_weight_of.Kp C_weight_of.B .nil pass0 (da_cons (de_var (pv 4) rfl) da_nil)) (an_cons an_nil))) rfl) (dss_one (ds_ret (de_ca (pe_callTy call_tuple_of rfl W.m_tuple (by decide +kernel) (da_cons (de_frz (dl_lc rfl sc.nd (di_seq (de_var (pv 2) rfl)) (own := [("y", 6)]) (blk_ok (by kernel_rfl)) (fun _ _ _ _ _ => (dg_name (pg_name (i := 6) sc.nd rfl (by first | exact Or.inl rfl | exact Or.inr rfl)) rfl)) (fun _ _ _ _ _ => dts_nil) (fun _ _ _ _ _ => (de_tup (da_cons (de_bin (pe_op op_sub (de_if (dt_cmpR (op_eqD hr.units) ops_eq (de_var (pv 6) rfl) (de_var (pv 3) rfl)) (de_var (pv 5) rfl) (de_int pe_int)) (de_call (pe_call (C_weight_to.F.mono (by decide)) hr rfl C_weight_to.G C_weight_to.Kp C_weight_to.B .nil pass0 (da_cons (de_var (pv 4) rfl) (da_cons (de_var (pv 6) rfl) da_nil))) (an_cons (an_cons an_nil)))) ops_sub) (da_cons (de_int pe_int) da_nil)))) rfl rfl)) da_nil)) cas_tuple)))))
theorem ok_way_square (W : Wd K mg) (F : FnT K "way_square" (top 77) f fd) (G : mg "way_square" = some (.ref f)) {f_square_row : Addr} {fd_square_row : FuncData} (C_square_row : Ca P w K mg base "square_row" 2 f_square_row fd_square_row ["board", "way", "inner", "x"] (spP K T 4 F_square_row)) : Ca P w K mg base "way_square" 3 f fd ["board", "way", "inner"] (spP K T 3 F_way_square) := by
  have sc := sc_way_square
  refine ⟨fnP (k := 2) F sc rfl rfl fun cdv A outer s H E hr => ⟨[], ?_⟩, F.bindsN fun _ _ _ _ _ _ us hl => match us, hl with | [_, _, _], _ => rfl, G, F.kp⟩
  exact (dss_one (ds_ret (de_ca (pe_callTy call_tuple_of rfl W.m_tuple (by decide +kernel) (da_cons (de_frz (dl_lc rfl sc.nd (di_seq (de_var (pv 2) rfl)) (own := [("x", 3)]) (blk_ok (by kernel_rfl)) (fun _ _ _ _ _ => (dg_name (pg_name (i := 3) sc.nd rfl (by first | exact Or.inl rfl | exact Or.inr rfl)) rfl)) (fun _ _ _ _ _ => dts_nil) (fun _ _ _ _ _ => (de_call (pe_call (C_square_row.F.mono (by decide)) hr rfl C_square_row.G C_square_row.Kp C_square_row.B .nil pass0 (da_cons (de_var (pv 0) rfl) (da_cons (de_var (pv 1) rfl) (da_cons (de_var (pv 2) rfl) (da_cons (de_var (pv 3) rfl) da_nil))))) (an_cons (an_cons (an_cons (an_cons an_nil)))))) rfl rfl)) da_nil)) cas_tuple)))
end
end Z
/-! Walks. -/
namespace Z
open PySem PySem.Spec PyProof.Rows L2 RZ GxR
section
variable {P : Program} {w : World} {K : PySem.W.Frag} {T : List Addr} {mg : PySem.Str → Option Value} {base : Heap} {f : Addr} {fd : FuncData}
theorem ok_value (W : Wd K mg) (F : FnT K "value" (top 79) f fd) (G : mg "value" = some (.ref f)) {f_want_way : Addr} {fd_want_way : FuncData} (C_want_way : Ca P w K mg base "want_way" 2 f_want_way fd_want_way ["board", "way"] (spP K T 2 F_want_way)) {f_inner_places : Addr} {fd_inner_places : FuncData} (C_inner_places : Ca P w K mg base "inner_places" 4 f_inner_places fd_inner_places ["board", "way"] (spP K T 2 F_inner_places)) {f_stopping_sum : Addr} {fd_stopping_sum : FuncData} (C_stopping_sum : Ca P w K mg base "stopping_sum" 3 f_stopping_sum fd_stopping_sum ["board", "way", "x"] (spP K T 3 F_stopping_sum)) {f_way_square : Addr} {fd_way_square : FuncData} (C_way_square : Ca P w K mg base "way_square" 3 f_way_square fd_way_square ["board", "way", "inner"] (spP K T 3 F_way_square)) {f_solved : Addr} {fd_solved : FuncData} (C_solved : Ca P w K mg base "solved" 2 f_solved fd_solved ["rows", "rights"] (spP K T 2 F_solved)) : Ca P w K mg base "value" 5 f fd ["board", "way"] (spP K T 2 F_value) := by
  have sc := sc_value
  refine ⟨fnP (k := 4) F sc rfl rfl fun cdv A outer s H E hr => ⟨[], ?_⟩, F.bindsN fun _ _ _ _ _ _ us hl => match us, hl with | [_, _], _ => rfl, G, F.kp⟩
  exact (dss_cons (ds_drop (de_call (pe_call (C_want_way.F.mono (by decide)) hr rfl C_want_way.G C_want_way.Kp C_want_way.B .nil pass0 (da_cons (de_var (pv 0) rfl) (da_cons (de_var (pv 1) rfl) da_nil))) (an_cons (an_cons an_nil)))) (dss_cons (ds_set (ps_set (i := 2) sc.nd rfl (Or.inl rfl) (de_call (pe_call (C_inner_places.F.mono (by decide)) hr rfl C_inner_places.G C_inner_places.Kp C_inner_places.B .nil pass0 (da_cons (de_var (pv 0) rfl) (da_cons (de_var (pv 1) rfl) da_nil))) (an_cons (an_cons an_nil)))) rfl) (dss_cons (ds_ownLc (i := 3) rfl sc.nd rfl rfl rfl (di_enum rfl W.m_enumerate (de_var (pv 1) rfl)) (own := [("x", 4), ("choice", 5)]) (blk_ok (by kernel_rfl)) (fun _ _ _ _ _ => (dg_tup rfl (dgs_cons (dg_name (pg_name (i := 4) sc.nd rfl (by first | exact Or.inl rfl | exact Or.inr rfl)) rfl) (dgs_cons (dg_name (pg_name (i := 5) sc.nd rfl (by first | exact Or.inl rfl | exact Or.inr rfl)) rfl) dgs_nil)))) (fun _ _ _ _ _ => dts_nil) (fun _ _ _ _ _ => (de_if (dt_cmpR (op_eqD hr.units) ops_eq (de_var (pv 5) rfl) (de_int (pe_glob rfl W.c_STOP.choose_spec ⟨_, rfl⟩))) (de_ix (de_att W.cls_Board W.na_Board_pays (de_var (pv 0) rfl)) (de_var (pv 4) rfl)) (de_tup (da_cons (de_int pe_int) (da_cons (de_int pe_int) da_nil))))) rfl rfl rfl) (dss_cons (ds_set (ps_set (i := 6) sc.nd rfl (Or.inl rfl) (de_ca (pe_callTy call_tuple_of rfl W.m_tuple (by decide +kernel) (da_cons (de_frz (dl_lc rfl sc.nd (di_seq (de_var (pv 2) rfl)) (own := [("x", 4)]) (blk_ok (by kernel_rfl)) (fun _ _ _ _ _ => (dg_name (pg_name (i := 4) sc.nd rfl (by first | exact Or.inl rfl | exact Or.inr rfl)) rfl)) (fun _ _ _ _ _ => dts_nil) (fun _ _ _ _ _ => (de_call (pe_call (C_stopping_sum.F.mono (by decide)) hr rfl C_stopping_sum.G C_stopping_sum.Kp C_stopping_sum.B .nil pass0 (da_cons (de_var (pv 0) rfl) (da_cons (de_var (pv 1) rfl) (da_cons (de_var (pv 4) rfl) da_nil)))) (an_cons (an_cons (an_cons an_nil))))) rfl rfl)) da_nil)) cas_tuple)) rfl) (dss_cons (ds_for PassesOwn.never rfl (di_zip (pi_zipA rfl W.m_zip (da_cons (de_var (pv 2) rfl) (da_cons (de_call (pe_call (C_solved.F.mono (by decide)) hr rfl C_solved.G C_solved.Kp C_solved.B .nil pass0 (da_cons (de_call (pe_call (C_way_square.F.mono (by decide)) hr rfl C_way_square.G C_way_square.Kp C_way_square.B .nil pass0 (da_cons (de_var (pv 0) rfl) (da_cons (de_var (pv 1) rfl) (da_cons (de_var (pv 2) rfl) da_nil)))) (an_cons (an_cons (an_cons an_nil)))) (da_cons (de_var (pv 6) rfl) da_nil))) (an_cons (an_cons an_nil))) da_nil)))) (dg_tup rfl (dgs_cons (dg_name (pg_name (i := 4) sc.nd rfl (Or.inl rfl)) rfl) (dgs_cons (dg_name (pg_name (i := 7) sc.nd rfl (Or.inl rfl)) rfl) dgs_nil))) (dss_one (ds_put (ps_asg (de_var (pv 7) rfl) (pg_sub (pv 3) (de_var (pv 4) rfl) set_list)) rfl))) (dss_one (ds_frz 3 rfl (.inl rfl) (ds_ret (de_ca (pe_callTy call_tuple_of rfl W.m_tuple (by decide +kernel) (da_cons (de_var (pv 3) rfl) da_nil)) cas_tuple)))))))))
theorem ok_worth (W : Wd K mg) (F : FnT K "worth" (top 84) f fd) (G : mg "worth" = some (.ref f)) {f_improved_for : Addr} {fd_improved_for : FuncData} (C_improved_for : Ca P w K mg base "improved_for" 5 f_improved_for fd_improved_for ["board", "way", "f"] (spP K T 3 F_improved_for)) {f_value : Addr} {fd_value : FuncData} (C_value : Ca P w K mg base "value" 5 f_value fd_value ["board", "way"] (spP K T 2 F_value)) : Ca P w K mg base "worth" 6 f fd ["board"] (spP K T 1 F_worth) := by
  have sc := sc_worth
  refine ⟨fnP (k := 5) F sc rfl rfl fun cdv A outer s H E hr => ⟨[], ?_⟩, F.bindsN fun _ _ _ _ _ _ us hl => match us, hl with | [_], _ => rfl, G, F.kp⟩
  exact (dss_cons (ds_par2 (fl := [false, false]) (ps_par (i := 1) (j := 2) rfl sc.nd rfl rfl (by decide) rfl rfl (dax_sh (de_bin (pe_op op_repA (de_tup (da_cons (de_int (pe_glob rfl W.c_STOP.choose_spec ⟨_, rfl⟩)) da_nil)) (de_att W.cls_Board W.na_Board_size (de_var (pv 0) rfl))) ops_rep) (dax_sh (de_att W.cls_Board W.na_Board_pays (de_var (pv 0) rfl)) dax_nil)) rfl) rfl) (dss_cons (ds_set (ps_set (i := 3) sc.nd rfl (Or.inl rfl) (de_call (pe_call (C_improved_for.F.mono (by decide)) hr rfl C_improved_for.G C_improved_for.Kp C_improved_for.B .nil pass0 (da_cons (de_var (pv 0) rfl) (da_cons (de_var (pv 1) rfl) (da_cons (de_var (pv 2) rfl) da_nil)))) (an_cons (an_cons (an_cons an_nil))))) rfl) (dss_cons (ds_while PassesOwn.never (dt_cmpR (op_neD hr.units) ops_ne (de_var (pv 3) rfl) (de_var (pv 1) rfl)) (dss_cons (ds_set (ps_set (i := 1) sc.nd rfl (Or.inl rfl) (de_var (pv 3) rfl)) rfl) (dss_cons (ds_set (ps_set (i := 2) sc.nd rfl (Or.inl rfl) (de_call (pe_call (C_value.F.mono (by decide)) hr rfl C_value.G C_value.Kp C_value.B .nil pass0 (da_cons (de_var (pv 0) rfl) (da_cons (de_var (pv 1) rfl) da_nil))) (an_cons (an_cons an_nil)))) rfl) (dss_one (ds_set (ps_set (i := 3) sc.nd rfl (Or.inl rfl) (de_call (pe_call (C_improved_for.F.mono (by decide)) hr rfl C_improved_for.G C_improved_for.Kp C_improved_for.B .nil pass0 (da_cons (de_var (pv 0) rfl) (da_cons (de_var (pv 1) rfl) (da_cons (de_var (pv 2) rfl) da_nil)))) (an_cons (an_cons (an_cons an_nil))))) rfl))))) (dss_one (ds_ret (de_var (pv 2) rfl))))))
theorem ok_check_goal (W : Wd K mg) (F : FnT K "check_goal" (top 46) f fd) (G : mg "check_goal" = some (.ref f)) : Ca P w K mg base "check_goal" 1 f fd ["goal"] (spP K T 1 F_check_goal) := by
  have sc := sc_check_goal
  refine ⟨fnP (k := 0) F sc rfl rfl fun cdv A outer s H E hr => ⟨[], ?_⟩, F.bindsN fun _ _ _ _ _ _ us hl => match us, hl with | [_], _ => rfl, G, F.kp⟩
  exact (dss_one (ds_if (dt_not (dt_chain op_le ops_le op_le ops_le (de_int pe_int) (de_var (pv 0) rfl) (de_int (pe_glob rfl W.c_MOST_GOAL.choose_spec ⟨_, rfl⟩)))) (dss_one ds_never) dss_nil))
theorem ok_is_name (W : Wd K mg) (F : FnT K "is_name" (top 38) f fd) (G : mg "is_name" = some (.ref f)) {PT : Addr} (TB : TabB base mg (codeAt K f) PT) (hPT : PT ∈ T) : Ca P w K mg base "is_name" 1 f fd ["thing"] (spP K T 1 F_is_name) := by
  have sc := sc_is_name
  refine ⟨fnPC (k := 0) F sc rfl rfl fun A outer s H E hr => ⟨[], ?_⟩, F.bindsN fun _ _ _ _ _ _ us hl => match us, hl with | [_], _ => rfl, G, F.kp⟩
  exact (dss_cons (ds_if (PW.pt (dw_or (dt_not (dt_tr (de_isi isi_str (pe_callB call_isi rfl W.m_isinstance (by decide +kernel) (pa_cons (de_var (pv 0) rfl) (pa_cons (pe_bltn rfl W.m_str (by decide +kernel) rfl) pa_nil)))))) (dw_oneO (dt_not (dt_chain op_le ops_le op_le ops_le (de_int pe_int) (de_ca (pe_callB call_len rfl W.m_len boot_len (da_cons (de_var (pv 0) rfl) da_nil)) cas_len) (de_int pe_int)))))) (dss_one (ds_ret (de_bl pe_bl))) dss_nil) (dss_one (ds_ret (de_allIn (pe_allG hr rfl W.m_all TB rfl (x := "letter") ⟨rfl, rfl, by decide +kernel, rfl, rfl, gs_nofree (by kernel_rfl)⟩ (de_var (pv 0) rfl) (gen_in TB ⟨rfl, rfl, by decide +kernel, rfl, rfl, gs_nofree (by kernel_rfl)⟩ rfl W.c_LETTERS.choose_spec)) hPT))))
theorem ok_is_number (W : Wd K mg) (F : FnT K "is_number" (top 19) f fd) (G : mg "is_number" = some (.ref f)) : Ca P w K mg base "is_number" 1 f fd ["thing"] (spP K T 1 F_is_number) := by
  have sc := sc_is_number
  refine ⟨fnP (k := 0) F sc rfl rfl fun cdv A outer s H E hr => ⟨[], ?_⟩, F.bindsN fun _ _ _ _ _ _ us hl => match us, hl with | [_], _ => rfl, G, F.kp⟩
  exact (dss_one (ds_ret (de_and (de_isi isi_int (pe_callB call_isi rfl W.m_isinstance (by decide +kernel) (pa_cons (de_var (pv 0) rfl) (pa_cons (pe_bltn rfl W.m_int (by decide +kernel) rfl) pa_nil)))) (de_one (de_not (de_isi isi_bool (pe_callB call_isi rfl W.m_isinstance (by decide +kernel) (pa_cons (de_var (pv 0) rfl) (pa_cons (pe_bltn rfl W.m_bool (by decide +kernel) rfl) pa_nil)))))))))
theorem ok_is_within (W : Wd K mg) (F : FnT K "is_within" (top 37) f fd) (G : mg "is_within" = some (.ref f)) {f_is_number : Addr} {fd_is_number : FuncData} (C_is_number : Ca P w K mg base "is_number" 1 f_is_number fd_is_number ["thing"] (spP K T 1 F_is_number)) : Ca P w K mg base "is_within" 2 f fd ["thing", "least", "most"] (spP K T 3 F_is_within) := by
  have sc := sc_is_within
  refine ⟨fnP (k := 1) F sc rfl rfl fun cdv A outer s H E hr => ⟨[], ?_⟩, F.bindsN fun _ _ _ _ _ _ us hl => match us, hl with | [_, _, _], _ => rfl, G, F.kp⟩
  exact (dss_one (ds_ret (de_and (de_call (pe_call (C_is_number.F.mono (by decide)) hr rfl C_is_number.G C_is_number.Kp C_is_number.B .nil pass0 (da_cons (de_var (pv 0) rfl) da_nil)) (an_cons an_nil)) (de_one (de_chain op_le ops_le op_le ops_le (de_var (pv 1) rfl) (de_var (pv 0) rfl) (de_var (pv 2) rfl))))))
theorem ok_are_outs (W : Wd K mg) (F : FnT K "are_outs" (top 39) f fd) (G : mg "are_outs" = some (.ref f)) {f_is_within : Addr} {fd_is_within : FuncData} (C_is_within : Ca P w K mg base "is_within" 2 f_is_within fd_is_within ["thing", "least", "most"] (spP K T 3 F_is_within)) : Ca P w K mg base "are_outs" 3 f fd ["thing"] (spP K T 1 F_are_outs) := by
  have sc := sc_are_outs
  refine ⟨fnP (k := 2) F sc rfl rfl fun cdv A outer s H E hr => ⟨[], ?_⟩, F.bindsN fun _ _ _ _ _ _ us hl => match us, hl with | [_], _ => rfl, G, F.kp⟩
  exact (dss_cons (ds_if (PW.pt (dw_or (dt_not (dt_tr (de_isi isi_tuple (pe_callB call_isi rfl W.m_isinstance (by decide +kernel) (pa_cons (de_var (pv 0) rfl) (pa_cons (pe_bltn rfl W.m_tuple (by decide +kernel) rfl) pa_nil)))))) (dw_oneO (dt_not (dt_chain op_le ops_le op_le ops_le (de_int pe_int) (de_ca (pe_callB call_len rfl W.m_len boot_len (da_cons (de_var (pv 0) rfl) da_nil)) cas_len) (de_int (pe_glob rfl W.c_MOST_OUTS.choose_spec ⟨_, rfl⟩))))))) (dss_one (ds_ret (de_bl pe_bl))) dss_nil) (dss_cons (ds_set (ps_set (i := 1) sc.nd rfl (Or.inl rfl) (de_un (pe_un un_neg (de_int pe_int)) uns_neg)) rfl) (dss_cons (ds_for PassesOwn.never rfl (di_seq (de_var (pv 0) rfl)) (dg_name (pg_name (i := 2) sc.nd rfl (Or.inl rfl)) rfl) (dss_cons (ds_if (PW.pt (dw_or (dt_not (dt_tr (de_isi isi_tuple (pe_callB call_isi rfl W.m_isinstance (by decide +kernel) (pa_cons (de_var (pv 2) rfl) (pa_cons (pe_bltn rfl W.m_tuple (by decide +kernel) rfl) pa_nil)))))) (dw_oneO (dt_cmpR (op_neD hr.units) ops_ne (de_ca (pe_callB call_len rfl W.m_len boot_len (da_cons (de_var (pv 2) rfl) da_nil)) cas_len) (de_int pe_int))))) (dss_one (ds_ret (de_bl pe_bl))) dss_nil) (dss_cons (ds_tgt (ps_asg (de_var (pv 2) rfl) (dg_tup rfl (dgs_cons (dg_name (pg_name (i := 3) sc.nd rfl (Or.inl rfl)) rfl) (dgs_cons (dg_name (pg_name (i := 4) sc.nd rfl (Or.inl rfl)) rfl) dgs_nil))))) (dss_cons (ds_if (PW.pt (dw_or (dt_not (dt_tr (de_call (pe_call (C_is_within.F.mono (by decide)) hr rfl C_is_within.G C_is_within.Kp C_is_within.B .nil pass0 (da_cons (de_var (pv 3) rfl) (da_cons (de_bin (pe_op op_addA (de_var (pv 1) rfl) (de_int pe_int)) ops_add) (da_cons (de_int pe_int) da_nil)))) (an_cons (an_cons (an_cons an_nil)))))) (dw_oneO (dt_not (dt_tr (de_call (pe_call (C_is_within.F.mono (by decide)) hr rfl C_is_within.G C_is_within.Kp C_is_within.B .nil pass0 (da_cons (de_var (pv 4) rfl) (da_cons (de_int pe_int) (da_cons (de_int pe_int) da_nil)))) (an_cons (an_cons (an_cons an_nil))))))))) (dss_one (ds_ret (de_bl pe_bl))) dss_nil) (dss_one (ds_set (ps_set (i := 1) sc.nd rfl (Or.inl rfl) (de_var (pv 3) rfl)) rfl)))))) (dss_one (ds_ret (de_bl pe_bl))))))
theorem ok_is_table (W : Wd K mg) (F : FnT K "is_table" (top 40) f fd) (G : mg "is_table" = some (.ref f)) {f_is_name : Addr} {fd_is_name : FuncData} (C_is_name : Ca P w K mg base "is_name" 1 f_is_name fd_is_name ["thing"] (spP K T 1 F_is_name)) {f_are_outs : Addr} {fd_are_outs : FuncData} (C_are_outs : Ca P w K mg base "are_outs" 3 f_are_outs fd_are_outs ["thing"] (spP K T 1 F_are_outs)) {f_is_within : Addr} {fd_is_within : FuncData} (C_is_within : Ca P w K mg base "is_within" 2 f_is_within fd_is_within ["thing", "least", "most"] (spP K T 3 F_is_within)) : Ca P w K mg base "is_table" 4 f fd ["thing"] (spP K T 1 F_is_table) := by
  have sc := sc_is_table
  refine ⟨fnP (k := 3) F sc rfl rfl fun cdv A outer s H E hr => ⟨[], ?_⟩, F.bindsN fun _ _ _ _ _ _ us hl => match us, hl with | [_], _ => rfl, G, F.kp⟩
  exact (dss_cons (ds_if (PW.pt (dw_or (dt_not (dt_tr (de_isi isi_tuple (pe_callB call_isi rfl W.m_isinstance (by decide +kernel) (pa_cons (de_var (pv 0) rfl) (pa_cons (pe_bltn rfl W.m_tuple (by decide +kernel) rfl) pa_nil)))))) (dw_oneO (dt_cmpR (op_neD hr.units) ops_ne (de_ca (pe_callB call_len rfl W.m_len boot_len (da_cons (de_var (pv 0) rfl) da_nil)) cas_len) (de_int pe_int))))) (dss_one (ds_ret (de_bl pe_bl))) dss_nil) (dss_cons (ds_tgt (ps_asg (de_var (pv 0) rfl) (dg_tup rfl (dgs_cons (dg_name (pg_name (i := 1) sc.nd rfl (Or.inl rfl)) rfl) (dgs_cons (dg_name (pg_name (i := 2) sc.nd rfl (Or.inl rfl)) rfl) (dgs_cons (dg_name (pg_name (i := 3) sc.nd rfl (Or.inl rfl)) rfl) (dgs_cons (dg_name (pg_name (i := 4) sc.nd rfl (Or.inl rfl)) rfl) (dgs_cons (dg_name (pg_name (i := 5) sc.nd rfl (Or.inl rfl)) rfl) (dgs_cons (dg_name (pg_name (i := 6) sc.nd rfl (Or.inl rfl)) rfl) dgs_nil))))))))) (dss_cons (ds_if (PW.pt (dw_or (dt_not (dt_tr (de_call (pe_call (C_is_name.F.mono (by decide)) hr rfl C_is_name.G C_is_name.Kp C_is_name.B .nil pass0 (da_cons (de_var (pv 1) rfl) da_nil)) (an_cons an_nil)))) (dw_oneO (dt_not (dt_tr (de_call (pe_call (C_are_outs.F.mono (by decide)) hr rfl C_are_outs.G C_are_outs.Kp C_are_outs.B .nil pass0 (da_cons (de_var (pv 2) rfl) da_nil)) (an_cons an_nil))))))) (dss_one (ds_ret (de_bl pe_bl))) dss_nil) (dss_cons (ds_if (PW.pt (dw_or (dt_not (dt_tr (de_call (pe_call (C_is_within.F.mono (by decide)) hr rfl C_is_within.G C_is_within.Kp C_is_within.B .nil pass0 (da_cons (de_var (pv 3) rfl) (da_cons (de_int pe_int) (da_cons (de_int (pe_glob rfl W.c_MOST_STAKE.choose_spec ⟨_, rfl⟩)) da_nil)))) (an_cons (an_cons (an_cons an_nil)))))) (dw_oneO (dt_not (dt_tr (de_call (pe_call (C_is_within.F.mono (by decide)) hr rfl C_is_within.G C_is_within.Kp C_is_within.B .nil pass0 (da_cons (de_var (pv 4) rfl) (da_cons (de_var (pv 3) rfl) (da_cons (de_int (pe_glob rfl W.c_MOST_STAKE.choose_spec ⟨_, rfl⟩)) da_nil)))) (an_cons (an_cons (an_cons an_nil))))))))) (dss_one (ds_ret (de_bl pe_bl))) dss_nil) (dss_one (ds_ret (de_and (de_call (pe_call (C_is_within.F.mono (by decide)) hr rfl C_is_within.G C_is_within.Kp C_is_within.B .nil pass0 (da_cons (de_var (pv 5) rfl) (da_cons (de_int pe_int) (da_cons (de_int (pe_glob rfl W.c_MOST_STAKE.choose_spec ⟨_, rfl⟩)) da_nil)))) (an_cons (an_cons (an_cons an_nil)))) (de_one (de_call (pe_call (C_is_within.F.mono (by decide)) hr rfl C_is_within.G C_is_within.Kp C_is_within.B .nil pass0 (da_cons (de_var (pv 6) rfl) (da_cons (de_int pe_int) (da_cons (de_int pe_int) da_nil)))) (an_cons (an_cons (an_cons an_nil))))))))))))
theorem ok_check_names (W : Wd K mg) (F : FnT K "check_names" (top 47) f fd) (G : mg "check_names" = some (.ref f)) : Ca P w K mg base "check_names" 1 f fd ["tables"] (spP K T 1 F_check_names) := by
  have sc := sc_check_names
  refine ⟨fnP (k := 0) F sc rfl rfl fun cdv A outer s H E hr => ⟨[1], ?_⟩, F.bindsN fun _ _ _ _ _ _ us hl => match us, hl with | [_], _ => rfl, G, F.kp⟩
  exact (dss_cons (ds_own (ps_set (i := 1) sc.nd rfl (Or.inl rfl) (dl_lst da_nil)) rfl) (dss_one (ds_for PassesOwn.never rfl (di_seq (de_var (pv 0) rfl)) (dg_name (pg_name (i := 2) sc.nd rfl (Or.inl rfl)) rfl) (dss_cons (ds_if (dt_bor (dt_cmpR op_in_seq ops_in (de_ix (de_var (pv 2) rfl) (de_int pe_int)) (de_var (pv 1) rfl))) (dss_one ds_never) dss_nil) (dss_one (ds_app (ps_expr (pe_bm PySem.F.plainAttrs_list PySem.F.slot_list_append PySem.F.type_list_append mt_append (pv 1) (pa_cons (de_ix (de_var (pv 2) rfl) (de_int pe_int)) pa_nil))) rfl))))))
theorem ok_stakes (W : Wd K mg) (F : FnT K "stakes" (top 41) f fd) (G : mg "stakes" = some (.ref f)) : Ca P w K mg base "stakes" 1 f fd ["table"] (spP K T 1 F_stakes) := by
  have sc := sc_stakes
  refine ⟨fnP (k := 0) F sc rfl rfl fun cdv A outer s H E hr => ⟨[], ?_⟩, F.bindsN fun _ _ _ _ _ _ us hl => match us, hl with | [_], _ => rfl, G, F.kp⟩
  exact (dss_cons (ds_tgt (ps_asg (de_var (pv 0) rfl) (dg_tup rfl (dgs_cons (dg_name (pg_name (i := 1) sc.nd rfl (Or.inl rfl)) rfl) (dgs_cons (dg_name (pg_name (i := 2) sc.nd rfl (Or.inl rfl)) rfl) (dgs_cons (dg_name (pg_name (i := 3) sc.nd rfl (Or.inr rfl)) rfl) (dgs_cons (dg_name (pg_name (i := 4) sc.nd rfl (Or.inl rfl)) rfl) (dgs_cons (dg_name (pg_name (i := 5) sc.nd rfl (Or.inr rfl)) rfl) (dgs_cons (dg_name (pg_name (i := 6) sc.nd rfl (Or.inl rfl)) rfl) dgs_nil))))))))) (dss_one (ds_ret (de_ca (pe_callTy call_tuple_of rfl W.m_tuple (by decide +kernel) (da_cons (de_frz (dl_lc rfl sc.nd (di_rng1 (pi_range1 rfl W.m_range (da_cons (de_bin (pe_op op_addA (de_bin (pe_op op_fdivZ (de_bin (pe_op op_sub (de_var (pv 4) rfl) (de_var (pv 3) rfl)) ops_sub) (de_var (pv 5) rfl)) ops_fdiv) (de_int pe_int)) ops_add) da_nil)) (an_cons an_nil)) (own := [("k", 7)]) (blk_ok (by kernel_rfl)) (fun _ _ _ _ _ => (dg_name (pg_name (i := 7) sc.nd rfl (by first | exact Or.inl rfl | exact Or.inr rfl)) rfl)) (fun _ _ _ _ _ => dts_nil) (fun _ _ _ _ _ => (de_bin (pe_op op_addA (de_var (pv 3) rfl) (de_bin (pe_op op_mulZ (de_var (pv 7) rfl) (de_var (pv 5) rfl)) ops_mul)) ops_add)) rfl rfl)) da_nil)) cas_tuple))))
theorem ok_checked_house (W : Wd K mg) (F : FnT K "checked_house" (top 48) f fd) (G : mg "checked_house" = some (.ref f)) {f_check_goal : Addr} {fd_check_goal : FuncData} (C_check_goal : Ca P w K mg base "check_goal" 1 f_check_goal fd_check_goal ["goal"] (spP K T 1 F_check_goal)) {f_is_table : Addr} {fd_is_table : FuncData} (C_is_table : Ca P w K mg base "is_table" 4 f_is_table fd_is_table ["thing"] (spP K T 1 F_is_table)) {f_check_names : Addr} {fd_check_names : FuncData} (C_check_names : Ca P w K mg base "check_names" 1 f_check_names fd_check_names ["tables"] (spP K T 1 F_check_names)) {f_stakes : Addr} {fd_stakes : FuncData} (C_stakes : Ca P w K mg base "stakes" 1 f_stakes fd_stakes ["table"] (spP K T 1 F_stakes)) : Ca P w K mg base "checked_house" 5 f fd ["house"] (spP K T 1 F_checked_house) := by
  have sc := sc_checked_house
  refine ⟨fnP (k := 4) F sc rfl rfl fun cdv A outer s H E hr => ⟨[], ?_⟩, F.bindsN fun _ _ _ _ _ _ us hl => match us, hl with | [_], _ => rfl, G, F.kp⟩
  exact (dss_cons (ds_tgt (ps_asg (de_var (pv 0) rfl) (dg_tup rfl (dgs_cons (dg_name (pg_name (i := 1) sc.nd rfl (Or.inl rfl)) rfl) (dgs_cons (dg_name (pg_name (i := 2) sc.nd rfl (Or.inl rfl)) rfl) dgs_nil))))) (dss_cons (ds_drop (de_call (pe_call (C_check_goal.F.mono (by decide)) hr rfl C_check_goal.G C_check_goal.Kp C_check_goal.B .nil pass0 (da_cons (de_var (pv 1) rfl) da_nil)) (an_cons an_nil))) (dss_cons (ds_if (dt_cmpR op_gt ops_gt (de_ca (pe_callB call_len rfl W.m_len boot_len (da_cons (de_var (pv 2) rfl) da_nil)) cas_len) (de_int (pe_glob rfl W.c_MOST_TABLES.choose_spec ⟨_, rfl⟩))) (dss_one ds_never) dss_nil) (dss_cons (ds_for PassesOwn.never rfl (di_enum rfl W.m_enumerate (de_var (pv 2) rfl)) (dg_tup rfl (dgs_cons (dg_name (pg_name (i := 3) sc.nd rfl (Or.inl rfl)) rfl) (dgs_cons (dg_name (pg_name (i := 4) sc.nd rfl (Or.inl rfl)) rfl) dgs_nil))) (dss_one (ds_if (dt_not (dt_tr (de_call (pe_call (C_is_table.F.mono (by decide)) hr rfl C_is_table.G C_is_table.Kp C_is_table.B .nil pass0 (da_cons (de_var (pv 4) rfl) da_nil)) (an_cons an_nil)))) (dss_one ds_never) dss_nil))) (dss_cons (ds_drop (de_call (pe_call (C_check_names.F.mono (by decide)) hr rfl C_check_names.G C_check_names.Kp C_check_names.B .nil pass0 (da_cons (de_var (pv 2) rfl) da_nil)) (an_cons an_nil))) (dss_cons (ds_set (ps_set (i := 5) sc.nd rfl (Or.inl rfl) (de_ca (pe_callB (cr_sum rfl) rfl W.m_sum (by decide +kernel) (da_cons (de_frz (dl_lc rfl sc.nd (di_seq (de_var (pv 2) rfl)) (own := [("table", 4)]) (blk_ok (by kernel_rfl)) (fun _ _ _ _ _ => (dg_name (pg_name (i := 4) sc.nd rfl (by first | exact Or.inl rfl | exact Or.inr rfl)) rfl)) (fun _ _ _ _ _ => dts_nil) (fun _ _ _ _ _ => (de_ca (pe_callB call_len rfl W.m_len boot_len (da_cons (de_call (pe_call (C_stakes.F.mono (by decide)) hr rfl C_stakes.G C_stakes.Kp C_stakes.B .nil pass0 (da_cons (de_var (pv 4) rfl) da_nil)) (an_cons an_nil)) da_nil)) cas_len)) rfl rfl)) da_nil)) cas_sum)) rfl) (dss_cons (ds_if (dt_cmpR op_gt ops_gt (de_var (pv 5) rfl) (de_int (pe_glob rfl W.c_MOST_STAKES.choose_spec ⟨_, rfl⟩))) (dss_one ds_never) dss_nil) (dss_one (ds_ret (de_tup (da_cons (de_var (pv 1) rfl) (da_cons (de_var (pv 2) rfl) da_nil))))))))))))
theorem ok_is_ratio (W : Wd K mg) (F : FnT K "is_ratio" (top 20) f fd) (G : mg "is_ratio" = some (.ref f)) {f_is_number : Addr} {fd_is_number : FuncData} (C_is_number : Ca P w K mg base "is_number" 1 f_is_number fd_is_number ["thing"] (spP K T 1 F_is_number)) : Ca P w K mg base "is_ratio" 2 f fd ["thing"] (spP K T 1 F_is_ratio) := by
  have sc := sc_is_ratio
  refine ⟨fnP (k := 1) F sc rfl rfl fun cdv A outer s H E hr => ⟨[], ?_⟩, F.bindsN fun _ _ _ _ _ _ us hl => match us, hl with | [_], _ => rfl, G, F.kp⟩
  exact (dss_cons (ds_if (PW.pt (dw_or (dt_not (dt_tr (de_isi isi_tuple (pe_callB call_isi rfl W.m_isinstance (by decide +kernel) (pa_cons (de_var (pv 0) rfl) (pa_cons (pe_bltn rfl W.m_tuple (by decide +kernel) rfl) pa_nil)))))) (dw_oneO (dt_cmpR (op_neD hr.units) ops_ne (de_ca (pe_callB call_len rfl W.m_len boot_len (da_cons (de_var (pv 0) rfl) da_nil)) cas_len) (de_int pe_int))))) (dss_one (ds_ret (de_bl pe_bl))) dss_nil) (dss_cons (ds_tgt (ps_asg (de_var (pv 0) rfl) (dg_tup rfl (dgs_cons (dg_name (pg_name (i := 1) sc.nd rfl (Or.inl rfl)) rfl) (dgs_cons (dg_name (pg_name (i := 2) sc.nd rfl (Or.inl rfl)) rfl) dgs_nil))))) (dss_one (ds_ret (de_and (de_call (pe_call (C_is_number.F.mono (by decide)) hr rfl C_is_number.G C_is_number.Kp C_is_number.B .nil pass0 (da_cons (de_var (pv 1) rfl) da_nil)) (an_cons an_nil)) (de_and (de_call (pe_call (C_is_number.F.mono (by decide)) hr rfl C_is_number.G C_is_number.Kp C_is_number.B .nil pass0 (da_cons (de_var (pv 2) rfl) da_nil)) (an_cons an_nil)) (de_and (de_cmp op_ge ops_ge (de_var (pv 2) rfl) (de_int pe_int)) (de_one (de_cmp (op_eqD hr.units) ops_eq (de_ca (pe_callBfun cr_gcd rfl W.g_gcd (da_cons (de_var (pv 1) rfl) (da_cons (de_var (pv 2) rfl) da_nil))) cas_gcd) (de_int pe_int))))))))))
end
end Z
/-! Walks. -/
namespace Z
open PySem PySem.Spec PyProof.Rows L2 RZ GxR
section
variable {P : Program} {w : World} {K : PySem.W.Frag} {T : List Addr} {mg : PySem.Str → Option Value} {base : Heap} {f : Addr} {fd : FuncData}
theorem ok_is_pay (W : Wd K mg) (F : FnT K "is_pay" (top 28) f fd) (G : mg "is_pay" = some (.ref f)) {f_is_ratio : Addr} {fd_is_ratio : FuncData} (C_is_ratio : Ca P w K mg base "is_ratio" 2 f_is_ratio fd_is_ratio ["thing"] (spP K T 1 F_is_ratio)) : Ca P w K mg base "is_pay" 3 f fd ["thing"] (spP K T 1 F_is_pay) := by
  have sc := sc_is_pay
  refine ⟨fnP (k := 2) F sc rfl rfl fun cdv A outer s H E hr => ⟨[], ?_⟩, F.bindsN fun _ _ _ _ _ _ us hl => match us, hl with | [_], _ => rfl, G, F.kp⟩
  exact (dss_one (ds_ret (de_and (de_call (pe_call (C_is_ratio.F.mono (by decide)) hr rfl C_is_ratio.G C_is_ratio.Kp C_is_ratio.B .nil pass0 (da_cons (de_var (pv 0) rfl) da_nil)) (an_cons an_nil)) (de_and (de_chain op_le ops_le op_lt ops_lt (de_int pe_int) (de_ix (de_var (pv 0) rfl) (de_int pe_int)) (de_int (pe_glob rfl W.c_PAY_LIMIT.choose_spec ⟨_, rfl⟩))) (de_one (de_cmp op_lt ops_lt (de_ix (de_var (pv 0) rfl) (de_int pe_int)) (de_int (pe_glob rfl W.c_PAY_LIMIT.choose_spec ⟨_, rfl⟩))))))))
theorem ok_want_pays (W : Wd K mg) (F : FnT K "want_pays" (top 30) f fd) (G : mg "want_pays" = some (.ref f)) {f_is_pay : Addr} {fd_is_pay : FuncData} (C_is_pay : Ca P w K mg base "is_pay" 3 f_is_pay fd_is_pay ["thing"] (spP K T 1 F_is_pay)) : Ca P w K mg base "want_pays" 4 f fd ["pays", "size"] (spP K T 2 F_want_pays) := by
  have sc := sc_want_pays
  refine ⟨fnP (k := 3) F sc rfl rfl fun cdv A outer s H E hr => ⟨[], ?_⟩, F.bindsN fun _ _ _ _ _ _ us hl => match us, hl with | [_, _], _ => rfl, G, F.kp⟩
  exact (dss_cons (ds_if (dt_cmpR (op_neD hr.units) ops_ne (de_ca (pe_callB call_len rfl W.m_len boot_len (da_cons (de_var (pv 0) rfl) da_nil)) cas_len) (de_var (pv 1) rfl)) (dss_one ds_never) dss_nil) (dss_one (ds_for PassesOwn.never rfl (di_enum rfl W.m_enumerate (de_var (pv 0) rfl)) (dg_tup rfl (dgs_cons (dg_name (pg_name (i := 2) sc.nd rfl (Or.inl rfl)) rfl) (dgs_cons (dg_name (pg_name (i := 3) sc.nd rfl (Or.inl rfl)) rfl) dgs_nil))) (dss_one (ds_if (dt_not (dt_tr (de_call (pe_call (C_is_pay.F.mono (by decide)) hr rfl C_is_pay.G C_is_pay.Kp C_is_pay.B .nil pass0 (da_cons (de_var (pv 3) rfl) da_nil)) (an_cons an_nil)))) (dss_one ds_never) dss_nil)))))
theorem ok_is_lottery (W : Wd K mg) (F : FnT K "is_lottery" (top 29) f fd) (G : mg "is_lottery" = some (.ref f)) : Ca P w K mg base "is_lottery" 1 f fd ["lottery", "size"] (spP K T 2 F_is_lottery) := by
  have sc := sc_is_lottery
  refine ⟨fnP (k := 0) F sc rfl rfl fun cdv A outer s H E hr => ⟨[], ?_⟩, F.bindsN fun _ _ _ _ _ _ us hl => match us, hl with | [_, _], _ => rfl, G, F.kp⟩
  exact (dss_cons (ds_if (dt_not (dt_chain op_le ops_le op_le ops_le (de_int pe_int) (de_ca (pe_callB call_len rfl W.m_len boot_len (da_cons (de_var (pv 0) rfl) da_nil)) cas_len) (de_int (pe_glob rfl W.c_MOST_PAIRS.choose_spec ⟨_, rfl⟩)))) (dss_one (ds_ret (de_bl pe_bl))) dss_nil) (dss_cons (ds_set (ps_set (i := 2) sc.nd rfl (Or.inl rfl) (de_un (pe_un un_neg (de_int pe_int)) uns_neg)) rfl) (dss_cons (ds_for PassesOwn.never rfl (di_seq (de_var (pv 0) rfl)) (dg_tup rfl (dgs_cons (dg_name (pg_name (i := 3) sc.nd rfl (Or.inl rfl)) rfl) (dgs_cons (dg_name (pg_name (i := 4) sc.nd rfl (Or.inl rfl)) rfl) dgs_nil))) (dss_cons (ds_if (PW.pt (dw_or (dt_not (dt_chain op_lt ops_lt op_lt ops_lt (de_var (pv 2) rfl) (de_var (pv 3) rfl) (de_var (pv 1) rfl))) (dw_oneO (dt_not (dt_chain op_le ops_le op_le ops_le (de_int pe_int) (de_var (pv 4) rfl) (de_int (pe_glob rfl W.c_MOST_WEIGHT.choose_spec ⟨_, rfl⟩))))))) (dss_one (ds_ret (de_bl pe_bl))) dss_nil) (dss_one (ds_set (ps_set (i := 2) sc.nd rfl (Or.inl rfl) (de_var (pv 3) rfl)) rfl)))) (dss_one (ds_ret (de_bl pe_bl))))))
theorem ok_want_plays (W : Wd K mg) (F : FnT K "want_plays" (top 31) f fd) (G : mg "want_plays" = some (.ref f)) {f_is_lottery : Addr} {fd_is_lottery : FuncData} (C_is_lottery : Ca P w K mg base "is_lottery" 1 f_is_lottery fd_is_lottery ["lottery", "size"] (spP K T 2 F_is_lottery)) : Ca P w K mg base "want_plays" 2 f fd ["plays", "size"] (spP K T 2 F_want_plays) := by
  have sc := sc_want_plays
  refine ⟨fnP (k := 1) F sc rfl rfl fun cdv A outer s H E hr => ⟨[], ?_⟩, F.bindsN fun _ _ _ _ _ _ us hl => match us, hl with | [_, _], _ => rfl, G, F.kp⟩
  exact (dss_cons (ds_for PassesOwn.never rfl (di_enum rfl W.m_enumerate (de_var (pv 0) rfl)) (dg_tup rfl (dgs_cons (dg_name (pg_name (i := 2) sc.nd rfl (Or.inl rfl)) rfl) (dgs_cons (dg_name (pg_name (i := 3) sc.nd rfl (Or.inl rfl)) rfl) dgs_nil))) (dss_one (ds_if (dt_cmpR op_gt ops_gt (de_ca (pe_callB call_len rfl W.m_len boot_len (da_cons (de_var (pv 3) rfl) da_nil)) cas_len) (de_int (pe_glob rfl W.c_MOST_PLAYS.choose_spec ⟨_, rfl⟩))) (dss_one ds_never) dss_nil))) (dss_one (ds_for PassesOwn.never rfl (di_enum rfl W.m_enumerate (de_var (pv 0) rfl)) (dg_tup rfl (dgs_cons (dg_name (pg_name (i := 2) sc.nd rfl (Or.inl rfl)) rfl) (dgs_cons (dg_name (pg_name (i := 3) sc.nd rfl (Or.inl rfl)) rfl) dgs_nil))) (dss_one (ds_for PassesOwn.never rfl (di_enum rfl W.m_enumerate (de_var (pv 3) rfl)) (dg_tup rfl (dgs_cons (dg_name (pg_name (i := 4) sc.nd rfl (Or.inl rfl)) rfl) (dgs_cons (dg_name (pg_name (i := 5) sc.nd rfl (Or.inl rfl)) rfl) dgs_nil))) (dss_one (ds_if (dt_not (dt_tr (de_call (pe_call (C_is_lottery.F.mono (by decide)) hr rfl C_is_lottery.G C_is_lottery.Kp C_is_lottery.B .nil pass0 (da_cons (de_var (pv 5) rfl) (da_cons (de_var (pv 1) rfl) da_nil))) (an_cons (an_cons an_nil))))) (dss_one ds_never) dss_nil)))))))
theorem ok_made_board (W : Wd K mg) (F : FnT K "made_board" (top 32) f fd) (G : mg "made_board" = some (.ref f)) {f_want_pays : Addr} {fd_want_pays : FuncData} (C_want_pays : Ca P w K mg base "want_pays" 4 f_want_pays fd_want_pays ["pays", "size"] (spP K T 2 F_want_pays)) {f_want_plays : Addr} {fd_want_plays : FuncData} (C_want_plays : Ca P w K mg base "want_plays" 2 f_want_plays fd_want_plays ["plays", "size"] (spP K T 2 F_want_plays)) {fd_Board : FuncData} (C_Board : CaM P w K mg base 1 (He.ma K (He.ga K "Board") "__init__") fd_Board ["self", "pays", "plays"] (spMk K T (He.ga K "Board") 2 gBoard)) : Ca P w K mg base "made_board" 5 f fd ["pays", "plays"] (spP K T 2 F_made_board) := by
  have sc := sc_made_board
  refine ⟨fnP (k := 4) F sc rfl rfl fun cdv A outer s H E hr => ⟨[], ?_⟩, F.bindsN fun _ _ _ _ _ _ us hl => match us, hl with | [_, _], _ => rfl, G, F.kp⟩
  exact (dss_cons (ds_set (ps_set (i := 2) sc.nd rfl (Or.inl rfl) (de_ca (pe_callB call_len rfl W.m_len boot_len (da_cons (de_var (pv 0) rfl) da_nil)) cas_len)) rfl) (dss_cons (ds_if (dt_not (dt_chain op_le ops_le op_le ops_le (de_int pe_int) (de_var (pv 2) rfl) (de_int (pe_glob rfl W.c_MOST_PLACES.choose_spec ⟨_, rfl⟩)))) (dss_one ds_never) dss_nil) (dss_cons (ds_drop (de_call (pe_call (C_want_pays.F.mono (by decide)) hr rfl C_want_pays.G C_want_pays.Kp C_want_pays.B .nil pass0 (da_cons (de_var (pv 0) rfl) (da_cons (de_var (pv 2) rfl) da_nil))) (an_cons (an_cons an_nil)))) (dss_cons (ds_if (dt_cmpR (op_neD hr.units) ops_ne (de_ca (pe_callB call_len rfl W.m_len boot_len (da_cons (de_var (pv 1) rfl) da_nil)) cas_len) (de_var (pv 2) rfl)) (dss_one ds_never) dss_nil) (dss_cons (ds_drop (de_call (pe_call (C_want_plays.F.mono (by decide)) hr rfl C_want_plays.G C_want_plays.Kp C_want_plays.B .nil pass0 (da_cons (de_var (pv 1) rfl) (da_cons (de_var (pv 2) rfl) da_nil))) (an_cons (an_cons an_nil)))) (dss_one (ds_ret (de_make (pe_make W.mk_Board (C_Board.F.mono (by decide)) hr rfl W.g_Board C_Board.B .nil pass0 (da_cons (de_var (pv 0) rfl) (da_cons (de_var (pv 1) rfl) da_nil))) (an_cons (an_cons an_nil))))))))))
theorem ok_out_of (W : Wd K mg) (F : FnT K "out_of" (top 50) f fd) (G : mg "out_of" = some (.ref f)) {f_stakes : Addr} {fd_stakes : FuncData} (C_stakes : Ca P w K mg base "stakes" 1 f_stakes fd_stakes ["table"] (spP K T 1 F_stakes)) : Ca P w K mg base "out_of" 2 f fd ["goal", "table", "x", "stake", "gain"] (spP K T 5 F_out_of) := by
  have sc := sc_out_of
  refine ⟨fnP (k := 1) F sc rfl rfl fun cdv A outer s H E hr => ⟨[], ?_⟩, F.bindsN fun _ _ _ _ _ _ us hl => match us, hl with | [_, _, _, _, _], _ => rfl, G, F.kp⟩
  exact (dss_cons (ds_if (PW.pt (dw_or (dt_cmpR op_notIn_seq ops_nin (de_var (pv 3) rfl) (de_call (pe_call (C_stakes.F.mono (by decide)) hr rfl C_stakes.G C_stakes.Kp C_stakes.B .nil pass0 (da_cons (de_var (pv 1) rfl) da_nil)) (an_cons an_nil))) (dw_oneO (dt_cmpR op_gt ops_gt (de_bin (pe_op op_addA (de_var (pv 3) rfl) (de_ix (de_var (pv 1) rfl) (de_int pe_int))) ops_add) (de_var (pv 2) rfl))))) (dss_one ds_never) dss_nil) (dss_one (ds_ret (de_ca (pe_callB (call_min2 rfl) rfl W.m_min (by decide +kernel) (da_cons (de_var (pv 0) rfl) (da_cons (de_bin (pe_op op_addA (de_bin (pe_op op_sub (de_var (pv 2) rfl) (de_ix (de_var (pv 1) rfl) (de_int pe_int))) ops_sub) (de_bin (pe_op op_mulZ (de_var (pv 4) rfl) (de_var (pv 3) rfl)) ops_mul)) ops_add) da_nil))) cas_min2))))
theorem ok_stake_lottery (W : Wd K mg) (F : FnT K "stake_lottery" (top 52) f fd) (G : mg "stake_lottery" = some (.ref f)) {f_out_of : Addr} {fd_out_of : FuncData} (C_out_of : Ca P w K mg base "out_of" 2 f_out_of fd_out_of ["goal", "table", "x", "stake", "gain"] (spP K T 5 F_out_of)) : Ca P w K mg base "stake_lottery" 3 f fd ["goal", "table", "x", "stake"] (spP K T 4 F_stake_lottery) := by
  have sc := sc_stake_lottery
  refine ⟨fnP (k := 2) F sc rfl rfl fun cdv A outer s H E hr => ⟨[], ?_⟩, F.bindsN fun _ _ _ _ _ _ us hl => match us, hl with | [_, _, _, _], _ => rfl, G, F.kp⟩
  exact (dss_cons (ds_own (ps_set (i := 4) sc.nd rfl (Or.inr rfl) dl_dic0) rfl) (dss_cons (ds_for PassesOwn.never rfl (di_seq (de_ix (de_var (pv 1) rfl) (de_int pe_int))) (dg_tup rfl (dgs_cons (dg_name (pg_name (i := 5) sc.nd rfl (Or.inl rfl)) rfl) (dgs_cons (dg_name (pg_name (i := 6) sc.nd rfl (Or.inl rfl)) rfl) dgs_nil))) (dss_cons (ds_set (ps_set (i := 7) sc.nd rfl (Or.inl rfl) (de_call (pe_call (C_out_of.F.mono (by decide)) hr rfl C_out_of.G C_out_of.Kp C_out_of.B .nil pass0 (da_cons (de_var (pv 0) rfl) (da_cons (de_var (pv 1) rfl) (da_cons (de_var (pv 2) rfl) (da_cons (de_var (pv 3) rfl) (da_cons (de_var (pv 5) rfl) da_nil)))))) (an_cons (an_cons (an_cons (an_cons (an_cons an_nil))))))) rfl) (dss_one (ds_dput (ps_dput (hu_of hr) (pv 4) (de_var (pv 7) rfl) (de_bin (pe_op op_addA (de_bor (de_dget2 hr (de_var (pv 4) rfl) (de_var (pv 7) rfl) (de_int pe_int) ⟨rfl, rfl, rfl, rfl⟩)) (de_var (pv 6) rfl)) ops_add) rfl) rfl)))) (dss_one (ds_frz 4 rfl (.inl rfl) (ds_ret (de_ca (pe_callTy call_tuple_of rfl W.m_tuple (by decide +kernel) (da_cons (de_frz (dl_lc rfl sc.nd (di_seq (de_frz (dl_ca (pe_callB (call_sortedDI rfl) rfl W.m_sorted (by decide +kernel) (da_cons (de_var (pv 4) rfl) da_nil)) cal_sortDD))) (own := [("purse", 7)]) (blk_ok (by kernel_rfl)) (fun _ _ _ _ _ => (dg_name (pg_name (i := 7) sc.nd rfl (by first | exact Or.inl rfl | exact Or.inr rfl)) rfl)) (fun _ _ _ _ _ => dts_nil) (fun _ _ _ _ _ => (de_tup (da_cons (de_var (pv 7) rfl) (da_cons (de_dix hr (de_var (pv 4) rfl) (de_var (pv 7) rfl)) da_nil)))) rfl rfl)) da_nil)) cas_tuple))))))
theorem ok_open_stakes (W : Wd K mg) (F : FnT K "open_stakes" (top 49) f fd) (G : mg "open_stakes" = some (.ref f)) {f_stakes : Addr} {fd_stakes : FuncData} (C_stakes : Ca P w K mg base "stakes" 1 f_stakes fd_stakes ["table"] (spP K T 1 F_stakes)) : Ca P w K mg base "open_stakes" 2 f fd ["tables", "x"] (spP K T 2 F_open_stakes) := by
  have sc := sc_open_stakes
  refine ⟨fnP (k := 1) F sc rfl rfl fun cdv A outer s H E hr => ⟨[], ?_⟩, F.bindsN fun _ _ _ _ _ _ us hl => match us, hl with | [_, _], _ => rfl, G, F.kp⟩
  exact (dss_one (ds_ret (de_frz (dl_lc2 rfl sc.nd (di_seq (de_var (pv 0) rfl)) (own := [("table", 2), ("stake", 3)]) (vs1 := [3]) (blk_ok (by kernel_rfl)) (fun _ _ _ _ _ => (dg_name (pg_name (i := 2) sc.nd rfl (by first | exact Or.inl rfl | exact Or.inr rfl)) rfl)) (fun _ _ _ _ _ => dts_nil) (fun _ _ _ _ _ => (di_seq (de_call (pe_call (C_stakes.F.mono (by decide)) hr rfl C_stakes.G C_stakes.Kp C_stakes.B .nil pass0 (da_cons (de_var (pv 2) rfl) da_nil)) (an_cons an_nil)))) (fun _ _ _ _ _ => (dg_name (pg_name (i := 3) sc.nd rfl (by first | exact Or.inl rfl | exact Or.inr rfl)) rfl)) (fun _ _ _ _ _ => (dts_one (dt_cmpR op_le ops_le (de_bin (pe_op op_addA (de_var (pv 3) rfl) (de_ix (de_var (pv 2) rfl) (de_int pe_int))) ops_add) (de_var (pv 1) rfl)))) (fun _ _ _ _ _ => (de_tup (da_cons (de_var (pv 2) rfl) (da_cons (de_var (pv 3) rfl) da_nil)))) rfl rfl rfl rfl))))
theorem ok_house_plays (W : Wd K mg) (F : FnT K "house_plays" (top 53) f fd) (G : mg "house_plays" = some (.ref f)) {f_open_stakes : Addr} {fd_open_stakes : FuncData} (C_open_stakes : Ca P w K mg base "open_stakes" 2 f_open_stakes fd_open_stakes ["tables", "x"] (spP K T 2 F_open_stakes)) {f_stake_lottery : Addr} {fd_stake_lottery : FuncData} (C_stake_lottery : Ca P w K mg base "stake_lottery" 3 f_stake_lottery fd_stake_lottery ["goal", "table", "x", "stake"] (spP K T 4 F_stake_lottery)) : Ca P w K mg base "house_plays" 4 f fd ["goal", "tables", "x"] (spP K T 3 F_house_plays) := by
  have sc := sc_house_plays
  refine ⟨fnP (k := 3) F sc rfl rfl fun cdv A outer s H E hr => ⟨[], ?_⟩, F.bindsN fun _ _ _ _ _ _ us hl => match us, hl with | [_, _, _], _ => rfl, G, F.kp⟩
  exact (dss_one (ds_ret (de_ca (pe_callTy call_tuple_of rfl W.m_tuple (by decide +kernel) (da_cons (de_frz (dl_lc rfl sc.nd (di_seq (de_call (pe_call (C_open_stakes.F.mono (by decide)) hr rfl C_open_stakes.G C_open_stakes.Kp C_open_stakes.B .nil pass0 (da_cons (de_var (pv 1) rfl) (da_cons (de_var (pv 2) rfl) da_nil))) (an_cons (an_cons an_nil)))) (own := [("table", 3), ("stake", 4)]) (blk_ok (by kernel_rfl)) (fun _ _ _ _ _ => (dg_tup rfl (dgs_cons (dg_name (pg_name (i := 3) sc.nd rfl (by first | exact Or.inl rfl | exact Or.inr rfl)) rfl) (dgs_cons (dg_name (pg_name (i := 4) sc.nd rfl (by first | exact Or.inl rfl | exact Or.inr rfl)) rfl) dgs_nil)))) (fun _ _ _ _ _ => dts_nil) (fun _ _ _ _ _ => (de_call (pe_call (C_stake_lottery.F.mono (by decide)) hr rfl C_stake_lottery.G C_stake_lottery.Kp C_stake_lottery.B .nil pass0 (da_cons (de_var (pv 0) rfl) (da_cons (de_var (pv 3) rfl) (da_cons (de_var (pv 2) rfl) (da_cons (de_var (pv 4) rfl) da_nil))))) (an_cons (an_cons (an_cons (an_cons an_nil)))))) rfl rfl)) da_nil)) cas_tuple)))
theorem ok_laid (W : Wd K mg) (F : FnT K "laid" (top 54) f fd) (G : mg "laid" = some (.ref f)) {f_checked_house : Addr} {fd_checked_house : FuncData} (C_checked_house : Ca P w K mg base "checked_house" 5 f_checked_house fd_checked_house ["house"] (spP K T 1 F_checked_house)) {f_house_plays : Addr} {fd_house_plays : FuncData} (C_house_plays : Ca P w K mg base "house_plays" 4 f_house_plays fd_house_plays ["goal", "tables", "x"] (spP K T 3 F_house_plays)) {f_made_board : Addr} {fd_made_board : FuncData} (C_made_board : Ca P w K mg base "made_board" 5 f_made_board fd_made_board ["pays", "plays"] (spP K T 2 F_made_board)) : Ca P w K mg base "laid" 6 f fd ["house", "pays"] (spP K T 2 F_laid) := by
  have sc := sc_laid
  refine ⟨fnP (k := 5) F sc rfl rfl fun cdv A outer s H E hr => ⟨[], ?_⟩, F.bindsN fun _ _ _ _ _ _ us hl => match us, hl with | [_, _], _ => rfl, G, F.kp⟩
  exact (dss_cons (ds_tgt (ps_asg (de_call (pe_call (C_checked_house.F.mono (by decide)) hr rfl C_checked_house.G C_checked_house.Kp C_checked_house.B .nil pass0 (da_cons (de_var (pv 0) rfl) da_nil)) (an_cons an_nil)) (dg_tup rfl (dgs_cons (dg_name (pg_name (i := 2) sc.nd rfl (Or.inr rfl)) rfl) (dgs_cons (dg_name (pg_name (i := 3) sc.nd rfl (Or.inr rfl)) rfl) dgs_nil))))) (dss_cons (ds_if (dt_cmpR (op_neD hr.units) ops_ne (de_ca (pe_callB call_len rfl W.m_len boot_len (da_cons (de_var (pv 1) rfl) da_nil)) cas_len) (de_bin (pe_op op_addA (de_var (pv 2) rfl) (de_int pe_int)) ops_add)) (dss_one ds_never) dss_nil) (dss_one (ds_ret (de_call (pe_call (C_made_board.F.mono (by decide)) hr rfl C_made_board.G C_made_board.Kp C_made_board.B .nil pass0 (da_cons (de_var (pv 1) rfl) (da_cons (de_ca (pe_callTy call_tuple_of rfl W.m_tuple (by decide +kernel) (da_cons (de_frz (dl_lc rfl sc.nd (di_rng1 (pi_range1 rfl W.m_range (da_cons (de_bin (pe_op op_addA (de_var (pv 2) rfl) (de_int pe_int)) ops_add) da_nil)) (an_cons an_nil)) (own := [("x", 4)]) (blk_ok (by kernel_rfl)) (fun _ _ _ _ _ => (dg_name (pg_name (i := 4) sc.nd rfl (by first | exact Or.inl rfl | exact Or.inr rfl)) rfl)) (fun _ _ _ _ _ => dts_nil) (fun _ _ _ _ _ => (de_call (pe_call (C_house_plays.F.mono (by decide)) hr rfl C_house_plays.G C_house_plays.Kp C_house_plays.B .nil pass0 (da_cons (de_var (pv 2) rfl) (da_cons (de_var (pv 3) rfl) (da_cons (de_var (pv 4) rfl) da_nil)))) (an_cons (an_cons (an_cons an_nil))))) rfl rfl)) da_nil)) cas_tuple) da_nil))) (an_cons (an_cons an_nil)))))))
theorem ok__law_is_ratio (W : Wd K mg) (F : FnT K "_law_is_ratio" (top 92) f fd) (G : mg "_law_is_ratio" = some (.ref f)) {f__law_low : Addr} {fd__law_low : FuncData} (C__law_low : Ca P w K mg base "_law_low" 1 f__law_low fd__law_low ["_law_n", "_law_d"] (spP K T 2 F__law_low)) : Ca P w K mg base "_law_is_ratio" 2 f fd ["_law_thing"] (spP K T 1 F__law_is_ratio) := by
  have sc := sc__law_is_ratio
  refine ⟨fnP (k := 1) F sc rfl rfl fun cdv A outer s H E hr => ⟨[], ?_⟩, F.bindsN fun _ _ _ _ _ _ us hl => match us, hl with | [_], _ => rfl, G, F.kp⟩
  exact (dss_cons (ds_if (PW.pt (dw_or (dt_not (dt_tr (de_isi isi_tuple (pe_callB call_isi rfl W.m_isinstance (by decide +kernel) (pa_cons (de_var (pv 0) rfl) (pa_cons (pe_bltn rfl W.m_tuple (by decide +kernel) rfl) pa_nil)))))) (dw_oneO (dt_cmpR (op_neD hr.units) ops_ne (de_ca (pe_callB call_len rfl W.m_len boot_len (da_cons (de_var (pv 0) rfl) da_nil)) cas_len) (de_int pe_int))))) (dss_one (ds_ret (de_bl pe_bl))) dss_nil) (dss_cons (ds_for PassesOwn.never rfl (di_seq (de_var (pv 0) rfl)) (dg_name (pg_name (i := 1) sc.nd rfl (Or.inl rfl)) rfl) (dss_one (ds_if (PW.pt (dw_or (dt_not (dt_tr (de_isi isi_int (pe_callB call_isi rfl W.m_isinstance (by decide +kernel) (pa_cons (de_var (pv 1) rfl) (pa_cons (pe_bltn rfl W.m_int (by decide +kernel) rfl) pa_nil)))))) (dw_oneO (dt_tr (de_isi isi_bool (pe_callB call_isi rfl W.m_isinstance (by decide +kernel) (pa_cons (de_var (pv 1) rfl) (pa_cons (pe_bltn rfl W.m_bool (by decide +kernel) rfl) pa_nil)))))))) (dss_one (ds_ret (de_bl pe_bl))) dss_nil))) (dss_one (ds_ret (de_and (de_cmp op_ge ops_ge (de_ix (de_var (pv 0) rfl) (de_int pe_int)) (de_int pe_int)) (de_one (de_cmp (op_eqD hr.units) ops_eq (de_call (pe_call (C__law_low.F.mono (by decide)) hr rfl C__law_low.G C__law_low.Kp C__law_low.B .nil pass0 (da_cons (de_ix (de_var (pv 0) rfl) (de_int pe_int)) (da_cons (de_ix (de_var (pv 0) rfl) (de_int pe_int)) da_nil))) (an_cons (an_cons an_nil))) (de_var (pv 0) rfl))))))))
theorem ok__law_is_function (W : Wd K mg) (F : FnT K "_law_is_function" (top 93) f fd) (G : mg "_law_is_function" = some (.ref f)) {f__law_is_ratio : Addr} {fd__law_is_ratio : FuncData} (C__law_is_ratio : Ca P w K mg base "_law_is_ratio" 2 f__law_is_ratio fd__law_is_ratio ["_law_thing"] (spP K T 1 F__law_is_ratio)) : Ca P w K mg base "_law_is_function" 3 f fd ["_law_thing", "_law_size"] (spP K T 2 F__law_is_function) := by
  have sc := sc__law_is_function
  refine ⟨fnP (k := 2) F sc rfl rfl fun cdv A outer s H E hr => ⟨[], ?_⟩, F.bindsN fun _ _ _ _ _ _ us hl => match us, hl with | [_, _], _ => rfl, G, F.kp⟩
  exact (dss_cons (ds_if (PW.pt (dw_or (dt_not (dt_tr (de_isi isi_tuple (pe_callB call_isi rfl W.m_isinstance (by decide +kernel) (pa_cons (de_var (pv 0) rfl) (pa_cons (pe_bltn rfl W.m_tuple (by decide +kernel) rfl) pa_nil)))))) (dw_oneO (dt_cmpR (op_neD hr.units) ops_ne (de_ca (pe_callB call_len rfl W.m_len boot_len (da_cons (de_var (pv 0) rfl) da_nil)) cas_len) (de_var (pv 1) rfl))))) (dss_one (ds_ret (de_bl pe_bl))) dss_nil) (dss_one (ds_ret (de_ca (pe_callB (cr_all rfl) rfl W.m_all (by decide +kernel) (da_cons (de_frz (dl_lc rfl sc.nd (di_seq (de_var (pv 0) rfl)) (own := [("_law_part", 2)]) (blk_ok (by kernel_rfl)) (fun _ _ _ _ _ => (dg_name (pg_name (i := 2) sc.nd rfl (by first | exact Or.inl rfl | exact Or.inr rfl)) rfl)) (fun _ _ _ _ _ => dts_nil) (fun _ _ _ _ _ => (de_call (pe_call (C__law_is_ratio.F.mono (by decide)) hr rfl C__law_is_ratio.G C__law_is_ratio.Kp C__law_is_ratio.B .nil pass0 (da_cons (de_var (pv 2) rfl) da_nil)) (an_cons an_nil))) rfl rfl)) da_nil)) cas_all))))
end
end Z
/-! Walks. -/
namespace Z
open PySem PySem.Spec PyProof.Rows L2 RZ GxR
section
variable {P : Program} {w : World} {K : PySem.W.Frag} {T : List Addr} {mg : PySem.Str → Option Value} {base : Heap} {f : Addr} {fd : FuncData}
theorem ok__law_below (W : Wd K mg) (F : FnT K "_law_below" (top 90) f fd) (G : mg "_law_below" = some (.ref f)) : Ca P w K mg base "_law_below" 1 f fd ["_law_a", "_law_b"] (spP K T 2 F__law_below) := by
  have sc := sc__law_below
  refine ⟨fnP (k := 0) F sc rfl rfl fun cdv A outer s H E hr => ⟨[], ?_⟩, F.bindsN fun _ _ _ _ _ _ us hl => match us, hl with | [_, _], _ => rfl, G, F.kp⟩
  exact (dss_one (ds_ret (de_cmp op_lt ops_lt (de_bin (pe_op op_mulZ (de_ix (de_var (pv 0) rfl) (de_int pe_int)) (de_ix (de_var (pv 1) rfl) (de_int pe_int))) ops_mul) (de_bin (pe_op op_mulZ (de_ix (de_var (pv 1) rfl) (de_int pe_int)) (de_ix (de_var (pv 0) rfl) (de_int pe_int))) ops_mul))))
theorem ok_law (W : Wd K mg) (F : FnT K "law" (top 101) f fd) (G : mg "law" = some (.ref f)) {f__law_pool : Addr} {fd__law_pool : FuncData} (C__law_pool : Ca P w K mg base "_law_pool" 1 f__law_pool fd__law_pool ["_law_script", "_law_k"] (spF K T 2 F__law_pool)) {f__law_house : Addr} {fd__law_house : FuncData} (C__law_house : Ca P w K mg base "_law_house" 5 f__law_house fd__law_house ["_law_source", "_law_most"] (spI K T 1 I__law_house)) {f__law_table : Addr} {fd__law_table : FuncData} (C__law_table : Ca P w K mg base "_law_table" 4 f__law_table fd__law_table ["_law_source", "_law_used"] (spI K T 1 I__law_table)) {f__law_rising : Addr} {fd__law_rising : FuncData} (C__law_rising : Ca P w K mg base "_law_rising" 3 f__law_rising fd__law_rising ["_law_source", "_law_goal"] (spI K T 1 I__law_rising)) {f__law_changed : Addr} {fd__law_changed : FuncData} (C__law_changed : Ca P w K mg base "_law_changed" 5 f__law_changed fd__law_changed ["_law_source", "_law_house_here"] (spI K T 1 I__law_changed)) {f_laid : Addr} {fd_laid : FuncData} (C_laid : Ca P w K mg base "laid" 6 f_laid fd_laid ["house", "pays"] (spP K T 2 F_laid)) {f_worth : Addr} {fd_worth : FuncData} (C_worth : Ca P w K mg base "worth" 6 f_worth fd_worth ["board"] (spP K T 1 F_worth)) {f__law_is_function : Addr} {fd__law_is_function : FuncData} (C__law_is_function : Ca P w K mg base "_law_is_function" 3 f__law_is_function fd__law_is_function ["_law_thing", "_law_size"] (spP K T 2 F__law_is_function)) {f__law_below : Addr} {fd__law_below : FuncData} (C__law_below : Ca P w K mg base "_law_below" 1 f__law_below fd__law_below ["_law_a", "_law_b"] (spP K T 2 F__law_below)) : Ca P w K mg base "law" 7 f fd ["_law_script"] (spP K T 1 F_law) := by
  have sc := sc_law
  refine ⟨fnP (k := 6) F sc rfl rfl fun cdv A outer s H E hr => ⟨[], ?_⟩, F.bindsN fun _ _ _ _ _ _ us hl => match us, hl with | [_], _ => rfl, G, F.kp⟩
  exact (dss_cons (ds_own (ps_set (i := 1) sc.nd rfl (Or.inl rfl) (dl_call (pe_call (C__law_pool.F.mono (by decide)) hr rfl C__law_pool.G C__law_pool.Kp C__law_pool.B .nil pass0 (da_cons (de_var (pv 0) rfl) (da_cons (de_int pe_int) da_nil))) (an_cons (an_cons an_nil)))) rfl) (dss_cons (ds_tgt (ps_asg (de_callI (pe_call (C__law_house.F.mono (by decide)) hr rfl C__law_house.G C__law_house.Kp C__law_house.B .nil pass0 (pa_cons (pv 1) (da_cons (de_int pe_int) da_nil))) (an_cons an_nil) rfl) (dg_tup rfl (dgs_cons (dg_name (pg_name (i := 2) sc.nd rfl (Or.inl rfl)) rfl) (dgs_cons (dg_name (pg_name (i := 3) sc.nd rfl (Or.inl rfl)) rfl) dgs_nil))))) (dss_cons (ds_set (ps_set (i := 4) sc.nd rfl (Or.inl rfl) (de_tup (da_cons (de_var (pv 2) rfl) (da_cons (de_bin (pe_op op_addA (de_var (pv 3) rfl) (de_tup (da_cons (de_callI (pe_call (C__law_table.F.mono (by decide)) hr rfl C__law_table.G C__law_table.Kp C__law_table.B .nil pass0 (pa_cons (pv 1) (da_cons (de_frz (dl_lc rfl sc.nd (di_seq (de_var (pv 3) rfl)) (own := [("_law_table_here", 5)]) (blk_ok (by kernel_rfl)) (fun _ _ _ _ _ => (dg_name (pg_name (i := 5) sc.nd rfl (by first | exact Or.inl rfl | exact Or.inr rfl)) rfl)) (fun _ _ _ _ _ => dts_nil) (fun _ _ _ _ _ => (de_ix (de_var (pv 5) rfl) (de_int pe_int))) rfl rfl)) da_nil))) (an_cons an_nil) rfl) da_nil))) ops_add) da_nil)))) rfl) (dss_cons (ds_set (ps_set (i := 6) sc.nd rfl (Or.inl rfl) (de_callI (pe_call (C__law_rising.F.mono (by decide)) hr rfl C__law_rising.G C__law_rising.Kp C__law_rising.B .nil pass0 (pa_cons (pv 1) (da_cons (de_var (pv 2) rfl) da_nil))) (an_cons an_nil) rfl)) rfl) (dss_cons (ds_tgt (ps_asg (de_callI (pe_call (C__law_changed.F.mono (by decide)) hr rfl C__law_changed.G C__law_changed.Kp C__law_changed.B .nil pass0 (pa_cons (pv 1) (da_cons (de_var (pv 4) rfl) da_nil))) (an_cons an_nil) rfl) (dg_tup rfl (dgs_cons (dg_name (pg_name (i := 7) sc.nd rfl (Or.inl rfl)) rfl) (dgs_cons (dg_name (pg_name (i := 8) sc.nd rfl (Or.inl rfl)) rfl) dgs_nil))))) (dss_cons (ds_par2 (fl := [false, false]) (ps_par (i := 9) (j := 10) rfl sc.nd rfl rfl (by decide) rfl rfl (dax_sh (de_call (pe_call (C_worth.F.mono (by decide)) hr rfl C_worth.G C_worth.Kp C_worth.B .nil pass0 (da_cons (de_call (pe_call (C_laid.F.mono (by decide)) hr rfl C_laid.G C_laid.Kp C_laid.B .nil pass0 (da_cons (de_var (pv 4) rfl) (da_cons (de_var (pv 6) rfl) da_nil))) (an_cons (an_cons an_nil))) da_nil)) (an_cons an_nil)) (dax_sh (de_call (pe_call (C_worth.F.mono (by decide)) hr rfl C_worth.G C_worth.Kp C_worth.B .nil pass0 (da_cons (de_call (pe_call (C_laid.F.mono (by decide)) hr rfl C_laid.G C_laid.Kp C_laid.B .nil pass0 (da_cons (de_var (pv 7) rfl) (da_cons (de_var (pv 6) rfl) da_nil))) (an_cons (an_cons an_nil))) da_nil)) (an_cons an_nil)) dax_nil)) rfl) rfl) (dss_cons (ds_if (PW.pt (dw_or (dt_not (dt_tr (de_call (pe_call (C__law_is_function.F.mono (by decide)) hr rfl C__law_is_function.G C__law_is_function.Kp C__law_is_function.B .nil pass0 (da_cons (de_var (pv 9) rfl) (da_cons (de_bin (pe_op op_addA (de_var (pv 2) rfl) (de_int pe_int)) ops_add) da_nil))) (an_cons (an_cons an_nil))))) (dw_oneO (dt_not (dt_tr (de_call (pe_call (C__law_is_function.F.mono (by decide)) hr rfl C__law_is_function.G C__law_is_function.Kp C__law_is_function.B .nil pass0 (da_cons (de_var (pv 10) rfl) (da_cons (de_bin (pe_op op_addA (de_var (pv 2) rfl) (de_int pe_int)) ops_add) da_nil))) (an_cons (an_cons an_nil)))))))) (dss_one (ds_frz 1 rfl (.inl rfl) (ds_ret (de_bl pe_bl)))) dss_nil) (dss_cons (ds_tgt (ps_asg (de_if (dt_tr (de_var (pv 8) rfl)) (de_tup (da_cons (de_var (pv 9) rfl) (da_cons (de_var (pv 10) rfl) da_nil))) (de_tup (da_cons (de_var (pv 10) rfl) (da_cons (de_var (pv 9) rfl) da_nil)))) (dg_tup rfl (dgs_cons (dg_name (pg_name (i := 11) sc.nd rfl (Or.inr rfl)) rfl) (dgs_cons (dg_name (pg_name (i := 12) sc.nd rfl (Or.inr rfl)) rfl) dgs_nil))))) (dss_one (ds_frz 1 rfl (.inl rfl) (ds_ret (de_cmp (op_eqD hr.units) ops_eq (de_frz (dl_lc rfl sc.nd (di_rng1 (pi_range1 rfl W.m_range (da_cons (de_bin (pe_op op_addA (de_var (pv 2) rfl) (de_int pe_int)) ops_add) da_nil)) (an_cons an_nil)) (own := [("_law_x", 13)]) (blk_ok (by kernel_rfl)) (fun _ _ _ _ _ => (dg_name (pg_name (i := 13) sc.nd rfl (by first | exact Or.inl rfl | exact Or.inr rfl)) rfl)) (fun _ _ _ _ _ => (dts_one (dt_tr (de_call (pe_call (C__law_below.F.mono (by decide)) hr rfl C__law_below.G C__law_below.Kp C__law_below.B .nil pass0 (da_cons (de_ix (de_var (pv 12) rfl) (de_var (pv 13) rfl)) (da_cons (de_ix (de_var (pv 11) rfl) (de_var (pv 13) rfl)) da_nil))) (an_cons (an_cons an_nil)))))) (fun _ _ _ _ _ => (de_var (pv 13) rfl)) rfl rfl)) (de_frz (dl_lst da_nil))))))))))))))
end
end Z
/-! What the head leaves. -/
namespace Z
open PySem PySem.Spec PyProof.Rows L2 RZ GxR
section
variable {P : Program} {w : World} {K : PySem.W.Frag} {h : Heap} {mg : PySem.Str → Option Value} {f : Addr}
theorem fact (c : He.SaysX fa fn [] tf ex w h K) {x : He.Fa} (i : Nat) (e : fa[i]? = some x := by rfl) : x.ok K = true := c.t.d.fact i e
theorem wd (X : K.In h) (G : h.Ns mainGlobals mg) (c : He.SaysX fa fn [] tf ex w h K) : Wd K mg where
  c_LETTERS := He.str_ok X G (c.t.d.fact 63 (f := .str "LETTERS" "abcdefghijklmnopqrstuvwxyz") rfl)
  c_MOST_GOAL := He.int_ok X G (c.t.d.fact 64 (f := .int "MOST_GOAL" (39)) rfl)
  c_MOST_OUTS := He.int_ok X G (c.t.d.fact 65 (f := .int "MOST_OUTS" (6)) rfl)
  c_MOST_PAIRS := He.int_ok X G (c.t.d.fact 66 (f := .int "MOST_PAIRS" (8)) rfl)
  c_MOST_PLACES := He.int_ok X G (c.t.d.fact 67 (f := .int "MOST_PLACES" (40)) rfl)
  c_MOST_PLAYS := He.int_ok X G (c.t.d.fact 68 (f := .int "MOST_PLAYS" (12)) rfl)
  c_MOST_STAKE := He.int_ok X G (c.t.d.fact 69 (f := .int "MOST_STAKE" (39)) rfl)
  c_MOST_STAKES := He.int_ok X G (c.t.d.fact 70 (f := .int "MOST_STAKES" (12)) rfl)
  c_MOST_TABLES := He.int_ok X G (c.t.d.fact 71 (f := .int "MOST_TABLES" (4)) rfl)
  c_MOST_UNKNOWNS := He.int_ok X G (c.t.d.fact 72 (f := .int "MOST_UNKNOWNS" (40)) rfl)
  c_MOST_WEIGHT := He.int_ok X G (c.t.d.fact 73 (f := .int "MOST_WEIGHT" (99999)) rfl)
  c_PAY_LIMIT := He.int_ok X G (c.t.d.fact 74 (f := .int "PAY_LIMIT" (1000000000000000000000000000000000000000000000000000000000000000000000000000000000000000000000000000000000000000000000000000000000000000000000000000000000000000000000000000000000000000000000000000000000000000000000000000000000000000000000000000000000000000000000000000000000000000000000000000000000000000000000000000000000000000000000000000000000000000000000000000000000000000000000000000000000000000000000000000000000000000000000000000000000000000000000000000000000000000000000000000000000000000000000000000000000000000000000000000000000000000000000000000000000000000000000000000000000000000000000000)) rfl)
  c_STOP := He.int_ok X G (c.t.d.fact 75 (f := .int "STOP" (-1)) rfl)
  cls_Board := He.cls_ok (c.t.d.fact 76 (f := .cls "Board") rfl)
  g_Board := He.glo_ok X G (c.t.d.fact 62 (f := .glo "Board") rfl)
  g_gcd := PySem.W.mg_of X G (He.eqO_ok (He.ba c.more).1)
  g_lcm := PySem.W.mg_of X G (He.eqO_ok (He.ba c.more).2)
  m_all := He.free_ok X G (c.t.d.fact 77 (f := .free "all") rfl)
  m_any := He.free_ok X G (c.t.d.fact 78 (f := .free "any") rfl)
  m_bool := He.free_ok X G (c.t.d.fact 79 (f := .free "bool") rfl)
  m_dict := He.free_ok X G (c.t.d.fact 80 (f := .free "dict") rfl)
  m_enumerate := He.free_ok X G (c.t.d.fact 81 (f := .free "enumerate") rfl)
  m_int := He.free_ok X G (c.t.d.fact 82 (f := .free "int") rfl)
  m_isinstance := He.free_ok X G (c.t.d.fact 83 (f := .free "isinstance") rfl)
  m_len := He.free_ok X G (c.t.d.fact 84 (f := .free "len") rfl)
  m_list := He.free_ok X G (c.t.d.fact 85 (f := .free "list") rfl)
  m_max := He.free_ok X G (c.t.d.fact 86 (f := .free "max") rfl)
  m_min := He.free_ok X G (c.t.d.fact 87 (f := .free "min") rfl)
  m_range := He.free_ok X G (c.t.d.fact 88 (f := .free "range") rfl)
  m_sorted := He.free_ok X G (c.t.d.fact 89 (f := .free "sorted") rfl)
  m_str := He.free_ok X G (c.t.d.fact 90 (f := .free "str") rfl)
  m_sum := He.free_ok X G (c.t.d.fact 91 (f := .free "sum") rfl)
  m_tuple := He.free_ok X G (c.t.d.fact 92 (f := .free "tuple") rfl)
  m_zip := He.free_ok X G (c.t.d.fact 93 (f := .free "zip") rfl)
  mk_Board := He.mkr_ok (c.t.d.fact 94 (f := .mkr "Board") rfl)
  na_Board_pays := He.noat_ok (c.t.d.fact 95 (f := .noat "Board" "pays") rfl)
  na_Board_plays := He.noat_ok (c.t.d.fact 96 (f := .noat "Board" "plays") rfl)
  na_Board_size := He.noat_ok (c.t.d.fact 97 (f := .noat "Board" "size") rfl)
def TbL (K : PySem.W.Frag) : List Addr := tf.map fun p => (He.cT K p).2
theorem code_at {p : He.Defn} (hp : p.2 = none) : He.codeOf K p = codeAt K (He.fAd K p) := rfl
theorem law_ok (X : K.In h) (G : h.Ns mainGlobals mg) (c : He.SaysX fa fn [] tf ex w h K) : ∃ fd : FuncData, (∀ (s : Shared) (v : Value), BindsTo s fd ⟨[v], []⟩ [("_law_script", v)]) ∧ ∀ base : Heap, K.In base → base.Ns mainGlobals mg → (∀ p ∈ tf.map (He.cT K), LamX.TabB base mg p.1 p.2) → FnOk P w K mg base CX0 7 (He.ga K "law") fd ["_law_script"] (spP K (TbL K) 1 F_law) := by
  have W := wd X G c
  obtain ⟨fd__law_pool, D__law_pool⟩ := c.t.d.def_ 0 (d := d__law_pool) rfl
  have g__law_pool : mg "_law_pool" = some (.ref (He.ga K "_law_pool")) := He.glo_ok X G (c.t.d.fact 0 (f := .glo "_law_pool") rfl)
  obtain ⟨fd__law_take, D__law_take⟩ := c.t.d.def_ 1 (d := d__law_take) rfl
  have g__law_take : mg "_law_take" = some (.ref (He.ga K "_law_take")) := He.glo_ok X G (c.t.d.fact 1 (f := .glo "_law_take") rfl)
  obtain ⟨fd__law_one, D__law_one⟩ := c.t.d.def_ 2 (d := d__law_one) rfl
  have g__law_one : mg "_law_one" = some (.ref (He.ga K "_law_one")) := He.glo_ok X G (c.t.d.fact 2 (f := .glo "_law_one") rfl)
  obtain ⟨fd__law_name, D__law_name⟩ := c.t.d.def_ 3 (d := d__law_name) rfl
  have g__law_name : mg "_law_name" = some (.ref (He.ga K "_law_name")) := He.glo_ok X G (c.t.d.fact 3 (f := .glo "_law_name") rfl)
  obtain ⟨fd__law_outs, D__law_outs⟩ := c.t.d.def_ 4 (d := d__law_outs) rfl
  have g__law_outs : mg "_law_outs" = some (.ref (He.ga K "_law_outs")) := He.glo_ok X G (c.t.d.fact 4 (f := .glo "_law_outs") rfl)
  obtain ⟨fd__law_table, D__law_table⟩ := c.t.d.def_ 5 (d := d__law_table) rfl
  have g__law_table : mg "_law_table" = some (.ref (He.ga K "_law_table")) := He.glo_ok X G (c.t.d.fact 5 (f := .glo "_law_table") rfl)
  obtain ⟨fd__law_house, D__law_house⟩ := c.t.d.def_ 6 (d := d__law_house) rfl
  have g__law_house : mg "_law_house" = some (.ref (He.ga K "_law_house")) := He.glo_ok X G (c.t.d.fact 6 (f := .glo "_law_house") rfl)
  obtain ⟨fd__law_add, D__law_add⟩ := c.t.d.def_ 7 (d := d__law_add) rfl
  have g__law_add : mg "_law_add" = some (.ref (He.ga K "_law_add")) := He.glo_ok X G (c.t.d.fact 7 (f := .glo "_law_add") rfl)
  obtain ⟨fd__law_low, D__law_low⟩ := c.t.d.def_ 8 (d := d__law_low) rfl
  have g__law_low : mg "_law_low" = some (.ref (He.ga K "_law_low")) := He.glo_ok X G (c.t.d.fact 8 (f := .glo "_law_low") rfl)
  obtain ⟨fd__law_rising, D__law_rising⟩ := c.t.d.def_ 9 (d := d__law_rising) rfl
  have g__law_rising : mg "_law_rising" = some (.ref (He.ga K "_law_rising")) := He.glo_ok X G (c.t.d.fact 9 (f := .glo "_law_rising") rfl)
  obtain ⟨fd__law_poorer, D__law_poorer⟩ := c.t.d.def_ 10 (d := d__law_poorer) rfl
  have g__law_poorer : mg "_law_poorer" = some (.ref (He.ga K "_law_poorer")) := He.glo_ok X G (c.t.d.fact 10 (f := .glo "_law_poorer") rfl)
  obtain ⟨fd__law_changed, D__law_changed⟩ := c.t.d.def_ 11 (d := d__law_changed) rfl
  have g__law_changed : mg "_law_changed" = some (.ref (He.ga K "_law_changed")) := He.glo_ok X G (c.t.d.fact 11 (f := .glo "_law_changed") rfl)
  obtain ⟨fd_ratio, D_ratio⟩ := c.t.d.def_ 12 (d := d_ratio) rfl
  have g_ratio : mg "ratio" = some (.ref (He.ga K "ratio")) := He.glo_ok X G (c.t.d.fact 12 (f := .glo "ratio") rfl)
  obtain ⟨fd_weight_of, D_weight_of⟩ := c.t.d.def_ 13 (d := d_weight_of) rfl
  have g_weight_of : mg "weight_of" = some (.ref (He.ga K "weight_of")) := He.glo_ok X G (c.t.d.fact 13 (f := .glo "weight_of") rfl)
  obtain ⟨fd_average, D_average⟩ := c.t.d.def_ 14 (d := d_average) rfl
  have g_average : mg "average" = some (.ref (He.ga K "average")) := He.glo_ok X G (c.t.d.fact 14 (f := .glo "average") rfl)
  obtain ⟨fd_amounts, D_amounts⟩ := c.t.d.def_ 15 (d := d_amounts) rfl
  have g_amounts : mg "amounts" = some (.ref (He.ga K "amounts")) := He.glo_ok X G (c.t.d.fact 15 (f := .glo "amounts") rfl)
  obtain ⟨fd_less, D_less⟩ := c.t.d.def_ 16 (d := d_less) rfl
  have g_less : mg "less" = some (.ref (He.ga K "less")) := He.glo_ok X G (c.t.d.fact 16 (f := .glo "less") rfl)
  obtain ⟨fd_better_choice, D_better_choice⟩ := c.t.d.def_ 17 (d := d_better_choice) rfl
  have g_better_choice : mg "better_choice" = some (.ref (He.ga K "better_choice")) := He.glo_ok X G (c.t.d.fact 17 (f := .glo "better_choice") rfl)
  obtain ⟨fd_improved_for, D_improved_for⟩ := c.t.d.def_ 18 (d := d_improved_for) rfl
  have g_improved_for : mg "improved_for" = some (.ref (He.ga K "improved_for")) := He.glo_ok X G (c.t.d.fact 18 (f := .glo "improved_for") rfl)
  obtain ⟨fd_is_choice, D_is_choice⟩ := c.t.d.def_ 19 (d := d_is_choice) rfl
  have g_is_choice : mg "is_choice" = some (.ref (He.ga K "is_choice")) := He.glo_ok X G (c.t.d.fact 19 (f := .glo "is_choice") rfl)
  obtain ⟨fd_want_way, D_want_way⟩ := c.t.d.def_ 20 (d := d_want_way) rfl
  have g_want_way : mg "want_way" = some (.ref (He.ga K "want_way")) := He.glo_ok X G (c.t.d.fact 20 (f := .glo "want_way") rfl)
  obtain ⟨fd_led_to, D_led_to⟩ := c.t.d.def_ 21 (d := d_led_to) rfl
  have g_led_to : mg "led_to" = some (.ref (He.ga K "led_to")) := He.glo_ok X G (c.t.d.fact 21 (f := .glo "led_to") rfl)
  obtain ⟨fd_arrows_back, D_arrows_back⟩ := c.t.d.def_ 22 (d := d_arrows_back) rfl
  have g_arrows_back : mg "arrows_back" = some (.ref (He.ga K "arrows_back")) := He.glo_ok X G (c.t.d.fact 22 (f := .glo "arrows_back") rfl)
  obtain ⟨fd_comes, D_comes⟩ := c.t.d.def_ 23 (d := d_comes) rfl
  have g_comes : mg "comes" = some (.ref (He.ga K "comes")) := He.glo_ok X G (c.t.d.fact 23 (f := .glo "comes") rfl)
  obtain ⟨fd_live_places, D_live_places⟩ := c.t.d.def_ 24 (d := d_live_places) rfl
  have g_live_places : mg "live_places" = some (.ref (He.ga K "live_places")) := He.glo_ok X G (c.t.d.fact 24 (f := .glo "live_places") rfl)
  obtain ⟨fd_inner_places, D_inner_places⟩ := c.t.d.def_ 25 (d := d_inner_places) rfl
  have g_inner_places : mg "inner_places" = some (.ref (He.ga K "inner_places")) := He.glo_ok X G (c.t.d.fact 25 (f := .glo "inner_places") rfl)
  obtain ⟨fd_plus, D_plus⟩ := c.t.d.def_ 26 (d := d_plus) rfl
  have g_plus : mg "plus" = some (.ref (He.ga K "plus")) := He.glo_ok X G (c.t.d.fact 26 (f := .glo "plus") rfl)
  obtain ⟨fd_times, D_times⟩ := c.t.d.def_ 27 (d := d_times) rfl
  have g_times : mg "times" = some (.ref (He.ga K "times")) := He.glo_ok X G (c.t.d.fact 27 (f := .glo "times") rfl)
  obtain ⟨fd_stopping_sum, D_stopping_sum⟩ := c.t.d.def_ 28 (d := d_stopping_sum) rfl
  have g_stopping_sum : mg "stopping_sum" = some (.ref (He.ga K "stopping_sum")) := He.glo_ok X G (c.t.d.fact 28 (f := .glo "stopping_sum") rfl)
  obtain ⟨fd_whole_row, D_whole_row⟩ := c.t.d.def_ 29 (d := d_whole_row) rfl
  have g_whole_row : mg "whole_row" = some (.ref (He.ga K "whole_row")) := He.glo_ok X G (c.t.d.fact 29 (f := .glo "whole_row") rfl)
  obtain ⟨fd_pivot_of, D_pivot_of⟩ := c.t.d.def_ 30 (d := d_pivot_of) rfl
  have g_pivot_of : mg "pivot_of" = some (.ref (He.ga K "pivot_of")) := He.glo_ok X G (c.t.d.fact 30 (f := .glo "pivot_of") rfl)
  obtain ⟨fd_cleared, D_cleared⟩ := c.t.d.def_ 31 (d := d_cleared) rfl
  have g_cleared : mg "cleared" = some (.ref (He.ga K "cleared")) := He.glo_ok X G (c.t.d.fact 31 (f := .glo "cleared") rfl)
  obtain ⟨fd_solved, D_solved⟩ := c.t.d.def_ 32 (d := d_solved) rfl
  have g_solved : mg "solved" = some (.ref (He.ga K "solved")) := He.glo_ok X G (c.t.d.fact 32 (f := .glo "solved") rfl)
  obtain ⟨fd_weight_to, D_weight_to⟩ := c.t.d.def_ 33 (d := d_weight_to) rfl
  have g_weight_to : mg "weight_to" = some (.ref (He.ga K "weight_to")) := He.glo_ok X G (c.t.d.fact 33 (f := .glo "weight_to") rfl)
  obtain ⟨fd_square_row, D_square_row⟩ := c.t.d.def_ 34 (d := d_square_row) rfl
  have g_square_row : mg "square_row" = some (.ref (He.ga K "square_row")) := He.glo_ok X G (c.t.d.fact 34 (f := .glo "square_row") rfl)
  obtain ⟨fd_way_square, D_way_square⟩ := c.t.d.def_ 35 (d := d_way_square) rfl
  have g_way_square : mg "way_square" = some (.ref (He.ga K "way_square")) := He.glo_ok X G (c.t.d.fact 35 (f := .glo "way_square") rfl)
  obtain ⟨fd_value, D_value⟩ := c.t.d.def_ 36 (d := d_value) rfl
  have g_value : mg "value" = some (.ref (He.ga K "value")) := He.glo_ok X G (c.t.d.fact 36 (f := .glo "value") rfl)
  obtain ⟨fd_worth, D_worth⟩ := c.t.d.def_ 37 (d := d_worth) rfl
  have g_worth : mg "worth" = some (.ref (He.ga K "worth")) := He.glo_ok X G (c.t.d.fact 37 (f := .glo "worth") rfl)
  obtain ⟨fd_check_goal, D_check_goal⟩ := c.t.d.def_ 38 (d := d_check_goal) rfl
  have g_check_goal : mg "check_goal" = some (.ref (He.ga K "check_goal")) := He.glo_ok X G (c.t.d.fact 38 (f := .glo "check_goal") rfl)
  obtain ⟨fd_is_name, D_is_name⟩ := c.t.d.def_ 39 (d := d_is_name) rfl
  have g_is_name : mg "is_name" = some (.ref (He.ga K "is_name")) := He.glo_ok X G (c.t.d.fact 39 (f := .glo "is_name") rfl)
  obtain ⟨fd_is_number, D_is_number⟩ := c.t.d.def_ 40 (d := d_is_number) rfl
  have g_is_number : mg "is_number" = some (.ref (He.ga K "is_number")) := He.glo_ok X G (c.t.d.fact 40 (f := .glo "is_number") rfl)
  obtain ⟨fd_is_within, D_is_within⟩ := c.t.d.def_ 41 (d := d_is_within) rfl
  have g_is_within : mg "is_within" = some (.ref (He.ga K "is_within")) := He.glo_ok X G (c.t.d.fact 41 (f := .glo "is_within") rfl)
  obtain ⟨fd_are_outs, D_are_outs⟩ := c.t.d.def_ 42 (d := d_are_outs) rfl
  have g_are_outs : mg "are_outs" = some (.ref (He.ga K "are_outs")) := He.glo_ok X G (c.t.d.fact 42 (f := .glo "are_outs") rfl)
  obtain ⟨fd_is_table, D_is_table⟩ := c.t.d.def_ 43 (d := d_is_table) rfl
  have g_is_table : mg "is_table" = some (.ref (He.ga K "is_table")) := He.glo_ok X G (c.t.d.fact 43 (f := .glo "is_table") rfl)
  obtain ⟨fd_check_names, D_check_names⟩ := c.t.d.def_ 44 (d := d_check_names) rfl
  have g_check_names : mg "check_names" = some (.ref (He.ga K "check_names")) := He.glo_ok X G (c.t.d.fact 44 (f := .glo "check_names") rfl)
  obtain ⟨fd_stakes, D_stakes⟩ := c.t.d.def_ 45 (d := d_stakes) rfl
  have g_stakes : mg "stakes" = some (.ref (He.ga K "stakes")) := He.glo_ok X G (c.t.d.fact 45 (f := .glo "stakes") rfl)
  obtain ⟨fd_checked_house, D_checked_house⟩ := c.t.d.def_ 46 (d := d_checked_house) rfl
  have g_checked_house : mg "checked_house" = some (.ref (He.ga K "checked_house")) := He.glo_ok X G (c.t.d.fact 46 (f := .glo "checked_house") rfl)
  obtain ⟨fd_is_ratio, D_is_ratio⟩ := c.t.d.def_ 47 (d := d_is_ratio) rfl
  have g_is_ratio : mg "is_ratio" = some (.ref (He.ga K "is_ratio")) := He.glo_ok X G (c.t.d.fact 47 (f := .glo "is_ratio") rfl)
  obtain ⟨fd_is_pay, D_is_pay⟩ := c.t.d.def_ 48 (d := d_is_pay) rfl
  have g_is_pay : mg "is_pay" = some (.ref (He.ga K "is_pay")) := He.glo_ok X G (c.t.d.fact 48 (f := .glo "is_pay") rfl)
  obtain ⟨fd_want_pays, D_want_pays⟩ := c.t.d.def_ 49 (d := d_want_pays) rfl
  have g_want_pays : mg "want_pays" = some (.ref (He.ga K "want_pays")) := He.glo_ok X G (c.t.d.fact 49 (f := .glo "want_pays") rfl)
  obtain ⟨fd_is_lottery, D_is_lottery⟩ := c.t.d.def_ 50 (d := d_is_lottery) rfl
  have g_is_lottery : mg "is_lottery" = some (.ref (He.ga K "is_lottery")) := He.glo_ok X G (c.t.d.fact 50 (f := .glo "is_lottery") rfl)
  obtain ⟨fd_want_plays, D_want_plays⟩ := c.t.d.def_ 51 (d := d_want_plays) rfl
  have g_want_plays : mg "want_plays" = some (.ref (He.ga K "want_plays")) := He.glo_ok X G (c.t.d.fact 51 (f := .glo "want_plays") rfl)
  obtain ⟨fd_made_board, D_made_board⟩ := c.t.d.def_ 52 (d := d_made_board) rfl
  have g_made_board : mg "made_board" = some (.ref (He.ga K "made_board")) := He.glo_ok X G (c.t.d.fact 52 (f := .glo "made_board") rfl)
  obtain ⟨fd_out_of, D_out_of⟩ := c.t.d.def_ 53 (d := d_out_of) rfl
  have g_out_of : mg "out_of" = some (.ref (He.ga K "out_of")) := He.glo_ok X G (c.t.d.fact 53 (f := .glo "out_of") rfl)
  obtain ⟨fd_stake_lottery, D_stake_lottery⟩ := c.t.d.def_ 54 (d := d_stake_lottery) rfl
  have g_stake_lottery : mg "stake_lottery" = some (.ref (He.ga K "stake_lottery")) := He.glo_ok X G (c.t.d.fact 54 (f := .glo "stake_lottery") rfl)
  obtain ⟨fd_open_stakes, D_open_stakes⟩ := c.t.d.def_ 55 (d := d_open_stakes) rfl
  have g_open_stakes : mg "open_stakes" = some (.ref (He.ga K "open_stakes")) := He.glo_ok X G (c.t.d.fact 55 (f := .glo "open_stakes") rfl)
  obtain ⟨fd_house_plays, D_house_plays⟩ := c.t.d.def_ 56 (d := d_house_plays) rfl
  have g_house_plays : mg "house_plays" = some (.ref (He.ga K "house_plays")) := He.glo_ok X G (c.t.d.fact 56 (f := .glo "house_plays") rfl)
  obtain ⟨fd_laid, D_laid⟩ := c.t.d.def_ 57 (d := d_laid) rfl
  have g_laid : mg "laid" = some (.ref (He.ga K "laid")) := He.glo_ok X G (c.t.d.fact 57 (f := .glo "laid") rfl)
  obtain ⟨fd__law_is_ratio, D__law_is_ratio⟩ := c.t.d.def_ 58 (d := d__law_is_ratio) rfl
  have g__law_is_ratio : mg "_law_is_ratio" = some (.ref (He.ga K "_law_is_ratio")) := He.glo_ok X G (c.t.d.fact 58 (f := .glo "_law_is_ratio") rfl)
  obtain ⟨fd__law_is_function, D__law_is_function⟩ := c.t.d.def_ 59 (d := d__law_is_function) rfl
  have g__law_is_function : mg "_law_is_function" = some (.ref (He.ga K "_law_is_function")) := He.glo_ok X G (c.t.d.fact 59 (f := .glo "_law_is_function") rfl)
  obtain ⟨fd__law_below, D__law_below⟩ := c.t.d.def_ 60 (d := d__law_below) rfl
  have g__law_below : mg "_law_below" = some (.ref (He.ga K "_law_below")) := He.glo_ok X G (c.t.d.fact 60 (f := .glo "_law_below") rfl)
  obtain ⟨fd_law, D_law⟩ := c.t.d.def_ 61 (d := d_law) rfl
  have g_law : mg "law" = some (.ref (He.ga K "law")) := He.glo_ok X G (c.t.d.fact 61 (f := .glo "law") rfl)
  obtain ⟨fd_Board, D_Board⟩ := c.t.d.def_ 62 (d := d_Board) rfl
  have bb := FunD.bindsA (ps := ["_law_script"]) D_law fun _ _ _ _ _ _ us hl => match us, hl with | [_], _ => rfl
  refine ⟨fd_law, fun s v => bb s [v] rfl, fun base KX GX TB => ?_⟩
  have t_solved : GxR.TabB base mg (codeAt K (He.ga K "solved")) (He.cT K ("solved", none)).2 := by
    have t := TB (He.cT K ("solved", none)) (List.mem_map.mpr ⟨_, by simp [tf], rfl⟩)
    exact ⟨t.code, t.bm, t.gP⟩
  have m_solved : (He.cT K ("solved", none)).2 ∈ TbL K := List.mem_map.mpr ⟨_, by simp [tf], rfl⟩
  have t_is_name : GxR.TabB base mg (codeAt K (He.ga K "is_name")) (He.cT K ("is_name", none)).2 := by
    have t := TB (He.cT K ("is_name", none)) (List.mem_map.mpr ⟨_, by simp [tf], rfl⟩)
    exact ⟨t.code, t.bm, t.gP⟩
  have m_is_name : (He.cT K ("is_name", none)).2 ∈ TbL K := List.mem_map.mpr ⟨_, by simp [tf], rfl⟩
  have C_Board : CaM P w K mg base 1 (He.ma K (He.ga K "Board") "__init__") fd_Board ["self", "pays", "plays"] (spMk K (TbL K) (He.ga K "Board") 2 gBoard) := ok_Board W D_Board
  have C__law_pool := ok__law_pool (P := P) (w := w) (base := base) (T := TbL K) W D__law_pool g__law_pool
  have C__law_take := ok__law_take (P := P) (w := w) (base := base) (T := TbL K) W D__law_take g__law_take
  have C__law_one := ok__law_one (P := P) (w := w) (base := base) (T := TbL K) W D__law_one g__law_one C__law_take
  have C__law_name := ok__law_name (P := P) (w := w) (base := base) (T := TbL K) W D__law_name g__law_name C__law_take
  have C__law_outs := ok__law_outs (P := P) (w := w) (base := base) (T := TbL K) W D__law_outs g__law_outs C__law_take C__law_one
  have C__law_table := ok__law_table (P := P) (w := w) (base := base) (T := TbL K) W D__law_table g__law_table C__law_one C__law_take C__law_outs C__law_name
  have C__law_house := ok__law_house (P := P) (w := w) (base := base) (T := TbL K) W D__law_house g__law_house C__law_one C__law_take C__law_table
  have C__law_add := ok__law_add (P := P) (w := w) (base := base) (T := TbL K) W D__law_add g__law_add
  have C__law_low := ok__law_low (P := P) (w := w) (base := base) (T := TbL K) W D__law_low g__law_low
  have C__law_rising := ok__law_rising (P := P) (w := w) (base := base) (T := TbL K) W D__law_rising g__law_rising C__law_take C__law_one C__law_add C__law_low
  have C__law_poorer := ok__law_poorer (P := P) (w := w) (base := base) (T := TbL K) W D__law_poorer g__law_poorer C__law_one C__law_take
  have C__law_changed := ok__law_changed (P := P) (w := w) (base := base) (T := TbL K) W D__law_changed g__law_changed C__law_take C__law_table C__law_poorer
  have C_ratio := ok_ratio (P := P) (w := w) (base := base) (T := TbL K) W D_ratio g_ratio
  have C_weight_of := ok_weight_of (P := P) (w := w) (base := base) (T := TbL K) W D_weight_of g_weight_of
  have C_average := ok_average (P := P) (w := w) (base := base) (T := TbL K) W D_average g_average C_weight_of C_ratio
  have C_amounts := ok_amounts (P := P) (w := w) (base := base) (T := TbL K) W D_amounts g_amounts C_average
  have C_less := ok_less (P := P) (w := w) (base := base) (T := TbL K) W D_less g_less
  have C_better_choice := ok_better_choice (P := P) (w := w) (base := base) (T := TbL K) W D_better_choice g_better_choice C_amounts C_less
  have C_improved_for := ok_improved_for (P := P) (w := w) (base := base) (T := TbL K) W D_improved_for g_improved_for C_better_choice
  have C_is_choice := ok_is_choice (P := P) (w := w) (base := base) (T := TbL K) W D_is_choice g_is_choice
  have C_want_way := ok_want_way (P := P) (w := w) (base := base) (T := TbL K) W D_want_way g_want_way C_is_choice
  have C_led_to := ok_led_to (P := P) (w := w) (base := base) (T := TbL K) W D_led_to g_led_to
  have C_arrows_back := ok_arrows_back (P := P) (w := w) (base := base) (T := TbL K) W D_arrows_back g_arrows_back
  have C_comes := ok_comes (P := P) (w := w) (base := base) (T := TbL K) W D_comes g_comes C_arrows_back
  have C_live_places := ok_live_places (P := P) (w := w) (base := base) (T := TbL K) W D_live_places g_live_places C_led_to C_comes
  have C_inner_places := ok_inner_places (P := P) (w := w) (base := base) (T := TbL K) W D_inner_places g_inner_places C_live_places
  have C_plus := ok_plus (P := P) (w := w) (base := base) (T := TbL K) W D_plus g_plus C_ratio
  have C_times := ok_times (P := P) (w := w) (base := base) (T := TbL K) W D_times g_times C_ratio
  have C_stopping_sum := ok_stopping_sum (P := P) (w := w) (base := base) (T := TbL K) W D_stopping_sum g_stopping_sum C_times C_plus
  have C_whole_row := ok_whole_row (P := P) (w := w) (base := base) (T := TbL K) W D_whole_row g_whole_row
  have C_pivot_of := ok_pivot_of (P := P) (w := w) (base := base) (T := TbL K) W D_pivot_of g_pivot_of
  have C_cleared := ok_cleared (P := P) (w := w) (base := base) (T := TbL K) W D_cleared g_cleared
  have C_solved := ok_solved (P := P) (w := w) (base := base) (T := TbL K) W D_solved g_solved t_solved m_solved C_whole_row C_pivot_of C_cleared C_ratio
  have C_weight_to := ok_weight_to (P := P) (w := w) (base := base) (T := TbL K) W D_weight_to g_weight_to
  have C_square_row := ok_square_row (P := P) (w := w) (base := base) (T := TbL K) W D_square_row g_square_row C_weight_of C_weight_to
  have C_way_square := ok_way_square (P := P) (w := w) (base := base) (T := TbL K) W D_way_square g_way_square C_square_row
  have C_value := ok_value (P := P) (w := w) (base := base) (T := TbL K) W D_value g_value C_want_way C_inner_places C_stopping_sum C_way_square C_solved
  have C_worth := ok_worth (P := P) (w := w) (base := base) (T := TbL K) W D_worth g_worth C_improved_for C_value
  have C_check_goal := ok_check_goal (P := P) (w := w) (base := base) (T := TbL K) W D_check_goal g_check_goal
  have C_is_name := ok_is_name (P := P) (w := w) (base := base) (T := TbL K) W D_is_name g_is_name t_is_name m_is_name
  have C_is_number := ok_is_number (P := P) (w := w) (base := base) (T := TbL K) W D_is_number g_is_number
  have C_is_within := ok_is_within (P := P) (w := w) (base := base) (T := TbL K) W D_is_within g_is_within C_is_number
  have C_are_outs := ok_are_outs (P := P) (w := w) (base := base) (T := TbL K) W D_are_outs g_are_outs C_is_within
  have C_is_table := ok_is_table (P := P) (w := w) (base := base) (T := TbL K) W D_is_table g_is_table C_is_name C_are_outs C_is_within
  have C_check_names := ok_check_names (P := P) (w := w) (base := base) (T := TbL K) W D_check_names g_check_names
  have C_stakes := ok_stakes (P := P) (w := w) (base := base) (T := TbL K) W D_stakes g_stakes
  have C_checked_house := ok_checked_house (P := P) (w := w) (base := base) (T := TbL K) W D_checked_house g_checked_house C_check_goal C_is_table C_check_names C_stakes
  have C_is_ratio := ok_is_ratio (P := P) (w := w) (base := base) (T := TbL K) W D_is_ratio g_is_ratio C_is_number
  have C_is_pay := ok_is_pay (P := P) (w := w) (base := base) (T := TbL K) W D_is_pay g_is_pay C_is_ratio
  have C_want_pays := ok_want_pays (P := P) (w := w) (base := base) (T := TbL K) W D_want_pays g_want_pays C_is_pay
  have C_is_lottery := ok_is_lottery (P := P) (w := w) (base := base) (T := TbL K) W D_is_lottery g_is_lottery
  have C_want_plays := ok_want_plays (P := P) (w := w) (base := base) (T := TbL K) W D_want_plays g_want_plays C_is_lottery
  have C_made_board := ok_made_board (P := P) (w := w) (base := base) (T := TbL K) W D_made_board g_made_board C_want_pays C_want_plays C_Board
  have C_out_of := ok_out_of (P := P) (w := w) (base := base) (T := TbL K) W D_out_of g_out_of C_stakes
  have C_stake_lottery := ok_stake_lottery (P := P) (w := w) (base := base) (T := TbL K) W D_stake_lottery g_stake_lottery C_out_of
  have C_open_stakes := ok_open_stakes (P := P) (w := w) (base := base) (T := TbL K) W D_open_stakes g_open_stakes C_stakes
  have C_house_plays := ok_house_plays (P := P) (w := w) (base := base) (T := TbL K) W D_house_plays g_house_plays C_open_stakes C_stake_lottery
  have C_laid := ok_laid (P := P) (w := w) (base := base) (T := TbL K) W D_laid g_laid C_checked_house C_house_plays C_made_board
  have C__law_is_ratio := ok__law_is_ratio (P := P) (w := w) (base := base) (T := TbL K) W D__law_is_ratio g__law_is_ratio C__law_low
  have C__law_is_function := ok__law_is_function (P := P) (w := w) (base := base) (T := TbL K) W D__law_is_function g__law_is_function C__law_is_ratio
  have C__law_below := ok__law_below (P := P) (w := w) (base := base) (T := TbL K) W D__law_below g__law_below
  have C_law := ok_law (P := P) (w := w) (base := base) (T := TbL K) W D_law g_law C__law_pool C__law_house C__law_table C__law_rising C__law_changed C_laid C_worth C__law_is_function C__law_below
  exact C_law.F
theorem law_at (hlaw : ∀ ns : List Int, ns.length ≤ 63 → (∀ z ∈ ns, Builtin.Int.intBits z ≤ 1048576) → F_law [.lst (ns.map D.int)] = some (.bl true)) (w : World) (mg : PySem.Str → Option Value) (fa : Addr) (h : Heap) (Y : hk.says w h) (G : h.Ns mainGlobals mg) (hmg : mg "law" = some (.ref fa)) : ∃ K : PySem.W.Frag, K.In h ∧ LamX.LawAtS PySem.Challenge.rw_stakehulls_k91_whole_houses_made_worse w K CX0 7 63 "_law_script" mg fa h := by
  obtain ⟨K, KX, c⟩ := Y
  have e := hmg.symm.trans (He.glo_ok KX G (c.t.d.fact 61 (f := .glo "law") rfl))
  cases e
  obtain ⟨fd, hb, hF⟩ := law_ok (P := (PySem.Challenge.rw_stakehulls_k91_whole_houses_made_worse).prog) (w := w) KX G c
  refine ⟨K, KX, fd, tf.map (He.cT K), spP K (TbL K) 1 F_law, fun p hp => ?_, fun p hp => ?_, fun p hp => ?_, hb, fun H a ns hl hbits hT hS => ?_, hF⟩
  · obtain ⟨x, hx, rfl⟩ := List.mem_map.mp hp
    exact c.empty x hx
  · obtain ⟨x, hx, rfl⟩ := List.mem_map.mp hp
    exact c.out x hx
  · obtain ⟨x, hx, rfl⟩ := List.mem_map.mp hp
    exact PySem.W.codeHd_of_K KX (c.hd x hx)
  · have tab : ∀ q ∈ TbL K, H q = some (.tbl #[]) := fun q hq => by
      obtain ⟨x, hx, rfl⟩ := List.mem_map.mp hq
      exact hT _ (List.mem_map.mpr ⟨x, hx, rfl⟩)
    refine law_sp tab hS (hlaw ns hl hbits)
end
end Z
open PySem PySem.W PySem.Calls PyProof.Rows
theorem PySem.Challenge.cw_stakehulls_k91_whole_houses_made_worse_holds : PySem.Challenge.rw_stakehulls_k91_whole_houses_made_worse.Holds :=
  Z.head_first fun w mg fa h Y G hmg => Z.law_at (fun ns _ _ => Z.k91_plain ns) w mg fa h Y G hmg
