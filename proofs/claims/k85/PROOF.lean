import PyProof.Rows.All
import Wide.All
import OpenK.AllK
import Wide.FinOn
import KE.KStateDown
import HandS.Base
import HandS.Call
import HandS.Ends
import HandS.More
import HandS.Words
import HandS.WordsExc
import HandS.Defaults
import HandS.Head0
import HandS.Head1
import HandS.Head2
import HandS.HeadEnd
import HandS.HeadHook1
import HandS.HeadHook2
import PySem.Challenge.RW_offerstands_k85_whole_made_choosers_and
import HandS.ForMost
import HandS.Codes
import HandS.IsInst
import HandS.TupAny
import HandS.Conv
import KE.KDictKeyed
import KE.SortData
import KE.KDictWalk
import HandS.Walk
import HandS.SetBool
import HandS.SetFor
import HandS.Strs
import KE.GoesEnum
import HandS.Dict
import HandS.Iter
import HandS.TupLen
import KE.KDictDisplayH
import HandS.Wide
import HandS.Style
import KE.KIndexOf
set_option Elab.async false
set_option linter.all false
set_option maxRecDepth 100000
set_option maxHeartbeats 0
namespace K85
open PySem PySem.Spec PyProof.Rows L2
/-! the text by places -/
def top (i : Nat) : Stmt := PySem.Challenge.pw_offerstands_k85_whole_made_choosers_and.main.body.getD i (.Pass ⟨0, 0, 0, 0⟩)
abbrev s_is_whole : Stmt := top 14
abbrev s_is_set : Stmt := top 15
abbrev s_all_sets : Stmt := top 16
abbrev s_together : Stmt := top 18
abbrev s_same_offers : Stmt := top 19
abbrev s_chooser_is_part : Stmt := top 23
abbrev s_either_of : Stmt := top 26
abbrev s_made_rest : Stmt := top 27
abbrev s_in_turn : Stmt := top 28
abbrev s_leaving_out : Stmt := top 29
abbrev s_renamed : Stmt := top 30
abbrev s_is_list : Stmt := top 32
abbrev s_list_first : Stmt := top 33
abbrev s_firsts : Stmt := top 34
abbrev s_by_lists : Stmt := top 35
abbrev s_trade_lives_fit : Stmt := top 40
abbrev s_is_dated_of : Stmt := top 44
abbrev s_put_together : Stmt := top 45
abbrev s_behind : Stmt := top 47
abbrev s_skyline_of : Stmt := top 49
abbrev s_skyline_check : Stmt := top 50
abbrev s_skyline : Stmt := top 51
abbrev s_is_calendar : Stmt := top 53
abbrev s_shelf_are_worths : Stmt := top 54
abbrev s_shelf_check : Stmt := top 55
abbrev s_shelf_check_worths : Stmt := top 56
abbrev s_shelf_deeds : Stmt := top 57
abbrev s_shelf_after : Stmt := top 58
abbrev s_shelf_streams : Stmt := top 59
abbrev s_shelf_worth : Stmt := top 60
abbrev s_shelf_first : Stmt := top 61
abbrev s_spots : Stmt := top 62
abbrev s_shelf : Stmt := top 63
abbrev s_first_greatest : Stmt := top 64
abbrev s_law_deck : Stmt := top 66
abbrev s_law_draw : Stmt := top 67
abbrev s_law_pick : Stmt := top 68
abbrev s_law_lists : Stmt := top 69
abbrev s_law_dated : Stmt := top 70
abbrev s_law_turned : Stmt := top 71
abbrev s_law_names_right : Stmt := top 72
abbrev s_law_either_right : Stmt := top 73
abbrev s_law_without_right : Stmt := top 74
abbrev s_law : Stmt := top 75
abbrev s_Chooser_init : Stmt := inClass (top 24) 0
abbrev s_Chooser_len : Stmt := inClass (top 24) 1
abbrev s_Chooser_taken : Stmt := inClass (top 24) 5
abbrev s_Trade_init : Stmt := inClass (top 43) 0
abbrev s_Trade_len : Stmt := inClass (top 43) 1
/-! what the head tells -/
def d_is_whole : He.DefD := ⟨("is_whole", none), "is_whole", "is_whole", defArgs s_is_whole, defBody s_is_whole, defScope s_is_whole, [], []⟩
def d_is_set : He.DefD := ⟨("is_set", none), "is_set", "is_set", defArgs s_is_set, defBody s_is_set, defScope s_is_set, [], []⟩
def d_all_sets : He.DefD := ⟨("all_sets", none), "all_sets", "all_sets", defArgs s_all_sets, defBody s_all_sets, defScope s_all_sets, [], []⟩
def d_together : He.DefD := ⟨("together", none), "together", "together", defArgs s_together, defBody s_together, defScope s_together, [], []⟩
def d_same_offers : He.DefD := ⟨("same_offers", none), "same_offers", "same_offers", defArgs s_same_offers, defBody s_same_offers, defScope s_same_offers, [], []⟩
def d_chooser_is_part : He.DefD := ⟨("chooser_is_part", none), "chooser_is_part", "chooser_is_part", defArgs s_chooser_is_part, defBody s_chooser_is_part, defScope s_chooser_is_part, [], []⟩
def d_either_of : He.DefD := ⟨("either_of", none), "either_of", "either_of", defArgs s_either_of, defBody s_either_of, defScope s_either_of, [], []⟩
def d_made_rest : He.DefD := ⟨("made_rest", none), "made_rest", "made_rest", defArgs s_made_rest, defBody s_made_rest, defScope s_made_rest, [], []⟩
def d_in_turn : He.DefD := ⟨("in_turn", none), "in_turn", "in_turn", defArgs s_in_turn, defBody s_in_turn, defScope s_in_turn, [], []⟩
def d_leaving_out : He.DefD := ⟨("leaving_out", none), "leaving_out", "leaving_out", defArgs s_leaving_out, defBody s_leaving_out, defScope s_leaving_out, [], []⟩
def d_renamed : He.DefD := ⟨("renamed", none), "renamed", "renamed", defArgs s_renamed, defBody s_renamed, defScope s_renamed, [], []⟩
def d_is_list : He.DefD := ⟨("is_list", none), "is_list", "is_list", defArgs s_is_list, defBody s_is_list, defScope s_is_list, [], []⟩
def d_list_first : He.DefD := ⟨("list_first", none), "list_first", "list_first", defArgs s_list_first, defBody s_list_first, defScope s_list_first, [], []⟩
def d_firsts : He.DefD := ⟨("firsts", none), "firsts", "firsts", defArgs s_firsts, defBody s_firsts, defScope s_firsts, [], []⟩
def d_by_lists : He.DefD := ⟨("by_lists", none), "by_lists", "by_lists", defArgs s_by_lists, defBody s_by_lists, defScope s_by_lists, [], []⟩
def d_trade_lives_fit : He.DefD := ⟨("trade_lives_fit", none), "trade_lives_fit", "trade_lives_fit", defArgs s_trade_lives_fit, defBody s_trade_lives_fit, defScope s_trade_lives_fit, [], []⟩
def d_is_dated_of : He.DefD := ⟨("is_dated_of", none), "is_dated_of", "is_dated_of", defArgs s_is_dated_of, defBody s_is_dated_of, defScope s_is_dated_of, [], []⟩
def d_put_together : He.DefD := ⟨("put_together", none), "put_together", "put_together", defArgs s_put_together, defBody s_put_together, defScope s_put_together, [], []⟩
def d_behind : He.DefD := ⟨("behind", none), "behind", "behind", defArgs s_behind, defBody s_behind, defScope s_behind, [], []⟩
def d_skyline_of : He.DefD := ⟨("skyline_of", none), "skyline_of", "skyline_of", defArgs s_skyline_of, defBody s_skyline_of, defScope s_skyline_of, [], []⟩
def d_skyline_check : He.DefD := ⟨("skyline_check", none), "skyline_check", "skyline_check", defArgs s_skyline_check, defBody s_skyline_check, defScope s_skyline_check, [], []⟩
def d_skyline : He.DefD := ⟨("skyline", none), "skyline", "skyline", defArgs s_skyline, defBody s_skyline, defScope s_skyline, [], []⟩
def d_is_calendar : He.DefD := ⟨("is_calendar", none), "is_calendar", "is_calendar", defArgs s_is_calendar, defBody s_is_calendar, defScope s_is_calendar, [], []⟩
def d_shelf_are_worths : He.DefD := ⟨("shelf_are_worths", none), "shelf_are_worths", "shelf_are_worths", defArgs s_shelf_are_worths, defBody s_shelf_are_worths, defScope s_shelf_are_worths, [], []⟩
def d_shelf_check : He.DefD := ⟨("shelf_check", none), "shelf_check", "shelf_check", defArgs s_shelf_check, defBody s_shelf_check, defScope s_shelf_check, [], []⟩
def d_shelf_check_worths : He.DefD := ⟨("shelf_check_worths", none), "shelf_check_worths", "shelf_check_worths", defArgs s_shelf_check_worths, defBody s_shelf_check_worths, defScope s_shelf_check_worths, [], []⟩
def d_shelf_deeds : He.DefD := ⟨("shelf_deeds", none), "shelf_deeds", "shelf_deeds", defArgs s_shelf_deeds, defBody s_shelf_deeds, defScope s_shelf_deeds, [], []⟩
def d_shelf_after : He.DefD := ⟨("shelf_after", none), "shelf_after", "shelf_after", defArgs s_shelf_after, defBody s_shelf_after, defScope s_shelf_after, [], []⟩
def d_shelf_streams : He.DefD := ⟨("shelf_streams", none), "shelf_streams", "shelf_streams", defArgs s_shelf_streams, defBody s_shelf_streams, defScope s_shelf_streams, [], []⟩
def d_shelf_worth : He.DefD := ⟨("shelf_worth", none), "shelf_worth", "shelf_worth", defArgs s_shelf_worth, defBody s_shelf_worth, defScope s_shelf_worth, [], []⟩
def d_shelf_first : He.DefD := ⟨("shelf_first", none), "shelf_first", "shelf_first", defArgs s_shelf_first, defBody s_shelf_first, defScope s_shelf_first, [], []⟩
def d_spots : He.DefD := ⟨("spots", none), "spots", "spots", defArgs s_spots, defBody s_spots, defScope s_spots, [], [("most", .int 400)]⟩
def d_shelf : He.DefD := ⟨("shelf", none), "shelf", "shelf", defArgs s_shelf, defBody s_shelf, defScope s_shelf, [], [("most", .int 400)]⟩
def d_first_greatest : He.DefD := ⟨("first_greatest", none), "first_greatest", "first_greatest", defArgs s_first_greatest, defBody s_first_greatest, defScope s_first_greatest, [], [("most", .int 400)]⟩
def d_law_deck : He.DefD := ⟨("_law_deck", none), "_law_deck", "_law_deck", defArgs s_law_deck, defBody s_law_deck, defScope s_law_deck, [], []⟩
def d_law_draw : He.DefD := ⟨("_law_draw", none), "_law_draw", "_law_draw", defArgs s_law_draw, defBody s_law_draw, defScope s_law_draw, [], []⟩
def d_law_pick : He.DefD := ⟨("_law_pick", none), "_law_pick", "_law_pick", defArgs s_law_pick, defBody s_law_pick, defScope s_law_pick, [], []⟩
def d_law_lists : He.DefD := ⟨("_law_lists", none), "_law_lists", "_law_lists", defArgs s_law_lists, defBody s_law_lists, defScope s_law_lists, [], []⟩
def d_law_dated : He.DefD := ⟨("_law_dated", none), "_law_dated", "_law_dated", defArgs s_law_dated, defBody s_law_dated, defScope s_law_dated, [], []⟩
def d_law_turned : He.DefD := ⟨("_law_turned", none), "_law_turned", "_law_turned", defArgs s_law_turned, defBody s_law_turned, defScope s_law_turned, [], []⟩
def d_law_names_right : He.DefD := ⟨("_law_names_right", none), "_law_names_right", "_law_names_right", defArgs s_law_names_right, defBody s_law_names_right, defScope s_law_names_right, [], []⟩
def d_law_either_right : He.DefD := ⟨("_law_either_right", none), "_law_either_right", "_law_either_right", defArgs s_law_either_right, defBody s_law_either_right, defScope s_law_either_right, [], []⟩
def d_law_without_right : He.DefD := ⟨("_law_without_right", none), "_law_without_right", "_law_without_right", defArgs s_law_without_right, defBody s_law_without_right, defScope s_law_without_right, [], []⟩
def d_law : He.DefD := ⟨("law", none), "law", "law", defArgs s_law, defBody s_law, defScope s_law, [], []⟩
def d_Chooser_init : He.DefD := ⟨("Chooser", some "__init__"), "__init__", "Chooser.__init__", defArgs s_Chooser_init, defBody s_Chooser_init, defScope s_Chooser_init, [], []⟩
def d_Chooser_len : He.DefD := ⟨("Chooser", some "__len__"), "__len__", "Chooser.__len__", defArgs s_Chooser_len, defBody s_Chooser_len, defScope s_Chooser_len, [], []⟩
def d_Chooser_taken : He.DefD := ⟨("Chooser", some "taken"), "taken", "Chooser.taken", defArgs s_Chooser_taken, defBody s_Chooser_taken, defScope s_Chooser_taken, [], []⟩
def d_Trade_init : He.DefD := ⟨("Trade", some "__init__"), "__init__", "Trade.__init__", defArgs s_Trade_init, defBody s_Trade_init, defScope s_Trade_init, [], []⟩
def d_Trade_len : He.DefD := ⟨("Trade", some "__len__"), "__len__", "Trade.__len__", defArgs s_Trade_len, defBody s_Trade_len, defScope s_Trade_len, [], []⟩
def fn0 : List He.DefD := [d_is_whole, d_is_set, d_all_sets, d_together, d_same_offers, d_chooser_is_part, d_either_of, d_made_rest, d_in_turn, d_leaving_out, d_renamed, d_is_list, d_list_first, d_firsts, d_by_lists, d_trade_lives_fit, d_is_dated_of, d_put_together, d_behind, d_skyline_of]
def fn1 : List He.DefD := [d_skyline_check, d_skyline, d_is_calendar, d_shelf_are_worths, d_shelf_check, d_shelf_check_worths, d_shelf_deeds, d_shelf_after, d_shelf_streams, d_shelf_worth, d_shelf_first, d_spots, d_shelf, d_first_greatest, d_law_deck, d_law_draw, d_law_pick, d_law_lists, d_law_dated, d_law_turned]
def fn2 : List He.DefD := [d_law_names_right, d_law_either_right, d_law_without_right, d_law, d_Chooser_init, d_Chooser_len, d_Chooser_taken, d_Trade_init, d_Trade_len]
def fn : List He.DefD := fn0 ++ fn1 ++ fn2
def fa0 : List He.Fa := [.glo "is_whole", .glo "is_set", .glo "all_sets", .glo "together", .glo "same_offers", .glo "chooser_is_part", .glo "either_of", .glo "made_rest", .glo "in_turn", .glo "leaving_out", .glo "renamed", .glo "is_list", .glo "list_first", .glo "firsts", .glo "by_lists", .glo "trade_lives_fit", .glo "is_dated_of", .glo "put_together", .glo "behind", .glo "skyline_of"]
def fa1 : List He.Fa := [.glo "skyline_check", .glo "skyline", .glo "is_calendar", .glo "shelf_are_worths", .glo "shelf_check", .glo "shelf_check_worths", .glo "shelf_deeds", .glo "shelf_after", .glo "shelf_streams", .glo "shelf_worth", .glo "shelf_first", .glo "spots", .glo "shelf", .glo "first_greatest", .glo "_law_deck", .glo "_law_draw", .glo "_law_pick", .glo "_law_lists", .glo "_law_dated", .glo "_law_turned"]
def fa2 : List He.Fa := [.glo "_law_names_right", .glo "_law_either_right", .glo "_law_without_right", .glo "law", .glo "Chooser", .glo "Trade", .cls "Chooser", .cls "Trade", .noat "Chooser" "offers", .noat "Chooser" "picks", .noat "Chooser" "table", .noat "Chooser" "places", .noat "Trade" "lives", .noat "Trade" "loose", .meth "Chooser" "__len__", .meth "Chooser" "taken", .meth "Trade" "__len__", .mkr "Chooser", .mkr "Trade", .int "CHOOSER_MOST" 6]
def fa3 : List He.Fa := [.int "TRADE_MOST_OFFERS" 9, .int "TRADE_MOST_LIFE" 99, .free "isinstance", .free "int", .free "bool", .free "tuple", .free "range", .free "sorted", .free "set", .free "len", .free "enumerate", .free "max", .free "sum", .free "list"]
def fa : List He.Fa := fa0 ++ fa1 ++ fa2 ++ fa3
def loose0 : List Str := ["OfferError", "OtherOffers", "TooMany", "BadText", "BadChooser", "BadSet", "BadList", "BadTrade", "BadDated", "BadCalendar", "BadWorths", "CHOOSER_MOST", "is_whole", "is_set", "all_sets", "subsets_of", "together", "same_offers", "chooser_line", "chooser_head"]
def loose1 : List Str := ["chooser_part", "chooser_is_part", "Chooser", "either_of", "made_rest", "in_turn", "leaving_out", "renamed", "is_list", "list_first", "firsts", "by_lists", "TRADE_MOST_OFFERS", "TRADE_MOST_LIFE", "TRADE_FIGURES", "trade_lives_fit", "trade_number", "trade_offer_row", "Trade", "is_dated_of"]
def loose2 : List Str := ["put_together", "behind", "skyline_of", "skyline_check", "skyline", "is_calendar", "shelf_are_worths", "shelf_check", "shelf_check_worths", "shelf_deeds", "shelf_after", "shelf_streams", "shelf_worth", "shelf_first", "spots", "shelf", "first_greatest", "_law_deck", "_law_draw", "_law_pick"]
def loose3 : List Str := ["_law_lists", "_law_dated", "_law_turned", "_law_names_right", "_law_either_right", "_law_without_right"]
def loose : List Str := loose0 ++ loose1 ++ loose2 ++ loose3
abbrev R : PySem.W.OpenRow := PySem.W.OpenLaw.row PySem.Challenge.rw_offerstands_k85_whole_made_choosers_and
abbrev hk : PySem.W.Hook := He.hookD 5 fa fn
def ob (s : PySem.W.SharedT) : He.AlD := He.obsDG 5 fa fn (HandSHeadRun.getT s)
theorem ob_eq (s : PySem.W.SharedT) : ob s = hk.obs s.abs := He.obsDG_eq (HandSHeadRun.getT_eq s)
theorem run (w : World) : HandSHeadRun.RunEq R (PySem.W.view R.prog [75]) hk ob 6000 loose w := by
  intro os
  kernel_rfl
end K85

/-! L1: readings of one's own over the layer: the weakest reading of each piece of syntax, data, abstract values, expressions that evaluate to data. -/
namespace K85
open PySem PySem.Spec PyProof.Rows L2

/-! ### weakest readings -/
def wE (X : Cx) (e : Expr) : TE := fun σ H Q => ∃ t, PE X e t ∧ t σ H Q
def wT (X : Cx) (e : Expr) : TT := fun σ H Q => ∃ t, PT X e t ∧ t σ H Q
def wA (X : Cx) (es : List Expr) : TA := fun σ H Q => ∃ t, PA X es t ∧ t σ H Q
def wS (X : Cx) (st : Stmt) : TS := fun D σ H => ∃ t, PS X st t ∧ t D σ H
def wB (X : Cx) (b : List Stmt) : TS := fun D σ H => ∃ t, PSs X b t ∧ t D σ H
theorem pe_w {X : Cx} {e : Expr} : PE X e (wE X e) := ⟨fun pins s σ H Q I ⟨_, p, h⟩ => p.run pins s σ H Q I h⟩
theorem pt_w {X : Cx} {e : Expr} : PT X e (wT X e) := ⟨fun pins s σ H Q I ⟨_, p, h⟩ => p.run pins s σ H Q I h⟩
theorem pa_w {X : Cx} {es : List Expr} : PA X es (wA X es) := ⟨fun pos pins s σ H Q I ⟨_, p, h⟩ => p.run pos pins s σ H Q I h⟩
theorem ps_w {X : Cx} {st : Stmt} : PS X st (wS X st) := ⟨fun pins s σ H D I ⟨_, p, h⟩ => p.run pins s σ H D I h⟩
theorem pb_w {X : Cx} {b : List Stmt} : PSs X b (wB X b) := ⟨fun pins s σ H D I ⟨_, p, h⟩ => p.run pins s σ H D I h⟩
theorem wE_of {X : Cx} {e : Expr} {t : TE} {σ : L2.St} {H : Hp} {Q : VK} (p : PE X e t) (h : t σ H Q) : wE X e σ H Q := ⟨t, p, h⟩
theorem wT_of {X : Cx} {e : Expr} {t : TT} {σ : L2.St} {H : Hp} {Q : Bool → Hp → Prop} (p : PT X e t) (h : t σ H Q) : wT X e σ H Q := ⟨t, p, h⟩
theorem wS_of {X : Cx} {st : Stmt} {t : TS} {σ : L2.St} {H : Hp} {D : Ends} (p : PS X st t) (h : t D σ H) : wS X st D σ H := ⟨t, p, h⟩
theorem wB_nil {X : Cx} {σ : L2.St} {H : Hp} {D : Ends} (h : D.nx σ H) : wB X [] D σ H := ⟨_, pss_nil, h⟩
theorem wB_cons {X : Cx} {st : Stmt} {b : List Stmt} {σ : L2.St} {H : Hp} {D : Ends} (h : wS X st { D with nx := fun σ' H' => wB X b D σ' H' } σ H) : wB X (st :: b) D σ H := ⟨_, pss_cons ps_w pb_w, h⟩

/-! ### data -/
abbrev Dt := PySem.NestedKey
mutual
/-- the value v is the datum d -/
inductive DV (H : Hp) : V → Dt → Prop
  | non : DV H .non .none
  | int (i : Int) : DV H (.int i) (.num i)
  | str (x : Str) : DV H (.str x) (.text x)
  | tup {a : Addr} {xs : List V} {ds : List Dt} : H a = some (.tup xs) → DVs H xs ds → DV H (.ref a) (.tup ds)
inductive DVs (H : Hp) : List V → List Dt → Prop
  | nil : DVs H [] []
  | cons {v : V} {d : Dt} {vs : List V} {ds : List Dt} : DV H v d → DVs H vs ds → DVs H (v :: vs) (d :: ds)
end
/-- tuples stay -/
def TK (H H' : Hp) : Prop := ∀ a xs, H a = some (.tup xs) → H' a = some (.tup xs)
theorem TK.refl (H : Hp) : TK H H := fun _ _ h => h
theorem TK.trans {H H1 H2 : Hp} (a : TK H H1) (b : TK H1 H2) : TK H H2 := fun x xs h => b x xs (a x xs h)
theorem TK.of {H H' : Hp} (h : Same H H') : TK H H' := fun a _ e => h a _ e
theorem TK.upd {H : Hp} {l : Addr} {o o' : HO} (e : H l = some o) (n : ∀ xs, o ≠ .tup xs) : TK H (upd H l o') := fun a xs h => by
  rw [upd_ne (ne_of h e (fun q => n xs q.symm))]
  exact h
mutual
theorem DV.mono {H H' : Hp} (k : TK H H') : ∀ {d : Dt} {v : V}, DV H v d → DV H' v d
  | .none, _, h => by cases h; exact .non
  | .num i, _, h => by cases h; exact .int i
  | .text x, _, h => by cases h; exact .str x
  | .tup ds, _, h => by
    cases h with
    | tup e t => exact .tup (k _ _ e) (DVs.mono k t)
theorem DVs.mono {H H' : Hp} (k : TK H H') : ∀ {ds : List Dt} {vs : List V}, DVs H vs ds → DVs H' vs ds
  | [], _, h => by cases h; exact .nil
  | d :: ds, _, h => by
    cases h with
    | cons a b => exact .cons (DV.mono k a) (DVs.mono k b)
end
theorem DVs.length {H : Hp} : ∀ {vs : List V} {ds : List Dt}, DVs H vs ds → vs.length = ds.length
  | _, [], h => by cases h; rfl
  | _, d :: ds, h => by
    cases h with
    | cons a b => exact congrArg Nat.succ (DVs.length b)
theorem DVs.get {H : Hp} : ∀ {vs : List V} {ds : List Dt} {i : Nat} {d : Dt}, DVs H vs ds → ds[i]? = some d → ∃ v, vs[i]? = some v ∧ DV H v d
  | _, [], _, _, _, e => by simp at e
  | _, x :: ds, 0, d, h, e => by
    cases h with
    | cons a b =>
      have q : x = d := Option.some.inj e
      exact ⟨_, rfl, q ▸ a⟩
  | _, x :: ds, i + 1, d, h, e => by
    cases h with
    | cons a b =>
      obtain ⟨v, e1, e2⟩ := DVs.get b (i := i) (d := d) (by simpa using e)
      exact ⟨v, by simpa using e1, e2⟩
theorem DVs.at {H : Hp} {vs : List V} {ds : List Dt} {i : Nat} {v : V} (h : DVs H vs ds) (e : vs[i]? = some v) : ∃ d, ds[i]? = some d ∧ DV H v d := by
  have hl := h.length
  have hi : i < ds.length := by
    have := (List.getElem?_eq_some_iff.mp e).1
    omega
  obtain ⟨w, e1, e2⟩ := h.get (List.getElem?_eq_getElem hi)
  rw [e] at e1
  cases e1
  exact ⟨_, List.getElem?_eq_getElem hi, e2⟩
theorem DVs.append {H : Hp} : ∀ {vs ws : List V} {ds es : List Dt}, DVs H vs ds → DVs H ws es → DVs H (vs ++ ws) (ds ++ es)
  | _, _, [], _, h, k => by cases h; exact k
  | _, _, d :: ds, _, h, k => by
    cases h with
    | cons a b => exact .cons a (DVs.append b k)
theorem DVs.ints {H : Hp} : ∀ {ns : List Int} {vs : List V}, DVs H vs (ns.map .num) → vs = ns.map V.int
  | [], _, h => by cases h; rfl
  | n :: ns, _, h => by
    cases h with
    | cons a b =>
      cases a
      rw [DVs.ints b]
      rfl
theorem DVs.of_ints {H : Hp} : ∀ ns : List Int, DVs H (ns.map V.int) (ns.map .num)
  | [] => .nil
  | n :: ns => .cons (.int n) (DVs.of_ints ns)
theorem DV.none_of {H : Hp} {d : Dt} (h : DV H .non d) : d = .none := by cases h; rfl

/-! ### encoders -/
def dSet (xs : List Int) : Dt := .tup (xs.map .num)
def dPair (p : Int × Int) : Dt := .tup [.num p.1, .num p.2]
def dDat (xs : List (Int × Int)) : Dt := .tup (xs.map dPair)
theorem num_inj : ∀ {xs ys : List Int}, xs.map NestedKey.num = ys.map NestedKey.num → xs = ys
  | [], [], _ => rfl
  | [], _ :: _, h => by simp at h
  | _ :: _, [], h => by simp at h
  | x :: xs, y :: ys, h => by
    simp only [List.map_cons, List.cons.injEq, NestedKey.num.injEq] at h
    rw [h.1, num_inj h.2]
theorem dSet_inj {xs ys : List Int} (h : dSet xs = dSet ys) : xs = ys := num_inj (NestedKey.tup.inj h)
theorem dPair_inj {p q : Int × Int} (h : dPair p = dPair q) : p = q := by
  obtain ⟨a, b⟩ := p
  obtain ⟨c, d⟩ := q
  simp only [dPair, NestedKey.tup.injEq, List.cons.injEq, NestedKey.num.injEq, and_true] at h
  rw [h.1, h.2]
theorem map_inj' {α β : Type} {f : α → β} (hf : ∀ a b, f a = f b → a = b) : ∀ {xs ys : List α}, xs.map f = ys.map f → xs = ys
  | [], [], _ => rfl
  | [], _ :: _, h => by simp at h
  | _ :: _, [], h => by simp at h
  | x :: xs, y :: ys, h => by
    simp only [List.map_cons, List.cons.injEq] at h
    rw [hf _ _ h.1, map_inj' hf h.2]
theorem dDat_inj {xs ys : List (Int × Int)} (h : dDat xs = dDat ys) : xs = ys := map_inj' (fun _ _ => dPair_inj) (NestedKey.tup.inj h)
end K85

/-! L2k: abstract values, the context, the judgements «evaluates to». -/
namespace K85
open PySem PySem.Spec PyProof.Rows L2

/-- all sets of so many offers (two or three), in order -/
def allSets : Nat → List (List Int)
  | 2 => [[], [0], [1], [0, 1]]
  | 3 => [[], [0], [1], [2], [0, 1], [0, 2], [1, 2], [0, 1, 2]]
  | _ => []

/-! ### the text's places -/
structure Cfg where
  P : Program
  w : World
  K : PySem.W.Frag
  mg : Str → Option Value
  base : Heap
  C : Addr
  T : Addr
structure Txt (g : Cfg) : Prop where
  isinstance : g.mg "isinstance" = none
  int : g.mg "int" = none
  bool : g.mg "bool" = none
  tuple : g.mg "tuple" = none
  range : g.mg "range" = none
  sorted : g.mg "sorted" = none
  set : g.mg "set" = none
  len : g.mg "len" = none
  enumerate : g.mg "enumerate" = none
  max : g.mg "max" = none
  sum : g.mg "sum" = none
  list : g.mg "list" = none
  cC : Cls g.K g.C
  cT : Cls g.K g.T
  nOffers : NoAttr g.K g.C "offers"
  nPicks : NoAttr g.K g.C "picks"
  nTable : NoAttr g.K g.C "table"
  nPlaces : NoAttr g.K g.C "places"
  nLives : NoAttr g.K g.T "lives"
  nLoose : NoAttr g.K g.T "loose"

/-! ### a dict whose keys and values are tuples of data, by its one object -/
abbrev DX (a : Addr) (o : Obj) : HO := .ext fun h => h.get? a = some o
def rawN (ys : List (Dt × Addr × Addr)) : List (Dt × Addr × Value) := ys.map fun y => (y.1, y.2.1, .ref y.2.2)
structure NOk (P : Program) (w : World) (H : Hp) (o : Obj) (es : Array DictEntry) (ep : Nat) (ys : List (Dt × Addr × Addr)) (kd : List (Dt × Dt)) : Prop where
  exact : o.ExactDict
  data : o.data = .dict es ep
  ents : es.toList = (rawN ys).map (entryOfKey (nestedKind P w))
  once : ((rawN ys).map (·.1)).Nodup
  all : Paired (fun (p : Dt × Dt) (y : Dt × Addr × Addr) => p.1 = y.1 ∧ p.1.depth ≤ 8 ∧ DV H (.ref y.2.1) p.1 ∧ DV H (.ref y.2.2) p.2) kd ys
def NDict (P : Program) (w : World) (H : Hp) (a : Addr) (kd : List (Dt × Dt)) : Prop := (a == sysModules) = false ∧ ∃ o es ep ys, H a = some (DX a o) ∧ NOk P w H o es ep ys kd
theorem NOk.mono {P : Program} {w : World} {H H' : Hp} {o : Obj} {es : Array DictEntry} {ep : Nat} {ys : List (Dt × Addr × Addr)} {kd : List (Dt × Dt)} (k : TK H H') (h : NOk P w H o es ep ys kd) : NOk P w H' o es ep ys kd :=
  ⟨h.exact, h.data, h.ents, h.once, Paired.mapP h.all fun _ _ ⟨a, b, c, d⟩ => ⟨a, b, c.mono k, d.mono k⟩⟩
theorem NDict.mono {P : Program} {w : World} {H H' : Hp} {a : Addr} {kd : List (Dt × Dt)} (k : TK H H') (e : ∀ o, H a = some o → H' a = some o) (h : NDict P w H a kd) : NDict P w H' a kd := by
  obtain ⟨s, o, es, ep, ys, h1, h2⟩ := h
  exact ⟨s, o, es, ep, ys, e _ h1, h2.mono k⟩

/-! ### abstract values -/
inductive A where
  | d (x : Dt) | bl (b : Bool) | ch (n : Nat) (c : List Int → List Int) | tab (n : Nat) (c : List Int → List Int) | tr (lives loose : List Int) | obj (v : V) | ls (as : List A) | ob (l : Addr) (o : HO) | nd (kd : List (Dt × Dt))
abbrev aI (i : Int) : A := .d (.num i)
abbrev aSet (xs : List Int) : A := .d (dSet xs)
abbrev aDat (xs : List (Int × Int)) : A := .d (dDat xs)
def rngI (n : Nat) : List Int := (List.range n).map fun i => ((i : Nat) : Int)
/-- the table of a chooser -/
def TabAt (H : Hp) (t : Addr) (n : Nat) (c : List Int → List Int) : Prop :=
  ∃ kvs : List (List Key × V), H t = some (.dT kvs) ∧ ∀ s ∈ allSets n, ∃ p, valV kvs (s.map Sum.inl) = some (.ref p) ∧ H p = some (.tup ((c s).map V.int))
def ChAt (g : Cfg) (H : Hp) (a : Addr) (n : Nat) (c : List Int → List Int) : Prop :=
  ∃ (dx : Addr) (fs : List (Str × V)) (t p : Addr), H a = some (.ins g.C dx fs) ∧ fs.lookup ("offers" : Str) = some (.int n) ∧ fs.lookup ("table" : Str) = some (.ref t) ∧ fs.lookup ("places" : Str) = some (.ref p) ∧ H p = some (.tup ((rngI n).map V.int)) ∧
    fs.lookup ("__len__" : Str) = none ∧ fs.lookup ("taken" : Str) = none ∧ TabAt H t n c
def TrAt (g : Cfg) (H : Hp) (a : Addr) (lives loose : List Int) : Prop :=
  ∃ (dx : Addr) (fs : List (Str × V)) (p q : Addr), H a = some (.ins g.T dx fs) ∧ fs.lookup ("lives" : Str) = some (.ref p) ∧ fs.lookup ("loose" : Str) = some (.ref q) ∧ H p = some (.tup (lives.map V.int)) ∧ H q = some (.tup (loose.map V.int)) ∧ fs.lookup ("__len__" : Str) = none
mutual
inductive AV (g : Cfg) (H : Hp) : V → A → Prop
  | d {v : V} {x : Dt} : DV H v x → AV g H v (.d x)
  | bl (b : Bool) : AV g H (.bl b) (.bl b)
  | ch {a : Addr} {n : Nat} {c : List Int → List Int} : ChAt g H a n c → AV g H (.ref a) (.ch n c)
  | tab {a : Addr} {n : Nat} {c : List Int → List Int} : TabAt H a n c → AV g H (.ref a) (.tab n c)
  | tr {a : Addr} {l z : List Int} : TrAt g H a l z → AV g H (.ref a) (.tr l z)
  | obj (v : V) : AV g H v (.obj v)
  | ob {l : Addr} {o : HO} : H l = some o → AV g H (.ref l) (.ob l o)
  | nd {a : Addr} {kd : List (Dt × Dt)} : NDict g.P g.w H a kd → AV g H (.ref a) (.nd kd)
  | ls {a : Addr} {xs : List V} {as : List A} : H a = some (.lst xs) → AVs g H xs as → AV g H (.ref a) (.ls as)
inductive AVs (g : Cfg) (H : Hp) : List V → List A → Prop
  | nil : AVs g H [] []
  | cons {v : V} {a : A} {vs : List V} {as : List A} : AV g H v a → AVs g H vs as → AVs g H (v :: vs) (a :: as)
end
/-- what does not change: all but lists and dicts with plain keys -/
def fixO : HO → Bool
  | .lst _ => false
  | .dK _ => false
  | .ext _ => false
  | _ => true
def Kp (H H' : Hp) : Prop := ∀ a o, H a = some o → fixO o = true → H' a = some o
theorem Kp.refl (H : Hp) : Kp H H := fun _ _ h _ => h
theorem Kp.of {H H' : Hp} (h : Same H H') : Kp H H' := fun a o e _ => h a o e
theorem Kp.trans {H H1 H2 : Hp} (a : Kp H H1) (b : Kp H1 H2) : Kp H H2 := fun x o h f => b x o (a x o h f) f
theorem Kp.tk {H H' : Hp} (k : Kp H H') : TK H H' := fun a xs e => k a _ e rfl
theorem Kp.up {H : Hp} {l : Addr} {o o' : HO} (e : H l = some o) (n : fixO o = false) : Kp H (upd H l o') := fun a u h f => by
  rw [upd_ne (ne_of h e (fun q => by rw [q, n] at f; cases f))]
  exact h
theorem Kp.newO {H : Hp} {l : Addr} {o' : HO} (e : H l = none) : Kp H (upd H l o') := fun a u h f => by
  rw [upd_ne (ne_of_none h e)]
  exact h
theorem Same.newO {H : Hp} {l : Addr} {o' : HO} (e : H l = none) : Same H (upd H l o') := fun a u h => by
  rw [upd_ne (ne_of_none h e)]
  exact h
/-- an object that the entry does not know is changed -/
theorem Same.mut {H H' : Hp} {l : Addr} {o : HO} (s : Same H H') (e : H l = none) : Same H (upd H' l o) := fun a u h => by
  rw [upd_ne (ne_of_none h e)]
  exact s a u h
theorem TabAt.mono {H H' : Hp} (k : Kp H H') {t : Addr} {n : Nat} {c : List Int → List Int} (h : TabAt H t n c) : TabAt H' t n c := by
  obtain ⟨kvs, e, f⟩ := h
  refine ⟨kvs, k _ _ e rfl, fun s hs => ?_⟩
  obtain ⟨p, e1, e2⟩ := f s hs
  exact ⟨p, e1, k _ _ e2 rfl⟩
theorem ChAt.mono {g : Cfg} {H H' : Hp} (k : Kp H H') {a : Addr} {n : Nat} {c : List Int → List Int} (h : ChAt g H a n c) : ChAt g H' a n c := by
  obtain ⟨dx, fs, t, p, e, a1, a2, a3, a4, a6, a7, tb⟩ := h
  exact ⟨dx, fs, t, p, k _ _ e rfl, a1, a2, a3, k _ _ a4 rfl, a6, a7, tb.mono k⟩
theorem TrAt.mono {g : Cfg} {H H' : Hp} (k : Kp H H') {a : Addr} {l z : List Int} (h : TrAt g H a l z) : TrAt g H' a l z := by
  obtain ⟨dx, fs, p, q, e, a1, a2, a3, a4, a5⟩ := h
  exact ⟨dx, fs, p, q, k _ _ e rfl, a1, a2, k _ _ a3 rfl, k _ _ a4 rfl, a5⟩
/-- no list is told of -/
def noLs : A → Bool
  | .ls _ => false
  | .ob _ _ => false
  | .nd _ => false
  | _ => true
theorem AV.kp {g : Cfg} {H H' : Hp} (k : Kp H H') {v : V} {a : A} (h : AV g H v a) (n : noLs a = true) : AV g H' v a := by
  cases h with
  | d x => exact .d (x.mono k.tk)
  | bl b => exact .bl b
  | ch x => exact .ch (x.mono k)
  | tab x => exact .tab (x.mono k)
  | tr x => exact .tr (x.mono k)
  | obj v => exact .obj v
  | ls e t => cases n
  | ob e => cases n
  | nd e => cases n
mutual
theorem AV.mono {g : Cfg} {H H' : Hp} (k : Same H H') : ∀ {a : A} {v : V}, AV g H v a → AV g H' v a
  | .d _, _, h => h.kp (.of k) rfl
  | .bl _, _, h => h.kp (.of k) rfl
  | .ch _ _, _, h => h.kp (.of k) rfl
  | .tab _ _, _, h => h.kp (.of k) rfl
  | .tr _ _, _, h => h.kp (.of k) rfl
  | .obj _, _, h => h.kp (.of k) rfl
  | .ob l o, _, h => by
    cases h with
    | ob e => exact .ob (k _ _ e)
  | .nd kd, _, h => by
    cases h with
    | nd e => exact .nd (e.mono (TK.of k) fun o q => k _ _ q)
  | .ls as, _, h => by
    cases h with
    | ls e t => exact .ls (k _ _ e) (AVs.mono k t)
theorem AVs.mono {g : Cfg} {H H' : Hp} (k : Same H H') : ∀ {as : List A} {vs : List V}, AVs g H vs as → AVs g H' vs as
  | [], _, h => by cases h; exact .nil
  | a :: as, _, h => by
    cases h with
    | cons x y => exact .cons (AV.mono k x) (AVs.mono k y)
end
theorem AVs.length {g : Cfg} {H : Hp} : ∀ {vs : List V} {as : List A}, AVs g H vs as → vs.length = as.length
  | _, [], h => by cases h; rfl
  | _, a :: as, h => by
    cases h with
    | cons x y => exact congrArg Nat.succ (AVs.length y)
theorem AVs.of_dvs {g : Cfg} {H : Hp} : ∀ {vs : List V} {ds : List Dt}, DVs H vs ds → AVs g H vs (ds.map .d)
  | _, [], h => by cases h; exact .nil
  | _, d :: ds, h => by
    cases h with
    | cons x y => exact .cons (.d x) (AVs.of_dvs y)
theorem AVs.dvs {g : Cfg} {H : Hp} : ∀ {vs : List V} {ds : List Dt}, AVs g H vs (ds.map .d) → DVs H vs ds
  | _, [], h => by cases h; exact .nil
  | _, d :: ds, h => by
    cases h with
    | cons x y =>
      cases x with
      | d x => exact .cons x (AVs.dvs y)
theorem AV.dv {g : Cfg} {H : Hp} {v : V} {x : Dt} (h : AV g H v (.d x)) : DV H v x := by cases h with | d y => exact y
theorem AV.int {g : Cfg} {H : Hp} {v : V} {i : Int} (h : AV g H v (.d (.num i))) : v = .int i := by
  cases h with
  | d y => cases y; rfl
theorem AV.bool {g : Cfg} {H : Hp} {v : V} {b : Bool} (h : AV g H v (.bl b)) : v = .bl b := by cases h; rfl
theorem AV.is {g : Cfg} {H : Hp} {v w : V} (h : AV g H v (.obj w)) : v = w := by cases h; rfl
theorem AV.setOf {g : Cfg} {H : Hp} {v : V} {xs : List Int} (h : AV g H v (aSet xs)) : ∃ a, v = .ref a ∧ H a = some (.tup (xs.map V.int)) := by
  cases h with
  | d y =>
    cases y with
    | tup e t => exact ⟨_, rfl, by rw [e, t.ints]⟩
theorem AV.of_set {g : Cfg} {H : Hp} {a : Addr} {xs : List Int} (h : H a = some (.tup (xs.map V.int))) : AV g H (.ref a) (aSet xs) := .d (.tup h (DVs.of_ints xs))
theorem AV.tupOf {g : Cfg} {H : Hp} {v : V} {ds : List Dt} (h : AV g H v (.d (.tup ds))) : ∃ a xs, v = .ref a ∧ H a = some (.tup xs) ∧ DVs H xs ds := by
  cases h with
  | d y =>
    cases y with
    | tup e t => exact ⟨_, _, rfl, e, t⟩

/-! ### slots -/
structure Rel (g : Cfg) (H : Hp) (σ : L2.St) (Γ : List (Option A)) : Prop where
  len : σ.length = Γ.length
  at_ : ∀ (i : Nat) (a : A), Γ[i]? = some (some a) → ∃ v, σ[i]? = some (some v) ∧ AV g H v a
theorem Rel.mono {g : Cfg} {H H' : Hp} {σ : L2.St} {Γ : List (Option A)} (k : Same H H') (r : Rel g H σ Γ) : Rel g H' σ Γ := ⟨r.len, fun i a e => by
  obtain ⟨v, e1, e2⟩ := r.at_ i a e
  exact ⟨v, e1, e2.mono k⟩⟩
def noLsO : Option A → Bool
  | some a => noLs a
  | none => true
theorem Rel.kp {g : Cfg} {H H' : Hp} {σ : L2.St} {Γ : List (Option A)} (k : Kp H H') (r : Rel g H σ Γ) (n : Γ.all noLsO = true) : Rel g H' σ Γ := ⟨r.len, fun i a e => by
  obtain ⟨v, e1, e2⟩ := r.at_ i a e
  have h := List.all_eq_true.mp n (some a) (List.mem_of_getElem? e)
  exact ⟨v, e1, e2.kp k h⟩⟩
theorem Rel.set {g : Cfg} {H : Hp} {σ : L2.St} {Γ : List (Option A)} (r : Rel g H σ Γ) (i : Nat) {v : V} {a : A} (h : AV g H v a) : Rel g H (σ.set i (some v)) (Γ.set i (some a)) := ⟨by rw [List.length_set, List.length_set]; exact r.len, fun j b e => by
  by_cases hj : i = j
  · subst hj
    have hi : i < (Γ.set i (some a)).length := (List.getElem?_eq_some_iff.mp e).1
    rw [List.length_set] at hi
    rw [List.getElem?_set_self hi] at e
    have e' : a = b := Option.some.inj (Option.some.inj e)
    rw [List.getElem?_set_self (by rw [r.len]; exact hi)]
    exact ⟨v, rfl, e' ▸ h⟩
  · rw [List.getElem?_set_ne hj] at e
    obtain ⟨w, e1, e2⟩ := r.at_ j b e
    exact ⟨w, by rw [List.getElem?_set_ne hj]; exact e1, e2⟩⟩
/-- a slot is changed of which nothing is told -/
theorem Rel.drop {g : Cfg} {H : Hp} {σ : L2.St} {Γ : List (Option A)} (r : Rel g H σ Γ) (i : Nat) (v : Option V) : Rel g H (σ.set i v) (Γ.set i none) := ⟨by rw [List.length_set, List.length_set]; exact r.len, fun j b e => by
  by_cases hj : i = j
  · subst hj
    have hi : i < (Γ.set i none).length := (List.getElem?_eq_some_iff.mp e).1
    rw [List.length_set] at hi
    rw [List.getElem?_set_self hi] at e
    cases e
  · rw [List.getElem?_set_ne hj] at e
    obtain ⟨w, e1, e2⟩ := r.at_ j b e
    exact ⟨w, by rw [List.getElem?_set_ne hj]; exact e1, e2⟩⟩
/-- forgetting -/
def subΓ (Γ' Γ : List (Option A)) : Prop := Γ'.length = Γ.length ∧ ∀ (i : Nat) (a : A), Γ'[i]? = some (some a) → Γ[i]? = some (some a)
theorem Rel.sub {g : Cfg} {H : Hp} {σ : L2.St} {Γ Γ' : List (Option A)} (r : Rel g H σ Γ) (s : subΓ Γ' Γ) : Rel g H σ Γ' := ⟨r.len.trans s.1.symm, fun i a e => r.at_ i a (s.2 i a e)⟩
theorem sub_nil : subΓ [] [] := ⟨rfl, fun _ _ h => h⟩
theorem sub_no {Γ Γ' : List (Option A)} {o : Option A} (s : subΓ Γ' Γ) : subΓ (none :: Γ') (o :: Γ) := ⟨congrArg Nat.succ s.1, fun i a e => by
  cases i with
  | zero => cases e
  | succ i => exact s.2 i a e⟩
theorem sub_eq {Γ Γ' : List (Option A)} {o : Option A} (s : subΓ Γ' Γ) : subΓ (o :: Γ') (o :: Γ) := ⟨congrArg Nat.succ s.1, fun i a e => by
  cases i with
  | zero => exact e
  | succ i => exact s.2 i a e⟩
theorem rel_nil {g : Cfg} {H : Hp} : Rel g H [] [] := ⟨rfl, fun _ _ e => by simp at e⟩
theorem rel_cons {g : Cfg} {H : Hp} {v : V} {a : A} {σ : L2.St} {Γ : List (Option A)} (h : AV g H v a) (r : Rel g H σ Γ) : Rel g H (some v :: σ) (some a :: Γ) := ⟨congrArg Nat.succ r.len, fun i b e => by
  cases i with
  | zero =>
    have e' : a = b := Option.some.inj (Option.some.inj e)
    exact ⟨v, rfl, e' ▸ h⟩
  | succ i => exact r.at_ i b e⟩
theorem rel_no {g : Cfg} {H : Hp} {o : Option V} {σ : L2.St} {Γ : List (Option A)} (r : Rel g H σ Γ) : Rel g H (o :: σ) (none :: Γ) := ⟨congrArg Nat.succ r.len, fun i b e => by
  cases i with
  | zero => cases e
  | succ i => exact r.at_ i b e⟩
def wipeΓ (Γ : List (Option A)) : List Nat → List (Option A)
  | [] => Γ
  | v :: vs => (wipeΓ Γ vs).set v none
theorem Rel.wipe {g : Cfg} {H : Hp} {σ : L2.St} {Γ : List (Option A)} (r : Rel g H σ Γ) : ∀ vs : List Nat, Rel g H (L2.wipe σ vs) (wipeΓ Γ vs)
  | [] => r
  | v :: vs => (Rel.wipe r vs).drop v none
/-- a def's slots at its entry -/
theorem rel_start {g : Cfg} {H : Hp} : ∀ {vs : List V} {as : List A} (k : Nat), AVs g H vs as → Rel g H (vs.map some ++ List.replicate k none) (as.map some ++ List.replicate k none)
  | _, [], k, h => by
    cases h
    refine ⟨by simp, fun i a e => ?_⟩
    have e2 : (List.replicate k (none : Option A))[i]? = some (some a) := by simpa using e
    rw [List.getElem?_replicate] at e2
    split at e2
    · cases e2
    · cases e2
  | _, a :: as, k, h => by
    cases h with
    | cons x y => exact rel_cons x (rel_start k y)

/-! ### the context -/
structure Cxk (g : Cfg) (N : List Str) (sc : Scope) (k : Nat) (X : Cx) : Prop where
  P : X.prog = g.P
  w : X.w = g.w
  K : X.K = g.K
  mg : X.mg = g.mg
  base : X.base = g.base
  calm : X.calm = true
  room : Room k X.A
  T : Txt g
  eN : X.N = N
  eS : X.env.scope = sc
  kind : sc.kind = .function
  nd : N.Nodup
/-- a def's own body: its cells are its own, nothing that is raised leaves it -/
structure Dtx (g : Cfg) (N : List Str) (sc : Scope) (k : Nat) (X : Cx) : Prop extends Cxk g N sc k X where
  fn : ∀ x, X.fn x = true
  pass : PassesOwn (model X.prog X.w) X.A X.env X.xe
def GlS (sc : Scope) (x : Str) : Prop := sc.names.lookup x = some .globalImplicit
section
variable {g : Cfg} {N : List Str} {sc : Scope} {k : Nat} {X : Cx}
theorem Cxk.blk (c : Cxk g N sc k X) {s : Shared} {H : Hp} {sc' : Scope} {ce : Env} {fp : List Addr} (e : ce.scope = sc') (hk : sc'.kind = .function) : Cxk g N sc' k (X.blk s H sc' ce fp) := ⟨c.P, c.w, c.K, c.mg, c.base, c.calm, c.room, c.T, c.eN, e, hk, c.nd⟩
theorem Cxk.mgN (c : Cxk g N sc k X) {x : Str} (h : g.mg x = none) : X.mg x = none := by rw [c.mg]; exact h
theorem Cxk.gl (c : Cxk g N sc k X) {x : Str} (h : GlS sc x) : Gl X x := by
  show X.env.scope.names.lookup x = _
  rw [c.eS]
  exact h
theorem Cxk.vis (c : Cxk g N sc k X) {x : Str} (h : Vis sc x) : Vis X.env.scope x := by rw [c.eS]; exact h
theorem Cxk.loc (c : Cxk g N sc k X) {x : Str} (h : Loc sc x) : Loc X.env.scope x := by rw [c.eS]; exact h
theorem Cxk.at_ (c : Cxk g N sc k X) {x : Str} {i : Nat} (h : N[i]? = some x) : X.N[i]? = some x := by rw [c.eN]; exact h
theorem Cxk.ndX (c : Cxk g N sc k X) : X.N.Nodup := by rw [c.eN]; exact c.nd
end

/-! ### judgements -/
def DE (g : Cfg) (X : Cx) (e : Expr) (Γ : List (Option A)) (a : A) : Prop := ∀ (σ : L2.St) (H : Hp) (Q : VK), Rel g H σ Γ → (∀ v H1, Same H H1 → AV g H1 v a → Q v H1) → wE X e σ H Q
def DT (g : Cfg) (X : Cx) (e : Expr) (Γ : List (Option A)) (b : Bool) : Prop := ∀ (σ : L2.St) (H : Hp) (Q : Bool → Hp → Prop), Rel g H σ Γ → (∀ H1, Same H H1 → Q b H1) → wT X e σ H Q
def DA (g : Cfg) (X : Cx) (es : List Expr) (Γ : List (Option A)) (as : List A) : Prop := ∀ (σ : L2.St) (H : Hp) (Q : List V → Hp → Prop), Rel g H σ Γ → (∀ vs H1, Same H H1 → AVs g H1 vs as → Q vs H1) → wA X es σ H Q
/-- a new list -/
def DL (g : Cfg) (X : Cx) (e : Expr) (Γ : List (Option A)) (as : List A) : Prop := ∀ (σ : L2.St) (H : Hp) (Q : VK), Rel g H σ Γ → (∀ p xs H1, H p = none → Same H H1 → H1 p = some (.lst xs) → AVs g H1 xs as → Q (.ref p) H1) → wE X e σ H Q
theorem DL.de {g : Cfg} {X : Cx} {e : Expr} {Γ : List (Option A)} {as : List A} (h : DL g X e Γ as) : DE g X e Γ (.ls as) := fun σ H Q r q => h σ H Q r fun p xs H1 _ s e x => q _ _ s (.ls e x)
theorem DE.is {g : Cfg} {X : Cx} {e : Expr} {Γ : List (Option A)} {a b : A} (h : DE g X e Γ a) (q : a = b) : DE g X e Γ b := q ▸ h
theorem DT.is {g : Cfg} {X : Cx} {e : Expr} {Γ : List (Option A)} {a b : Bool} (h : DT g X e Γ a) (q : a = b) : DT g X e Γ b := q ▸ h
theorem DL.is {g : Cfg} {X : Cx} {e : Expr} {Γ : List (Option A)} {a b : List A} (h : DL g X e Γ a) (q : a = b) : DL g X e Γ b := q ▸ h
/-- an operation on values -/
def RD (g : Cfg) (r : R2) (x y z : A) : Prop := ∀ (H : Hp) (v u : V) (Q : VK), AV g H v x → AV g H u y → (∀ w H1, Same H H1 → AV g H1 w z → Q w H1) → r v u H Q
/-- a call on values -/
def RCd (g : Cfg) (r : List V → Hp → VK → Prop) (as : List A) (z : A) : Prop := ∀ (H : Hp) (vs : List V) (Q : VK), AVs g H vs as → (∀ w H1, Same H H1 → AV g H1 w z → Q w H1) → r vs H Q

section
variable {g : Cfg} {N : List Str} {sc : Scope} {X : Cx} {Γ : List (Option A)} {k : Nat} {a b c e : Expr} {x y z : A} {pos : Pos}
theorem de_var (i : Nat) (ct : Cxk g N sc k X) {x : Str} {a : A} (hN : N[i]? = some x := by rfl) (hΓ : Γ[i]? = some (some a) := by rfl) (hv : Vis sc x := by first | exact Or.inl rfl | exact Or.inr (Or.inl rfl) | exact Or.inr (Or.inr rfl))
    (hd : (x == ("__debug__" : Str)) = false := by decide) (hcd : (x == ("__classdict__" : Str)) = false := by decide) : DE g X (.Name x pos) Γ a := fun σ H Q r q => by
  obtain ⟨v, e1, e2⟩ := r.at_ i a hΓ
  exact ⟨_, pe_var (ct.at_ hN) (ct.vis hv) hd hcd, v, e1, q v H (Same.refl H) e2⟩
theorem de_int {i : Int} {j} : DE g X (.Constant (.int i) j pos) Γ (.d (.num i)) := fun σ H Q r q => ⟨_, pe_int, q _ H (Same.refl H) (.d (.int i))⟩
theorem de_str {i : Str} {j} : DE g X (.Constant (.str i) j pos) Γ (.d (.text i)) := fun σ H Q r q => ⟨_, pe_str, q _ H (Same.refl H) (.d (.str i))⟩
theorem de_non {j} : DE g X (.Constant .none j pos) Γ (.d .none) := fun σ H Q r q => ⟨_, pe_non, q _ H (Same.refl H) (.d .non)⟩
theorem de_bl {b : Bool} {j} : DE g X (.Constant (.bool b) j pos) Γ (.bl b) := fun σ H Q r q => ⟨_, pe_bl, q _ H (Same.refl H) (.bl b)⟩
theorem de_glob {x : Str} {i : Int} (c : Cxk g N sc k X) (hm : ∃ t, g.mg x = some (.int i t)) (hg : GlS sc x := by rfl) (hd : (x == ("__debug__" : Str)) = false := by decide) : DE g X (.Name x pos) Γ (.d (.num i)) := fun σ H Q r q => by
  obtain ⟨t, e⟩ := hm
  exact ⟨_, pe_glob (v := .int i) (c.gl hg) (by rw [c.mg]; exact e) ⟨t, rfl⟩ hd, q _ H (Same.refl H) (.d (.int i))⟩
theorem two {ta : TE} (ha : DE g X a Γ x) (hb : DE g X b Γ y) {σ : L2.St} {H : Hp} {R : V → V → Hp → Prop} (r : Rel g H σ Γ) (q : ∀ v u H1, Same H H1 → AV g H1 v x → AV g H1 u y → R v u H1) : wE X a σ H fun v H1 => wE X b σ H1 fun u H2 => R v u H2 :=
  ha σ H _ r fun v H1 s1 v1 => hb σ H1 _ (r.mono s1) fun u H2 s2 u2 => q v u H2 (s1.trans s2) (v1.mono s2) u2
theorem de_op {op : Operator} {r : R2} (ho : OpR X (binaryOp op) r) (ha : DE g X a Γ x) (hb : DE g X b Γ y) (hr : RD g r x y z) : DE g X (.BinOp a op b pos) Γ z := fun σ H Q rl q =>
  ⟨_, pe_op ho pe_w pe_w, two (ta := wE X a) ha hb rl fun v u H1 s1 v1 u1 => hr H1 v u Q v1 u1 fun w H2 s2 w2 => q w H2 (s1.trans s2) w2⟩
theorem de_cmp {op : CmpOp} {r : R2} (ho : OpR X (compareOp op) r) (ha : DE g X a Γ x) (hb : DE g X b Γ y) (hr : RD g r x y z) (hm : behindInMarks op b = false := by with_unfolding_all rfl) : DE g X (.Compare a [op] [b] pos) Γ z := fun σ H Q rl q =>
  ⟨_, pe_cmpR ho pe_w pe_w hm, two (ta := wE X a) ha hb rl fun v u H1 s1 v1 u1 => hr H1 v u Q v1 u1 fun w H2 s2 w2 => q w H2 (s1.trans s2) w2⟩
theorem dt_cmp {op : CmpOp} {r : R2} {t : Bool} (ho : OpR X (compareOp op) r) (ha : DE g X a Γ x) (hb : DE g X b Γ y) (hr : RD g r x y (.bl t)) (hm : behindInMarks op b = false := by with_unfolding_all rfl) : DT g X (.Compare a [op] [b] pos) Γ t := fun σ H Q rl q =>
  ⟨_, pt_cmpR ho pe_w pe_w hm, two (ta := wE X a) ha hb rl fun v u H1 s1 v1 u1 => hr H1 v u _ v1 u1 fun w H2 s2 w2 => ⟨t, w2.bool, q H2 (s1.trans s2)⟩⟩
/-- a op1 b op2 c, both links true -/
theorem dt_chain {op op' : CmpOp} {r r' : R2} {t t' : Bool} (ho : OpR X (compareOp op) r) (ho' : OpR X (compareOp op') r') (ha : DE g X a Γ x) (hb : DE g X b Γ y) (hc : DE g X c Γ z) (h1 : RD g r x y (.bl t)) (h2 : RD g r' y z (.bl t'))
    (hm : lastMarks [op, op'] [b, c] = false := by with_unfolding_all rfl) : DT g X (.Compare a [op, op'] [b, c] pos) Γ (t && t') := fun σ H Q rl q =>
  ⟨_, pt_chain ho ho' pe_w pe_w pe_w hm, ha σ H _ rl fun v H1 s1 v1 => hb σ H1 _ (rl.mono s1) fun u H2 s2 u2 => h1 H2 v u _ (v1.mono s2) u2 fun w H3 s3 w3 => ⟨t, w3.bool, by
    cases t with
    | false =>
      show ∃ k, V.bl false = V.bl k ∧ Q k H3
      exact ⟨false, rfl, q H3 ((s1.trans s2).trans s3)⟩
    | true =>
      show wE X c σ H3 _
      exact hc σ H3 _ (rl.mono ((s1.trans s2).trans s3)) fun w' H4 s4 w4 => h2 H4 u w' _ (u2.mono (s3.trans s4)) w4 fun w5 H5 s5 w6 => ⟨t', w6.bool, q H5 ((((s1.trans s2).trans s3).trans s4).trans s5)⟩⟩⟩
theorem dt_val {t : Bool} (h : DE g X e Γ (.bl t)) (he : ∀ whole, isTrue e X.env whole = (do let v ← whole; standAt e.pos; holding [v] (truthy v)) := by intro _; rfl) : DT g X e Γ t := fun σ H Q rl q =>
  ⟨_, pt_val pe_w he, h σ H _ rl fun v H1 s1 v1 => ⟨t, v1.bool, q H1 s1⟩⟩
theorem dt_not {t : Bool} (h : DT g X e Γ t) : DT g X (.UnaryOp .Not e pos) Γ (!t) := fun σ H Q rl q => ⟨_, pt_not pt_w, h σ H _ rl fun H1 s1 => q H1 s1⟩
theorem de_not {t : Bool} (h : DE g X e Γ (.bl t)) : DE g X (.UnaryOp .Not e pos) Γ (.bl (!t)) := fun σ H Q rl q => ⟨_, pe_not pe_w, h σ H _ rl fun v H1 s1 v1 => ⟨t, v1.bool, q _ H1 s1 (.bl _)⟩⟩
theorem dt_or2 {t u : Bool} (ha : DT g X a Γ t) (hb : t = false → DT g X b Γ u) : DT g X (.BoolOp .Or [a, b] pos) Γ (t || u) := fun σ H Q rl q =>
  ⟨_, PW.pt (pw_or pt_w (pw_or1 pt_w)), ha σ H _ rl fun H1 s1 => by
    cases t with
    | true =>
      show Q true H1
      exact q H1 s1
    | false =>
      show wT X b σ H1 Q
      exact hb rfl σ H1 _ (rl.mono s1) fun H2 s2 => q H2 (s1.trans s2)⟩
theorem dt_and2 {t u : Bool} (ha : DT g X a Γ t) (hb : t = true → DT g X b Γ u) : DT g X (.BoolOp .And [a, b] pos) Γ (t && u) := fun σ H Q rl q =>
  ⟨_, PW.pt (pw_and pt_w (pw_and1 pt_w)), ha σ H _ rl fun H1 s1 => by
    cases t with
    | false =>
      show Q false H1
      exact q H1 s1
    | true =>
      show wT X b σ H1 Q
      exact hb rfl σ H1 _ (rl.mono s1) fun H2 s2 => q H2 (s1.trans s2)⟩
theorem de_and2 {t u : Bool} (ha : DE g X a Γ (.bl t)) (hb : t = true → DE g X b Γ (.bl u)) : DE g X (.BoolOp .And [a, b] pos) Γ (.bl (t && u)) := fun σ H Q rl q =>
  ⟨_, pe_and pe_w (pe_one pe_w), ha σ H _ rl fun v H1 s1 v1 => ⟨t, v1.bool, by
    cases t with
    | false =>
      show Q (.bl false) H1
      exact q _ H1 s1 (.bl _)
    | true =>
      show wE X b σ H1 Q
      exact hb rfl σ H1 _ (rl.mono s1) fun w H2 s2 w2 => q w H2 (s1.trans s2) w2⟩⟩
theorem de_ifE {t : Bool} (hc : DT g X c Γ t) (ha : t = true → DE g X a Γ x) (hb : t = false → DE g X b Γ x) : DE g X (.IfExp c a b pos) Γ x := fun σ H Q rl q =>
  ⟨_, pe_ifExp pt_w pe_w pe_w, hc σ H _ rl fun H1 s1 => by
    cases t with
    | true =>
      show wE X a σ H1 Q
      exact ha rfl σ H1 _ (rl.mono s1) fun v H2 s2 v2 => q v H2 (s1.trans s2) v2
    | false =>
      show wE X b σ H1 Q
      exact hb rfl σ H1 _ (rl.mono s1) fun v H2 s2 v2 => q v H2 (s1.trans s2) v2⟩
theorem da_nil : DA g X [] Γ [] := fun σ H Q rl q => ⟨_, pa_nil, q [] H (Same.refl H) .nil⟩
theorem da_cons {es : List Expr} {as : List A} (h : DE g X e Γ x) (hr : DA g X es Γ as) (hs : starEach (e :: es) X.env = (false, eval e X.env) :: starEach es X.env := by rfl) : DA g X (e :: es) Γ (x :: as) := fun σ H Q rl q =>
  ⟨_, pa_cons pe_w pa_w hs, h σ H _ rl fun v H1 s1 v1 => hr σ H1 _ (rl.mono s1) fun vs H2 s2 v2 => q _ H2 (s1.trans s2) (.cons (v1.mono s2) v2)⟩
/-- a written tuple of data -/
theorem de_tup {es : List Expr} {ds : List Dt} {x1} (h : DA g X es Γ (ds.map .d)) (hl : ds.length ≤ 1000 := by simp) : DE g X (.Tuple es x1 pos) Γ (.d (.tup ds)) := fun σ H Q rl q =>
  ⟨_, pe_tup pa_w, h σ H _ rl fun vs H1 s1 v1 => ⟨by
    rw [v1.length, List.length_map]
    exact Nat.le_trans hl (by decide), fun p hp => q _ _ (s1.trans (Same.newO hp)) (.d (.tup upd_same ((AVs.dvs v1).mono (TK.of (Same.newO hp)))))⟩⟩
/-- a written list -/
theorem dl_lst {es : List Expr} {as : List A} (h : DA g X es Γ as) (hl : as.length ≤ 1000 := by simp) : DL g X (.List es pos) Γ as := fun σ H Q rl q =>
  ⟨_, pe_lst pa_w, h σ H _ rl fun vs H1 s1 v1 => ⟨by
    rw [v1.length]
    exact Nat.le_trans hl (by decide), fun p hp => q p vs _ (s1.free hp) (s1.trans (Same.newO hp)) upd_same (v1.mono (Same.newO hp))⟩⟩
end
end K85

/-! L3: operators, subscripts, fields, built-in calls that give data. -/
namespace K85
open PySem PySem.Spec PyProof.Rows L2

/-! ### data as the library's data -/
mutual
theorem DV.dp {K : PySem.W.Frag} {H : Hp} : ∀ {d : Dt} {v : V}, DV H v d → Dp K H v d.data
  | .none, _, h => by cases h; exact .non
  | .num i, _, h => by cases h; exact .int i
  | .text x, _, h => by cases h; exact .str x
  | .tup ds, _, h => by
    cases h with
    | tup e t => exact .tup (.inl (.inl e)) (DVs.dp t)
theorem DVs.dp {K : PySem.W.Frag} {H : Hp} : ∀ {ds : List Dt} {vs : List V}, DVs H vs ds → DpAll K H vs (NestedKey.datas ds)
  | [], _, h => by cases h; exact .nil
  | d :: ds, _, h => by
    cases h with
    | cons a b => exact .cons (DV.dp a) (DVs.dp b)
end
theorem beq_to_dec {α : Type} [BEq α] [LawfulBEq α] [DecidableEq α] (x y : α) : (x == y) = decide (x = y) := by
  by_cases h : x = y
  · subst h
    simp
  · rw [decide_eq_false h]
    exact beq_eq_false_iff_ne.mpr h
mutual
theorem eqv_data : ∀ d e : Dt, PyData.eqv d.data e.data = NestedKey.beq d e
  | .none, e => by cases e <;> simp [NestedKey.data, PyData.eqv, NestedKey.beq]
  | .num i, e => by
    cases e with
    | num j =>
      simp only [NestedKey.data, PyData.eqv, NestedKey.beq]
      exact beq_to_dec i j
    | _ => simp [NestedKey.data, PyData.eqv, NestedKey.beq]
  | .text x, e => by
    cases e with
    | text y =>
      simp only [NestedKey.data, PyData.eqv, NestedKey.beq]
      exact beq_to_dec x y
    | _ => simp [NestedKey.data, PyData.eqv, NestedKey.beq]
  | .tup ds, e => by
    cases e with
    | tup es => simp only [NestedKey.data, PyData.eqv, NestedKey.beq]; exact eqv_datas ds es
    | _ => simp [NestedKey.data, PyData.eqv, NestedKey.beq]
theorem eqv_datas : ∀ ds es : List Dt, PyData.eqvAll (NestedKey.datas ds) (NestedKey.datas es) = NestedKey.beqAll ds es
  | [], [] => rfl
  | [], _ :: _ => rfl
  | _ :: _, [] => rfl
  | d :: ds, e :: es => by
    simp only [NestedKey.datas, PyData.eqvAll, NestedKey.beqAll]
    rw [eqv_data d e, eqv_datas ds es]
end
mutual
/-- the texts in it are such as the library's data may hold -/
def okD : Dt → Bool
  | .none => true
  | .num _ => true
  | .text x => PyData.strOk x
  | .tup ds => okDs ds
def okDs : List Dt → Bool
  | [] => true
  | d :: ds => okD d && okDs ds
end
mutual
theorem lay_data : ∀ d : Dt, okD d = true → d.data.canLay0 = true
  | .none, _ => rfl
  | .num i, _ => by simp [NestedKey.data, PyData.canLay0]
  | .text x, h => by
    simp only [NestedKey.data, PyData.canLay0]
    simpa [okD] using h
  | .tup ds, h => by
    simp only [NestedKey.data, PyData.canLay0]
    exact lay_datas ds (by simpa [okD] using h)
theorem lay_datas : ∀ ds : List Dt, okDs ds = true → PyData.canLayAll0 (NestedKey.datas ds) = true
  | [], _ => rfl
  | d :: ds, h => by
    simp only [okDs, Bool.and_eq_true] at h
    simp only [NestedKey.datas, PyData.canLayAll0]
    rw [lay_data d h.1, lay_datas ds h.2]
    rfl
end
theorem okDs_all : ∀ {ds : List Dt}, (∀ d ∈ ds, okD d = true) → okDs ds = true
  | [], _ => rfl
  | d :: ds, h => by
    simp only [okDs, Bool.and_eq_true]
    exact ⟨h d List.mem_cons_self, okDs_all fun x hx => h x (List.mem_cons_of_mem _ hx)⟩
mutual
theorem depth_data : ∀ d : Dt, d.data.depth = d.depth
  | .none => rfl
  | .num i => by simp [NestedKey.data, PyData.depth, NestedKey.depth]
  | .text x => by simp [NestedKey.data, PyData.depth, NestedKey.depth]
  | .tup ds => by
    simp only [NestedKey.data, PyData.depth, NestedKey.depth]
    have := depth_datas ds
    omega
theorem depth_datas : ∀ ds : List Dt, PyData.depthAll (NestedKey.datas ds) = NestedKey.depthAll ds
  | [] => rfl
  | d :: ds => by
    simp only [NestedKey.datas, PyData.depthAll, NestedKey.depthAll]
    rw [depth_data d, depth_datas ds]
end
/-- how deep a datum is, as a bound -/
def Shn (n : Nat) (d : Dt) : Prop := d.depth ≤ n ∧ okD d = true
abbrev Sh (d : Dt) : Prop := Shn 60 d
theorem Sh.shaped {d : Dt} (h : Sh d) : SeqAt.shaped d.data = true := by
  have e := depth_data d
  have h1 := h.1
  unfold SeqAt.shaped
  rw [lay_data d h.2, Bool.true_and]
  exact decide_eq_true (by omega)
theorem depthAll_le {n : Nat} : ∀ {ds : List Dt}, (∀ d ∈ ds, d.depth ≤ n) → NestedKey.depthAll ds ≤ n
  | [], _ => Nat.zero_le _
  | d :: ds, h => by
    have h1 := h d List.mem_cons_self
    have h2 := depthAll_le (ds := ds) fun x hx => h x (List.mem_cons_of_mem _ hx)
    simp only [NestedKey.depthAll]
    omega
theorem shn_tup {n : Nat} {ds : List Dt} (h : ∀ d ∈ ds, Shn n d) : Shn (n + 1) (NestedKey.tup ds) := by
  have h1 := depthAll_le fun d hd => (h d hd).1
  refine ⟨?_, by simpa [okD] using okDs_all fun d hd => (h d hd).2⟩
  simp only [NestedKey.depth]
  omega
theorem Shn.up {m n : Nat} {d : Dt} (h : Shn m d) (l : m ≤ n) : Shn n d := ⟨Nat.le_trans h.1 l, h.2⟩
theorem shn_num (i : Int) : Shn 0 (.num i) := ⟨Nat.le_refl 0, rfl⟩
theorem shn_set (xs : List Int) : Shn 1 (dSet xs) := shn_tup fun d hd => by
  obtain ⟨x, _, rfl⟩ := List.mem_map.mp hd
  exact shn_num x
theorem shn_pair (p : Int × Int) : Shn 1 (dPair p) := shn_tup fun d hd => by
  simp only [List.mem_cons, List.not_mem_nil, or_false] at hd
  rcases hd with rfl | rfl <;> exact shn_num _
theorem shn_dat (xs : List (Int × Int)) : Shn 2 (dDat xs) := shn_tup fun d hd => by
  obtain ⟨x, _, rfl⟩ := List.mem_map.mp hd
  exact shn_pair x
theorem sh_set (xs : List Int) : Sh (dSet xs) := (shn_set xs).up (by decide)
theorem sh_dat (xs : List (Int × Int)) : Sh (dDat xs) := (shn_dat xs).up (by decide)
theorem sh_num (i : Int) : Sh (.num i) := (shn_num i).up (by decide)
theorem beq_dec (d e : Dt) : NestedKey.beq d e = decide (d = e) := (NestedKey.decide_eq d e).symm

section
variable {g : Cfg} {N : List Str} {sc : Scope} {X : Cx} {Γ : List (Option A)} {k : Nat} {a b e : Expr} {x y z : A} {pos : Pos}
/-! ### operators on values -/
theorem rd_I0 {f : Int → Int → Int} {i j : Int} : RD g (rI0 fun i j => .int (f i j)) (aI i) (aI j) (aI (f i j)) := fun H v u Q hv hu q => ⟨i, j, hv.int, hu.int, q _ H (Same.refl H) (.d (.int _))⟩
theorem rd_I {C : Int → Int → Prop} {f : Int → Int → Int} {i j : Int} (h : C i j) : RD g (rI C fun i j => .int (f i j)) (aI i) (aI j) (aI (f i j)) := fun H v u Q hv hu q => ⟨i, j, hv.int, hu.int, h, q _ H (Same.refl H) (.d (.int _))⟩
theorem rd_B0 {f : Int → Int → Bool} {i j : Int} : RD g (rI0 fun i j => .bl (f i j)) (aI i) (aI j) (.bl (f i j)) := fun H v u Q hv hu q => ⟨i, j, hv.int, hu.int, q _ H (Same.refl H) (.bl _)⟩
theorem rd_eqI {i j : Int} : RD g rEq (aI i) (aI j) (.bl (decide (i = j))) := fun H v u Q hv hu q => by
  have e1 := hv.int
  have e2 := hu.int
  subst e1 e2
  refine ⟨rfl, ?_⟩
  have e : decide (V.int i = V.int j) = decide (i = j) := by simp
  rw [e]
  exact q _ H (Same.refl H) (.bl _)
theorem rd_neI {i j : Int} : RD g rNe (aI i) (aI j) (.bl (!decide (i = j))) := fun H v u Q hv hu q => by
  have e1 := hv.int
  have e2 := hu.int
  subst e1 e2
  refine ⟨rfl, ?_⟩
  have e : decide (V.int i = V.int j) = decide (i = j) := by simp
  rw [e]
  exact q _ H (Same.refl H) (.bl _)
theorem rd_eqS {i j : Str} : RD g rEq (.d (.text i)) (.d (.text j)) (.bl (decide (i = j))) := fun H v u Q hv hu q => by
  have e1 : v = .str i := by cases hv with | d h => cases h; rfl
  have e2 : u = .str j := by cases hu with | d h => cases h; rfl
  subst e1 e2
  refine ⟨rfl, ?_⟩
  have e : decide (V.str i = V.str j) = decide (i = j) := by simp
  rw [e]
  exact q _ H (Same.refl H) (.bl _)
theorem rd_eqD {d f : Dt} (h1 : Sh d) (h2 : Sh f) : RD g (rEqD g.K) (.d d) (.d f) (.bl (decide (d = f))) := fun H v u Q hv hu q =>
  ⟨_, _, hv.dv.dp, hu.dv.dp, h1.shaped, h2.shaped, by
    rw [eqv_data, beq_dec]
    exact q _ H (Same.refl H) (.bl _)⟩
theorem rd_neD {d f : Dt} (h1 : Sh d) (h2 : Sh f) : RD g (rNeD g.K) (.d d) (.d f) (.bl (!decide (d = f))) := fun H v u Q hv hu q =>
  ⟨_, _, hv.dv.dp, hu.dv.dp, h1.shaped, h2.shaped, by
    rw [eqv_data, beq_dec]
    exact q _ H (Same.refl H) (.bl _)⟩
theorem c_eqD (c : Cxk g N sc k X) : OpR X (compareOp .Eq) (rEqD g.K) := by
  rw [← c.K]
  exact op_eqD c.room.units
theorem c_neD (c : Cxk g N sc k X) : OpR X (compareOp .NotEq) (rNeD g.K) := by
  rw [← c.K]
  exact op_neD c.room.units
/-- a list of data against the empty list -/
theorem rd_neL {ds : List Dt} (h : ∀ d ∈ ds, Shn 50 d) : RD g (rNeD g.K) (.ls (ds.map .d)) (.ls []) (.bl (!decide (ds = []))) := fun H v u Q hv hu q => by
  cases hv with
  | ls e1 t1 =>
    cases hu with
    | ls e2 t2 =>
      cases t2
      refine ⟨.list (NestedKey.datas ds), .list [], .lst (.inl (.inl e1)) (AVs.dvs t1).dp, .lst (.inl (.inl e2)) .nil, ?_, rfl, ?_⟩
      · show (PyData.canLayAll0 (NestedKey.datas ds) && decide (PyData.depth (.list (NestedKey.datas ds)) ≤ 64)) = true
        rw [lay_datas ds (okDs_all fun d hd => (h d hd).2), Bool.true_and]
        have e := depth_datas ds
        have e' := depthAll_le fun d hd => (h d hd).1
        refine decide_eq_true ?_
        simp only [PyData.depth]
        omega
      · have e : PyData.eqv (.list (NestedKey.datas ds)) (.list []) = decide (ds = []) := by
          cases ds with
          | nil => rfl
          | cons d ds => rfl
        rw [e]
        exact q _ H (Same.refl H) (.bl _)
theorem inV_ints (i : Int) (xs : List Int) : inV (.int i) (xs.map V.int) = decide (i ∈ xs) := by
  induction xs with
  | nil => rfl
  | cons x xs ih =>
    have e : inV (.int i) ((x :: xs).map V.int) = ((x == i) || inV (.int i) (xs.map V.int)) := rfl
    rw [e, ih]
    by_cases h : x = i
    · subst h
      simp
    · have h' : ¬ i = x := fun q => h q.symm
      simp [h, h']
theorem flat_ints (xs : List Int) : (xs.map V.int).all flatV = true := by
  rw [List.all_map]
  exact List.all_eq_true.mpr fun _ _ => rfl
theorem rd_inI {i : Int} {xs : List Int} : RD g (rIn g.K false) (aI i) (aSet xs) (.bl (decide (i ∈ xs))) := fun H v u Q hv hu q => by
  obtain ⟨p, rfl, hp⟩ := hu.setOf
  have e := hv.int
  subst e
  refine ⟨p, _, rfl, .inr (.inl (.inl hp)), rfl, flat_ints xs, ?_⟩
  show Q (.bl (inV (.int i) (xs.map V.int))) H
  rw [inV_ints]
  exact q _ H (Same.refl H) (.bl _)
theorem rd_notInI {i : Int} {xs : List Int} : RD g (rIn g.K true) (aI i) (aSet xs) (.bl (!decide (i ∈ xs))) := fun H v u Q hv hu q => by
  obtain ⟨p, rfl, hp⟩ := hu.setOf
  have e := hv.int
  subst e
  refine ⟨p, _, rfl, .inr (.inl (.inl hp)), rfl, flat_ints xs, ?_⟩
  show Q (.bl (!inV (.int i) (xs.map V.int))) H
  rw [inV_ints]
  exact q _ H (Same.refl H) (.bl _)
theorem c_in (c : Cxk g N sc k X) : OpR X (compareOp .In) (rIn g.K false) := by
  rw [← c.K]
  exact op_in_seq
theorem c_notIn (c : Cxk g N sc k X) : OpR X (compareOp .NotIn) (rIn g.K true) := by
  rw [← c.K]
  exact op_notIn_seq
/-- t + u of tuples -/
theorem rd_cat {ds es : List Dt} (h : ds.length + es.length ≤ 100000) : RD g (rCatA g.K) (.d (.tup ds)) (.d (.tup es)) (.d (.tup (ds ++ es))) := fun H v u Q hv hu q => by
  obtain ⟨p, xs, rfl, hp, tx⟩ := hv.tupOf
  obtain ⟨r, ys, rfl, hr, ty⟩ := hu.tupOf
  have lx := tx.length
  have ly := ty.length
  refine ⟨p, r, xs, ys, rfl, rfl, .inl (.inl hp), .inl (.inl hr), Nat.le_trans (by omega) (show 100000 ≤ sizeLine by decide), fun e => ?_, fun _ e => ?_, fun _ _ l hl => ?_⟩
  · subst e
    cases tx
    exact q _ H (Same.refl H) (.d (.tup hr ty))
  · subst e
    cases ty
    refine q _ H (Same.refl H) (.d (.tup hp ?_))
    rw [List.append_nil]
    exact tx
  · exact q _ _ (Same.newO hl) (.d (.tup upd_same ((tx.mono (TK.of (Same.newO hl))).append (ty.mono (TK.of (Same.newO hl))))))
theorem c_cat (c : Cxk g N sc k X) : OpR X (binaryOp .Add) (rCatA g.K) := by
  rw [← c.K]
  exact op_catA
theorem de_cat {ds es : List Dt} (c : Cxk g N sc k X) (ha : DE g X a Γ (.d (.tup ds))) (hb : DE g X b Γ (.d (.tup es))) (h : ds.length + es.length ≤ 100000) : DE g X (.BinOp a .Add b pos) Γ (.d (.tup (ds ++ es))) := de_op (c_cat c) ha hb (rd_cat h)
theorem de_add {i j : Int} (ha : DE g X a Γ (aI i)) (hb : DE g X b Γ (aI j)) : DE g X (.BinOp a .Add b pos) Γ (aI (i + j)) := de_op op_add ha hb rd_I0
theorem de_sub {i j : Int} (ha : DE g X a Γ (aI i)) (hb : DE g X b Γ (aI j)) : DE g X (.BinOp a .Sub b pos) Γ (aI (i - j)) := de_op op_sub ha hb rd_I0
theorem de_mod {i j : Int} (ha : DE g X a Γ (aI i)) (hb : DE g X b Γ (aI j)) (h : 0 < j) : DE g X (.BinOp a .Mod b pos) Γ (aI (i % j)) := de_op op_mod ha hb (rd_I h)
/-- t[i] -/
theorem rd_ix {ds : List Dt} {i : Int} {d : Dt} (h : atI ds i = some d) : RD g (rIxT g.K) (.d (.tup ds)) (aI i) (.d d) := fun H v u Q hv hu q => by
  obtain ⟨p, xs, rfl, hp, tx⟩ := hv.tupOf
  have e := hu.int
  subst e
  have lx := tx.length
  unfold atI at h
  cases hi : ixN ds.length i with
  | none =>
    rw [hi] at h
    cases h
  | some j =>
    rw [hi] at h
    have h' : ds[j]? = some d := h
    obtain ⟨v, e1, e2⟩ := tx.get h'
    refine ⟨p, xs, i, v, rfl, rfl, .inl (.inl hp), ?_, q v H (Same.refl H) (.d e2)⟩
    unfold atI
    rw [lx, hi]
    exact e1
theorem c_ix (c : Cxk g N sc k X) : IxR X (rIxT g.K) := by
  rw [← c.K]
  exact ix_tup
theorem de_ix {ds : List Dt} {i : Int} {d : Dt} (c : Cxk g N sc k X) (ha : DE g X a Γ (.d (.tup ds))) (hb : DE g X b Γ (aI i)) (h : atI ds i = some d) (hs : PlainIx b := by exact fun _ _ => rfl) : DE g X (.Subscript a b pos) Γ (.d d) := fun σ H Q rl q =>
  ⟨_, pe_ix (c_ix c) pe_w pe_w hs, two (ta := wE X a) ha hb rl fun v u H1 s1 v1 u1 => rd_ix h H1 v u Q v1 u1 fun w H2 s2 w2 => q w H2 (s1.trans s2) w2⟩
/-- a set's item by its place -/
theorem atI_get {α : Type} {xs : List α} {i : Int} {x : α} (h0 : 0 ≤ i) (h : xs[i.toNat]? = some x) : atI xs i = some x := by
  have e : i = ((i.toNat : Nat) : Int) := by omega
  rw [e]
  exact atI_nat (by simpa using h)
theorem atI_map {α β : Type} {f : α → β} {xs : List α} {i : Int} {x : α} (h : atI xs i = some x) : atI (xs.map f) i = some (f x) := by
  unfold atI at h ⊢
  rw [List.length_map]
  cases hi : ixN xs.length i with
  | none =>
    rw [hi] at h
    cases h
  | some j =>
    rw [hi] at h
    have h' : xs[j]? = some x := h
    show (xs.map f)[j]? = some (f x)
    rw [List.getElem?_map, h']
    rfl
/-! ### fields -/
theorem de_lives {l z : List Int} (c : Cxk g N sc k X) (h : DE g X e Γ (.tr l z)) (hb : attributeBase e "lives" X.env (eval e X.env) = eval e X.env := by rfl) : DE g X (.Attribute e "lives" pos) Γ (aSet l) := fun σ H Q rl q =>
  ⟨_, pe_fld pe_w hb, h σ H _ rl fun v H1 s1 v1 => by
    cases v1 with
    | tr t =>
      obtain ⟨dx, fs, p, r, e0, e1, e2, e3, e4, e5⟩ := t
      exact ⟨_, g.T, dx, fs, _, rfl, e0, by rw [c.K]; exact c.T.cT, by rw [c.K]; exact c.T.nLives, e1, q _ H1 s1 (.of_set e3)⟩⟩
theorem de_loose {l z : List Int} (c : Cxk g N sc k X) (h : DE g X e Γ (.tr l z)) (hb : attributeBase e "loose" X.env (eval e X.env) = eval e X.env := by rfl) : DE g X (.Attribute e "loose" pos) Γ (aSet z) := fun σ H Q rl q =>
  ⟨_, pe_fld pe_w hb, h σ H _ rl fun v H1 s1 v1 => by
    cases v1 with
    | tr t =>
      obtain ⟨dx, fs, p, r, e0, e1, e2, e3, e4, e5⟩ := t
      exact ⟨_, g.T, dx, fs, _, rfl, e0, by rw [c.K]; exact c.T.cT, by rw [c.K]; exact c.T.nLoose, e2, q _ H1 s1 (.of_set e4)⟩⟩
theorem de_table {n : Nat} {f : List Int → List Int} (c : Cxk g N sc k X) (h : DE g X e Γ (.ch n f)) (hb : attributeBase e "table" X.env (eval e X.env) = eval e X.env := by rfl) : DE g X (.Attribute e "table" pos) Γ (.tab n f) := fun σ H Q rl q =>
  ⟨_, pe_fld pe_w hb, h σ H _ rl fun v H1 s1 v1 => by
    cases v1 with
    | ch t =>
      obtain ⟨dx, fs, t, p, e0, e1, e2, e3, e4, e6, e7, e8⟩ := t
      exact ⟨_, g.C, dx, fs, _, rfl, e0, by rw [c.K]; exact c.T.cC, by rw [c.K]; exact c.T.nTable, e2, q _ H1 s1 (.tab e8)⟩⟩
theorem de_offers {n : Nat} {f : List Int → List Int} (c : Cxk g N sc k X) (h : DE g X e Γ (.ch n f)) (hb : attributeBase e "offers" X.env (eval e X.env) = eval e X.env := by rfl) : DE g X (.Attribute e "offers" pos) Γ (aI n) := fun σ H Q rl q =>
  ⟨_, pe_fld pe_w hb, h σ H _ rl fun v H1 s1 v1 => by
    cases v1 with
    | ch t =>
      obtain ⟨dx, fs, t, p, e0, e1, e2, e3, e4, e6, e7, e8⟩ := t
      exact ⟨_, g.C, dx, fs, _, rfl, e0, by rw [c.K]; exact c.T.cC, by rw [c.K]; exact c.T.nOffers, e1, q _ H1 s1 (.d (.int _))⟩⟩
theorem de_places {n : Nat} {f : List Int → List Int} (c : Cxk g N sc k X) (h : DE g X e Γ (.ch n f)) (hb : attributeBase e "places" X.env (eval e X.env) = eval e X.env := by rfl) : DE g X (.Attribute e "places" pos) Γ (aSet (rngI n)) := fun σ H Q rl q =>
  ⟨_, pe_fld pe_w hb, h σ H _ rl fun v H1 s1 v1 => by
    cases v1 with
    | ch t =>
      obtain ⟨dx, fs, t, p, e0, e1, e2, e3, e4, e6, e7, e8⟩ := t
      exact ⟨_, g.C, dx, fs, _, rfl, e0, by rw [c.K]; exact c.T.cC, by rw [c.K]; exact c.T.nPlaces, e3, q _ H1 s1 (.of_set e4)⟩⟩
/-- chooser.table[s] -/
theorem de_tab {n : Nat} {f : List Int → List Int} {s : List Int} (c : Cxk g N sc k X) (ha : DE g X a Γ (.tab n f)) (hb : DE g X b Γ (aSet s)) (h : s ∈ allSets n) (hs : NoSl b := by exact fun _ _ => rfl) : DE g X (.Subscript a b pos) Γ (aSet (f s)) := fun σ H Q rl q =>
  ⟨_, pe_dget (hu_of c.room) pe_w pe_w hs, two (ta := wE X a) ha hb rl fun v u H1 s1 v1 u1 => by
    cases v1 with
    | tab t =>
      obtain ⟨kvs, e, r⟩ := t
      obtain ⟨p, e1, e2⟩ := r s h
      obtain ⟨b, rfl, hb⟩ := u1.setOf
      refine ⟨_, .ref p, rfl, .inr ⟨kvs, s.map Sum.inl, b, .inl e, rfl, ?_, e1.symm⟩, q _ H1 s1 (.of_set e2)⟩
      rw [List.map_map]
      exact hb⟩
end
end K85

/-! L4: promises of pure defs, calls, statements. -/
namespace K85
open PySem PySem.Spec PyProof.Rows L2

/-! ### promises -/
/-- from arguments that R asks, R's value; all that stood stands -/
def spP (g : Cfg) (n : Nat) (R : List A → A → Prop) : Sp := fun vs H Q _ => vs.length = n ∧ ∃ as b, AVs g H vs as ∧ R as b ∧ ∀ v H1, Same H H1 → AV g H1 v b → Q v H1
/-- .. a new list -/
def spL (g : Cfg) (n : Nat) (R : List A → List A → Prop) : Sp := fun vs H Q _ => vs.length = n ∧ ∃ as bs, AVs g H vs as ∧ R as bs ∧ ∀ p xs H1, H p = none → Same H H1 → H1 p = some (.lst xs) → AVs g H1 xs bs → Q (.ref p) H1
abbrev Def1 (g : Cfg) (k : Nat) (x : Str) (sp : Sp) : Prop := C8.Cal g.P g.w g.K g.mg g.base k x sp []
section
variable {g : Cfg} {N ps : List Str} {sc : Scope} {k : Nat} {sp : Sp} {x qual : Str} {params : Arguments} {body : List Stmt} {f : Addr} {fd : FuncData} {kws : List (Str × V)} {ds : List Value} {dvs : List V}
/-- a def's own context -/
theorem dtx_of (T : Txt g) (S : FnScope N ps sc) {qual : Str} {cdv : Value} {A : Around} {outer : List Env} {s : Shared} {H : Hp} {E : XK} (hr : Room k (A.deeper (envOfC qual sc s.heap.objs.size f cdv))) : Dtx g N sc k (cxOf CX0 g.P g.w g.K g.mg g.base N qual sc f cdv A outer s H E).nox where
  P := rfl
  w := rfl
  K := rfl
  mg := rfl
  base := rfl
  calm := rfl
  room := hr
  T := T
  eN := rfl
  eS := rfl
  kind := S.kind
  nd := S.nd
  fn := fun _ => rfl
  pass := PassesOwn.never
/-- a def by its body -/
theorem def_ok (F : FunD g.K x qual params body sc [] kws f fd) (S : FnScope N ps sc) (T : Txt g) (len : ∀ vs H Q E, sp vs H Q E → vs.length = ps.length)
    (h : ∀ (X : Cx), Dtx g N sc k X → ∀ (vs : List V) (H : Hp) (Q : VK) (E : XK), sp vs H Q E → wB X body { nx := fun _ H' => Q .non H', rt := Q } (start N vs) H) : FnOk g.P g.w g.K g.mg g.base CX0 (k + 1) f fd ps sp :=
  F.ok S len fun cdv A outer s H vs Q E hr hsp => ⟨_, pb_w.nox, h _ (dtx_of T S hr) vs H Q E hsp⟩
theorem start_rel {H : Hp} {vs : List V} {as : List A} (h : AVs g H vs as) : Rel g H (start N vs) (as.map some ++ List.replicate (N.length - as.length) none) := by
  have e := h.length
  show Rel g H (vs.map some ++ List.replicate (N.length - vs.length) none) _
  rw [e]
  exact rel_start _ h
/-- a def of the module, its arguments data, its value data -/
theorem def_P {n : Nat} {R : List A → A → Prop} (F : FunD g.K x x params body sc [] kws f fd) (hm : g.mg x = some (.ref f)) (b : Binds g.K fd ps []) (S : FnScope N ps sc) (T : Txt g) (hn : n = ps.length)
    (h : ∀ (X : Cx), Dtx g N sc k X → ∀ (as : List A) (r : A), R as r → as.length = n → ∀ (σ : L2.St) (H : Hp) (Q : VK), Rel g H σ (as.map some ++ List.replicate (N.length - n) none) → (∀ v H1, Same H H1 → AV g H1 v r → Q v H1) →
      wB X body { nx := fun _ H' => Q .non H', rt := Q } σ H) : Def1 g (k + 1) x (spP g n R) := by
  refine ⟨⟨f, fd, ps, [], def_ok F S T (fun vs H Q E h => h.1.trans hn) fun X c vs H Q E hsp => ?_, hm, F.kp, b, .nil⟩⟩
  obtain ⟨hl, as, r, a, hr, q⟩ := hsp
  have ea : as.length = n := a.length.symm.trans hl
  have r0 := start_rel (N := N) a
  rw [ea] at r0
  exact h X c as r hr ea _ H Q r0 q
theorem def_L {n : Nat} {R : List A → List A → Prop} (F : FunD g.K x x params body sc [] kws f fd) (hm : g.mg x = some (.ref f)) (b : Binds g.K fd ps []) (S : FnScope N ps sc) (T : Txt g) (hn : n = ps.length)
    (h : ∀ (X : Cx), Dtx g N sc k X → ∀ (as : List A) (r : List A), R as r → as.length = n → ∀ (σ : L2.St) (H : Hp) (Q : VK), Rel g H σ (as.map some ++ List.replicate (N.length - n) none) → (∀ p xs H1, H p = none → Same H H1 → H1 p = some (.lst xs) → AVs g H1 xs r → Q (.ref p) H1) →
      wB X body { nx := fun _ H' => Q .non H', rt := Q } σ H) : Def1 g (k + 1) x (spL g n R) := by
  refine ⟨⟨f, fd, ps, [], def_ok F S T (fun vs H Q E h => h.1.trans hn) fun X c vs H Q E hsp => ?_, hm, F.kp, b, .nil⟩⟩
  obtain ⟨hl, as, r, a, hr, q⟩ := hsp
  have ea : as.length = n := a.length.symm.trans hl
  have r0 := start_rel (N := N) a
  rw [ea] at r0
  exact h X c as r hr ea _ H Q r0 q
end

section
variable {g : Cfg} {N : List Str} {sc : Scope} {X : Cx} {Γ : List (Option A)} {j k : Nat} {a b e : Expr} {es : List Expr} {y z : A} {pos p : Pos} {x : Str} {sp : Sp} {as : List A} {r : A}
theorem Cxk.cal (c : Cxk g N sc j X) {sp : Sp} {dvs : List V} {k : Nat} {x : Str} (F : C8.Cal g.P g.w g.K g.mg g.base k x sp dvs) : C8.Cal X.prog X.w X.K X.mg X.base k x sp dvs := by
  rw [c.P, c.w, c.K, c.mg, c.base]
  exact F
theorem de_call {n : Nat} {R : List A → A → Prop} (c : Cxk g N sc j X) (F : Def1 g k x (spP g n R)) (hk : k ≤ j) (ha : DA g X (e :: es) Γ as) (hr : R as r) (hn : as.length = n := by rfl) (hg : GlS sc x := by rfl)
    (hdb : (x == ("__debug__" : Str)) = false := by decide) (he : starEach (e :: es) X.env = (false, eval e X.env) :: starEach es X.env := by rfl) (hpl : (backTo pos (starEach es X.env)).any (·.1) = false := by rfl) :
    DE g X (.Call (.Name x p) (e :: es) [] pos) Γ r := fun σ H Q rl q =>
  ⟨_, C8.pe_c (c.cal F) c.room hk (c.gl hg) pa_w hdb he hpl, ha σ H _ rl fun vs H1 s1 v1 => by
    rw [List.append_nil]
    exact ⟨v1.length.trans hn, as, r, v1, hr, fun v H2 s2 v2 => q v H2 (s1.trans s2) v2⟩⟩
theorem dl_call {n : Nat} {R : List A → List A → Prop} {rs : List A} (c : Cxk g N sc j X) (F : Def1 g k x (spL g n R)) (hk : k ≤ j) (ha : DA g X (e :: es) Γ as) (hr : R as rs) (hn : as.length = n := by rfl) (hg : GlS sc x := by rfl)
    (hdb : (x == ("__debug__" : Str)) = false := by decide) (he : starEach (e :: es) X.env = (false, eval e X.env) :: starEach es X.env := by rfl) (hpl : (backTo pos (starEach es X.env)).any (·.1) = false := by rfl) :
    DL g X (.Call (.Name x p) (e :: es) [] pos) Γ rs := fun σ H Q rl q =>
  ⟨_, C8.pe_c (c.cal F) c.room hk (c.gl hg) pa_w hdb he hpl, ha σ H _ rl fun vs H1 s1 v1 => by
    rw [List.append_nil]
    exact ⟨v1.length.trans hn, as, rs, v1, hr, fun l xs H2 h0 s2 e2 v2 => q l xs H2 (s1.free h0) (s1.trans s2) e2 v2⟩⟩

/-! ### built-in calls -/
theorem de_B {id : String} {rr : List V → Hp → VK → Prop} (c : Cxk g N sc j X) (hc : CallR X (.builtin id) rr) (hm : g.mg x = none) (hv : bootBuiltins x = some (.builtin id)) (ha : DA g X (e :: es) Γ as) (hr : RCd g rr as r) (hg : GlS sc x := by rfl) (hn : x ≠ "__name__" := by decide)
    (hdb : (x == ("__debug__" : Str)) = false := by decide) (he : starEach (e :: es) X.env = (false, eval e X.env) :: starEach es X.env := by rfl) (hpl : (backTo pos (starEach es X.env)).any (·.1) = false := by rfl) : DE g X (.Call (.Name x p) (e :: es) [] pos) Γ r := fun σ H Q rl q =>
  ⟨_, pe_callB hc (c.gl hg) (c.mgN hm) hv pa_w hn hdb he hpl, ha σ H _ rl fun vs H1 s1 v1 => hr H1 vs Q v1 fun w H2 s2 w2 => q w H2 (s1.trans s2) w2⟩
theorem de_Ty {T : String} {rr : List V → Hp → VK → Prop} (c : Cxk g N sc j X) (hc : CallR X (.type T) rr) (hm : g.mg x = none) (hv : bootBuiltins x = some (.type T)) (ha : DA g X (e :: es) Γ as) (hr : RCd g rr as r) (hg : GlS sc x := by rfl) (hn : x ≠ "__name__" := by decide)
    (hdb : (x == ("__debug__" : Str)) = false := by decide) (he : starEach (e :: es) X.env = (false, eval e X.env) :: starEach es X.env := by rfl) (hpl : (backTo pos (starEach es X.env)).any (·.1) = false := by rfl) : DE g X (.Call (.Name x p) (e :: es) [] pos) Γ r := fun σ H Q rl q =>
  ⟨_, pe_callTy hc (c.gl hg) (c.mgN hm) hv pa_w hn hdb he hpl, ha σ H _ rl fun vs H1 s1 v1 => hr H1 vs Q v1 fun w H2 s2 w2 => q w H2 (s1.trans s2) w2⟩
/-- a built-in class as a value -/
theorem de_ty {x : Str} {n : String} (c : Cxk g N sc j X) (hm : g.mg x = none) (hv : bootBuiltins x = some (.type n)) (hg : GlS sc x := by rfl) (hn : x ≠ "__name__" := by decide) (hd : (x == ("__debug__" : Str)) = false := by decide) : DE g X (.Name x pos) Γ (.obj (.ty n)) := fun σ H Q rl q =>
  ⟨_, pe_bltn (v := .ty n) (c.gl hg) (c.mgN hm) hv rfl hn hd, q _ H (Same.refl H) (.obj _)⟩
theorem avs1 {H : Hp} {vs : List V} {a : A} (h : AVs g H vs [a]) : ∃ v, vs = [v] ∧ AV g H v a := by
  cases h with
  | cons x y =>
    cases y
    exact ⟨_, rfl, x⟩
theorem avs2 {H : Hp} {vs : List V} {a b : A} (h : AVs g H vs [a, b]) : ∃ v u, vs = [v, u] ∧ AV g H v a ∧ AV g H u b := by
  cases h with
  | cons x y =>
    obtain ⟨u, rfl, z⟩ := avs1 y
    exact ⟨_, u, rfl, x, z⟩
theorem kT : kitB "tuple" "tuple" = some true := by decide +kernel
theorem kI : kitB "int" "int" = some true := by decide +kernel
theorem kB : kitB "int" "bool" = some false := by decide +kernel
theorem c_isi (c : Cxk g N sc j X) : CallR X (.builtin "isinstance") (rIsi g.K) := by
  rw [← c.K]
  exact call_isi
theorem boot_isi : bootBuiltins ("isinstance" : Str) = some (.builtin "isinstance") := by decide +kernel
theorem boot_ty_tuple : bootBuiltins ("tuple" : Str) = some (.type "tuple") := by decide +kernel
theorem boot_ty_int : bootBuiltins ("int" : Str) = some (.type "int") := by decide +kernel
theorem boot_ty_bool : bootBuiltins ("bool" : Str) = some (.type "bool") := by decide +kernel
/-- isinstance(t, tuple), isinstance(i, int), isinstance(i, bool) -/
theorem de_isiT {ds : List Dt} {p2 : Pos} (c : Cxk g N sc j X) (ha : DE g X a Γ (.d (.tup ds))) (hg : GlS sc "isinstance" := by rfl) (hg2 : GlS sc "tuple" := by rfl) (h1 : starEach [a, .Name "tuple" p2] X.env = (false, eval a X.env) :: starEach [.Name "tuple" p2] X.env := by rfl) : DE g X (.Call (.Name "isinstance" p) [a, .Name "tuple" p2] [] pos) Γ (.bl true) :=
  de_B c (c_isi c) c.T.isinstance boot_isi (da_cons ha (da_cons (de_ty c c.T.tuple boot_ty_tuple hg2) da_nil) h1) (fun H vs Q h q => by
    obtain ⟨v, u, rfl, h1, h2⟩ := avs2 h
    obtain ⟨l, xs, rfl, hl, _⟩ := h1.tupOf
    have e := h2.is
    subst e
    exact ⟨_, _, _, _, true, rfl, .ty "tuple", .base (.tup hl), kit_ty kT, q _ H (Same.refl H) (.bl true)⟩) hg (he := h1)
theorem de_isiI {i : Int} {p2 : Pos} (c : Cxk g N sc j X) (ha : DE g X a Γ (aI i)) (hg : GlS sc "isinstance" := by rfl) (hg2 : GlS sc "int" := by rfl) (h1 : starEach [a, .Name "int" p2] X.env = (false, eval a X.env) :: starEach [.Name "int" p2] X.env := by rfl) : DE g X (.Call (.Name "isinstance" p) [a, .Name "int" p2] [] pos) Γ (.bl true) :=
  de_B c (c_isi c) c.T.isinstance boot_isi (da_cons ha (da_cons (de_ty c c.T.int boot_ty_int hg2) da_nil) h1) (fun H vs Q h q => by
    obtain ⟨v, u, rfl, h1, h2⟩ := avs2 h
    have e1 := h1.int
    have e := h2.is
    subst e e1
    exact ⟨_, _, _, _, true, rfl, .ty "int", .base (.int i), kit_ty kI, q _ H (Same.refl H) (.bl true)⟩) hg (he := h1)
theorem de_isiB {i : Int} {p2 : Pos} (c : Cxk g N sc j X) (ha : DE g X a Γ (aI i)) (hg : GlS sc "isinstance" := by rfl) (hg2 : GlS sc "bool" := by rfl) (h1 : starEach [a, .Name "bool" p2] X.env = (false, eval a X.env) :: starEach [.Name "bool" p2] X.env := by rfl) : DE g X (.Call (.Name "isinstance" p) [a, .Name "bool" p2] [] pos) Γ (.bl false) :=
  de_B c (c_isi c) c.T.isinstance boot_isi (da_cons ha (da_cons (de_ty c c.T.bool boot_ty_bool hg2) da_nil) h1) (fun H vs Q h q => by
    obtain ⟨v, u, rfl, h1, h2⟩ := avs2 h
    have e1 := h1.int
    have e := h2.is
    subst e e1
    exact ⟨_, _, _, _, false, rfl, .ty "bool", .base (.int i), kit_ty kB, q _ H (Same.refl H) (.bl false)⟩) hg (he := h1)
/-- len of a tuple -/
theorem c_lenS (c : Cxk g N sc j X) : CallR X (.builtin "len") (fun xs H Q => ∃ p ys, xs = [.ref p] ∧ (SqL g.K H p ys ∨ SqT g.K H p ys) ∧ Q (.int ys.length) H) := by
  rw [← c.K]
  exact call_len_seq
theorem de_lenT {ds : List Dt} (c : Cxk g N sc j X) (ha : DE g X a Γ (.d (.tup ds))) (hg : GlS sc "len" := by rfl) (h1 : starEach [a] X.env = (false, eval a X.env) :: starEach [] X.env := by rfl) : DE g X (.Call (.Name "len" p) [a] [] pos) Γ (aI ds.length) :=
  de_B c (c_lenS c) c.T.len PySem.boot_len (da_cons ha da_nil h1) (fun H vs Q h q => by
    obtain ⟨v, rfl, h1⟩ := avs1 h
    obtain ⟨l, xs, rfl, hl, t⟩ := h1.tupOf
    refine ⟨l, xs, rfl, .inr (.inl (.inl hl)), ?_⟩
    rw [t.length]
    exact q _ H (Same.refl H) (.d (.int _))) hg (he := h1)
/-- len of a list -/
theorem de_lenL {ds : List A} (c : Cxk g N sc j X) (ha : DE g X a Γ (.ls ds)) (hg : GlS sc "len" := by rfl) (h1 : starEach [a] X.env = (false, eval a X.env) :: starEach [] X.env := by rfl) : DE g X (.Call (.Name "len" p) [a] [] pos) Γ (aI ds.length) :=
  de_B c (c_lenS c) c.T.len PySem.boot_len (da_cons ha da_nil h1) (fun H vs Q h q => by
    obtain ⟨v, rfl, h1⟩ := avs1 h
    cases h1 with
    | ls hl t =>
      refine ⟨_, _, rfl, .inl (.inl (.inl hl)), ?_⟩
      rw [t.length]
      exact q _ H (Same.refl H) (.d (.int _))) hg (he := h1)
/-- tuple(a list of data that e gives) -/
theorem boot_ty_list : bootBuiltins ("list" : Str) = some (.type "list") := by decide +kernel
theorem de_tupleL {ds : List Dt} (c : Cxk g N sc j X) (ha : DL g X a Γ (ds.map .d)) (hg : GlS sc "tuple" := by rfl) (na : starEach [a] X.env = (false, eval a X.env) :: starEach [] X.env := by rfl) : DE g X (.Call (.Name "tuple" p) [a] [] pos) Γ (.d (.tup ds)) := fun σ H Q rl q =>
  ⟨_, pe_tupleOf (c.gl hg) (c.mgN c.T.tuple) pe_w na, ha σ H _ rl fun l xs H1 h0 s1 hl t => .inl ⟨l, xs, rfl, .inl (.inl hl), fun r hr => q _ _ (s1.trans (Same.newO hr)) (.d (.tup upd_same ((AVs.dvs t).mono (TK.of (Same.newO hr)))))⟩⟩
/-- tuple(range(n)) -/
theorem rgV_nat (n : Nat) : rgV 0 (n : Int) = (List.range n).map fun i => V.int ((i : Nat) : Int) := by
  unfold rgV
  have e : ((n : Int) - 0).toNat = n := by omega
  rw [e]
  exact List.map_congr_left fun i _ => by rw [Int.zero_add]
end
end K85

/-! L5: what is walked, list comprehensions, statements, loops. -/
namespace K85
open PySem PySem.Spec PyProof.Rows L2

/-! ### slots forgotten -/
theorem wipe_get (σ : L2.St) (i : Nat) : ∀ vs : List Nat, (L2.wipe σ vs)[i]? = if i ∈ vs then σ[i]?.map (fun _ => none) else σ[i]?
  | [] => by simp [L2.wipe]
  | v :: vs => by
    have ih := wipe_get σ i vs
    unfold L2.wipe
    by_cases h : v = i
    · subst h
      rw [List.getElem?_set, if_pos rfl]
      have hl := wipe_length σ vs
      by_cases hv : v < σ.length
      · rw [if_pos (by omega), if_pos List.mem_cons_self, List.getElem?_eq_getElem hv]
        rfl
      · rw [if_neg (by omega), if_pos List.mem_cons_self, List.getElem?_eq_none (by omega)]
        rfl
    · rw [List.getElem?_set_ne h, ih]
      have e : (i ∈ v :: vs) ↔ i ∈ vs := by
        rw [List.mem_cons]
        exact ⟨fun q => q.elim (fun z => absurd z.symm h) id, .inr⟩
      by_cases hi : i ∈ vs
      · rw [if_pos hi, if_pos (e.mpr hi)]
      · rw [if_neg hi, if_neg (fun q => hi (e.mp q))]
theorem wipe_set {σ : L2.St} {j : Nat} {o : Option V} {vs : List Nat} (h : j ∈ vs) : L2.wipe (σ.set j o) vs = L2.wipe σ vs := by
  refine List.ext_getElem? fun i => ?_
  rw [wipe_get, wipe_get]
  by_cases hi : i ∈ vs
  · rw [if_pos hi, if_pos hi]
    by_cases e : j = i
    · subst e
      rw [List.getElem?_set, if_pos rfl]
      by_cases hl : j < σ.length
      · rw [if_pos hl, List.getElem?_eq_getElem hl]
        rfl
      · rw [if_neg hl, List.getElem?_eq_none (by omega)]
    · rw [List.getElem?_set_ne e]
  · rw [if_neg hi, if_neg hi]
    rw [List.getElem?_set_ne (fun q => hi (by rw [← q]; exact h))]
theorem wipe_wipe (σ : L2.St) (vs : List Nat) : L2.wipe (L2.wipe σ vs) vs = L2.wipe σ vs := by
  refine List.ext_getElem? fun i => ?_
  rw [wipe_get, wipe_get]
  by_cases hi : i ∈ vs
  · rw [if_pos hi, if_pos hi]
    cases σ[i]? <;> rfl
  · rw [if_neg hi, if_neg hi]

/-! ### targets -/
/-- storing a value that is a leaves Γ1 -/
def TgSem (g : Cfg) (gt : TG) (vs : List Nat) (Γ0 : List (Option A)) (a : A) (Γ1 : List (Option A)) : Prop :=
  ∀ (σ : L2.St) (H : Hp) (v : V) (Q : L2.St → Hp → Prop), Rel g H σ Γ0 → AV g H v a → (∀ σ2, Rel g H σ2 Γ1 → L2.wipe σ2 vs = L2.wipe σ vs → Q σ2 H) → gt v σ H Q
theorem tg_N {g : Cfg} {vs : List Nat} {Γ0 : List (Option A)} {a : A} {j : Nat} (h : j ∈ vs) : TgSem g (gName j) vs Γ0 a (Γ0.set j (some a)) := fun σ H v Q r x q => q _ (r.set j x) (wipe_set h)
abbrev gPair (g : Cfg) (i j : Nat) : TG := gTup g.K 2 (gCons (gName i) (gCons (gName j) gNil))
theorem tg_P {g : Cfg} {vs : List Nat} {Γ0 : List (Option A)} {d e : Dt} {i j : Nat} (hi : i ∈ vs) (hj : j ∈ vs) : TgSem g (gPair g i j) vs Γ0 (.d (.tup [d, e])) ((Γ0.set i (some (.d d))).set j (some (.d e))) := fun σ H v Q r x q => by
  obtain ⟨p, xs, rfl, hp, t⟩ := x.tupOf
  cases t with
  | cons x1 t =>
    cases t with
    | cons x2 t =>
      cases t
      exact ⟨p, _, rfl, .inl (.inl hp), rfl, _, _, rfl, _, _, rfl, rfl, q _ ((r.set i (.d x1)).set j (.d x2)) (by rw [wipe_set hj, wipe_set hi])⟩
section
variable {g : Cfg} {N : List Str} {sc : Scope} {X : Cx} {k : Nat} {i j : Nat} {x y : Str} {px py pt : Pos} {kk : Nat}
theorem pg_N (c : Cxk g N sc k X) (hi : N[i]? = some x) (hl : sc.names.lookup x = some .local) : PG X (.Name x px) (gName i) := pg_name c.ndX (c.at_ hi) (c.loc (.inl hl)) (.inr (by rw [c.eS]; exact hl))
theorem pg_ND (c : Dtx g N sc k X) (hi : N[i]? = some x) (hl : Loc sc x) : PG X (.Name x px) (gName i) := pg_name c.ndX (c.at_ hi) (c.loc hl) (.inl (c.fn x))
theorem pg_P (c : Cxk g N sc k X) (h1 : PG X (.Name x px) (gName i)) (h2 : PG X (.Name y py) (gName j)) : PG X (.Tuple [.Name x px, .Name y py] kk pt) (gPair g i j) := by
  have e := pg_tup (X := X) (k := kk) (pos := pt) c.calm (pgs_cons h1 (pgs_cons h2 pgs_nil)) (n := 2)
  rw [c.K] at e
  exact e
end

/-! ### what is walked -/
def DI (g : Cfg) (X : Cx) (tg iter : Expr) (Γ : List (Option A)) (St : Hp → Hp → Prop) (vals : List A) : Prop :=
  ∀ (σ : L2.St) (H : Hp) (R : It → Hp → Prop), Rel g H σ Γ → (∀ (J : It) (H1 : Hp) (G : Hp → Prop), Same H H1 → (∀ H', St H1 H' → G H') → Walk J vals.length G (fun i H x H' => Same H H' ∧ ∃ d, vals[i]? = some d ∧ AV g H' x d) → R J H1) → ∃ wi, PI X tg iter wi ∧ wi σ H R
theorem DI.weak {g : Cfg} {X : Cx} {tg iter : Expr} {Γ : List (Option A)} {St St' : Hp → Hp → Prop} {vals : List A} (h : DI g X tg iter Γ St vals) (w : ∀ H H', St' H H' → St H H') : DI g X tg iter Γ St' vals := fun σ H R r q =>
  h σ H R r fun J H1 G s hG wk => q J H1 G s (fun H' st => hG H' (w _ _ st)) wk
theorem DI.same {g : Cfg} {X : Cx} {tg iter : Expr} {Γ : List (Option A)} {vals : List A} (h : DI g X tg iter Γ TK vals) : DI g X tg iter Γ Same vals := h.weak fun _ _ => TK.of
section
variable {g : Cfg} {N : List Str} {sc : Scope} {X : Cx} {k : Nat} {Γ : List (Option A)} {tg iter a b : Expr} {p pos : Pos}
theorem di_tup {ds : List Dt} (c : Cxk g N sc k X) (h : DE g X iter Γ (.d (.tup ds))) : DI g X tg iter Γ TK (ds.map .d) := fun σ H R r q =>
  ⟨_, pi_tup pe_w, h σ H _ r fun v H1 s1 v1 => by
    obtain ⟨l, xs, rfl, hl, t⟩ := v1.tupOf
    have hx := t.length
    refine ⟨l, rfl, ⟨xs, .inl (.inl hl)⟩, q _ H1 (fun H' => H' l = some (.tup xs) ∧ DVs H' xs ds) s1 (fun H' st => ⟨st _ _ hl, t.mono st⟩) ?_⟩
    have e : (ds.map A.d).length = xs.length := by rw [List.length_map, hx]
    rw [e]
    refine walk_tup.mono (fun H' w => .inl (.inl w.1)) fun i H' x H'' hi w y => ?_
    obtain ⟨rfl, y⟩ := y
    obtain ⟨d, e1, e2⟩ := w.2.at y
    exact ⟨Same.refl _, .d d, by rw [List.getElem?_map, e1]; rfl, .d e2⟩⟩
/-- over a list of which a word is told -/
theorem di_ls {as : List A} (c : Cxk g N sc k X) (h : DE g X iter Γ (.ls as)) : DI g X tg iter Γ Same as := fun σ H R r q =>
  ⟨_, pi_list pe_w, h σ H _ r fun v H1 s1 v1 => by
    cases v1 with
    | @ls l xs _ hl t =>
      have hx := t.length
      refine ⟨l, rfl, ⟨xs, .inl (.inl hl)⟩, q _ H1 (fun H' => H' l = some (.lst xs) ∧ AVs g H' xs as) s1 (fun H' st => ⟨st _ _ hl, t.mono st⟩) ?_⟩
      rw [← hx]
      refine walk_list.mono (fun H' w => .inl (.inl w.1)) fun i H' x H'' hi w y => ?_
      obtain ⟨rfl, y⟩ := y
      refine ⟨Same.refl _, ?_⟩
      have := avs_at w.2 y
      exact this⟩
where
  avs_at {g : Cfg} {H : Hp} : ∀ {vs : List V} {as : List A} {i : Nat} {v : V}, AVs g H vs as → vs[i]? = some v → ∃ d, as[i]? = some d ∧ AV g H v d
    | _, _, _, _, .nil, e => by simp at e
    | _, _, 0, _, .cons x y, e => by
      have q := Option.some.inj e
      exact ⟨_, rfl, q ▸ x⟩
    | _, _, i + 1, _, .cons x y, e => by
      obtain ⟨d, e1, e2⟩ := avs_at y (i := i) (by simpa using e)
      exact ⟨d, by simpa using e1, e2⟩
theorem di_range1 {n : Nat} (c : Cxk g N sc k X) (h : DE g X a Γ (aI n)) (hn : n ≤ 1000) (hg : GlS sc "range" := by rfl) (h1 : starEach [a] X.env = (false, eval a X.env) :: starEach [] X.env := by rfl) (hs : starEach [a] X.env = [(false, eval a X.env)] := by rfl) :
    DI g X tg (.Call (.Name "range" p) [a] [] pos) Γ TK ((List.range n).map fun i => aI ((i : Nat) : Int)) := fun σ H R r q =>
  ⟨_, pi_range1 (c.gl hg) (c.mgN c.T.range) (pa_cons pe_w pa_nil h1) hs, h σ H _ r fun v H1 s1 v1 => by
    refine ⟨(n : Int), by rw [v1.int], by omega, by omega, q _ H1 (fun _ => True) s1 (fun _ _ => trivial) ?_⟩
    have e : ((List.range n).map fun i => aI ((i : Nat) : Int)).length = (n : Int).toNat := by simp
    rw [e]
    refine walk_range.mono (fun H' w => trivial) fun i H' x H'' hi w y => ?_
    obtain ⟨rfl, y⟩ := y
    refine ⟨Same.refl _, aI (i : Int), ?_, ?_⟩
    · rw [List.getElem?_map, List.getElem?_range (by omega)]
      rfl
    · rw [y]
      show AV g H'' (.int (0 + (i : Int))) _
      rw [Int.zero_add]
      exact .d (.int _)⟩
theorem di_range2 {lo hi : Int} (c : Cxk g N sc k X) (h : DE g X a Γ (aI lo)) (h' : DE g X b Γ (aI hi)) (hn : -1000 ≤ lo ∧ lo ≤ 1000 ∧ -1000 ≤ hi ∧ hi ≤ 1000) (hg : GlS sc "range" := by rfl) (h1 : starEach [a, b] X.env = (false, eval a X.env) :: starEach [b] X.env := by rfl)
    (h2 : starEach [b] X.env = (false, eval b X.env) :: starEach [] X.env := by rfl) (hs : starEach [a, b] X.env = [(false, eval a X.env), (false, eval b X.env)] := by rfl) (hs2 : starEach [b] X.env = [(false, eval b X.env)] := by rfl) :
    DI g X tg (.Call (.Name "range" p) [a, b] [] pos) Γ TK ((List.range (hi - lo).toNat).map fun i => aI (lo + ((i : Nat) : Int))) := fun σ H R r q =>
  ⟨_, pi_range2 (c.gl hg) (c.mgN c.T.range) (pa_cons pe_w (pa_cons pe_w pa_nil h2) h1) hs hs2, h σ H _ r fun v H1 s1 v1 => h' σ H1 _ (r.mono s1) fun u H2 s2 u2 => by
    refine ⟨lo, hi, by rw [v1.int, u2.int], by omega, q _ H2 (fun _ => True) (s1.trans s2) (fun _ _ => trivial) ?_⟩
    have e : ((List.range (hi - lo).toNat).map fun i => aI (lo + ((i : Nat) : Int))).length = (hi - lo).toNat := by simp
    rw [e]
    refine walk_range.mono (fun H' w => trivial) fun i H' x H'' hi w y => ?_
    obtain ⟨rfl, y⟩ := y
    refine ⟨Same.refl _, aI (lo + (i : Int)), ?_, ?_⟩
    · rw [List.getElem?_map, List.getElem?_range hi]
      rfl
    · rw [y]
      exact .d (.int _)⟩

/-! ### list comprehensions -/
def wTs (X : Cx) (ifs : List Expr) : TT := fun σ H Q => ∃ t, PTs X ifs t ∧ t σ H Q
theorem pts_w {X : Cx} {ifs : List Expr} : PTs X ifs (wTs X ifs) := ⟨fun pins s σ H Q I ⟨_, p, h⟩ => p.run pins s σ H Q I h⟩
def DTs (g : Cfg) (X : Cx) (ifs : List Expr) (Γ : List (Option A)) (b : Bool) : Prop := ∀ (σ : L2.St) (H : Hp) (Q : Bool → Hp → Prop), Rel g H σ Γ → (∀ H1, Same H H1 → Q b H1) → wTs X ifs σ H Q
theorem dts_nil : DTs g X [] Γ true := fun σ H Q r q => ⟨_, pts_nil, q H (Same.refl H)⟩
theorem dts_one {e : Expr} {b : Bool} (h : DT g X e Γ b) : DTs g X [e] Γ b := fun σ H Q r q => ⟨_, pts_one pt_w, h σ H Q r q⟩
theorem AVs.kp {H H' : Hp} (q : Kp H H') : ∀ {as : List A} {vs : List V}, (∀ a ∈ as, noLs a = true) → AVs g H vs as → AVs g H' vs as
  | [], _, _, h => by cases h; exact .nil
  | a :: as, _, n, h => by
    cases h with
    | cons x y => exact .cons (x.kp q (n a List.mem_cons_self)) (AVs.kp q (fun b hb => n b (List.mem_cons_of_mem _ hb)) y)
theorem AVs.snoc {H : Hp} : ∀ {as : List A} {vs : List V} {a : A} {v : V}, AVs g H vs as → AV g H v a → AVs g H (vs ++ [v]) (as ++ [a])
  | [], _, _, _, h, x => by cases h; exact .cons x .nil
  | b :: as, _, _, _, h, x => by
    cases h with
    | cons y z => exact .cons y (AVs.snoc z x)
theorem rel_scope (c : Cxk g N sc k X) (scope : Scope) (cl : List (Str × Addr)) (C : Addr) : (compEnvC scope cl C X.env).scope = relS scope sc := by
  show relabel scope X.env = relS scope sc
  unfold relabel relS Env.kindOf
  rw [c.eS]
theorem take_snoc {α : Type} {xs : List α} {i : Nat} {x : α} (h : xs[i]? = some x) : xs.take (i + 1) = xs.take i ++ [x] := by
  rw [List.take_add_one, h]
  rfl
/-- a comprehension's pieces, ready to run -/
def LcP (X : Cx) (elt tg iter : Expr) (ifs : List Expr) (scope : Scope) (σ : L2.St) (H : Hp) (Q : VK) : Prop :=
  ∃ (own : List (Str × Nat)) (wi : TI) (gt : TG) (tt : TT) (te : TE), PI X tg iter wi ∧ BlkOk X.N X.env.scope scope own ∧
    (∀ (s : Shared) (H : Hp) (C : Addr) (cl : List (Str × Addr)) (fp : List Addr), PG (X.blk s H scope (compEnvC scope cl C X.env) fp) tg gt) ∧
    (∀ (s : Shared) (H : Hp) (C : Addr) (cl : List (Str × Addr)) (fp : List Addr), PTs (X.blk s H scope (compEnvC scope cl C X.env) fp) ifs tt) ∧
    (∀ (s : Shared) (H : Hp) (C : Addr) (cl : List (Str × Addr)) (fp : List Addr), PE (X.blk s H scope (compEnvC scope cl C X.env) fp) elt te) ∧ (∀ z, foldedSetIterable iter X.env z = pure z) ∧ tLc wi gt tt te (own.map (·.2)) σ H Q
def DC (g : Cfg) (X : Cx) (elt tg iter : Expr) (ifs : List Expr) (scope : Scope) (Γ : List (Option A)) (as : List A) : Prop :=
  ∀ (σ : L2.St) (H : Hp) (Q : VK), Rel g H σ Γ → (∀ p xs H1, H p = none → Same H H1 → H1 p = some (.lst xs) → AVs g H1 xs as → Q (.ref p) H1) → LcP X elt tg iter ifs scope σ H Q
theorem LcP.pe (c : Cxk g N sc k X) {elt tg iter : Expr} {ifs : List Expr} {scope : Scope} {σ : L2.St} {H : Hp} {Q : VK} (h : LcP X elt tg iter ifs scope σ H Q) : wE X (.ListComp elt [⟨tg, iter, ifs, 0⟩] scope pos) σ H Q := by
  obtain ⟨own, wi, gt, tt, te, p1, p2, p3, p4, p5, p6, w⟩ := h
  exact ⟨_, pe_lc c.calm c.ndX p1 p2 p3 p4 p5 p6, w⟩
theorem DC.dl {elt tg iter : Expr} {ifs : List Expr} {scope : Scope} {as : List A} (h : DC g X elt tg iter ifs scope Γ as) (c : Cxk g N sc k X) : DL g X (.ListComp elt [⟨tg, iter, ifs, 0⟩] scope pos) Γ as := fun σ H Q r q => (h σ H Q r q).pe c
theorem dc_comp {α : Type} {xs : List α} {e : α → A} {pr : α → Bool} {f : α → A} {own : List (Str × Nat)} {scope : Scope} {elt : Expr} {ifs : List Expr} {gt : TG} {Γx : α → List (Option A)} (c : Cxk g N sc k X)
    (hi : DI g X tg iter Γ Same (xs.map e)) (ok : blkC N sc scope own = true) (hk : scope.kind = .function)
    (hpg : ∀ X', Cxk g N (relS scope sc) k X' → PG X' tg gt) (hgt : ∀ x ∈ xs, TgSem g gt (own.map (·.2)) (wipeΓ Γ (own.map (·.2))) (e x) (Γx x))
    (ht : ∀ x ∈ xs, ∀ X', Cxk g N (relS scope sc) k X' → DTs g X' ifs (Γx x) (pr x))
    (he : ∀ x ∈ xs, pr x = true → ∀ X', Cxk g N (relS scope sc) k X' → DE g X' elt (Γx x) (f x)) (hn : ∀ x ∈ xs, noLs (f x) = true) (hz : xs.length ≤ 100000 := by simp)
    (hs : ∀ z, foldedSetIterable iter X.env z = pure z := by intro _; rfl) :
    DC g X elt tg iter ifs scope Γ ((xs.filter pr).map f) := fun σ H Q r q => by
  let tt : TT := fun σ H Q => ∀ (s : Shared) (H0 : Hp) (C : Addr) (cl : List (Str × Addr)) (fp : List Addr), wTs (X.blk s H0 scope (compEnvC scope cl C X.env) fp) ifs σ H Q
  let te : TE := fun σ H Q => ∀ (s : Shared) (H0 : Hp) (C : Addr) (cl : List (Str × Addr)) (fp : List Addr), wE (X.blk s H0 scope (compEnvC scope cl C X.env) fp) elt σ H Q
  have cb : ∀ (s : Shared) (H0 : Hp) (C : Addr) (cl : List (Str × Addr)) (fp : List Addr), Cxk g N (relS scope sc) k (X.blk s H0 scope (compEnvC scope cl C X.env) fp) := fun s H0 C cl fp =>
    ⟨c.P, c.w, c.K, c.mg, c.base, c.calm, c.room, c.T, c.eN, rel_scope c scope cl C, hk, c.nd⟩
  have ok' : BlkOk X.N X.env.scope scope own := by
    rw [c.eN, c.eS]
    exact blkOk_by ok
  obtain ⟨wi, p1, w1⟩ := hi σ H (fun J H1 => ∀ D, H1 D = none → ∃ W : Nat → Nat → Hp → Prop, (∃ m, W 0 m (upd H1 D (.lst []))) ∧ ∀ i m H, W i m H →
      (J.stop i H ∧ Q (.ref D) H) ∨ (J.go i H ∧ ∃ Nx : Hp → Prop, (∀ H', Nx H' → ∃ m', m' < m ∧ W (i + 1) m' H') ∧ ∀ x H', J.yld i H x H' → gt x (L2.wipe σ (own.map (·.2))) H' fun σ2 H2 => L2.wipe σ2 (own.map (·.2)) = L2.wipe σ (own.map (·.2)) ∧ tt σ2 H2 fun b H3 =>
        if b = true then te σ2 H3 fun y H4 => ∃ acc, H4 D = some (.lst acc) ∧ acc.length < sizeLine ∧ Nx (upd H4 D (.lst (acc ++ [y]))) else Nx H3)) r fun J H1 G s1 hG wk D hD => by
    have fin : ∀ (i : Nat) (H' : Hp), (Same H1 H' ∧ ∃ acc, H' D = some (.lst acc) ∧ AVs g H' acc (((xs.take i).filter pr).map f)) → G H' := fun i H' h => hG H' h.1
    have hnl : ∀ i, ∀ a ∈ ((xs.take i).filter pr).map f, noLs a = true := fun i a ha => by
      obtain ⟨x, hx, rfl⟩ := List.mem_map.mp ha
      exact hn x (List.mem_of_mem_take (List.mem_filter.mp hx).1)
    have := lc_it (g := gt) (tt := tt) (te := te) (vs := own.map (·.2)) (σ := σ) (H1 := H1) (D := D) (Qd := fun H' => Q (.ref D) H') wk
      (fun i H' => Same H1 H' ∧ ∃ acc, H' D = some (.lst acc) ∧ AVs g H' acc (((xs.take i).filter pr).map f))
      ⟨Same.newO hD, [], upd_same, by simpa using AVs.nil⟩ (fun i H' _ h => fin i H' h) (fun i v H' H'' hi ⟨t1, acc, ea, ta⟩ ⟨t2, d, hd, vd⟩ => by
        rw [List.getElem?_map] at hd
        cases hx : xs[i]? with
        | none =>
          rw [hx] at hd
          cases hd
        | some x =>
          rw [hx] at hd
          have ed : e x = d := Option.some.inj hd
          subst ed
          have hm : x ∈ xs := List.mem_of_getElem? hx
          have ta2 := ta.mono t2
          have ea2 := t2 _ _ ea
          have rr : Rel g H'' σ Γ := r.mono ((s1.trans t1).trans t2)
          refine hgt x hm _ H'' v _ (rr.wipe _) vd fun σ2 r2 hw => ⟨hw.trans (wipe_wipe _ _), fun s H0 C cl fp => ?_⟩
          refine ht x hm _ (cb s H0 C cl fp) σ2 H'' _ r2 fun H3 t3 => ?_
          have ea3 := t3 _ _ ea2
          have ta3 := ta2.mono t3
          have z3 : Same H1 H3 := (t1.trans t2).trans t3
          have hlen : acc.length < sizeLine := by
            have h1 := ta.length
            have h2 := List.length_filter_le pr (xs.take i)
            have h3 : (xs.take i).length ≤ xs.length := by rw [List.length_take]; omega
            rw [List.length_map] at h1
            rw [sizeLine_eq]
            omega
          cases hp : pr x with
          | false =>
            refine ⟨z3, acc, ea3, ?_⟩
            rw [take_snoc hx, List.filter_append, List.filter_cons, hp]
            simpa using ta3
          | true =>
            show te σ2 H3 _
            intro s' H0' C' cl' fp'
            refine he x hm hp _ (cb s' H0' C' cl' fp') σ2 H3 _ (r2.mono t3) fun y H4 t4 vy => ?_
            have ea4 := t4 _ _ ea3
            refine ⟨acc, ea4, hlen, Same.mut (z3.trans t4) hD, acc ++ [y], upd_same, ?_⟩
            have kk : Kp H4 (upd H4 D (.lst (acc ++ [y]))) := Kp.up ea4 rfl
            rw [take_snoc hx, List.filter_append, List.filter_cons, hp]
            simp only [if_true, List.filter_nil, List.map_append, List.map_cons, List.map_nil]
            exact AVs.snoc ((ta3.mono t4).kp kk (hnl i)) (vy.kp kk (hn x hm)))
      (fun H' ⟨t1, acc, ea, ta⟩ => by
        have el : (xs.map e).length = xs.length := List.length_map ..
        rw [el, List.take_length] at ta
        exact q D acc H' (s1.free hD) (s1.trans t1) ea ta)
    exact this
  exact ⟨own, wi, gt, tt, te, p1, ok', (fun s H0 C cl fp => hpg _ (cb s H0 C cl fp)), (fun s H0 C cl fp => ⟨fun pins s' σ' H' Q' I' h' => pts_w.run pins s' σ' H' Q' I' (h' s H0 C cl fp)⟩), (fun s H0 C cl fp => ⟨fun pins s' σ' H' Q' I' h' => pe_w.run pins s' σ' H' Q' I' (h' s H0 C cl fp)⟩), hs, w1⟩
end
end K85

/-! L6: statements. -/
namespace K85
open PySem PySem.Spec PyProof.Rows L2
section
variable {g : Cfg} {N : List Str} {sc : Scope} {X : Cx} {k : Nat} {Γ : List (Option A)} {e a b : Expr} {x y : Str} {pos px py pt p2 : Pos} {D : Ends} {σ : L2.St} {H : Hp} {i j : Nat}
theorem ws_asg {z : A} (i : Nat) (c : Dtx g N sc k X) (r : Rel g H σ Γ) (h : DE g X e Γ z) (q : ∀ σ' H1, Same H H1 → Rel g H1 σ' (Γ.set i (some z)) → D.nx σ' H1) (hi : N[i]? = some x := by rfl) (hl : Loc sc x := by first | exact .inl rfl | exact .inr rfl)
    (hs : swapsWith e (some (.Name x px)) pos.line X.env = pure false := by rfl) : wS X (.Assign [.Name x px] e pos) D σ H :=
  ⟨_, ps_set c.ndX (c.at_ hi) (c.loc hl) pe_w hs (.inl (c.fn x)), h σ H _ r fun v H1 s1 v1 => q _ H1 s1 ((r.mono s1).set i v1)⟩
/-- a new list is given to a name -/
theorem ws_asgL {as : List A} (i : Nat) (c : Dtx g N sc k X) (r : Rel g H σ Γ) (h : DL g X e Γ as) (q : ∀ p xs σ' H1, H p = none → Same H H1 → H1 p = some (.lst xs) → AVs g H1 xs as → Rel g H1 σ' (Γ.set i (some (.obj (.ref p)))) → D.nx σ' H1) (hi : N[i]? = some x := by rfl) (hl : Loc sc x := by first | exact .inl rfl | exact .inr rfl)
    (hs : swapsWith e (some (.Name x px)) pos.line X.env = pure false := by rfl) : wS X (.Assign [.Name x px] e pos) D σ H :=
  ⟨_, ps_set c.ndX (c.at_ hi) (c.loc hl) pe_w hs (.inl (c.fn x)), h σ H _ r fun p xs H1 h0 s1 e1 v1 => q p xs _ H1 h0 s1 e1 v1 ((r.mono s1).set i (.obj _))⟩
/-- a comprehension is given to a local name -/
theorem ws_asgC {as : List A} {elt tg iter : Expr} {ifs : List Expr} {scope : Scope} (i : Nat) (c : Dtx g N sc k X) (r : Rel g H σ Γ) (h : DC g X elt tg iter ifs scope Γ as)
    (q : ∀ p xs σ' H1, H p = none → Same H H1 → H1 p = some (.lst xs) → AVs g H1 xs as → Rel g H1 σ' (Γ.set i (some (.obj (.ref p)))) → D.nx σ' H1) (hi : N[i]? = some x := by rfl) (hl : sc.names.lookup x = some .local := by rfl)
    (hline : (px.line == p2.line) = true := by rfl) (hno : (scope.names.any fun (n, k) => n == x && (k == .local || k == .cell)) = false := by decide +kernel) : wS X (.Assign [.Name x px] (.ListComp elt [⟨tg, iter, ifs, 0⟩] scope p2) pos) D σ H := by
  obtain ⟨own, wi, gt, tt, te, p1, p2, p3, p4, p5, p6, w⟩ := h σ H (fun v H1 => gName i v σ H1 D.nx) r fun p xs H1 h0 s1 e1 v1 => q p xs _ H1 h0 s1 e1 v1 ((r.mono s1).set i (.obj _))
  have hl' : X.env.scope.names.lookup x = some .local := by rw [c.eS]; exact hl
  exact ⟨_, ps_setLc c.calm c.ndX (c.at_ hi) hl' (sw_true (by rw [c.eS]; exact c.kind) hl' hline hno) p1 p2 p3 p4 p5 p6, w⟩
theorem ws_ret {z : A} (r : Rel g H σ Γ) (h : DE g X e Γ z) (q : ∀ v H1, Same H H1 → AV g H1 v z → D.rt v H1) : wS X (.Return (some e) pos) D σ H := ⟨_, ps_ret pe_w, h σ H _ r q⟩
theorem ws_retL {as : List A} (r : Rel g H σ Γ) (h : DL g X e Γ as) (q : ∀ p xs H1, H p = none → Same H H1 → H1 p = some (.lst xs) → AVs g H1 xs as → D.rt (.ref p) H1) : wS X (.Return (some e) pos) D σ H := ⟨_, ps_ret pe_w, h σ H _ r q⟩
theorem ws_expr {z : A} (r : Rel g H σ Γ) (h : DE g X e Γ z) (q : ∀ H1, Same H H1 → Rel g H1 σ Γ → D.nx σ H1) (hs : swapsWith e none pos.line X.env = pure false := by rfl) : wS X (.Expr e pos) D σ H :=
  ⟨_, ps_expr pe_w hs, h σ H _ r fun v H1 s1 v1 => q H1 s1 (r.mono s1)⟩
theorem ws_if {t : Bool} {bt bf : List Stmt} (r : Rel g H σ Γ) (h : DT g X e Γ t) (ht : t = true → ∀ H1, Same H H1 → Rel g H1 σ Γ → wB X bt D σ H1) (hf : t = false → ∀ H1, Same H H1 → Rel g H1 σ Γ → wB X bf D σ H1) : wS X (.If e bt bf pos) D σ H :=
  ⟨_, ps_if pt_w pb_w pb_w, h σ H _ r fun H1 s1 => by
    cases t with
    | true =>
      show wB X bt D σ H1
      exact ht rfl H1 s1 (r.mono s1)
    | false =>
      show wB X bf D σ H1
      exact hf rfl H1 s1 (r.mono s1)⟩
/-- if: the test is not met, nothing else stands -/
theorem ws_skip {bt : List Stmt} (r : Rel g H σ Γ) (h : DT g X e Γ false) (q : ∀ H1, Same H H1 → Rel g H1 σ Γ → D.nx σ H1) : wS X (.If e bt [] pos) D σ H :=
  ws_if r h (fun z => nomatch z) fun _ H1 s1 r1 => wB_nil (q H1 s1 r1)
/-! two names at once, both local -/
def envS (sc : Scope) : Env := { scope := sc, locals := 0, globals := 0, cells := [] }
theorem sw_env (c : Cxk g N sc k X) (ts : List Expr) (v : Expr) : swappedStores ts v X.env = swappedStores ts v (envS sc) := by
  unfold swappedStores Env.kindOf Env.blockKind envS
  rw [c.eS]
theorem wA_nil {Q : List V → Hp → Prop} (h : Q [] H) : wA X [] σ H Q := ⟨_, pa_nil, h⟩
theorem wA_cons {es : List Expr} {Q : List V → Hp → Prop} (h : wE X e σ H fun v H1 => wA X es σ H1 fun vs H2 => Q (v :: vs) H2) (hs : starEach (e :: es) X.env = (false, eval e X.env) :: starEach es X.env := by rfl) : wA X (e :: es) σ H Q := ⟨_, pa_cons pe_w pa_w hs, h⟩
theorem ws_par {kt k2 : Nat} (i j : Nat) (c : Dtx g N sc k X) (h : wE X a σ H fun v H1 => wE X b σ H1 fun w H2 => D.nx ((σ.set i (some v)).set j (some w)) H2) (hi : N[i]? = some x := by rfl) (hj : N[j]? = some y := by rfl) (hij : i ≠ j := by decide)
    (hx : sc.names.lookup x = some .local := by rfl) (hy : sc.names.lookup y = some .local := by rfl) (hw : swappedStores [.Tuple [.Name x px, .Name y py] kt pt] (.Tuple [a, b] k2 p2) (envS sc) = pure (some [x, y]) := by rfl)
    (hs : swapsWithSole [.Tuple [.Name x px, .Name y py] kt pt] (.Tuple [a, b] k2 p2) pos.line X.env = pure false := by rfl)
    (h1 : starEach [a, b] X.env = (false, eval a X.env) :: starEach [b] X.env := by rfl) (h2 : starEach [b] X.env = (false, eval b X.env) :: starEach [] X.env := by rfl) : wS X (.Assign [.Tuple [.Name x px, .Name y py] kt pt] (.Tuple [a, b] k2 p2) pos) D σ H :=
  ⟨_, ps_par c.calm c.ndX (c.at_ hi) (c.at_ hj) hij (by rw [c.eS]; exact hx) (by rw [c.eS]; exact hy) pa_w (by rw [sw_env c.toCxk]; exact hw) hs, wA_cons (by
    refine mono_wE h fun v H1 q => wA_cons (mono_wE q fun w H2 q2 => wA_nil ⟨v, w, rfl, q2⟩) h2) h1⟩
where
  mono_wE {X : Cx} {e : Expr} {σ : L2.St} {H : Hp} {Q Q' : VK} (h : wE X e σ H Q) (hq : ∀ v H1, Q v H1 → Q' v H1) : wE X e σ H Q' := by
    obtain ⟨t, p, h⟩ := h
    exact ⟨fun σ' H' Q'' => ∃ R : VK, t σ' H' R ∧ ∀ v H1, R v H1 → Q'' v H1, ⟨fun pins s σ H Q I ⟨R, h, hr⟩ => thn (p.run pins s σ H R I h) fun u s' ⟨v, H', I', rv, q⟩ => ⟨v, H', I', rv, hr v H' q⟩⟩, Q, h, hq⟩
theorem wE_mono {Q Q' : VK} (h : wE X e σ H Q) (hq : ∀ v H1, Q v H1 → Q' v H1) : wE X e σ H Q' := ws_par.mono_wE h hq
/-- x, y = t, t a pair of data -/
theorem ws_unp {d1 d2 : Dt} {kt : Nat} (i j : Nat) (c : Dtx g N sc k X) (r : Rel g H σ Γ) (h : DE g X e Γ (.d (.tup [d1, d2]))) (q : ∀ σ' H1, Same H H1 → Rel g H1 σ' ((Γ.set i (some (.d d1))).set j (some (.d d2))) → D.nx σ' H1) (hi : N[i]? = some x := by rfl) (hj : N[j]? = some y := by rfl)
    (hx : Loc sc x := by first | exact .inl rfl | exact .inr rfl) (hy : Loc sc y := by first | exact .inl rfl | exact .inr rfl) (hs : swapsWithSole [.Tuple [.Name x px, .Name y py] kt pt] e pos.line X.env = pure false := by rfl)
    (hw : swappedStores [.Tuple [.Name x px, .Name y py] kt pt] e X.env = pure none := by rfl) : wS X (.Assign [.Tuple [.Name x px, .Name y py] kt pt] e pos) D σ H :=
  ⟨_, ps_asg pe_w (pg_P c.toCxk (pg_ND c hi hx) (pg_ND c hj hy)) hs hw, h σ H _ r fun v H1 s1 v1 => tg_P (vs := [i, j]) (List.mem_cons_self) (List.mem_cons_of_mem _ List.mem_cons_self) σ H1 v _ (r.mono s1) v1 fun σ2 r2 _ => q σ2 H1 s1 r2⟩

/-! ### loops -/
/-- a for over what DI tells -/
theorem ws_for {tg iter : Expr} {body : List Stmt} {gt : TG} {St : Hp → Hp → Prop} {vals : List A} (c : Dtx g N sc k X) (r : Rel g H σ Γ) (hi : DI g X tg iter Γ St vals) (hg : PG X tg gt)
    (h : ∀ H1, Same H H1 → ∃ Pv : Nat → L2.St → Hp → Prop, Pv 0 σ H1 ∧ (∀ i σ' H', i ≤ vals.length → Pv i σ' H' → St H1 H') ∧
      (∀ i d σ' H' v H2, vals[i]? = some d → Pv i σ' H' → Same H' H2 → AV g H2 v d → gt v σ' H2 fun σ2 H3 => wB X body { D with nx := Pv (i + 1), ct := Pv (i + 1), bk := D.nx } σ2 H3) ∧ (∀ σ' H', Pv vals.length σ' H' → D.nx σ' H'))
    (hs : ∀ z, foldedSetIterable iter X.env z = pure z := by intro _; rfl) : wS X (.For tg iter body [] pos) D σ H := by
  obtain ⟨wi, p1, w1⟩ := hi σ H (fun J H1 => ∃ W : Nat → Nat → L2.St → Hp → Prop, (∃ m, W 0 m σ H1) ∧ ∀ i m σ H, W i m σ H →
      (J.stop i H ∧ D.nx σ H) ∨ (J.go i H ∧ ∃ N : L2.St → Hp → Prop, (∀ σ' H', N σ' H' → ∃ m', m' < m ∧ W (i + 1) m' σ' H') ∧ ∀ x H', J.yld i H x H' → gt x σ H' fun σ2 H2 => wB X body { D with nx := N, ct := N, bk := D.nx } σ2 H2)) r fun J H1 G s1 hG wk => by
    obtain ⟨Pv, h0, hst, step, done⟩ := h H1 s1
    exact for_it (g := gt) (tb := wB X body) (D := D) wk Pv h0 (fun i σ' H' hi hp => hG H' (hst i σ' H' hi hp)) (fun i v σ' H' H'' hi hp ⟨t2, d, hd, vd⟩ => step i d σ' H' v H'' hd hp t2 vd) done
  exact ⟨_, ps_for c.pass c.calm p1 hg pb_w hs, w1⟩
/-- x.append(e), x the list at l -/
theorem c_append (c : Cxk g N sc k X) : MtR X "list.append" rAppend := mt_append
/-- all but l is as it was -/
def But (l : Addr) (H H' : Hp) : Prop := ∀ b o, b ≠ l → H b = some o → H' b = some o
theorem But.same {H0 H' : Hp} {l : Addr} (b : But l H H') (s : Same H0 H) (h : H0 l = none) : Same H0 H' := fun a o e => b a o (ne_of_none e h) (s a o e)
theorem But.kp {H' : Hp} {l : Addr} {o : HO} (b : But l H H') (e : H l = some o) (f : fixO o = false) : Kp H H' := fun a u h fx => b a u (ne_of h e (fun q => by rw [q, f] at fx; cases fx)) h
theorem But.tk {H' : Hp} {l : Addr} {o : HO} (b : But l H H') (e : H l = some o) (f : ∀ xs, o ≠ .tup xs) : TK H H' := fun a xs h => b a _ (ne_of h e (fun q => f xs q.symm)) h
theorem ws_app {z : A} {l : Addr} {xs : List V} {o : Expr} {apos cpos : Pos} (c : Dtx g N sc k X) (r : Rel g H σ Γ) (ho : DE g X o Γ (.obj (.ref l))) (he : DE g X e Γ z) (hl : H l = some (.lst xs)) (hz : xs.length ≤ 100000)
    (q : ∀ v H1, But l H H1 → H1 l = some (.lst (xs ++ [v])) → (noLs z = true → AV g H1 v z) → (Γ.all noLsO = true → Rel g H1 σ Γ) → D.nx σ H1)
    (hs : swapsWith (.Call (.Attribute o "append" apos) [e] [] cpos) none pos.line X.env = pure false := by rfl) (hbase : attributeBase o "append" X.env (eval o X.env) = eval o X.env := by rfl)
    (h1 : starEach [e] X.env = (false, eval e X.env) :: starEach [] X.env := by rfl) (pe : ∀ (t : TE), PE X o t → PE X (.Call (.Attribute o "append" apos) [e] [] cpos) (tBM X.K "list" rAppend t (wA X [e])) := by exact fun _ p => pe_bm PySem.F.plainAttrs_list PySem.F.slot_list_append PySem.F.type_list_append mt_append p pa_w) :
    wS X (.Expr (.Call (.Attribute o "append" apos) [e] [] cpos) pos) D σ H :=
  ⟨_, ps_expr (pe _ pe_w) hs, ho σ H _ r fun v H1 s1 v1 => by
    have ev := v1.is
    subst ev
    have hl1 := s1 _ _ hl
    refine ⟨.inl ⟨rfl, xs, .inl (.inl hl1)⟩, wA_cons (he σ H1 _ (r.mono s1) fun u H2 s2 u2 => wA_nil ⟨l, xs, u, rfl, rfl, s2 _ _ hl1, Nat.lt_of_le_of_lt hz (by decide), ?_⟩) h1⟩
    have hl2 := s2 _ _ hl1
    have kk : Kp H2 (upd H2 l (.lst (xs ++ [u]))) := Kp.up hl2 rfl
    refine q u _ (fun b o' hb e' => ?_) upd_same (fun hn => u2.kp kk hn) fun hn => (r.mono (s1.trans s2)).kp kk hn
    rw [upd_ne hb]
    exact s2 _ _ (s1 _ _ e')⟩
end
end K85

/-! L7: more rules: chains, sorted, sum, max, ranges as tuples, typed forms. -/
namespace K85
open PySem PySem.Spec PyProof.Rows L2
section
variable {g : Cfg} {N : List Str} {sc : Scope} {X : Cx} {k : Nat} {Γ : List (Option A)} {e a b c : Expr} {pos p : Pos} {i j l : Int}
theorem de_neg (h : DE g X e Γ (aI i)) : DE g X (.UnaryOp .USub e pos) Γ (aI (-i)) := fun σ H Q r q =>
  ⟨_, pe_un un_neg pe_w, h σ H _ r fun v H1 s1 v1 => ⟨i, v1.int, q _ H1 s1 (.d (.int _))⟩⟩
theorem dt_lt2 (ha : DE g X a Γ (aI i)) (hb : DE g X b Γ (aI j)) (hc : DE g X c Γ (aI l)) (hm : lastMarks [.Lt, .Lt] [b, c] = false := by with_unfolding_all rfl) : DT g X (.Compare a [.Lt, .Lt] [b, c] pos) Γ (decide (i < j) && decide (j < l)) := dt_chain op_lt op_lt ha hb hc rd_B0 rd_B0 hm
theorem dt_le2 (ha : DE g X a Γ (aI i)) (hb : DE g X b Γ (aI j)) (hc : DE g X c Γ (aI l)) (hm : lastMarks [.LtE, .LtE] [b, c] = false := by with_unfolding_all rfl) : DT g X (.Compare a [.LtE, .LtE] [b, c] pos) Γ (decide (i ≤ j) && decide (j ≤ l)) := dt_chain op_le op_le ha hb hc rd_B0 rd_B0 hm
theorem dt_lele (ha : DE g X a Γ (aI i)) (hb : DE g X b Γ (aI j)) (hc : DE g X c Γ (aI l)) (hm : lastMarks [.LtE, .Lt] [b, c] = false := by with_unfolding_all rfl) : DT g X (.Compare a [.LtE, .Lt] [b, c] pos) Γ (decide (i ≤ j) && decide (j < l)) := dt_chain op_le op_lt ha hb hc rd_B0 rd_B0 hm
theorem dt_gt (ha : DE g X a Γ (aI i)) (hb : DE g X b Γ (aI j)) : DT g X (.Compare a [.Gt] [b] pos) Γ (decide (j < i)) := dt_cmp op_gt ha hb rd_B0 (nomark _)
theorem dt_ge (ha : DE g X a Γ (aI i)) (hb : DE g X b Γ (aI j)) : DT g X (.Compare a [.GtE] [b] pos) Γ (decide (j ≤ i)) := dt_cmp op_ge ha hb rd_B0 (nomark _)
theorem dt_lt (ha : DE g X a Γ (aI i)) (hb : DE g X b Γ (aI j)) : DT g X (.Compare a [.Lt] [b] pos) Γ (decide (i < j)) := dt_cmp op_lt ha hb rd_B0 (nomark _)
theorem dt_eqI (ha : DE g X a Γ (aI i)) (hb : DE g X b Γ (aI j)) : DT g X (.Compare a [.Eq] [b] pos) Γ (decide (i = j)) := dt_cmp op_eq ha hb rd_eqI (nomark _)
theorem dt_neI (ha : DE g X a Γ (aI i)) (hb : DE g X b Γ (aI j)) : DT g X (.Compare a [.NotEq] [b] pos) Γ (!decide (i = j)) := dt_cmp op_ne ha hb rd_neI (nomark _)
theorem dt_eqS {s t : Str} (ha : DE g X a Γ (.d (.text s))) (hb : DE g X b Γ (.d (.text t))) : DT g X (.Compare a [.Eq] [b] pos) Γ (decide (s = t)) := dt_cmp op_eq ha hb rd_eqS (nomark _)
theorem dt_inI {xs : List Int} (ct : Cxk g N sc k X) (ha : DE g X a Γ (aI i)) (hb : DE g X b Γ (aSet xs)) (hm : behindInMarks .In b = false := by with_unfolding_all rfl) : DT g X (.Compare a [.In] [b] pos) Γ (decide (i ∈ xs)) := dt_cmp (c_in ct) ha hb rd_inI hm
theorem dt_notInI {xs : List Int} (ct : Cxk g N sc k X) (ha : DE g X a Γ (aI i)) (hb : DE g X b Γ (aSet xs)) (hm : behindInMarks .NotIn b = false := by with_unfolding_all rfl) : DT g X (.Compare a [.NotIn] [b] pos) Γ (!decide (i ∈ xs)) := dt_cmp (c_notIn ct) ha hb rd_notInI hm
theorem dt_eqD {x y : Dt} (ct : Cxk g N sc k X) (ha : DE g X a Γ (.d x)) (hb : DE g X b Γ (.d y)) (h1 : Sh x) (h2 : Sh y) : DT g X (.Compare a [.Eq] [b] pos) Γ (decide (x = y)) := dt_cmp (c_eqD ct) ha hb (rd_eqD h1 h2) (nomark _)
theorem dt_neD {x y : Dt} (ct : Cxk g N sc k X) (ha : DE g X a Γ (.d x)) (hb : DE g X b Γ (.d y)) (h1 : Sh x) (h2 : Sh y) : DT g X (.Compare a [.NotEq] [b] pos) Γ (!decide (x = y)) := dt_cmp (c_neD ct) ha hb (rd_neD h1 h2) (nomark _)
theorem rd_isN {x : Dt} : RD g (fun v u H Q => u = V.non ∧ Q (.bl (decide (v = .non))) H) (.d x) (.d .none) (.bl (decide (x = .none))) := fun H v u Q hv hu q => by
  have e : u = .non := by
    cases hu with
    | d h => cases h; rfl
  refine ⟨e, ?_⟩
  have e2 : decide (v = .non) = decide (x = NestedKey.none) := by
    cases hv with
    | d h => cases h <;> simp
  rw [e2]
  exact q _ H (Same.refl H) (.bl _)
theorem rd_notN {x : Dt} : RD g (fun v u H Q => u = V.non ∧ Q (.bl (!decide (v = .non))) H) (.d x) (.d .none) (.bl (!decide (x = .none))) := fun H v u Q hv hu q => by
  have e : u = .non := by
    cases hu with
    | d h => cases h; rfl
  refine ⟨e, ?_⟩
  have e2 : decide (v = .non) = decide (x = NestedKey.none) := by
    cases hv with
    | d h => cases h <;> simp
  rw [e2]
  exact q _ H (Same.refl H) (.bl _)
theorem dt_isN {x : Dt} (ha : DE g X a Γ (.d x)) (hb : DE g X b Γ (.d .none)) : DT g X (.Compare a [.Is] [b] pos) Γ (decide (x = .none)) := dt_cmp op_isN ha hb rd_isN (nomark _)
theorem dt_notN {x : Dt} (ha : DE g X a Γ (.d x)) (hb : DE g X b Γ (.d .none)) : DT g X (.Compare a [.IsNot] [b] pos) Γ (!decide (x = .none)) := dt_cmp op_notN ha hb rd_notN (nomark _)

/-! ### sorted -/
open PySem.W in
/-- sorted(a list of data) -/
def rSrt (K : PySem.W.Frag) : List V → Hp → VK → Prop := fun vs H Q => ∃ (a : Addr) (xs : List V) (ds : List Dt), vs = [.ref a] ∧ H a = some (.lst xs) ∧ DVs H xs ds ∧ AllAlike (ds.map NestedKey.data) ∧ Sortable (ds.map NestedKey.data) ∧ ds.length ≤ 100000 ∧ (∀ d ∈ ds, Shn 50 d) ∧
  ∀ (ys : List V) (p : Addr), H p = none → DVs H ys (ds.mergeSort (dataLe false NestedKey.data)) → Q (.ref p) (upd H p (.lst ys))
open PySem.W in
theorem cr_srt (hr : X.A.units + 64 < cLine) : CallR X (.builtin "sorted") (rSrt X.K) := by
  intro pins s σ H vs us Q I r h
  obtain ⟨a, xs, ds, rfl, ha, t, hal, hsb, hlen, hd, q⟩ := h
  obtain ⟨its, rv, hl, _⟩ := I.list (.inl (.inl ha))
  rw [Vals.ref1 r]
  let Rr : Value → Dt → Prop := fun u d => ∃ x, RelV x u ∧ DV H x d
  have each : ∀ {xs : List V} {ds : List Dt} {its : List Value}, Vals xs its → DVs H xs ds → EachIs Rr its ds := by
    intro xs ds
    induction ds generalizing xs with
    | nil =>
      intro its rv t
      cases t
      cases rv
      exact .nil
    | cons d ds ih =>
      intro its rv t
      cases t with
      | cons x y =>
        cases rv with
        | cons rx ry => exact .cons ⟨_, rx, x⟩ (ih ry y)
  have e := each rv t
  have er : EachIs (fun u d => ∃ as, Reads s.heap u (NestedKey.data d) as) its ds := e.mono fun u d ⟨x, rx, dx⟩ => Dp.reads I d.data x u dx.dp rx
  have back : ∀ {out : List Value} {ds : List Dt}, EachIs Rr out ds → ∃ ys, Vals ys out ∧ DVs H ys ds := by
    intro out ds h
    induction h with
    | nil => exact ⟨[], .nil, .nil⟩
    | cons h _ ih =>
      obtain ⟨x, rx, dx⟩ := h
      obtain ⟨ys, r1, d1⟩ := ih
      exact ⟨x :: ys, .cons rx r1, .cons dx d1⟩
  refine PySem.W.sorted_data (enc := NestedKey.data) (R := Rr) hl.isList e er hal hsb (Nat.le_trans hlen (by decide)) (fun d hm => ?_) fun out ho hout => ?_
  · have h1 := (hd d hm).1
    rw [depth_data]
    omega
  · obtain ⟨ys, r1, d1⟩ := back hout
    obtain ⟨ep, he'⟩ := PyProof.Rows.sortedAll_at s.heap its out.toArray
    have hlen2 : ys.length ≤ sizeLine := by
      rw [d1.length, List.length_mergeSort]
      exact Nat.le_trans hlen (by decide)
    exact ⟨.ref _, upd H (s.heap.objs.size + 1) (.lst ys), I.laid (t' := s.toks) (fun _ _ => PyProof.Rows.sortedAll_old) (Nat.le_succ _) ⟨hlen2, out, ep, r1, by simpa using he'⟩, rfl, q ys _ (I.hok.fresh (Nat.le_succ _)) d1⟩
theorem boot_srt : bootBuiltins ("sorted" : Str) = some (.builtin "sorted") := by decide +kernel
open PySem.W in
theorem dl_sorted {ds : List Dt} (ct : Cxk g N sc k X) (h : DL g X a Γ (ds.map .d)) (hal : AllAlike (ds.map NestedKey.data)) (hsb : Sortable (ds.map NestedKey.data)) (hlen : ds.length ≤ 100000) (hd : ∀ d ∈ ds, Shn 50 d) (hg : GlS sc "sorted" := by rfl)
    (h1 : starEach [a] X.env = (false, eval a X.env) :: starEach [] X.env := by rfl) (hpl : (backTo pos (starEach [] X.env)).any (·.1) = false := by rfl) : DL g X (.Call (.Name "sorted" p) [a] [] pos) Γ ((ds.mergeSort (dataLe false NestedKey.data)).map .d) := fun σ H Q r q =>
  ⟨_, pe_callB (cr_srt ct.room.units) (ct.gl hg) (ct.mgN ct.T.sorted) boot_srt pa_w (by decide) (by decide) h1 hpl, wA_cons (h σ H _ r fun l xs H1 h0 s1 hl t => wA_nil ⟨l, xs, ds, rfl, hl, AVs.dvs t, hal, hsb, hlen, hd, fun ys p hp d1 =>
    q p ys _ (s1.free hp) (s1.trans (Same.newO hp)) upd_same (AVs.of_dvs (d1.mono (TK.of (Same.newO hp))))⟩) h1⟩
/-! typed: numbers, pairs -/
def sortI (xs : List Int) : List Int := xs.mergeSort fun a b => decide (a ≤ b)
def leP (p q : Int × Int) : Bool := decide (p.1 < q.1 ∨ (p.1 = q.1 ∧ p.2 ≤ q.2))
def sortP (xs : List (Int × Int)) : List (Int × Int) := xs.mergeSort leP
theorem ms_num (xs : List Int) : (xs.map NestedKey.num).mergeSort (PySem.W.dataLe false NestedKey.data) = (sortI xs).map NestedKey.num := by
  refine (List.map_mergeSort fun a _ b _ => ?_).symm
  have e := PySem.W.dataLe_int (β := Int) (k := id)
  have e2 := congrFun (congrFun e a) b
  exact e2.symm
theorem ms_pair (xs : List (Int × Int)) : (xs.map dPair).mergeSort (PySem.W.dataLe false NestedKey.data) = (sortP xs).map dPair := by
  refine (List.map_mergeSort fun a _ b _ => ?_).symm
  have e := PySem.W.dataLe_ii (β := Int × Int) (x := Prod.fst) (y := Prod.snd)
  have e2 := congrFun (congrFun e a) b
  exact e2.symm
theorem al_num (xs : List Int) : PySem.W.AllAlike ((xs.map NestedKey.num).map NestedKey.data) := by
  rw [List.map_map]
  exact PySem.W.AllAlike.of fun a b => by simp [NestedKey.data, PySem.W.alike]
theorem sb_num (xs : List Int) : PySem.W.Sortable ((xs.map NestedKey.num).map NestedKey.data) := by
  rw [List.map_map]
  exact PySem.W.Sortable.others fun a => ⟨by simp [NestedKey.data], fun xs => by simp [NestedKey.data]⟩
theorem al_pair (xs : List (Int × Int)) : PySem.W.AllAlike ((xs.map dPair).map NestedKey.data) := by
  rw [List.map_map]
  exact PySem.W.AllAlike.of fun a b => by simp [dPair, NestedKey.data, NestedKey.datas, PySem.W.alike, PySem.W.alikeAll]
theorem sb_pair (xs : List (Int × Int)) : PySem.W.Sortable ((xs.map dPair).map NestedKey.data) := by
  rw [List.map_map]
  exact PySem.W.Sortable.tuples fun a => ⟨_, _, by simp only [Function.comp, dPair, NestedKey.data, NestedKey.datas]; rfl⟩
theorem map_nums (xs : List Int) : (xs.map NestedKey.num).map A.d = xs.map aI := by rw [List.map_map]; rfl
theorem map_pairs (xs : List (Int × Int)) : (xs.map dPair).map A.d = xs.map fun p => A.d (dPair p) := by rw [List.map_map]; rfl
theorem dl_sortedI {xs : List Int} (ct : Cxk g N sc k X) (h : DL g X a Γ (xs.map aI)) (hlen : xs.length ≤ 100000) (hg : GlS sc "sorted" := by rfl) (h1 : starEach [a] X.env = (false, eval a X.env) :: starEach [] X.env := by rfl) (hpl : (backTo pos (starEach [] X.env)).any (·.1) = false := by rfl) :
    DL g X (.Call (.Name "sorted" p) [a] [] pos) Γ ((sortI xs).map aI) := by
  have e := dl_sorted (pos := pos) (p := p) (ds := xs.map .num) ct (h.is (map_nums xs).symm) (al_num xs) (sb_num xs) (by simpa using hlen) (fun d hd => by
    obtain ⟨x, _, rfl⟩ := List.mem_map.mp hd
    exact (shn_num x).up (by decide)) hg h1 hpl
  rw [ms_num, map_nums] at e
  exact e
theorem dl_sortedP {xs : List (Int × Int)} (ct : Cxk g N sc k X) (h : DL g X a Γ (xs.map fun p => A.d (dPair p))) (hlen : xs.length ≤ 100000) (hg : GlS sc "sorted" := by rfl) (h1 : starEach [a] X.env = (false, eval a X.env) :: starEach [] X.env := by rfl) (hpl : (backTo pos (starEach [] X.env)).any (·.1) = false := by rfl) :
    DL g X (.Call (.Name "sorted" p) [a] [] pos) Γ ((sortP xs).map fun p => A.d (dPair p)) := by
  have e := dl_sorted (pos := pos) (p := p) (ds := xs.map dPair) ct (h.is (map_pairs xs).symm) (al_pair xs) (sb_pair xs) (by simpa using hlen) (fun d hd => by
    obtain ⟨x, _, rfl⟩ := List.mem_map.mp hd
    exact (shn_pair x).up (by decide)) hg h1 hpl
  rw [ms_pair, map_pairs] at e
  exact e
/-- tuple(..) of typed lists -/
theorem de_tupI {xs : List Int} (ct : Cxk g N sc k X) (h : DL g X a Γ (xs.map aI)) (hg : GlS sc "tuple" := by rfl) (na : starEach [a] X.env = (false, eval a X.env) :: starEach [] X.env := by rfl) : DE g X (.Call (.Name "tuple" p) [a] [] pos) Γ (aSet xs) :=
  de_tupleL ct (h.is (map_nums xs).symm) hg na
theorem de_tupP {xs : List (Int × Int)} (ct : Cxk g N sc k X) (h : DL g X a Γ (xs.map fun p => A.d (dPair p))) (hg : GlS sc "tuple" := by rfl) (na : starEach [a] X.env = (false, eval a X.env) :: starEach [] X.env := by rfl) : DE g X (.Call (.Name "tuple" p) [a] [] pos) Γ (aDat xs) :=
  de_tupleL ct (h.is (map_pairs xs).symm) hg na
end
end K85

/-! W1: walks of the small defs. -/
namespace K85
open PySem PySem.Spec PyProof.Rows L2
/-- a def of the text, as it stands behind the top -/
def DefIn (g : Cfg) (x : Str) (st : Stmt) : Prop := ∃ f fd, FunD g.K x x (defArgs st) (defBody st) (defScope st) [] [] f fd ∧ g.mg x = some (.ref f)
theorem map_get {α β : Type} {f : α → β} {xs : List α} {i : Nat} {d : β} (h : (xs.map f)[i]? = some d) : ∃ x, xs[i]? = some x ∧ f x = d := by
  rw [List.getElem?_map] at h
  cases hx : xs[i]? with
  | none =>
    rw [hx] at h
    cases h
  | some x =>
    rw [hx] at h
    exact ⟨x, rfl, Option.some.inj h⟩
/-- an ascending list below n -/
def IsSet (n : Int) (xs : List Int) : Prop := xs.Pairwise (· < ·) ∧ ∀ x ∈ xs, 0 ≤ x ∧ x < n
section
variable {g : Cfg}
def R_is_whole (as : List A) (b : A) : Prop := ∃ i : Int, as = [aI i] ∧ b = .bl true
theorem S_is_whole : FnScope ["thing"] ["thing"] (defScope s_is_whole) := ⟨rfl, rfl, rfl, by decide +kernel, rfl, by decide +kernel, by decide +kernel⟩
theorem ok_is_whole (T : Txt g) (F : DefIn g "is_whole" s_is_whole) : Def1 g 1 "is_whole" (spP g 1 R_is_whole) := by
  obtain ⟨f, fd, F, hm⟩ := F
  refine def_P F hm (F.bindsN (ps := ["thing"]) fun _ _ _ _ _ _ us hl => match us, hl with | [_], _ => rfl) S_is_whole T rfl fun X c as b hR hl σ H Q r q => ?_
  obtain ⟨i, rfl, rfl⟩ := hR
  have c' := c.toCxk
  refine wB_cons (ws_ret r (de_and2 (de_isiI c' (de_var 0 c')) fun _ => de_not (de_isiB c' (de_var 0 c'))) q)
def R_is_set (as : List A) (b : A) : Prop := ∃ (n : Int) (xs : List Int), as = [aI n, aSet xs] ∧ IsSet n xs ∧ b = .bl true
theorem S_is_set : FnScope ["offers", "thing", "before", "one"] ["offers", "thing"] (defScope s_is_set) := ⟨rfl, rfl, rfl, by decide +kernel, rfl, by decide +kernel, by decide +kernel⟩
theorem ok_is_set (T : Txt g) (F : DefIn g "is_set" s_is_set) (W : Def1 g 1 "is_whole" (spP g 1 R_is_whole)) : Def1 g 2 "is_set" (spP g 2 R_is_set) := by
  obtain ⟨f, fd, F, hm⟩ := F
  refine def_P F hm (F.bindsN (ps := ["offers", "thing"]) fun _ _ _ _ _ _ us hl => match us, hl with | [_, _], _ => rfl) S_is_set T rfl fun X c as b hR hl σ H Q r q => ?_
  obtain ⟨n, xs, rfl, hs, rfl⟩ := hR
  have c' := c.toCxk
  refine wB_cons (ws_skip r ((dt_not (dt_val (de_isiT c' (de_var 1 c'))))) fun H1 s1 r1 => ?_)
  refine wB_cons (ws_asg 2 c r1 (de_neg de_int) fun σ2 H2 s2 r2 => ?_)
  refine wB_cons (ws_for c r2 (di_tup c' (de_var 1 c')) (pg_ND (i := 3) c rfl (.inl rfl)) fun H3 s3 => ?_)
  refine ⟨fun i σ' H' => Same H3 H' ∧ ∃ bv : Int, Rel g H' σ' [some (aI n), some (aSet xs), some (aI bv), none] ∧ ∀ (j : Nat) (x : Int), xs[j]? = some x → i ≤ j → bv < x, ⟨Same.refl _, -1, (r2.mono s3).sub (sub_eq (sub_eq (sub_eq (sub_no sub_nil)))), fun j x hx _ => ?_⟩, fun i σ' H' _ h => TK.of h.1, ?_, ?_⟩
  · have := (hs.2 x (List.mem_of_getElem? hx)).1
    omega
  · rintro i d σ' H' v H2' hd ⟨t1, bv, r', hb⟩ t2 vd
    obtain ⟨x', hx', rfl⟩ := map_get hd
    obtain ⟨x, hx, rfl⟩ := map_get hx'
    have r3 := (r'.mono t2).set 3 vd
    have h1 := hb i x hx (Nat.le_refl _)
    have h2 := hs.2 x (List.mem_of_getElem? hx)
    refine wB_cons (ws_skip r3 (DT.is (dt_or2 (dt_not (dt_val (de_call c' W (by decide) (da_cons (de_var 3 c') da_nil) ⟨x, rfl, rfl⟩))) fun _ => dt_not (dt_lt2 (de_var 2 c') (de_var 3 c') (de_var 0 c'))) (by simp [h1, h2.2])) fun H4 s4 r4 => ?_)
    refine wB_cons (ws_asg 2 c r4 (de_var 3 c') fun σ5 H5 s5 r5 => wB_nil ⟨((t1.trans t2).trans s4).trans s5, x, r5.sub (sub_eq (sub_eq (sub_eq (sub_no sub_nil)))), fun j y hy hj => ?_⟩)
    have := List.pairwise_iff_getElem.mp hs.1
    obtain ⟨l1, e1⟩ := List.getElem?_eq_some_iff.mp hx
    obtain ⟨l2, e2⟩ := List.getElem?_eq_some_iff.mp hy
    rw [← e1, ← e2]
    exact this i j l1 l2 (by omega)
  · rintro σ' H' ⟨t1, bv, r', hb⟩
    exact wB_cons (ws_ret r' de_bl fun v H4 s4 v4 => q v H4 ((((s1.trans s2).trans s3).trans t1).trans s4) v4)
def R_part (as : List A) (b : A) : Prop := ∃ xs ys : List Int, as = [aSet xs, aSet ys] ∧ (∀ x ∈ xs, x ∈ ys) ∧ b = .bl true
theorem S_part : FnScope ["part", "some", "one"] ["part", "some"] (defScope s_chooser_is_part) := ⟨rfl, rfl, rfl, by decide +kernel, rfl, by decide +kernel, by decide +kernel⟩
theorem ok_part (T : Txt g) (F : DefIn g "chooser_is_part" s_chooser_is_part) : Def1 g 1 "chooser_is_part" (spP g 2 R_part) := by
  obtain ⟨f, fd, F, hm⟩ := F
  refine def_P F hm (F.bindsN (ps := ["part", "some"]) fun _ _ _ _ _ _ us hl => match us, hl with | [_, _], _ => rfl) S_part T rfl fun X c as b hR hl σ H Q r q => ?_
  obtain ⟨xs, ys, rfl, hs, rfl⟩ := hR
  have c' := c.toCxk
  refine wB_cons (ws_for c r (di_tup c' (de_var 0 c')) (pg_ND (i := 2) c rfl (.inl rfl)) fun H3 s3 => ?_)
  refine ⟨fun i σ' H' => Same H3 H' ∧ Rel g H' σ' [some (aSet xs), some (aSet ys), none], ⟨Same.refl _, r.mono s3⟩, fun i σ' H' _ h => TK.of h.1, ?_, ?_⟩
  · rintro i d σ' H' v H2' hd ⟨t1, r'⟩ t2 vd
    obtain ⟨x', hx', rfl⟩ := map_get hd
    obtain ⟨x, hx, rfl⟩ := map_get hx'
    have r3 := (r'.mono t2).set 2 vd
    refine wB_cons (ws_skip r3 (DT.is (dt_notInI c' (de_var 2 c') (de_var 1 c')) (by simp [hs x (List.mem_of_getElem? hx)])) fun H4 s4 r4 => wB_nil ⟨(t1.trans t2).trans s4, r4.sub (sub_eq (sub_eq (sub_no sub_nil)))⟩)
  · rintro σ' H' ⟨t1, r'⟩
    exact wB_cons (ws_ret r' de_bl fun v H4 s4 v4 => q v H4 ((s3.trans t1).trans s4) v4)
/-- the first of a list that is in a set -/
def dOpt : Option Int → Dt
  | some x => .num x
  | none => .none
def first1 (row some : List Int) : Option Int := row.find? fun x => decide (x ∈ some)
def R_first1 (as : List A) (b : A) : Prop := ∃ xs ys : List Int, as = [aSet xs, aSet ys] ∧ b = .d (dOpt (first1 xs ys))
theorem S_first1 : FnScope ["row", "some", "one"] ["row", "some"] (defScope s_list_first) := ⟨rfl, rfl, rfl, by decide +kernel, rfl, by decide +kernel, by decide +kernel⟩
theorem ok_first1 (T : Txt g) (F : DefIn g "list_first" s_list_first) : Def1 g 1 "list_first" (spP g 2 R_first1) := by
  obtain ⟨f, fd, F, hm⟩ := F
  refine def_P F hm (F.bindsN (ps := ["row", "some"]) fun _ _ _ _ _ _ us hl => match us, hl with | [_, _], _ => rfl) S_first1 T rfl fun X c as b hR hl σ H Q r q => ?_
  obtain ⟨xs, ys, rfl, rfl⟩ := hR
  have c' := c.toCxk
  refine wB_cons (ws_for c r (di_tup c' (de_var 0 c')) (pg_ND (i := 2) c rfl (.inl rfl)) fun H3 s3 => ?_)
  refine ⟨fun i σ' H' => Same H3 H' ∧ Rel g H' σ' [some (aSet xs), some (aSet ys), none] ∧ (xs.take i).find? (fun x => decide (x ∈ ys)) = none, ⟨Same.refl _, r.mono s3, rfl⟩, fun i σ' H' _ h => TK.of h.1, ?_, ?_⟩
  · rintro i d σ' H' v H2' hd ⟨t1, r', hf⟩ t2 vd
    obtain ⟨x', hx', rfl⟩ := map_get hd
    obtain ⟨x, hx, rfl⟩ := map_get hx'
    have r3 := (r'.mono t2).set 2 vd
    refine wB_cons (ws_if r3 (dt_inI c' (de_var 2 c') (de_var 1 c')) (fun ht H4 s4 r4 => ?_) fun hf' H4 s4 r4 => wB_nil (wB_nil ⟨(t1.trans t2).trans s4, r4.sub (sub_eq (sub_eq (sub_no sub_nil))), ?_⟩))
    · have e : first1 xs ys = some x := by
        unfold first1
        have hsp : xs = xs.take (i + 1) ++ xs.drop (i + 1) := (List.take_append_drop _ _).symm
        rw [hsp, take_snoc hx, List.find?_append, List.find?_append, hf, List.find?_cons, ht]
        rfl
      rw [e] at q
      exact wB_cons (ws_ret r4 (de_var 2 c') fun v H5 s5 v5 => q v H5 ((((s3.trans t1).trans t2).trans s4).trans s5) v5)
    · rw [take_snoc hx, List.find?_append, hf, List.find?_cons, hf']
      rfl
  · rintro σ' H' ⟨t1, r', hf⟩
    have e : first1 xs ys = none := by
      unfold first1
      have hl : (((xs.map NestedKey.num).map A.d)).length = xs.length := by simp
      rw [hl, List.take_length] at hf
      exact hf
    rw [e] at q
    exact wB_cons (ws_ret r' de_non fun v H4 s4 v4 => q v H4 ((s3.trans t1).trans s4) v4)
end
end K85

/-! W2: walks of the small defs, with comprehensions. -/
namespace K85
open PySem PySem.Spec PyProof.Rows L2
section
variable {g : Cfg} {N : List Str} {sc : Scope} {X : Cx} {k : Nat} {Γ : List (Option A)} {tg e iter a : Expr} {pos p : Pos}
theorem di_set {xs : List Int} (c : Cxk g N sc k X) (h : DE g X iter Γ (aSet xs)) : DI g X tg iter Γ TK (xs.map aI) := by
  have e := di_tup (tg := tg) c h
  rw [map_nums] at e
  exact e
theorem di_tupM {α : Type} {enc : α → Dt} {xs : List α} (c : Cxk g N sc k X) (h : DE g X iter Γ (.d (.tup (xs.map enc)))) : DI g X tg iter Γ TK (xs.map fun x => A.d (enc x)) := by
  have e := di_tup (tg := tg) c h
  rw [List.map_map] at e
  exact e
theorem DI.is {St : Hp → Hp → Prop} {vs ws : List A} (h : DI g X tg iter Γ St vs) (e : vs = ws) : DI g X tg iter Γ St ws := e ▸ h
theorem di_dat {xs : List (Int × Int)} (c : Cxk g N sc k X) (h : DE g X iter Γ (aDat xs)) : DI g X tg iter Γ TK (xs.map fun p => A.d (dPair p)) := by
  have e := di_tup (tg := tg) c h
  rw [map_pairs] at e
  exact e
def R_made_rest (as : List A) (b : A) : Prop := ∃ xs ys : List Int, as = [aSet xs, aSet ys] ∧ xs.length ≤ 1000 ∧ b = aSet (xs.filter fun x => !decide (x ∈ ys))
theorem S_made_rest : FnScope ["some", "gone", "one"] ["some", "gone"] (defScope s_made_rest) := ⟨rfl, rfl, rfl, by decide +kernel, rfl, by decide +kernel, by decide +kernel⟩
theorem ok_made_rest (T : Txt g) (F : DefIn g "made_rest" s_made_rest) : Def1 g 1 "made_rest" (spP g 2 R_made_rest) := by
  obtain ⟨f, fd, F, hm⟩ := F
  refine def_P F hm (F.bindsN (ps := ["some", "gone"]) fun _ _ _ _ _ _ us hl => match us, hl with | [_, _], _ => rfl) S_made_rest T rfl fun X c as b hR hl σ H Q r q => ?_
  obtain ⟨xs, ys, rfl, hz, rfl⟩ := hR
  have c' := c.toCxk
  refine wB_cons (ws_ret r (de_tupI c' (DL.is (DC.dl (dc_comp (xs := xs) (e := aI) (pr := fun x => !decide (x ∈ ys)) (f := aI) (own := [("one", 2)]) (gt := gName 2) (Γx := fun x => [some (aSet xs), some (aSet ys), some (aI x)]) c'
    (di_set c' (de_var 0 c')).same (by decide +kernel) rfl (fun X' d => pg_N d rfl rfl) (fun x hx => tg_N (List.mem_cons_self)) (fun x hx X' d => dts_one (dt_notInI d (de_var 2 d) (de_var 1 d))) (fun x hx _ X' d => de_var 2 d) (fun _ _ => rfl) (by omega)) c') rfl)) q)
end
end K85

/-! L8: len of an own instance, sets of numbers, set comprehensions, enumerate of a tuple. -/
namespace K85
open PySem PySem.Spec PyProof.Rows L2

/-! ### len(o), o an instance with its own length -/
def rLenO (C : Addr) (sp : Sp) : List V → Hp → VK → Prop := fun xs H Q => ∃ a dx fs, xs = [.ref a] ∧ H a = some (.ins C dx fs) ∧ sp [.ref a] H (fun v H' => ∃ n : Int, v = .int n ∧ 0 ≤ n ∧ n < 2 ^ 63 ∧ Q (.int n) H') E0
theorem cr_lenO {X : Cx} {C f : Addr} {fd : FuncData} {ps : List Str} {sp : Sp} {k : Nat} (hm : Meth X.K C "__len__" f) (F : FnOk X.prog X.w X.K X.mg X.base CX0 k f fd ps sp) (b : Binds X.K fd ps []) (hr : Room (k + 1) X.A) : CallR X (.builtin "len") (rLenO C sp) := by
  intro pins s σ H xs us Q I r h
  obtain ⟨a, dx, fs, rfl, ha, hsp⟩ := h
  rw [Vals.ref1 r]
  obtain ⟨m, hF⟩ := I.fr
  obtain ⟨mA, O, _⟩ := ins_get I.hok ha
  obtain ⟨od, hI, _⟩ := O.look
  refine PySem.W.len_K hF I.ok.mod.kin hI hm.at_ hm.fn ?_
  have hv : Vals [V.ref a] [Value.ref a] := .cons rfl .nil
  have hl : ([Value.ref a] ++ ([] : List Value)).length = ps.length := by
    have := F.len _ _ _ _ hsp
    simpa using this
  have hb := b s [.ref a] I.kIn hl
  rw [List.append_nil] at hb
  refine wpAny_call (codeAny_mono (F.run X.A.in1 X.stack s H ⟨[.ref a], []⟩ [.ref a] [.ref a] _ E0 hr.in1 I.env0.in1 hb hv hsp) fun res s' hq => ?_)
  cases res with
  | error e => exact hq.elim
  | ok fl =>
    cases fl with
    | next => exact False.elim hq
    | brk => exact False.elim hq
    | cont => exact False.elim hq
    | ret u =>
      obtain ⟨v, H', I', rv, n, rfl, h0, h1, q⟩ := I.after hq
      obtain ⟨t, rfl⟩ := (show ∃ t, u = Value.int n t from rv)
      exact ⟨⟨h0, h1⟩, .int n, H', I'.tok _, ⟨_, rfl⟩, q⟩

/-! ### sets of numbers -/
/-- set(a tuple of numbers) -/
def rSetT (K : PySem.W.Frag) (w : World) : List V → Hp → VK → Prop := fun xs H Q => ∃ (l : Addr) (ns : List Int), xs = [.ref l] ∧ SqT K H l (ns.map V.int) ∧ ns.length + 1 < scanBound ∧
  ∀ (p : Addr) (n : Nat), H p = none → n ≤ ns.length → Q (.ref p) (upd H p (SetO w p (fun j => decide (j ∈ ns)) n))
theorem cr_setT {X : Cx} (hc : X.calm = true) : CallR X (.type "set") (rSetT X.K X.w) := by
  intro pins s σ H xs us Q I r h
  obtain ⟨l, ns, rfl, hl, hb, q⟩ := h
  rw [Vals.ref1 r]
  obtain ⟨its, rv, hT, _⟩ := I.tuple hl
  refine call_set_tupI ns (I.ok.hd hc) hT (by simpa using rv.ints) hb fun h' tk n hS hn hk => ?_
  have hp : H s.heap.objs.size = none := I.hok.fresh (Nat.le_refl _)
  exact ⟨.ref s.heap.objs.size, _, I.laid (t' := tk) hk (Nat.le_refl _) (setO_new hS), rfl, q _ n hp hn⟩

/-! ### {e for x in ..}, e a number -/
def tSI (w : World) (wi : TI) (gt : TG) (tt : TT) (te : TE) (vs : List Nat) : TE := fun σ H Q => wi σ H fun J H1 => ∀ D, H1 D = none → ∃ W : Nat → Nat → Hp → Prop, (∃ m, W 0 m (upd H1 D (SetO w D (fun _ => false) 0))) ∧ ∀ i m H, W i m H →
  (J.stop i H ∧ Q (.ref D) H) ∨ (J.go i H ∧ ∃ Nx : Hp → Prop, (∀ H', Nx H' → ∃ m', m' < m ∧ W (i + 1) m' H') ∧ ∀ x H', J.yld i H x H' → gt x (L2.wipe σ vs) H' fun σ2 H2 => L2.wipe σ2 vs = L2.wipe σ vs ∧ tt σ2 H2 fun b H3 =>
    if b = true then te σ2 H3 fun y H4 => ∃ (z : Int) (S : Int → Bool) (n : Nat), y = .int z ∧ H4 D = some (SetO w D S n) ∧ n + 1 < scanBound ∧ Nx (upd H4 D (SetO w D (fun j => S j || decide (j = z)) (if S z = true then n else n + 1))) else Nx H3)
theorem add_set {X : Cx} {pins : List (Addr × Obj)} {σ : L2.St} {H : Hp} {s : Shared} {E : Value → Shared → Prop} {D : Addr} {S : Int → Bool} {n : Nat} {z : Int} {u : Value} {Q : Value → Shared → Prop} (I : Inv X pins σ H s) (hD : H D = some (SetO X.w D S n)) (room : n + 1 < scanBound) (ru : RelV (.int z) u)
    (h : ∀ s', Inv X pins σ (upd H D (SetO X.w D (fun j => S j || decide (j = z)) (if S z = true then n else n + 1))) s' → Q .none s') : wpAny (model X.prog X.w) X.A (call (.builtin "set.add") [.ref D, u]) Q E s := by
  obtain ⟨tk, rfl⟩ := (show ∃ t, u = Value.int z t from ru)
  refine setR_add (setO_get I hD) room fun h' sb new => ?_
  have he : ∃ u, h'.get? D = some u := by
    obtain ⟨o, _, _, _, ho, _⟩ := id new
    exact ⟨o, ho⟩
  exact h _ (I.write (e := D) (t' := s.toks + 1) (by rw [hD]; trivial) (.inl rfl) (fun b u hb hu => (sb.2 b hb).trans hu) he (setO_new new))
theorem si_core {X : Cx} {pins : List (Addr × Obj)} {s : Shared} {σ : L2.St} {H : Hp} {Q : VK} {elt tg iter : Expr} {ifs : List Expr} {scope : Scope} {own : List (Str × Nat)} {pos pos' : Pos} {wi : TI} {gt : TG} {tt : TT} {te : TE} {use : Option (Value → Sem Unit)} {Qf : Value → Shared → Prop}
    (hc : X.calm = true) (hN : X.N.Nodup) (I : Inv X pins σ H s) (hi : PI X tg iter wi) (ok : BlkOk X.N X.env.scope scope own)
    (hg : ∀ (s : Shared) (H : Hp) (C : Addr) (cl : List (Str × Addr)) (fp : List Addr), PG (X.blk s H scope (compEnvC scope cl C X.env) fp) tg gt)
    (ht : ∀ (s : Shared) (H : Hp) (C : Addr) (cl : List (Str × Addr)) (fp : List Addr), PTs (X.blk s H scope (compEnvC scope cl C X.env) fp) ifs tt)
    (he : ∀ (s : Shared) (H : Hp) (C : Addr) (cl : List (Str × Addr)) (fp : List Addr), PE (X.blk s H scope (compEnvC scope cl C X.env) fp) elt te) (hs : ∀ x, foldedSetIterable iter X.env x = pure x)
    (h : tSI X.w wi gt tt te (own.map (·.2)) σ H Q)
    (hRR : ∀ D C s' m H', Inv X pins σ H' s' → Q (.ref D) H' → s'.heap.Ns C m → FpOk X pins H' C → compPost (model X.prog X.w) X.A X.xe use Qf (.ref D) C (.ok .next) s') :
    wpAny (model X.prog X.w) X.A (comprehension (.SetComp elt [⟨tg, iter, ifs, 0⟩] scope pos) scope X.env pos' (newSet (.type "set")) false (eval iter X.env) use) Qf X.xe s := by
  have hfree : ∀ y ∈ scope.names, y.2 = .free → ∃ c, X.env.cells.lookup y.1 = some c := by
    intro y hy e
    exact I.ok.has _ (ok.free y hy e)
  refine wpAny_comprehension_free (use := use) rfl hs (closure_ok hfree) ok.kind (fun y hy e => by rw [ok.uniq y hy, e]) (thn (hi.run pins s σ H _ I h) fun xv s1 hx => thn hx fun itv s2 h2 => ?_)
  obtain ⟨it, fp, tn, J, H2, rfl, I2, T, st2, f2, q⟩ := h2
  refine PpSet.newSet_ok (newEnv_comp ?_)
  have hDn : H2 s2.heap.objs.size = none := I2.hok.fresh (Nat.le_refl _)
  obtain ⟨W, ⟨m0, w0⟩, turn⟩ := q _ hDn
  have I3 : Inv X pins σ (upd H2 s2.heap.objs.size (SetO X.w s2.heap.objs.size (fun _ => false) 0)) { s2 with heap := s2.heap.push { cls := .type "set", dict := none, data := .set #[] 0 (.fresh 0 0 (!X.w.params.followText "set-order")) } } :=
    I2.laid (t' := s2.toks) (fun b o e => Heap.get?_push_of_some _ e) (Nat.le_refl _) (setO_new (setR_fresh X.w))
  generalize hs3 : ({ s2 with heap := s2.heap.push { cls := .type "set", dict := none, data := .set #[] 0 (.fresh 0 0 (!X.w.params.followText "set-order")) } } : Shared) = s3 at I3
  have h3 : s3.heap = s2.heap.push { cls := .type "set", dict := none, data := .set #[] 0 (.fresh 0 0 (!X.w.params.followText "set-order")) } := by rw [← hs3]
  have old3 : ∀ b o, s2.heap.get? b = some o → s3.heap.get? b = some o := fun b o e => by
    rw [h3]
    exact Heap.get?_push_of_some _ e
  have f3 : ∀ b ∈ fp, FpOk X pins (upd H2 s2.heap.objs.size (SetO X.w s2.heap.objs.size (fun _ => false) 0)) b ∧ b < s3.heap.objs.size := fun b hb => by
    obtain ⟨o, e, _⟩ := T.obj _ _ st2 b hb
    have hlt := Heap.lt_size e
    refine ⟨⟨?_, (f2 b hb).2⟩, Heap.lt_size (old3 b o e)⟩
    rw [upd_ne (Nat.ne_of_lt hlt)]
    exact (f2 b hb).1
  have st3 : tn 0 s3.heap := T.keep _ _ _ st2 fun b _ o e => old3 b o e
  generalize hD : s2.heap.objs.size = D at *
  generalize hH3 : upd H2 D (SetO X.w D (fun _ => false) 0) = H3 at *
  have I4 := block_start I3 ok hN f3
  have pg := hg s3 H3 s3.heap.objs.size (cellsFrom (s3.heap.objs.size + 1) scope.names (cloFrom X.env.cells scope.names [])) fp
  have pt := ht s3 H3 s3.heap.objs.size (cellsFrom (s3.heap.objs.size + 1) scope.names (cloFrom X.env.cells scope.names [])) fp
  have pe := he s3 H3 s3.heap.objs.size (cellsFrom (s3.heap.objs.size + 1) scope.names (cloFrom X.env.cells scope.names [])) fp
  show codeAny _ _ (.compStart (.SetComp elt [⟨tg, iter, ifs, 0⟩] scope pos) 0 (.ref it) (.ref D) (compEnvC scope (cellsFrom (s3.heap.objs.size + 1) scope.names (cloFrom X.env.cells scope.names [])) s3.heap.objs.size X.env)) (compPost (model X.prog X.w) X.A X.xe use Qf (.ref D) s3.heap.objs.size)
    { s3 with heap := pushCells (s3.heap.push { cls := .type "dict", data := .dict #[] }) scope.names }
  generalize hce : compEnvC scope (cellsFrom (s3.heap.objs.size + 1) scope.names (cloFrom X.env.cells scope.names [])) s3.heap.objs.size X.env = ce at I4 pg pt pe ⊢
  have cL : ce.locals = s3.heap.objs.size := by subst hce; rfl
  generalize hs4 : ({ s3 with heap := pushCells (s3.heap.push { cls := .type "dict", data := .dict #[] }) scope.names } : Shared) = s4 at I4 ⊢
  have st4 : tn 0 s4.heap := T.keep _ _ _ st3 fun b _ o e => by
    rw [← hs4]
    exact pushCells_keeps _ _ _ _ (Heap.get?_push_of_some _ e)
  have stat : ∀ {σ' : L2.St} {H' : Hp} {s' : Shared}, Inv (X.blk s3 H3 scope ce fp) [] σ' H' s' → (∀ b ∈ fp, H' b = none) → ∀ b ∈ fp, FpOk (X.blk s3 H3 scope ce fp) [] H' b := by
    intro σ' H' s' I' hn b hb
    refine ⟨hn b hb, (I'.ok.exf b hb).1, I'.ok.exfs b hb, .inl hb, fun x c e => (I'.ok.exf b hb).2 x c e, fun p hp => ?_⟩
    have hp' : p ∈ ([] : List (Addr × Obj)) ++ [] := hp
    simp at hp'
  have loop : codeAny (model X.prog X.w) X.A (.compLoop (.SetComp elt [⟨tg, iter, ifs, 0⟩] scope pos) 0 (.ref it) (.ref D) ce) (compPost (model X.prog X.w) X.A X.xe use Qf (.ref D) s3.heap.objs.size) s4 := by
    refine PpSet.compLoopS_any (fun n s' => ∃ i H', Inv (X.blk s3 H3 scope ce fp) [] (L2.wipe σ (own.map (·.2))) H' s' ∧ tn i s'.heap ∧ (∀ b ∈ fp, H' b = none) ∧ W i n H') ?_ m0 ⟨0, H3, I4, st4, fun b hb => (f3 b hb).1.1, w0⟩
    rintro n s5 ⟨i, H5, I5, st5, n5, w5⟩
    rcases turn i n H5 w5 with ⟨stop, qq⟩ | ⟨go, Nx, hNx, step⟩
    · refine thnF (T.done (X.blk s3 H3 scope ce fp) rfl rfl rfl hc i [] s5 _ H5 (fun _ _ => False) I5 (stat I5 n5) st5 stop) fun r s6 ⟨hr, I6⟩ => ?_
      subst hr
      have I7 : Inv X pins σ H5 s6 := I3.call' (ch := fp) I6.os I6.base I6.hok I6.bare fun b hb => by
        obtain ⟨_, p2, _, p4, p5, p6⟩ := (f3 b hb).1
        exact ⟨p4, p2, p5, p6⟩
      have nC : H5 s3.heap.objs.size = none := by
        have z := I6.free
        rw [show (X.blk s3 H3 scope ce fp).env.locals = s3.heap.objs.size from cL] at z
        exact z
      obtain ⟨m, hn, _⟩ := I6.loc
      rw [show (X.blk s3 H3 scope ce fp).env.locals = s3.heap.objs.size from cL] at hn
      exact hRR D s3.heap.objs.size s6 m H5 I7 qq hn (I3.fpOk (Nat.le_refl _) nC)
    · refine thnF (T.item (X.blk s3 H3 scope ce fp) rfl rfl rfl hc i [] s5 _ H5 (fun _ _ => False) I5 (stat I5 n5) st5 go) fun r s6 ⟨u, hr, h6⟩ => ?_
      subst hr
      refine thnF h6 fun _ s7 ⟨x, H7, I7, r7, y7, st7, n7⟩ => ?_
      refine thnF (pg.run _ s7 _ H7 x u _ (I7.pinned (stat I7 n7) (T.obj _ _ st7)) r7 (step x H7 y7)) fun _ s8 ⟨σ8, H8, I8, hw8, q8⟩ => ?_
      refine thnF (pt.run _ s8 σ8 H8 _ I8 q8) fun b s9 ⟨H9, I9, q9⟩ => ?_
      have fin : ∀ {s' : Shared} {H' : Hp}, Inv (X.blk s3 H3 scope ce fp) ([] ++ pinsAt fp s7.heap) σ8 H' s' → Nx H' → ∃ m, m < n ∧ ∃ i H', Inv (X.blk s3 H3 scope ce fp) [] (L2.wipe σ (own.map (·.2))) H' s' ∧ tn i s'.heap ∧ (∀ b ∈ fp, H' b = none) ∧ W i m H' := by
        intro s' H' I' nx
        obtain ⟨m', hm, w'⟩ := hNx H' nx
        have pin' : ∀ b ∈ fp, ∀ o, s7.heap.get? b = some o → s'.heap.get? b = some o ∧ H' b = none := by
          intro b hb o e
          have z := I'.pin (b, o) (List.mem_append_right _ (List.mem_append_right _ (mem_pinsAt hb e)))
          exact ⟨z.1, z.2.1⟩
        have hl : (L2.wipe σ (own.map (·.2))).length = σ8.length := by rw [← hw8, wipe_length]
        refine ⟨m', hm, i + 1, H', (I'.unpinned (pins := [])).weak hl (fun j v e => ?_), T.keep _ _ _ st7 fun b hb o e => (pin' b hb o e).1, fun b hb => ?_, w'⟩
        · rw [← hw8] at e
          exact (wipe_some e).1
        · obtain ⟨o, e, _⟩ := T.obj _ _ st7 b hb
          exact (pin' b hb o e).2
      cases b with
      | false =>
        simp only [Bool.false_eq_true, if_false] at q9 ⊢
        exact fin I9 q9
      | true =>
        simp only [if_true] at q9 ⊢
        refine thnF (pe.run _ s9 σ8 H9 _ I9 q9) fun z s10 ⟨yv, H10, I10, r10, zi, S0, n0, ey, hD10, hz10, nx⟩ => ?_
        subst ey
        exact add_set (X := X.blk s3 H3 scope ce fp) I10 hD10 hz10 r10 fun s11 I11 => fin I11 nx
  exact PpSet.codeAny_compStart_set loop (T.self X.A 0 _ _ _ st4 loop)
theorem pe_si {X : Cx} {elt tg iter : Expr} {ifs : List Expr} {scope : Scope} {own : List (Str × Nat)} {pos : Pos} {wi : TI} {gt : TG} {tt : TT} {te : TE} (hc : X.calm = true) (hN : X.N.Nodup) (hi : PI X tg iter wi) (ok : BlkOk X.N X.env.scope scope own)
    (hg : ∀ (s : Shared) (H : Hp) (C : Addr) (cl : List (Str × Addr)) (fp : List Addr), PG (X.blk s H scope (compEnvC scope cl C X.env) fp) tg gt)
    (ht : ∀ (s : Shared) (H : Hp) (C : Addr) (cl : List (Str × Addr)) (fp : List Addr), PTs (X.blk s H scope (compEnvC scope cl C X.env) fp) ifs tt)
    (he : ∀ (s : Shared) (H : Hp) (C : Addr) (cl : List (Str × Addr)) (fp : List Addr), PE (X.blk s H scope (compEnvC scope cl C X.env) fp) elt te) (hs : ∀ x, foldedSetIterable iter X.env x = pure x) :
    PE X (.SetComp elt [⟨tg, iter, ifs, 0⟩] scope pos) (tSI X.w wi gt tt te (own.map (·.2))) := by
  refine ⟨fun pins s σ H Q I h => ?_⟩
  rw [PpSet.eval_SetComp]
  refine si_core hc hN I hi ok hg ht he hs h fun D C s' m H' I' q hn f => ⟨m, hn, fun h'' sb => ?_⟩
  obtain ⟨f0, f1, f2, f3, f4, f5⟩ := f
  exact ⟨.ref D, H', I'.turned (t' := s'.toks) (fun b o hb e => (sb.2 b hb).trans e) f0 f1 f3 f4 f5, rfl, q⟩
end K85

/-! L9: sorted sets, lengths, enumerate of tuples: the judgements. -/
namespace K85
open PySem PySem.Spec PyProof.Rows L2

/-! ### ascending lists -/
theorem asc_ext : ∀ {xs ys : List Int}, xs.Pairwise (· < ·) → ys.Pairwise (· < ·) → (∀ k, k ∈ xs ↔ k ∈ ys) → xs = ys
  | [], [], _, _, _ => rfl
  | [], y :: ys, _, _, h => by have := (h y).mpr List.mem_cons_self; simp at this
  | x :: xs, [], _, _, h => by have := (h x).mp List.mem_cons_self; simp at this
  | x :: xs, y :: ys, hx, hy, h => by
    rw [List.pairwise_cons] at hx hy
    have e : x = y := by
      rcases List.mem_cons.mp ((h x).mp List.mem_cons_self) with e | m
      · exact e
      · rcases List.mem_cons.mp ((h y).mpr List.mem_cons_self) with e | m'
        · exact e.symm
        · have h1 := hy.1 x m
          have h2 := hx.1 y m'
          omega
    subst e
    congr 1
    refine asc_ext hx.2 hy.2 fun k => ⟨fun hk => ?_, fun hk => ?_⟩
    · rcases List.mem_cons.mp ((h k).mp (List.mem_cons_of_mem _ hk)) with e | m
      · have := hx.1 k hk
        omega
      · exact m
    · rcases List.mem_cons.mp ((h k).mpr (List.mem_cons_of_mem _ hk)) with e | m
      · have := hy.1 k hk
        omega
      · exact m
/-- the ascending list of a list's members -/
def asc (xs : List Int) : List Int := sortI xs.eraseDups
theorem mem_sortI {xs : List Int} {k : Int} : k ∈ sortI xs ↔ k ∈ xs := (List.mergeSort_perm xs _).mem_iff
theorem sortI_le (xs : List Int) : (sortI xs).Pairwise (· ≤ ·) := by
  have h := List.pairwise_mergeSort (le := fun a b : Int => decide (a ≤ b)) (fun a b c h1 h2 => by simp at h1 h2 ⊢; omega) (fun a b => by simp; omega) xs
  exact h.imp fun h => by simpa using h
theorem asc_of_nodup {xs : List Int} (h : xs.Nodup) : (sortI xs).Pairwise (· < ·) := by
  have h1 := sortI_le xs
  have h2 : (sortI xs).Nodup := (List.mergeSort_perm xs _).nodup_iff.mpr h
  have h3 := h1.and h2
  exact h3.imp fun ⟨a, b⟩ => by omega
theorem nodup_eraseDups : ∀ (xs : List Int), xs.eraseDups.Nodup := by
  intro xs
  induction hn : xs.length using Nat.strongRecOn generalizing xs with
  | _ n ih =>
    cases xs with
    | nil => simp
    | cons x xs =>
      rw [List.eraseDups_cons]
      refine List.nodup_cons.mpr ⟨fun h => ?_, ih _ (by subst hn; have := List.length_filter_le (fun b => !b == x) xs; simp; omega) _ rfl⟩
      have h1 := List.mem_eraseDups.mp h
      have h2 := (List.mem_filter.mp h1).2
      simp at h2
theorem asc_lt (xs : List Int) : (asc xs).Pairwise (· < ·) := asc_of_nodup (nodup_eraseDups xs)
theorem mem_asc {xs : List Int} {k : Int} : k ∈ asc xs ↔ k ∈ xs := by
  unfold asc
  rw [mem_sortI, List.mem_eraseDups]
theorem asc_eq {xs ys : List Int} (h : ys.Pairwise (· < ·)) (m : ∀ k, k ∈ ys ↔ k ∈ xs) : ys = asc xs := asc_ext h (asc_lt xs) fun k => (m k).trans mem_asc.symm
theorem asc_length (xs : List Int) : (asc xs).length ≤ xs.length := by
  unfold asc sortI
  rw [List.length_mergeSort]
  induction hn : xs.length using Nat.strongRecOn generalizing xs with
  | _ n ih =>
    cases xs with
    | nil => simp
    | cons x xs =>
      rw [List.eraseDups_cons]
      have h1 := List.length_filter_le (fun b => !b == x) xs
      have h2 := ih (xs.filter fun b => !b == x).length (by subst hn; simp; omega) _ rfl
      subst hn
      simp only [List.length_cons]
      omega

section
variable {g : Cfg} {N : List Str} {sc : Scope} {X : Cx} {j k : Nat} {Γ : List (Option A)} {e a iter tg : Expr} {pos p p2 q2 : Pos} {i : Nat}
/-- sorted(set(t)) -/
theorem boot_set : bootBuiltins ("set" : Str) = some (.type "set") := by decide +kernel
theorem dl_sset {xs : List Int} (c : Cxk g N sc k X) (h : DE g X a Γ (aSet xs)) (hz : xs.length ≤ 60) (hg : GlS sc "sorted" := by rfl) (hg2 : GlS sc "set" := by rfl) (h1 : starEach [a] X.env = (false, eval a X.env) :: starEach [] X.env := by rfl)
    (h2 : starEach [.Call (.Name "set" p2) [a] [] q2] X.env = (false, eval (.Call (.Name "set" p2) [a] [] q2) X.env) :: starEach [] X.env := by rfl) (hpl : (backTo pos (starEach [] X.env)).any (·.1) = false := by rfl) (hpl2 : (backTo q2 (starEach [] X.env)).any (·.1) = false := by rfl) :
    DL g X (.Call (.Name "sorted" p) [.Call (.Name "set" p2) [a] [] q2] [] pos) Γ ((asc xs).map aI) := fun σ H Q r q => by
  have hs : PE X (.Call (.Name "set" p2) [a] [] q2) _ := pe_callTy (cr_setT c.calm) (c.gl hg2) (c.mgN c.T.set) boot_set (pa_w (es := [a])) (by decide) (by decide) h1 hpl2
  refine ⟨_, pe_callB (cr_sortedSet c.calm) (c.gl hg) (c.mgN c.T.sorted) boot_srt (pa_cons hs pa_nil h2) (by decide) (by decide) h2 hpl, ?_⟩
  refine wA_cons (h σ H _ r fun v H1 s1 v1 => wA_nil ?_) h1
  obtain ⟨l, rfl, hl⟩ := v1.setOf
  refine ⟨l, xs, rfl, by rw [c.K]; exact .inl (.inl hl), Nat.lt_of_le_of_lt (Nat.succ_le_succ hz) (by decide), fun t n ht hn => ⟨t, _, n, rfl, upd_same, by omega, fun ns u hs hm hln hu => ?_⟩⟩
  have en : ns = asc xs := asc_eq hs fun k => by rw [hm k]; simp
  subst en
  have s2 := s1.trans (Same.newO (o' := SetO X.w t (fun j => decide (j ∈ xs)) n) ht)
  exact q u _ _ (s2.free hu) (s2.trans (Same.newO hu)) upd_same (by rw [← map_nums]; exact AVs.of_dvs (DVs.of_ints _))
/-- sorted({e for x in ..}) -/
theorem dl_ssc {α : Type} {xs : List α} {en : α → A} {pr : α → Bool} {f : α → Int} {own : List (Str × Nat)} {scope : Scope} {elt : Expr} {ifs : List Expr} {gt : TG} {Γx : α → List (Option A)} (c : Cxk g N sc k X)
    (hi : DI g X tg iter Γ Same (xs.map en)) (ok : blkC N sc scope own = true) (hk : scope.kind = .function)
    (hpg : ∀ X', Cxk g N (relS scope sc) k X' → PG X' tg gt) (hgt : ∀ x ∈ xs, TgSem g gt (own.map (·.2)) (wipeΓ Γ (own.map (·.2))) (en x) (Γx x))
    (ht : ∀ x ∈ xs, ∀ X', Cxk g N (relS scope sc) k X' → DTs g X' ifs (Γx x) (pr x))
    (he : ∀ x ∈ xs, pr x = true → ∀ X', Cxk g N (relS scope sc) k X' → DE g X' elt (Γx x) (aI (f x))) (hz : xs.length ≤ 60)
    (hs : ∀ z, foldedSetIterable iter X.env z = pure z := by intro _; rfl) (hg : GlS sc "sorted" := by rfl)
    (h2 : starEach [.SetComp elt [⟨tg, iter, ifs, 0⟩] scope p2] X.env = (false, eval (.SetComp elt [⟨tg, iter, ifs, 0⟩] scope p2) X.env) :: starEach [] X.env := by rfl) (hpl : (backTo pos (starEach [] X.env)).any (·.1) = false := by rfl) :
    DL g X (.Call (.Name "sorted" p) [.SetComp elt [⟨tg, iter, ifs, 0⟩] scope p2] [] pos) Γ ((asc ((xs.filter pr).map f)).map aI) := fun σ H Q r q => by
  let tt : TT := fun σ H Q => ∀ (s : Shared) (H0 : Hp) (C : Addr) (cl : List (Str × Addr)) (fp : List Addr), wTs (X.blk s H0 scope (compEnvC scope cl C X.env) fp) ifs σ H Q
  let te : TE := fun σ H Q => ∀ (s : Shared) (H0 : Hp) (C : Addr) (cl : List (Str × Addr)) (fp : List Addr), wE (X.blk s H0 scope (compEnvC scope cl C X.env) fp) elt σ H Q
  have cb : ∀ (s : Shared) (H0 : Hp) (C : Addr) (cl : List (Str × Addr)) (fp : List Addr), Cxk g N (relS scope sc) k (X.blk s H0 scope (compEnvC scope cl C X.env) fp) := fun s H0 C cl fp =>
    ⟨c.P, c.w, c.K, c.mg, c.base, c.calm, c.room, c.T, c.eN, rel_scope c scope cl C, hk, c.nd⟩
  have ok' : BlkOk X.N X.env.scope scope own := by
    rw [c.eN, c.eS]
    exact blkOk_by ok
  let Q2 : VK := fun v H' => rSortedSet X.w [v] H' Q
  obtain ⟨wi, p1, w1⟩ := hi σ H (fun J H1 => ∀ D, H1 D = none → ∃ W : Nat → Nat → Hp → Prop, (∃ m, W 0 m (upd H1 D (SetO X.w D (fun _ => false) 0))) ∧ ∀ i m H, W i m H →
      (J.stop i H ∧ Q2 (.ref D) H) ∨ (J.go i H ∧ ∃ Nx : Hp → Prop, (∀ H', Nx H' → ∃ m', m' < m ∧ W (i + 1) m' H') ∧ ∀ x H', J.yld i H x H' → gt x (L2.wipe σ (own.map (·.2))) H' fun σ2 H2 => L2.wipe σ2 (own.map (·.2)) = L2.wipe σ (own.map (·.2)) ∧ tt σ2 H2 fun b H3 =>
        if b = true then te σ2 H3 fun y H4 => ∃ (z : Int) (S : Int → Bool) (n : Nat), y = .int z ∧ H4 D = some (SetO X.w D S n) ∧ n + 1 < scanBound ∧ Nx (upd H4 D (SetO X.w D (fun j => S j || decide (j = z)) (if S z = true then n else n + 1))) else Nx H3)) r fun J H1 G s1 hG wk D hD => by
    let Pv : Nat → Hp → Prop := fun i H' => Same H1 H' ∧ ∃ (S : Int → Bool) (n : Nat), H' D = some (SetO X.w D S n) ∧ n ≤ i ∧ ∀ j, S j = decide (j ∈ ((xs.take i).filter pr).map f)
    refine ⟨fun i m H' => m = xs.length - i ∧ i ≤ xs.length ∧ Pv i H', ⟨xs.length, by simp, Nat.zero_le _, Same.newO hD, _, 0, upd_same, Nat.le_refl _, fun j => by simp⟩, ?_⟩
    rintro i m H' ⟨rfl, hi, t1, S, n, eS, hn, hS⟩
    have el : (xs.map en).length = xs.length := List.length_map ..
    by_cases hlt : i < xs.length
    · refine .inr ⟨wk.goes i H' (by rw [el]; exact hlt) (hG H' t1), Pv (i + 1), fun H'' p' => ⟨xs.length - (i + 1), by omega, rfl, hlt, p'⟩, fun v H'' y => ?_⟩
      obtain ⟨t2, d, hd, vd⟩ := wk.yields i H' v H'' (by rw [el]; exact hlt) (hG H' t1) y
      rw [List.getElem?_map] at hd
      have hx : xs[i]? = some xs[i] := List.getElem?_eq_getElem hlt
      rw [hx] at hd
      have ed : en xs[i] = d := Option.some.inj hd
      subst ed
      have hm : xs[i] ∈ xs := List.getElem_mem hlt
      have rr : Rel g H'' σ Γ := r.mono ((s1.trans t1).trans t2)
      refine hgt _ hm _ H'' v _ (rr.wipe _) vd fun σ2 r2 hw => ⟨hw.trans (wipe_wipe _ _), fun s H0 C cl fp => ?_⟩
      refine ht _ hm _ (cb s H0 C cl fp) σ2 H'' _ r2 fun H3 t3 => ?_
      have e3 := t3 _ _ (t2 _ _ eS)
      cases hp : pr xs[i] with
      | false =>
        refine ⟨(t1.trans t2).trans t3, S, n, e3, by omega, fun j => ?_⟩
        rw [hS j, take_snoc hx, List.filter_append, List.filter_cons, hp]
        simp only [Bool.false_eq_true, if_false, List.filter_nil, List.append_nil]
      | true =>
        show te σ2 H3 _
        intro s' H0' C' cl' fp'
        refine he _ hm hp _ (cb s' H0' C' cl' fp') σ2 H3 _ (r2.mono t3) fun y H4 t4 vy => ?_
        refine ⟨f xs[i], S, n, vy.int, t4 _ _ e3, Nat.lt_of_le_of_lt (show n + 1 ≤ 61 by omega) (by decide), Same.mut (((t1.trans t2).trans t3).trans t4) hD, _, _, upd_same, ?_, fun j => ?_⟩
        · split <;> omega
        · rw [hS j, take_snoc hx, List.filter_append, List.filter_cons, hp]
          simp only [if_true, List.filter_nil, List.map_append, List.map_cons, List.map_nil, List.mem_append, List.mem_singleton]
          by_cases h1 : j ∈ ((xs.take i).filter pr).map f <;> by_cases h2 : j = f xs[i] <;> simp [h1, h2]
    · have ei : i = xs.length := by omega
      subst ei
      refine .inl ⟨by rw [← el]; exact wk.stops H' (hG H' t1), ?_⟩
      refine ⟨D, S, n, rfl, eS, by omega, fun ns u hs' hm hln hu => ?_⟩
      have en' : ns = asc ((xs.filter pr).map f) := asc_eq hs' fun k => by
        rw [hm k, hS k, List.take_length]
        simp
      subst en'
      exact q u _ _ (s1.free (t1.free hu)) ((s1.trans t1).trans (Same.newO hu)) upd_same (by rw [← map_nums]; exact AVs.of_dvs (DVs.of_ints _))
  have hset := pe_si (pos := p2) (gt := gt) (tt := tt) (te := te) c.calm c.ndX p1 ok' (fun s H0 C cl fp => hpg _ (cb s H0 C cl fp)) (fun s H0 C cl fp => ⟨fun pins s' σ' H' Q' I' h' => pts_w.run pins s' σ' H' Q' I' (h' s H0 C cl fp)⟩)
    (fun s H0 C cl fp => ⟨fun pins s' σ' H' Q' I' h' => pe_w.run pins s' σ' H' Q' I' (h' s H0 C cl fp)⟩) hs
  exact ⟨_, pe_callB (cr_sortedSet c.calm) (c.gl hg) (c.mgN c.T.sorted) boot_srt (pa_cons hset pa_nil h2) (by decide) (by decide) h2 hpl, w1⟩
/-- a slot's list, told -/
theorem Rel.toLs {H : Hp} {σ : L2.St} {l : Addr} {xs : List V} {as : List A} (r : Rel g H σ Γ) (i : Nat) (hΓ : Γ[i]? = some (some (.obj (.ref l)))) (hl : H l = some (.lst xs)) (t : AVs g H xs as) : Rel g H σ (Γ.set i (some (.ls as))) := ⟨by rw [List.length_set]; exact r.len, fun j b e => by
  by_cases hj : i = j
  · subst hj
    have hi : i < Γ.length := (List.getElem?_eq_some_iff.mp hΓ).1
    rw [List.getElem?_set_self hi] at e
    have e' : A.ls as = b := Option.some.inj (Option.some.inj e)
    obtain ⟨v, e1, e2⟩ := r.at_ i _ hΓ
    have ev := e2.is
    subst ev
    exact ⟨_, e1, e' ▸ AV.ls hl t⟩
  · rw [List.getElem?_set_ne hj] at e
    exact r.at_ j b e⟩
/-- len of a chooser, of a trade -/
def R_lenC (as : List A) (b : A) : Prop := ∃ n f, as = [.ch n f] ∧ b = aI n ∧ n ≤ 100
def R_lenT (as : List A) (b : A) : Prop := ∃ l z, as = [.tr l z] ∧ b = aI l.length ∧ l.length ≤ 100
theorem cal_met {C : Addr} {m : Str} {sp : Sp} (c : Cxk g N sc j X) (M : C8.Met g.P g.w g.K g.mg g.base k C m sp []) : C8.Met X.prog X.w X.K X.mg X.base k C m sp [] := by
  rw [c.P, c.w, c.K, c.mg, c.base]
  exact M
theorem de_lenC {n : Nat} {f : List Int → List Int} (c : Cxk g N sc j X) (M : C8.Met g.P g.w g.K g.mg g.base k g.C "__len__" (spP g 1 R_lenC) []) (hk : k + 1 ≤ j) (h : DE g X a Γ (.ch n f)) (hn : n ≤ 100) (hg : GlS sc "len" := by rfl)
    (h1 : starEach [a] X.env = (false, eval a X.env) :: starEach [] X.env := by rfl) (hpl : (backTo pos (starEach [] X.env)).any (·.1) = false := by rfl) : DE g X (.Call (.Name "len" p) [a] [] pos) Γ (aI n) := fun σ H Q r q => by
  obtain ⟨fa, fd, ps, ds, _, hm, F, b, vd⟩ := (cal_met c M).ex
  cases vd
  refine ⟨_, pe_callB (cr_lenO hm F b (c.room.mono hk)) (c.gl hg) (c.mgN c.T.len) PySem.boot_len pa_w (by decide) (by decide) h1 hpl, wA_cons (h σ H _ r fun v H1 s1 v1 => wA_nil ?_) h1⟩
  cases v1 with
  | @ch l _ _ x =>
    obtain ⟨dx, fs, rest⟩ := id x
    obtain ⟨t, pp, e0, rest⟩ := rest
    exact ⟨l, dx, fs, rfl, e0, rfl, [.ch n f], aI n, .cons (.ch x) .nil, ⟨n, f, rfl, rfl, hn⟩, fun v H2 s2 v2 => ⟨n, v2.int, by omega, by omega, q _ H2 (s1.trans s2) (.d (.int _))⟩⟩
theorem de_lenTr {l z : List Int} (c : Cxk g N sc j X) (M : C8.Met g.P g.w g.K g.mg g.base k g.T "__len__" (spP g 1 R_lenT) []) (hk : k + 1 ≤ j) (h : DE g X a Γ (.tr l z)) (hn : l.length ≤ 100) (hg : GlS sc "len" := by rfl)
    (h1 : starEach [a] X.env = (false, eval a X.env) :: starEach [] X.env := by rfl) (hpl : (backTo pos (starEach [] X.env)).any (·.1) = false := by rfl) : DE g X (.Call (.Name "len" p) [a] [] pos) Γ (aI l.length) := fun σ H Q r q => by
  obtain ⟨fa, fd, ps, ds, _, hm, F, b, vd⟩ := (cal_met c M).ex
  cases vd
  refine ⟨_, pe_callB (cr_lenO hm F b (c.room.mono hk)) (c.gl hg) (c.mgN c.T.len) PySem.boot_len pa_w (by decide) (by decide) h1 hpl, wA_cons (h σ H _ r fun v H1 s1 v1 => wA_nil ?_) h1⟩
  cases v1 with
  | @tr t _ _ x =>
    obtain ⟨dx, fs, pp, qq, e0, rest⟩ := id x
    exact ⟨t, dx, fs, rfl, e0, rfl, [.tr l z], aI l.length, .cons (.tr x) .nil, ⟨l, z, rfl, rfl, hn⟩, fun v H2 s2 v2 => ⟨l.length, v2.int, by omega, by omega, q _ H2 (s1.trans s2) (.d (.int _))⟩⟩
end
end K85

/-! W3: together, firsts, lengths, same_offers. -/
namespace K85
open PySem PySem.Spec PyProof.Rows L2
/-- a method of the text, as it stands behind the top -/
def MethIn (g : Cfg) (C : Addr) (m qual : Str) (st : Stmt) : Prop := ∃ f fd, FunD g.K m qual (defArgs st) (defBody st) (defScope st) [] [] f fd ∧ Cls g.K C ∧ Meth g.K C m f
section
variable {g : Cfg}
theorem met_P {N ps : List Str} {sc : Scope} {k n : Nat} {m qual : Str} {params : Arguments} {body : List Stmt} {f C : Addr} {fd : FuncData} {R : List A → A → Prop} (F : FunD g.K m qual params body sc [] [] f fd) (cl : Cls g.K C) (me : Meth g.K C m f) (b : Binds g.K fd ps []) (S : FnScope N ps sc) (T : Txt g) (hn : n = ps.length)
    (h : ∀ (X : Cx), Dtx g N sc k X → ∀ (as : List A) (r : A), R as r → as.length = n → ∀ (σ : L2.St) (H : Hp) (Q : VK), Rel g H σ (as.map some ++ List.replicate (N.length - n) none) → (∀ v H1, Same H H1 → AV g H1 v r → Q v H1) →
      wB X body { nx := fun _ H' => Q .non H', rt := Q } σ H) : C8.Met g.P g.w g.K g.mg g.base (k + 1) C m (spP g n R) [] := by
  refine ⟨⟨f, fd, ps, [], cl, me, def_ok F S T (fun vs H Q E h => h.1.trans hn) fun X c vs H Q E hsp => ?_, b, .nil⟩⟩
  obtain ⟨hl, as, r, a, hr, q⟩ := hsp
  have ea : as.length = n := a.length.symm.trans hl
  have r0 := start_rel (N := N) a
  rw [ea] at r0
  exact h X c as r hr ea _ H Q r0 q
theorem S_lenC : FnScope ["self"] ["self"] (defScope s_Chooser_len) := ⟨rfl, rfl, rfl, by decide +kernel, rfl, by decide +kernel, by decide +kernel⟩
theorem ok_lenC (T : Txt g) (F : MethIn g g.C "__len__" "Chooser.__len__" s_Chooser_len) : C8.Met g.P g.w g.K g.mg g.base 1 g.C "__len__" (spP g 1 R_lenC) [] := by
  obtain ⟨f, fd, F, cl, me⟩ := F
  refine met_P F cl me (F.bindsN (ps := ["self"]) fun _ _ _ _ _ _ us hl => match us, hl with | [_], _ => rfl) S_lenC T rfl fun X c as b hR hl σ H Q r q => ?_
  obtain ⟨n, h, rfl, rfl, hn⟩ := hR
  have c' := c.toCxk
  exact wB_cons (ws_ret r (DE.is (de_lenT c' (de_places c' (de_var 0 c'))) (by simp [rngI])) q)
theorem S_lenT : FnScope ["self"] ["self"] (defScope s_Trade_len) := ⟨rfl, rfl, rfl, by decide +kernel, rfl, by decide +kernel, by decide +kernel⟩
theorem ok_lenT (T : Txt g) (F : MethIn g g.T "__len__" "Trade.__len__" s_Trade_len) : C8.Met g.P g.w g.K g.mg g.base 1 g.T "__len__" (spP g 1 R_lenT) [] := by
  obtain ⟨f, fd, F, cl, me⟩ := F
  refine met_P F cl me (F.bindsN (ps := ["self"]) fun _ _ _ _ _ _ us hl => match us, hl with | [_], _ => rfl) S_lenT T rfl fun X c as b hR hl σ H Q r q => ?_
  obtain ⟨l, z, rfl, rfl, hn⟩ := hR
  have c' := c.toCxk
  exact wB_cons (ws_ret r (DE.is (de_lenT c' (de_lives c' (de_var 0 c'))) (by simp)) q)
def R_together (as : List A) (b : A) : Prop := ∃ xs ys : List Int, as = [aSet xs, aSet ys] ∧ xs.length ≤ 20 ∧ ys.length ≤ 20 ∧ b = aSet (asc (xs ++ ys))
theorem S_together : FnScope ["one", "other"] ["one", "other"] (defScope s_together) := ⟨rfl, rfl, rfl, by decide +kernel, rfl, by decide +kernel, by decide +kernel⟩
theorem ok_together (T : Txt g) (F : DefIn g "together" s_together) : Def1 g 1 "together" (spP g 2 R_together) := by
  obtain ⟨f, fd, F, hm⟩ := F
  refine def_P F hm (F.bindsN (ps := ["one", "other"]) fun _ _ _ _ _ _ us hl => match us, hl with | [_, _], _ => rfl) S_together T rfl fun X c as b hR hl σ H Q r q => ?_
  obtain ⟨xs, ys, rfl, h1, h2, rfl⟩ := hR
  have c' := c.toCxk
  refine wB_cons (ws_ret r (de_tupI c' (dl_sset c' (DE.is (de_cat c' (de_var 0 c') (de_var 1 c') (by simp; omega)) (by rw [← List.map_append]; rfl)) (by simp; omega))) q)
/-- what lists take of a set -/
def firsts (rows : List (List Int)) (s : List Int) : List Int := asc (((rows.map fun r => first1 r s).filter fun o => !decide (dOpt o = .none)).map fun o => o.getD 0)
def R_firsts (as : List A) (b : A) : Prop := ∃ (rows : List (List Int)) (s : List Int), as = [.d (.tup (rows.map dSet)), aSet s] ∧ rows.length ≤ 50 ∧ b = aSet (firsts rows s)
theorem S_firsts : FnScope ["lists", "some", "found", "row", "one"] ["lists", "some"] (defScope s_firsts) := ⟨rfl, rfl, rfl, by decide +kernel, rfl, by decide +kernel, by decide +kernel⟩
theorem ok_firsts (T : Txt g) (F : DefIn g "firsts" s_firsts) (W : Def1 g 1 "list_first" (spP g 2 R_first1)) : Def1 g 2 "firsts" (spP g 2 R_firsts) := by
  obtain ⟨f, fd, F, hm⟩ := F
  refine def_P F hm (F.bindsN (ps := ["lists", "some"]) fun _ _ _ _ _ _ us hl => match us, hl with | [_, _], _ => rfl) S_firsts T rfl fun X c as b hR hl σ H Q r q => ?_
  obtain ⟨rows, s, rfl, hz, rfl⟩ := hR
  have c' := c.toCxk
  refine wB_cons (ws_asgC 2 c r (dc_comp (xs := rows) (e := fun x => A.d (dSet x)) (pr := fun _ => true) (f := fun x => A.d (dOpt (first1 x s))) (own := [("row", 3)]) (gt := gName 3) (Γx := fun x => [some (.d (.tup (rows.map dSet))), some (aSet s), none, some (.d (dSet x)), none]) c'
    (di_tupM c' (de_var 0 c')).same (by decide +kernel) rfl (fun X' d => pg_N d rfl rfl) (fun x hx => tg_N List.mem_cons_self) (fun x hx X' d => dts_nil)
    (fun x hx _ X' d => de_call d W (by decide) (da_cons (de_var 3 d) (da_cons (de_var 1 d) da_nil)) ⟨x, s, rfl, rfl⟩) (fun _ _ => rfl) (by omega)) fun p xs σ2 H2 h0 s2 e2 v2 r2 => ?_)
  rw [List.filter_eq_self.mpr (fun _ _ => rfl)] at v2
  have r3 := r2.toLs 2 rfl e2 v2
  refine wB_cons (ws_ret r3 (de_tupI c' (dl_ssc (xs := rows.map fun x => first1 x s) (en := fun o => A.d (dOpt o)) (pr := fun o => !decide (dOpt o = .none)) (f := fun o => o.getD 0) (own := [("one", 4)]) (gt := gName 4)
    (Γx := fun o => [some (.d (.tup (rows.map dSet))), some (aSet s), some (.ls (rows.map fun x => A.d (dOpt (first1 x s)))), none, some (.d (dOpt o))]) c' ((di_ls c' (de_var 2 c')).is (by rw [List.map_map]; rfl)) (by decide +kernel) rfl (fun X' d => pg_N d rfl rfl) (fun x hx => tg_N List.mem_cons_self)
    (fun x hx X' d => dts_one (dt_notN (de_var 4 d) de_non)) (fun o hx ho X' d => by
      cases o with
      | none => cases ho
      | some z => exact de_var 4 d) (by simp; omega)) ) fun v H3 s3 v3 => q v H3 (s2.trans s3) v3)
end
end K85

/-! L10: comprehensions with two fors, enumerate of a tuple. -/
namespace K85
open PySem PySem.Spec PyProof.Rows L2
def wPI (X : Cx) (tg iter : Expr) : TI := fun σ H R => ∃ wi, PI X tg iter wi ∧ wi σ H R
theorem pi_w {X : Cx} {tg iter : Expr} : PI X tg iter (wPI X tg iter) := ⟨fun pins s σ H R I ⟨_, p, h⟩ => p.run pins s σ H R I h⟩

/-! ### [e for x in .. for y in ..] given to a local name -/
section
variable {g : Cfg} {N : List Str} {sc : Scope} {X : Cx} {k : Nat} {Γ : List (Option A)} {tg iter tg1 iter1 elt : Expr} {x : Str} {px pos p2 : Pos} {D : Ends} {σ : L2.St} {H : Hp}
theorem ws_asgC2 {α β : Type} {xs : List α} {e : α → A} {ys : α → List β} {e1 : α → β → A} {f : α → β → A} {own : List (Str × Nat)} {vs1 : List Nat} {scope : Scope} {gt gt1 : TG} {Γx : α → List (Option A)} {Γy : α → β → List (Option A)} (i : Nat) (c : Dtx g N sc k X) (r : Rel g H σ Γ)
    (hi : DI g X tg iter Γ Same (xs.map e)) (ok : blkC N sc scope own = true) (hk : scope.kind = .function) (hv : ∀ i ∈ vs1, i ∈ own.map (·.2))
    (hpg : ∀ X', Cxk g N (relS scope sc) k X' → PG X' tg gt) (hgt : ∀ a ∈ xs, TgSem g gt (own.map (·.2)) (wipeΓ Γ (own.map (·.2))) (e a) (Γx a))
    (hi1 : ∀ a ∈ xs, ∀ X', Cxk g N (relS scope sc) k X' → DI g X' tg1 iter1 (Γx a) TK ((ys a).map (e1 a))) (hpg1 : ∀ X', Cxk g N (relS scope sc) k X' → PG X' tg1 gt1)
    (hgt1 : ∀ a ∈ xs, ∀ b ∈ ys a, TgSem g gt1 vs1 (wipeΓ (Γx a) vs1) (e1 a b) (Γy a b))
    (he : ∀ a ∈ xs, ∀ b ∈ ys a, ∀ X', Cxk g N (relS scope sc) k X' → DE g X' elt (Γy a b) (f a b)) (hn : ∀ a b, noLs (f a b) = true) (hΓx : ∀ a ∈ xs, (Γx a).all noLsO = true) (hz : (xs.flatMap ys).length ≤ 100000)
    (q : ∀ p ws σ' H1, H p = none → Same H H1 → H1 p = some (.lst ws) → AVs g H1 ws (xs.flatMap fun a => (ys a).map (f a)) → Rel g H1 σ' (Γ.set i (some (.obj (.ref p)))) → D.nx σ' H1)
    (hix : N[i]? = some x := by rfl) (hl : sc.names.lookup x = some .local := by rfl) (hline : (px.line == p2.line) = true := by rfl) (hno : (scope.names.any fun (n, k) => n == x && (k == .local || k == .cell)) = false := by decide +kernel)
    (hs : ∀ z, foldedSetIterable iter X.env z = pure z := by intro _; rfl) (hs1 : ∀ env z, foldedSetIterable iter1 env z = pure z := by intro _ _; rfl) :
    wS X (.Assign [.Name x px] (.ListComp elt [⟨tg, iter, [], 0⟩, ⟨tg1, iter1, [], 0⟩] scope p2) pos) D σ H := by
  let vs := own.map (·.2)
  let te : TE := fun σ H Q => ∀ (s : Shared) (H0 : Hp) (C : Addr) (cl : List (Str × Addr)) (fp : List Addr), wE (X.blk s H0 scope (compEnvC scope cl C X.env) fp) elt σ H Q
  let wi1 : TI := fun σ H R => ∀ (s : Shared) (H0 : Hp) (C : Addr) (cl : List (Str × Addr)) (fp : List Addr), wPI (X.blk s H0 scope (compEnvC scope cl C X.env) fp) tg1 iter1 σ H R
  have cb : ∀ (s : Shared) (H0 : Hp) (C : Addr) (cl : List (Str × Addr)) (fp : List Addr), Cxk g N (relS scope sc) k (X.blk s H0 scope (compEnvC scope cl C X.env) fp) := fun s H0 C cl fp =>
    ⟨c.P, c.w, c.K, c.mg, c.base, c.calm, c.room, c.T, c.eN, rel_scope c.toCxk scope cl C, hk, c.nd⟩
  have ok' : BlkOk X.N X.env.scope scope own := by
    rw [c.eN, c.eS]
    exact blkOk_by ok
  have hl' : X.env.scope.names.lookup x = some .local := by rw [c.eS]; exact hl
  let Q : VK := fun v H1 => gName i v σ H1 D.nx
  obtain ⟨wi, p1, w1⟩ := hi σ H (fun J H1 => ∀ D, H1 D = none → ∃ W : Nat → Nat → Hp → Prop, (∃ m, W 0 m (upd H1 D (.lst []))) ∧ ∀ i m H, W i m H →
      (J.stop i H ∧ Q (.ref D) H) ∨ (J.go i H ∧ ∃ Nx : Hp → Prop, (∀ H', Nx H' → ∃ m', m' < m ∧ W (i + 1) m' H') ∧ ∀ x H', J.yld i H x H' → gt x (L2.wipe σ vs) H' fun σ2 H2 => L2.wipe σ2 vs = L2.wipe σ vs ∧ tYes σ2 H2 fun b H3 =>
        if b = true then wi1 σ2 H3 fun J1 H4 => ∃ W1 : Nat → Nat → Hp → Prop, (∃ m, W1 0 m H4) ∧ ∀ j k H, W1 j k H →
          (J1.stop j H ∧ Nx H) ∨ (J1.go j H ∧ ∃ Nx1 : Hp → Prop, (∀ H', Nx1 H' → ∃ k', k' < k ∧ W1 (j + 1) k' H') ∧ ∀ x H', J1.yld j H x H' → gt1 x (L2.wipe σ2 vs1) H' fun σ3 H5 => L2.wipe σ3 vs1 = L2.wipe σ2 vs1 ∧ tYes σ3 H5 fun b H6 =>
            if b = true then te σ3 H6 fun y H7 => ∃ acc, H7 D = some (.lst acc) ∧ acc.length < sizeLine ∧ Nx1 (upd H7 D (.lst (acc ++ [y]))) else Nx1 H6)
        else Nx H3)) r fun J H1 G s1 hG wk Da hD => by
    let out : Nat → List A := fun i => (xs.take i).flatMap fun a => (ys a).map (f a)
    let Pv : Nat → Hp → Prop := fun i H' => Same H1 H' ∧ ∃ acc, H' Da = some (.lst acc) ∧ AVs g H' acc (out i)
    have hnl : ∀ i, ∀ z ∈ out i, noLs z = true := fun i z hz => by
      obtain ⟨a, _, h2⟩ := List.mem_flatMap.mp hz
      obtain ⟨b, _, rfl⟩ := List.mem_map.mp h2
      exact hn a b
    have el : (xs.map e).length = xs.length := List.length_map ..
    refine ⟨fun i m H' => m = xs.length - i ∧ i ≤ xs.length ∧ Pv i H', ⟨xs.length, by simp, Nat.zero_le _, Same.newO hD, [], upd_same, by simpa [out] using AVs.nil⟩, ?_⟩
    rintro i m H' ⟨rfl, hi, t1, acc, ea, ta⟩
    by_cases hlt : i < xs.length
    · refine .inr ⟨wk.goes i H' (by rw [el]; exact hlt) (hG H' t1), Pv (i + 1), fun H'' p' => ⟨xs.length - (i + 1), by omega, rfl, hlt, p'⟩, fun v H'' y => ?_⟩
      obtain ⟨t2, d, hd, vd⟩ := wk.yields i H' v H'' (by rw [el]; exact hlt) (hG H' t1) y
      rw [List.getElem?_map] at hd
      have hx : xs[i]? = some xs[i] := List.getElem?_eq_getElem hlt
      rw [hx] at hd
      have ed : e xs[i] = d := Option.some.inj hd
      subst ed
      have hm : xs[i] ∈ xs := List.getElem_mem hlt
      have rr : Rel g H'' σ Γ := r.mono ((s1.trans t1).trans t2)
      refine hgt _ hm _ H'' v _ (rr.wipe _) vd fun σ2 r2 hw => ⟨hw.trans (wipe_wipe _ _), ?_⟩
      show wi1 σ2 H'' _
      intro s0 H0 C0 cl0 fp0
      have ta2 := ta.mono t2
      have ea2 := t2 _ _ ea
      refine hi1 _ hm _ (cb s0 H0 C0 cl0 fp0) σ2 H'' _ r2 fun J1 H4 G1 s4 hG1 wk1 => ?_
      have ta4 := ta2.mono s4
      have ea4 := s4 _ _ ea2
      let out1 : Nat → List A := fun j => out i ++ ((ys xs[i]).take j).map (f xs[i])
      let Pw : Nat → Hp → Prop := fun j H' => Same H1 H' ∧ But Da H4 H' ∧ ∃ acc, H' Da = some (.lst acc) ∧ AVs g H' acc (out1 j)
      have hnl1 : ∀ j, ∀ z ∈ out1 j, noLs z = true := fun j z hz => by
        rcases List.mem_append.mp hz with hz | hz
        · exact hnl i z hz
        · obtain ⟨b, _, rfl⟩ := List.mem_map.mp hz
          exact hn _ b
      have el1 : ((ys xs[i]).map (e1 xs[i])).length = (ys xs[i]).length := List.length_map ..
      have tk4 : ∀ {H' : Hp}, But Da H4 H' → TK H4 H' := fun {H'} b => b.tk ea4 fun _ => by intro z; cases z
      refine ⟨fun j n H' => n = (ys xs[i]).length - j ∧ j ≤ (ys xs[i]).length ∧ Pw j H', ⟨(ys xs[i]).length, by simp, Nat.zero_le _, (t1.trans t2).trans s4, fun b o _ e => e, acc, ea4, by simpa [out1] using ta4⟩, ?_⟩
      rintro j n H5 ⟨rfl, hj, u1, u2, acc5, ea5, ta5⟩
      by_cases hjt : j < (ys xs[i]).length
      · refine .inr ⟨wk1.goes j H5 (by rw [el1]; exact hjt) (hG1 H5 (tk4 u2)), Pw (j + 1), fun H6 p' => ⟨(ys xs[i]).length - (j + 1), by omega, rfl, hjt, p'⟩, fun v5 H6 y5 => ?_⟩
        obtain ⟨t6, d6, hd6, vd6⟩ := wk1.yields j H5 v5 H6 (by rw [el1]; exact hjt) (hG1 H5 (tk4 u2)) y5
        rw [List.getElem?_map] at hd6
        have hy : (ys xs[i])[j]? = some (ys xs[i])[j] := List.getElem?_eq_getElem hjt
        rw [hy] at hd6
        have ed6 : e1 xs[i] (ys xs[i])[j] = d6 := Option.some.inj hd6
        subst ed6
        have hmy : (ys xs[i])[j] ∈ ys xs[i] := List.getElem_mem hjt
        have kp6 : Kp H'' H6 := (Kp.of s4).trans ((u2.kp ea4 rfl).trans (Kp.of t6))
        have r6 : Rel g H6 σ2 (Γx xs[i]) := r2.kp kp6 (hΓx _ hm)
        refine hgt1 _ hm _ hmy _ H6 v5 _ (r6.wipe _) vd6 fun σ3 r3 hw3 => ⟨hw3.trans (wipe_wipe _ _), ?_⟩
        show te σ3 H6 _
        intro s7 H7 C7 cl7 fp7
        refine he _ hm _ hmy _ (cb s7 H7 C7 cl7 fp7) σ3 H6 _ r3 fun y8 H8 t8 vy => ?_
        have ea8 := t8 _ _ (t6 _ _ ea5)
        have kk : Kp H8 (upd H8 Da (.lst (acc5 ++ [y8]))) := Kp.up ea8 rfl
        have hlen : acc5.length < sizeLine := by
          have h1 := ta5.length
          have h2 : (out1 j).length ≤ (xs.flatMap ys).length := by
            have e1 : (out1 j).length = ((xs.take i).flatMap ys).length + ((ys xs[i]).take j).length := by
              simp only [out1, out, List.length_append, List.length_map, List.length_flatMap]
            have e2 : (xs.flatMap ys).length = ((xs.take i).flatMap ys).length + (ys xs[i]).length + ((xs.drop (i + 1)).flatMap ys).length := by
              have : xs = xs.take i ++ (xs[i] :: xs.drop (i + 1)) := by simp
              conv => lhs; rw [this]
              rw [List.flatMap_append, List.flatMap_cons, List.length_append, List.length_append]
              omega
            have e3 : ((ys xs[i]).take j).length ≤ (ys xs[i]).length := by rw [List.length_take]; omega
            omega
          rw [sizeLine_eq]
          omega
        refine ⟨acc5, ea8, hlen, Same.mut ((u1.trans t6).trans t8) hD, fun b o hb e => ?_, acc5 ++ [y8], upd_same, ?_⟩
        · rw [upd_ne hb]
          exact t8 _ _ (t6 _ _ (u2 b o hb e))
        · have e9 : out1 (j + 1) = out1 j ++ [f xs[i] (ys xs[i])[j]] := by
            simp only [out1]
            rw [take_snoc hy, List.map_append, List.append_assoc]
            rfl
          rw [e9]
          exact AVs.snoc (((ta5.mono t6).mono t8).kp kk (hnl1 j)) (vy.kp kk (hn _ _))
      · have ej : j = (ys xs[i]).length := by omega
        subst ej
        refine .inl ⟨by rw [← el1]; exact wk1.stops H5 (hG1 H5 (tk4 u2)), u1, acc5, ea5, ?_⟩
        have e9 : out (i + 1) = out1 (ys xs[i]).length := by
          simp only [out, out1]
          rw [take_snoc hx, List.flatMap_append, List.take_length]
          simp
        rw [e9]
        exact ta5
    · have ei : i = xs.length := by omega
      subst ei
      refine .inl ⟨by rw [← el]; exact wk.stops H' (hG H' t1), ?_⟩
      have ta' : AVs g H' acc (xs.flatMap fun a => (ys a).map (f a)) := by
        have := ta
        simp only [out, List.take_length] at this
        exact this
      exact q Da acc _ H' (s1.free hD) (s1.trans t1) ea ta' ((r.mono (s1.trans t1)).set _ (.obj _))
  exact ⟨_, ps_setLc2 c.calm c.ndX (c.at_ hix) hl' (sw_true (by rw [c.eS]; exact c.kind) hl' hline hno) p1 ok' hv (fun s H0 C cl fp => hpg _ (cb s H0 C cl fp)) (fun _ _ _ _ _ => pts_nil)
    (fun s H0 C cl fp => ⟨fun pins s' σ' H' Q' I' h' => pi_w.run pins s' σ' H' Q' I' (h' s H0 C cl fp)⟩) (fun s H0 C cl fp => hpg1 _ (cb s H0 C cl fp)) (fun _ _ _ _ _ => pts_nil) (fun s H0 C cl fp => ⟨fun pins s' σ' H' Q' I' h' => pe_w.run pins s' σ' H' Q' I' (h' s H0 C cl fp)⟩) hs hs1, w1⟩
end
end K85

/-! L11: extend, enumerate of a tuple, subscripts of lists, instances made, fields stored. -/
namespace K85
open PySem PySem.Spec PyProof.Rows L2
theorem TgSem.sub {g : Cfg} {gt : TG} {vs : List Nat} {Γ0 Γ1 Γ2 : List (Option A)} {a : A} (h : TgSem g gt vs Γ0 a Γ1) (s : subΓ Γ2 Γ1) : TgSem g gt vs Γ0 a Γ2 := fun σ H v Q r x q => h σ H v Q r x fun σ2 r2 w => q σ2 (r2.sub s) w
section
variable {g : Cfg} {N : List Str} {sc : Scope} {X : Cx} {j k : Nat} {Γ : List (Option A)} {e a b o : Expr} {es : List Expr} {x : Str} {pos p px apos cpos tpos : Pos} {D : Ends} {σ : L2.St} {H : Hp} {i : Nat}
/-- x.extend(y): two lists, told apart -/
theorem ws_ext {l m : Addr} {xs zs : List V} (c : Dtx g N sc k X) (r : Rel g H σ Γ) (ho : DE g X o Γ (.obj (.ref l))) (he : DE g X e Γ (.obj (.ref m))) (hl : H l = some (.lst xs)) (hm : H m = some (.lst zs)) (hz : xs.length + zs.length ≤ 100000)
    (q : ∀ H1, But l H H1 → H1 l = some (.lst (xs ++ zs)) → D.nx σ H1)
    (hs : swapsWith (.Call (.Attribute o "extend" apos) [e] [] cpos) none pos.line X.env = pure false := by rfl)
    (h1 : starEach [e] X.env = (false, eval e X.env) :: starEach [] X.env := by rfl) (pe : ∀ (t : TE), PE X o t → PE X (.Call (.Attribute o "extend" apos) [e] [] cpos) (tBM X.K "list" rExtend t (wA X [e])) := by exact fun _ p => pe_bm PySem.F.plainAttrs_list PySem.F.slot_list_extend PySem.F.type_list_extend mt_extend p pa_w) :
    wS X (.Expr (.Call (.Attribute o "extend" apos) [e] [] cpos) pos) D σ H :=
  ⟨_, ps_expr (pe _ pe_w) hs, ho σ H _ r fun v H1 s1 v1 => by
    have ev := v1.is
    subst ev
    refine ⟨.inl ⟨rfl, xs, .inl (.inl (s1 _ _ hl))⟩, wA_cons (he σ H1 _ (r.mono s1) fun u H2 s2 u2 => wA_nil ?_) h1⟩
    have eu := u2.is
    subst eu
    have s := s1.trans s2
    refine ⟨l, m, xs, zs, rfl, rfl, s _ _ hl, s _ _ hm, Nat.le_trans hz (by decide), q _ (fun b o' hb e' => ?_) upd_same⟩
    rw [upd_ne hb]
    exact s _ _ e'⟩
/-- xs[i], xs a list that is told -/
theorem c_ixL (c : Cxk g N sc k X) : IxR X (rIxL g.K) := by
  rw [← c.K]
  exact ix_list
theorem AVs.get {H : Hp} : ∀ {vs : List V} {as : List A} {i : Nat} {z : A}, AVs g H vs as → as[i]? = some z → ∃ v, vs[i]? = some v ∧ AV g H v z
  | _, [], _, _, _, e => by simp at e
  | _, y :: as, 0, z, h, e => by
    cases h with
    | cons x t =>
      have q : y = z := Option.some.inj e
      exact ⟨_, rfl, q ▸ x⟩
  | _, y :: as, i + 1, z, h, e => by
    cases h with
    | cons x t =>
      obtain ⟨v, e1, e2⟩ := AVs.get t (i := i) (z := z) (by simpa using e)
      exact ⟨v, by simpa using e1, e2⟩
theorem de_ixL {as : List A} {i : Int} {z : A} (c : Cxk g N sc k X) (ha : DE g X a Γ (.ls as)) (hb : DE g X b Γ (aI i)) (h : atI as i = some z) (hs : PlainIx b := by exact fun _ _ => rfl) : DE g X (.Subscript a b pos) Γ z := fun σ H Q rl q =>
  ⟨_, pe_ix (c_ixL c) pe_w pe_w hs, two (ta := wE X a) ha hb rl fun v u H1 s1 v1 u1 => by
    cases v1 with
    | @ls l xs _ hl t =>
      have lx := t.length
      unfold atI at h
      cases hi : ixN as.length i with
      | none =>
        rw [hi] at h
        cases h
      | some j =>
        rw [hi] at h
        obtain ⟨v, e1, e2⟩ := AVs.get t (show as[j]? = some z from h)
        refine ⟨l, xs, i, v, rfl, u1.int, .inl (.inl hl), ?_, q v H1 s1 e2⟩
        unfold atI
        rw [lx, hi]
        exact e1⟩
/-- a list held by a name, whose content stands -/
theorem de_nm {l : Addr} {xs : List V} {as : List A} (h : DE g X e Γ (.obj (.ref l))) : (∀ H, H l = some (.lst xs) → AVs g H xs as → ∀ σ (Q : VK), Rel g H σ Γ → (∀ v H1, Same H H1 → AV g H1 v (.ls as) → Q v H1) → wE X e σ H Q) := fun H hl t σ Q r q =>
  h σ H Q r fun v H1 s1 v1 => by
    have ev := v1.is
    subst ev
    exact q _ H1 s1 (.ls (s1 _ _ hl) (t.mono s1))
end

/-! ### enumerate(t), t a tuple -/
theorem meets_enumT (t : Addr) (items : Array Value) : Meets (Builtin.«enumerate.__new__» ⟨[.type "enumerate", .ref t], []⟩) (fun _ R s => s.heap.IsTuple t items ∧
    R (.ok (.ret (.ref (s.heap.push { cls := .type "tuple_iterator", data := .fields #[.ref t, .int 0 0] }).objs.size)))
      { s with heap := (s.heap.push { cls := .type "tuple_iterator", data := .fields #[.ref t, .int 0 0] }).push { cls := .type "enumerate", data := .fields #[.none, .bool false, .ref s.heap.objs.size, rawInt 0, .none, .none] } }) :=
  .of_wp fun prog w A R s h => by
    obtain ⟨hp, gs, d, tk, os⟩ := s
    obtain ⟨h1, h⟩ := h
    have hsub := sub_enumerate
    have q1 : ∀ {A' : Around} {E : Value → Shared → Prop} {Q : Value → Shared → Prop}, Q (.ref hp.objs.size) ⟨hp.push { cls := .type "tuple_iterator", data := .fields #[.ref t, .int 0 0] }, gs, d, tk, os⟩ → wpAny (model prog w) A' (pyIter (.ref t)) Q E ⟨hp, gs, d, tk, os⟩ :=
      fun q => (begins_tuple t items).iter prog w _ _ ⟨hp, gs, d, tk, os⟩ _ h1 q
    wp_walk using q1
    refine wpAny_stack_any fun st => wpAny_pure ?_
    split
    · rename_i c _ _ _ _ _
      cases (c == Value.type "enumerate")
      · wp_walk using q1
        exact ⟨_, rfl, h⟩
      · wp_walk using q1
        exact ⟨_, rfl, h⟩
    · wp_walk using q1
      exact ⟨_, rfl, h⟩
theorem call_enumT {prog : Program} {w : World} {A : Around} {E : Value → Shared → Prop} {s : Shared} {t : Addr} {items : Array Value} {Q : Value → Shared → Prop} (hT : s.heap.IsTuple t items)
    (h : ∀ h', IsEnum h' (s.heap.objs.size + 1) s.heap.objs.size 0 .none → h'.IsTupleIter s.heap.objs.size t 0 → (∀ b o, s.heap.get? b = some o → h'.get? b = some o) → Q (.ref (s.heap.objs.size + 1)) { s with heap := h' }) :
    wpAny (model prog w) A (call (.type "enumerate") [.ref t]) Q E s := by
  refine callType_new F.called_enumerate (by decide) (F.typeCall_enumerate_1 _) (F.newCall_enumerate_1 _) (fun obj => F.args_object_init_2 obj _) F.entry_enumerate_new (meets_enumT t items) ⟨hT, ?_⟩
  have hz : (s.heap.push { cls := .type "tuple_iterator", data := .fields #[.ref t, .int 0 0] }).objs.size = s.heap.objs.size + 1 := Heap.size_push ..
  show _ ∧ _
  rw [hz]
  have he : IsEnum ((s.heap.push { cls := .type "tuple_iterator", data := .fields #[.ref t, .int 0 0] }).push { cls := .type "enumerate", data := .fields #[.none, .bool false, .ref s.heap.objs.size, rawInt 0, .none, .none] }) (s.heap.objs.size + 1) s.heap.objs.size 0 .none := by
    have := Heap.get?_push_size (s.heap.push { cls := .type "tuple_iterator", data := .fields #[.ref t, .int 0 0] }) (o := { cls := .type "enumerate", data := .fields #[.none, .bool false, .ref s.heap.objs.size, rawInt 0, .none, .none] }) rfl
    rw [hz] at this
    exact this
  refine ⟨⟨_, he, rfl⟩, h _ he ⟨_, Heap.get?_push_of_some _ (Heap.get?_push_size _ rfl), rfl, rfl⟩ fun b o x => Heap.get?_push_of_some _ (Heap.get?_push_of_some _ x)⟩
/-- the tuple at a, each item in a new pair with its place -/
def ItT (K : PySem.W.Frag) (a : Addr) : It :=
  ⟨fun i H => ∃ (xs : List V) (x : V), SqT K H a xs ∧ xs[i]? = some x, fun i H v H' => ∃ T x, v = .ref T ∧ H T = none ∧ H' = upd H T (.tup [.int (i : Nat), x]) ∧ ∀ xs, SqT K H a xs → xs[i]? = some x, fun i H => ∃ xs : List V, SqT K H a xs ∧ xs.length = i⟩
theorem turn_enumT {P : Program} {w : World} {K : PySem.W.Frag} {elts : List Expr} {kk : Nat} {tpos : Pos} (a e it : Addr) (hea : e ≠ a) (hia : a ≠ it) :
    Turn P w K (.Tuple elts kk tpos) (ItT K a) [e, it] e (fun i h => (∃ old, IsEnum h e it ((i : Nat) : Int) old) ∧ h.IsTupleIter it a i ∧ e ≠ it) where
  mem := by simp
  obj := fun i h st b hb => by
    obtain ⟨⟨old, he⟩, ⟨o, ho, hc, hd⟩, _⟩ := st
    have e' : b = e ∨ b = it := by simpa using hb
    rcases e' with z | z
    · rw [z]
      exact ⟨_, he, fun v q => nomatch q⟩
    · rw [z]
      exact ⟨o, ho, fun v q => by rw [hd] at q; cases q⟩
  keep := fun i h h' st kp => by
    obtain ⟨⟨old, he⟩, hi, hne⟩ := st
    exact ⟨⟨old, kp e (by simp) _ he⟩, hi.at fun o q => kp it (by simp) o q, hne⟩
  item := by
    intro X hP hw hK hc i pins s σ H E I hf st hg
    subst hP hw hK
    obtain ⟨⟨old, he⟩, hit, hne⟩ := st
    obtain ⟨xs, x, hq, hx⟩ := hg
    obtain ⟨its, rv, pt, hz⟩ := I.tuple hq
    have hlt : i < its.toArray.size := by
      have h1 := (List.getElem?_eq_some_iff.mp hx).1
      have h2 := rv.length
      simp
      omega
    have D : Draws X.prog X.w X.A.in1 it [it, a] its.toArray.size (fun i v => its.toArray[i]? = some v) (fun i h => h.IsTupleIter it a i ∧ h.IsTuple a its.toArray) := Draws.tuple (A := X.A.in1) (show X.A.in1.handled = none from I.ok.hd hc) it a hia its.toArray
    have hel : e < s.heap.objs.size := Heap.lt_size he
    have hil : it < s.heap.objs.size := by
      obtain ⟨_, q, _⟩ := hit
      exact Heap.lt_size q
    refine wpAny_pyNext_enum_itemD D he ⟨hit, pt⟩ hlt hne (by simp [hne, hea]) fun y h' tk hy ho hst hT hsz hk => ?_
    obtain ⟨u, hu, ru⟩ := rv.get hx
    have ey : y = u := by
      have h2 : its[i]? = some y := by simpa using hy
      rw [hu] at h2
      exact (Option.some.inj h2).symm
    subst ey
    refine ⟨_, rfl, wpAny_letOwnedTupleGo_enum (s := { s with heap := h', toks := tk + 1 }) ho fun h'' he' sb => ?_⟩
    have hT2 : h''.get? s.heap.objs.size = some { cls := .type "tuple", data := .seq #[.int i tk, y] } := (sb.2 _ (Nat.ne_of_gt hel)).trans hT
    have new : ObjOk X.prog X.w (upd H s.heap.objs.size (.tup [.int (i : Nat), x])) h'' s.heap.objs.size (.tup [.int (i : Nat), x]) :=
      ⟨by show 2 ≤ sizeLine; decide, [.int i tk, y], .cons ⟨_, rfl⟩ (.cons ru .nil), ⟨_, hT2, rfl, _, rfl⟩⟩
    have I1 : Inv X pins σ (upd H s.heap.objs.size (.tup [.int (i : Nat), x])) { s with heap := h'', toks := tk + 1 } := by
      refine I.turnedNew (ch := [e, it]) (fun b ob hb q => ?_) hf (Nat.le_refl _) new
      have nb : b ≠ e ∧ b ≠ it := by simpa using hb
      exact (sb.2 b nb.1).trans (hk b ob nb.1 nb.2 q)
    refine ⟨.ref s.heap.objs.size, _, I1, rfl, ⟨_, x, rfl, I.hok.fresh (Nat.le_refl _), rfl, fun ys hy' => ?_⟩, ⟨⟨y, ?_⟩, hst.1.at fun o q => (sb.2 it (Ne.symm hne)).trans q, hne⟩, fun b hb => ?_⟩
    · rw [I.tuple_inj hy' hq]
      exact hx
    · have e1 : ((i + 1 : Nat) : Int) = (i : Int) + 1 := by omega
      rw [e1]
      exact he'
    · have hb' : b < s.heap.objs.size := by
        have e' : b = e ∨ b = it := by simpa using hb
        rcases e' with z | z
        · rw [z]; exact hel
        · rw [z]; exact hil
      rw [upd_ne (Nat.ne_of_lt hb')]
      exact (hf b hb).1
  done := by
    intro X hP hw hK hc i pins s σ H E I hf st hg
    subst hP hw hK
    obtain ⟨⟨old, he⟩, hit, hne⟩ := st
    obtain ⟨xs, hq, hx⟩ := hg
    obtain ⟨its, rv, pt, hz⟩ := I.tuple hq
    obtain ⟨f0, f1, f2, f3, f4, f5⟩ := hf it (by simp)
    have D : Draws X.prog X.w X.A.in1 it [it, a] its.toArray.size (fun i v => its.toArray[i]? = some v) (fun i h => h.IsTupleIter it a i ∧ h.IsTuple a its.toArray) := Draws.tuple (A := X.A.in1) (show X.A.in1.handled = none from I.ok.hd hc) it a hia its.toArray
    have el : i = its.toArray.size := by
      have h2 := rv.length
      simp
      omega
    subst el
    exact wpAny_pyNext_enum_endD D he ⟨hit, pt⟩ fun h' eb => ⟨rfl, I.turned (t' := s.toks) (fun b o hb q => eb b o hb q) f0 f1 f3 f4 f5⟩
  self := fun A i s Q E st h => by
    obtain ⟨⟨_, he⟩, _⟩ := st
    exact wpAny_pyIter_enum he h
def iEnT (K : PySem.W.Frag) (te : TA) : TI := fun σ H R => te σ H fun vs H1 => ∃ a xs, vs = [.ref a] ∧ SqT K H1 a xs ∧ R (ItT K a) H1
theorem pi_enT {X : Cx} {e : Expr} {ta : TA} {p pos tpos : Pos} {elts : List Expr} {kk : Nat} (hg : Gl X "enumerate") (hm : X.mg "enumerate" = none) (ha : PA X [e] ta) (hs : starEach [e] X.env = [(false, eval e X.env)] := by rfl) :
    PI X (.Tuple elts kk tpos) (.Call (.Name "enumerate" p) [e] [] pos) (iEnT X.K ta) := by
  refine ⟨fun pins s σ H R I h => ?_⟩
  refine Call_ (ld_blt I hg hm boot_enumerate (PyProof.Rows.callWith_type1 (thn (ha.run pos pins s σ H _ I h) fun us s1 ⟨vs, H1, I1, r1, a, xs, ex, hq, q⟩ => ?_) hs rfl))
  subst ex
  rw [Vals.ref1 r1]
  obtain ⟨its, rv, pt, hz⟩ := I1.tuple hq
  refine call_enumT pt fun h' he hit hk => wpAny_pyIter_enum he ?_
  have hlt : a < s1.heap.objs.size := by
    obtain ⟨_, q, _⟩ := pt
    exact Heap.lt_size q
  have hle : ∀ b ∈ [s1.heap.objs.size + 1, s1.heap.objs.size], s1.heap.objs.size ≤ b := fun b hb => by
    have e' : b = s1.heap.objs.size + 1 ∨ b = s1.heap.objs.size := by simpa using hb
    rcases e' with z | z
    · rw [z]; exact Nat.le_add_right _ _
    · rw [z]; exact Nat.le_refl _
  exact ⟨s1.heap.objs.size + 1, [s1.heap.objs.size + 1, s1.heap.objs.size], _, _, H1, rfl, I1.kept (t' := s1.toks) hk, turn_enumT a _ _ (Nat.ne_of_gt (Nat.lt_succ_of_lt hlt)) (Nat.ne_of_lt hlt), ⟨⟨.none, he⟩, hit, Nat.succ_ne_self _⟩, fun b hb => I1.fpOk (hle b hb) (I1.hok.fresh (hle b hb)), q⟩
section
variable {g : Cfg} {N : List Str} {sc : Scope} {X : Cx} {k : Nat} {Γ : List (Option A)} {a : Expr} {elts : List Expr} {kk : Nat} {p pos tpos : Pos}
theorem di_enT {ds : List Dt} (c : Cxk g N sc k X) (h : DE g X a Γ (.d (.tup ds))) (hg : GlS sc "enumerate" := by rfl) (h1 : starEach [a] X.env = (false, eval a X.env) :: starEach [] X.env := by rfl) (hs : starEach [a] X.env = [(false, eval a X.env)] := by rfl) :
    DI g X (.Tuple elts kk tpos) (.Call (.Name "enumerate" p) [a] [] pos) Γ TK (ds.mapIdx fun i d => A.d (.tup [.num ((i : Nat) : Int), d])) := fun σ H R r q =>
  ⟨_, pi_enT (c.gl hg) (c.mgN c.T.enumerate) (pa_cons pe_w pa_nil h1) hs, h σ H _ r fun v H1 s1 v1 => by
    obtain ⟨l, xs, rfl, hl, t⟩ := v1.tupOf
    have hx := t.length
    refine ⟨l, xs, rfl, .inl (.inl hl), q _ H1 (fun H' => H' l = some (.tup xs) ∧ DVs H' xs ds) s1 (fun H' st => ⟨st _ _ hl, t.mono st⟩) ⟨fun i H' hi w => ?_, fun H' w => ?_, fun i H' v H'' hi w y => ?_⟩⟩
    · have hi' : i < xs.length := by simpa [hx] using hi
      exact ⟨xs, xs[i], .inl (.inl w.1), List.getElem?_eq_getElem hi'⟩
    · exact ⟨xs, .inl (.inl w.1), by simp [hx]⟩
    · obtain ⟨T, u, rfl, hT, rfl, hy⟩ := y
      have e := hy xs (.inl (.inl w.1))
      obtain ⟨d, e1, e2⟩ := w.2.at e
      have ss := Same.newO (o' := .tup [.int (i : Nat), u]) hT
      exact ⟨ss, .d (.tup [.num ((i : Nat) : Int), d]), by simp [List.getElem?_mapIdx, e1], .d (.tup upd_same (.cons (.int _) (.cons (e2.mono (TK.of ss)) .nil)))⟩⟩
end
end K85

/-! W4: same_offers, all_sets. -/
namespace K85
open PySem PySem.Spec PyProof.Rows L2
def lenA : A → Option Nat
  | .ch n _ => some n
  | .tr l _ => some l.length
  | _ => none
abbrev LenC (g : Cfg) : Prop := C8.Met g.P g.w g.K g.mg g.base 1 g.C "__len__" (spP g 1 R_lenC) []
abbrev LenT (g : Cfg) : Prop := C8.Met g.P g.w g.K g.mg g.base 1 g.T "__len__" (spP g 1 R_lenT) []
section
variable {g : Cfg} {N : List Str} {sc : Scope} {X : Cx} {j k : Nat} {Γ : List (Option A)} {a : Expr} {pos p : Pos}
theorem useL {as : List A} {e : Expr} {σ : L2.St} {H : Hp} {Q : VK} (r : Rel g H σ Γ) (h : DL g X e Γ as) (q : ∀ p xs H1, H p = none → Same H H1 → H1 p = some (.lst xs) → AVs g H1 xs as → Q (.ref p) H1) : wE X e σ H Q := h σ H Q r q
theorem useE {z : A} {e : Expr} {σ : L2.St} {H : Hp} {Q : VK} (r : Rel g H σ Γ) (h : DE g X e Γ z) (q : ∀ v H1, Same H H1 → AV g H1 v z → Q v H1) : wE X e σ H Q := h σ H Q r q
theorem de_lenA {z : A} {n : Nat} (c : Cxk g N sc j X) (MC : LenC g) (MT : LenT g) (hj : 2 ≤ j) (h : DE g X a Γ z) (hl : lenA z = some n) (hn : n ≤ 100) (hg : GlS sc "len" := by rfl)
    (h1 : starEach [a] X.env = (false, eval a X.env) :: starEach [] X.env := by rfl) (hpl : (backTo pos (starEach [] X.env)).any (·.1) = false := by rfl) : DE g X (.Call (.Name "len" p) [a] [] pos) Γ (aI n) := by
  cases z with
  | ch m f =>
    have e : m = n := Option.some.inj hl
    subst e
    exact de_lenC c MC hj h hn hg h1 hpl
  | tr l z =>
    have e : l.length = n := Option.some.inj hl
    subst e
    exact de_lenTr c MT hj h hn hg h1 hpl
  | _ => cases hl
def R_same (as : List A) (b : A) : Prop := ∃ (z y : A) (n : Nat), as = [.ls [z, y]] ∧ lenA z = some n ∧ lenA y = some n ∧ n ≤ 100 ∧ b = .d .none
theorem S_same : FnScope ["things", "thing"] ["things"] (defScope s_same_offers) := ⟨rfl, rfl, rfl, by decide +kernel, rfl, by decide +kernel, by decide +kernel⟩
theorem ok_same (T : Txt g) (F : DefIn g "same_offers" s_same_offers) (MC : LenC g) (MT : LenT g) : Def1 g 3 "same_offers" (spP g 1 R_same) := by
  obtain ⟨f, fd, F, hm⟩ := F
  refine def_P F hm (F.bindsN (ps := ["things"]) fun _ _ _ _ _ _ us hl => match us, hl with | [_], _ => rfl) S_same T rfl fun X c as b hR hl σ H Q r q => ?_
  obtain ⟨z, y, n, rfl, hz, hy, hn, rfl⟩ := hR
  have c' := c.toCxk
  refine wB_cons (ws_for c r (di_ls c' (de_var 0 c')) (pg_ND (i := 1) c rfl (.inl rfl)) fun H3 s3 => ?_)
  refine ⟨fun i σ' H' => Same H3 H' ∧ Rel g H' σ' [some (.ls [z, y]), none], ⟨Same.refl _, r.mono s3⟩, fun i σ' H' _ h => h.1, ?_, ?_⟩
  · rintro i d σ' H' v H2' hd ⟨t1, r'⟩ t2 vd
    have r3 := (r'.mono t2).set 1 vd
    have hd' : lenA d = some n := by
      have hm := List.mem_of_getElem? hd
      simp only [List.mem_cons, List.not_mem_nil, or_false] at hm
      rcases hm with rfl | rfl <;> assumption
    refine wB_cons (ws_skip r3 (DT.is (dt_neI (de_lenA c' MC MT (by decide) (de_var 1 c') hd' hn) (de_lenA c' MC MT (by decide) (de_ixL c' (de_var 0 c') de_int (show atI [z, y] 0 = some z from rfl)) hz hn)) (by simp)) fun H4 s4 r4 => wB_nil ⟨(t1.trans t2).trans s4, r4.sub (sub_eq (sub_no sub_nil))⟩)
  · rintro σ' H' ⟨t1, r'⟩
    exact wB_nil (q _ H' (s3.trans t1) (.d .non))

/-! ### all sets -/
def lo (row : List Int) : Int := match row.getLast? with
  | none => 0
  | some x => x + 1
def grow (n : Nat) (row : List Int) : List Int := (List.range ((n : Int) - lo row).toNat).map fun i => lo row + ((i : Nat) : Int)
def nextRows (n : Nat) (rows : List (List Int)) : List (List Int) := rows.flatMap fun row => (grow n row).map fun one => row ++ [one]
def rowsAt (n : Nat) : Nat → List (List Int)
  | 0 => [[]]
  | i + 1 => nextRows n (rowsAt n i)
def setsAt (n : Nat) : Nat → List (List Int)
  | 0 => [[]]
  | i + 1 => setsAt n i ++ rowsAt n (i + 1)
theorem sets_all {n : Nat} (hn : n = 2 ∨ n = 3) : setsAt n n = allSets n := by
  rcases hn with rfl | rfl <;> decide
theorem rows_small {n i : Nat} (hn : n = 2 ∨ n = 3) (hi : i < n) : (rowsAt n i).length ≤ 10 ∧ ((rowsAt n i).flatMap (grow n)).length ≤ 10 ∧ (setsAt n i).length ≤ 10 ∧ (rowsAt n (i + 1)).length ≤ 10 ∧ ∀ row ∈ rowsAt n i, 0 ≤ lo row ∧ lo row ≤ 3 ∧ row.length ≤ 3 := by
  rcases hn with rfl | rfl
  · have h : i = 0 ∨ i = 1 := by omega
    rcases h with rfl | rfl <;> decide
  · have h : i = 0 ∨ i = 1 ∨ i = 2 := by omega
    rcases h with rfl | rfl | rfl <;> decide
def R_all_sets (as : List A) (b : A) : Prop := ∃ n : Nat, (n = 2 ∨ n = 3) ∧ as = [aI n] ∧ b = .d (.tup ((allSets n).map dSet))
theorem S_all_sets : FnScope ["offers", "found", "rows", "size", "row", "one"] ["offers"] (defScope s_all_sets) := ⟨rfl, rfl, rfl, by decide +kernel, rfl, by decide +kernel, by decide +kernel⟩
theorem dsets {H : Hp} {vs : List V} {as : List (List Int)} (h : AVs g H vs (as.map fun x => A.d (dSet x))) : DVs H vs (as.map dSet) := by
  have : AVs g H vs ((as.map dSet).map A.d) := by rw [List.map_map]; exact h
  exact AVs.dvs this
theorem avs_append {H : Hp} : ∀ {as bs : List A} {vs ws : List V}, AVs g H vs as → AVs g H ws bs → AVs g H (vs ++ ws) (as ++ bs)
  | [], _, _, _, h, k => by cases h; exact k
  | a :: as, _, _, _, h, k => by
    cases h with
    | cons x y => exact .cons x (avs_append y k)
/-- tuple(a list that is told) -/
theorem de_tupleLs {ds : List Dt} (c : Cxk g N sc k X) (ha : DE g X a Γ (.ls (ds.map .d))) (hg : GlS sc "tuple" := by rfl) (na : starEach [a] X.env = (false, eval a X.env) :: starEach [] X.env := by rfl) : DE g X (.Call (.Name "tuple" p) [a] [] pos) Γ (.d (.tup ds)) := fun σ H Q rl q =>
  ⟨_, pe_tupleOf (c.gl hg) (c.mgN c.T.tuple) pe_w na, ha σ H _ rl fun v H1 s1 v1 => by
    cases v1 with
    | @ls l xs _ hl t => exact .inl ⟨l, xs, rfl, .inl (.inl hl), fun r hr => q _ _ (s1.trans (Same.newO hr)) (.d (.tup upd_same ((AVs.dvs t).mono (TK.of (Same.newO hr)))))⟩⟩
theorem ok_all_sets (T : Txt g) (F : DefIn g "all_sets" s_all_sets) : Def1 g 1 "all_sets" (spP g 1 R_all_sets) := by
  obtain ⟨f, fd, F, hm⟩ := F
  refine def_P F hm (F.bindsN (ps := ["offers"]) fun _ _ _ _ _ _ us hl => match us, hl with | [_], _ => rfl) S_all_sets T rfl fun X c as b hR hl σ H Q r q => ?_
  obtain ⟨n, hn, rfl, rfl⟩ := hR
  have c' := c.toCxk
  refine wB_cons (ws_par 1 2 c (useL r (dl_lst (da_cons (de_tup (ds := []) da_nil) da_nil)) fun l xs H1 h0 s1 e1 v1 => useL (r.mono s1) (dl_lst (da_cons (de_tup (ds := []) da_nil) da_nil)) fun p ys H2 h2 s2 e2 v2 => ?_))
  have npl : l ≠ p := ne_of_none e1 h2
  have r2 : Rel g H2 _ _ := ((r.mono (s1.trans s2)).set 1 (.obj (.ref l))).set 2 (.obj (.ref p))
  refine wB_cons (ws_for c r2 (di_range1 c' (de_var 0 c') (by omega)) (pg_ND (i := 3) c rfl (.inl rfl)) fun H3 s3 => ?_)
  refine ⟨fun i σ' H' => Same H H' ∧ TK H3 H' ∧ ∃ (p : Addr) (xs ys : List V), l ≠ p ∧ H' l = some (.lst xs) ∧ AVs g H' xs ((setsAt n i).map fun x => A.d (dSet x)) ∧ H' p = some (.lst ys) ∧ AVs g H' ys ((rowsAt n i).map fun x => A.d (dSet x)) ∧ Rel g H' σ' [some (aI n), some (.obj (.ref l)), some (.obj (.ref p)), none, none, none],
    ⟨(s1.trans s2).trans s3, TK.refl _, p, xs, ys, npl, s3 _ _ (s2 _ _ e1), (v1.mono s2).mono s3, s3 _ _ e2, v2.mono s3, (r2.mono s3).sub (sub_eq (sub_eq (sub_eq (sub_no (sub_no (sub_no sub_nil))))))⟩, fun i σ' H' _ h => h.2.1, ?_, ?_⟩
  · rintro i d σ' H' v H2' hd ⟨t0, t1, p, xs, ys, hlp, el, vl, ep, vp, r'⟩ t2 vd
    obtain ⟨i', hi', rfl⟩ := map_get hd
    have hii : i' = i ∧ i < n := by
      have h1 := (List.getElem?_eq_some_iff.mp hi').1
      rw [List.length_range] at h1
      rw [List.getElem?_range h1] at hi'
      exact ⟨(Option.some.inj hi').symm, h1⟩
    obtain ⟨rfl, hin⟩ := hii
    obtain ⟨z1, z2, z3, z4, z5⟩ := rows_small hn hin
    have r3 := ((r'.mono t2).set 3 vd).toLs 2 rfl (t2 _ _ ep) (vp.mono t2)
    refine wB_cons (ws_asgC2 (xs := rowsAt n i') (e := fun x => A.d (dSet x)) (ys := grow n) (e1 := fun _ b => aI b) (f := fun a b => A.d (dSet (a ++ [b]))) (own := [("row", 4), ("one", 5)]) (vs1 := [5]) (gt := gName 4) (gt1 := gName 5)
      (Γx := fun a => [some (aI n), none, none, none, some (aSet a), none]) (Γy := fun a b => [some (aI n), none, none, none, some (aSet a), some (aI b)]) 2 c r3 (di_ls c' (de_var 2 c')) (by decide +kernel) rfl (by simp) (fun X' d => pg_N d rfl rfl)
      (fun a ha => (tg_N (by simp)).sub (sub_eq (sub_no (sub_no (sub_no (sub_eq (sub_eq sub_nil))))))) (fun a ha X' d => ?_) (fun X' d => pg_N d rfl rfl) (fun a ha b hb => tg_N (by simp)) (fun a ha b hb X' d => ?_) (fun _ _ => rfl) (fun _ _ => rfl) (by omega)
      fun p2 ws σ4 H4 h4 s4 e4 v4 r4 => ?_)
    · have hz := z5 a ha
      refine (di_range2 (lo := lo a) (hi := (n : Int)) d (de_ifE (t := !decide (dSet a = .tup [])) (dt_neD d (de_var 4 d) (de_tup (ds := []) da_nil) (sh_set a) (sh_set [])) (fun ht => ?_) fun hf => ?_) (de_var 0 d) (by omega)).is (by simp [grow])
      · cases hg : a.getLast? with
        | none =>
          have e : a = [] := List.getLast?_eq_none_iff.mp hg
          subst e
          cases ht
        | some x =>
          obtain ⟨zs, ea⟩ := List.getLast?_eq_some_iff.mp hg
          have e1 : lo a = x + 1 := by unfold lo; rw [hg]
          rw [e1]
          refine de_add (de_ix d (de_var 4 d) (de_neg de_int) (d := .num x) ?_) de_int
          rw [ea, List.map_append]
          exact atI_last _ _
      · have e : a = [] := by
          have h1 : decide (dSet a = .tup []) = true := by simpa using hf
          exact dSet_inj (of_decide_eq_true h1)
        subst e
        exact de_int
    · have hz := (z5 a ha).2.2
      exact DE.is (de_cat d (de_var 4 d) (de_tup (ds := [.num b]) (da_cons (de_var 5 d) da_nil)) (by simp; omega)) (by simp [dSet])
    · have e4' : (rowsAt n i').flatMap (fun a => (grow n a).map fun b => A.d (dSet (a ++ [b]))) = (rowsAt n (i' + 1)).map fun x => A.d (dSet x) := by
        show _ = (nextRows n (rowsAt n i')).map _
        unfold nextRows
        rw [List.map_flatMap]
        simp [List.map_map, Function.comp_def]
      rw [e4'] at v4
      have el4 := s4 _ _ (t2 _ _ el)
      have vl4 := (vl.mono t2).mono s4
      have lx := vl4.length
      have ly := v4.length
      rw [List.length_map] at lx ly
      refine wB_cons (ws_ext (l := l) (m := p2) c r4 (de_var 1 c') (de_var 2 c') el4 e4 (by omega) fun H5 b5 e5 => wB_nil ?_)
      have kk := b5.kp el4 rfl
      have nl2 : p2 ≠ l := (ne_of_none (t2 _ _ el) h4).symm
      have nol : ∀ zs : List (List Int), ∀ a ∈ zs.map (fun x => A.d (dSet x)), noLs a = true := fun zs a ha => by
        obtain ⟨_, _, rfl⟩ := List.mem_map.mp ha
        rfl
      have h0l : H l = none := h0
      refine ⟨b5.same ((t0.trans t2).trans s4) h0l, (t1.trans (TK.of (t2.trans s4))).trans kk.tk, p2, xs ++ ws, ws, nl2.symm, e5, ?_, b5 _ _ nl2 e4, v4.kp kk (nol _), (r4.kp kk rfl).sub (sub_eq (sub_eq (sub_eq (sub_no (sub_no (sub_no sub_nil))))))⟩
      show AVs g H5 (xs ++ ws) ((setsAt n i' ++ rowsAt n (i' + 1)).map _)
      rw [List.map_append]
      exact avs_append (vl4.kp kk (nol _)) (v4.kp kk (nol _))
  · rintro σ' H' ⟨t0, t1, p, xs, ys, hlp, el, vl, ep, vp, r'⟩
    have en : ((List.range n).map fun i => aI ((i : Nat) : Int)).length = n := by simp
    rw [en, sets_all hn] at vl
    have r3 := r'.toLs 1 rfl el vl
    refine wB_cons (ws_ret r3 (de_tupleLs c' (DE.is (de_var 1 c') (congrArg A.ls (show _ = ((allSets n).map dSet).map A.d by rw [List.map_map]; rfl)))) fun v H4 s4 v4 => q v H4 (t0.trans s4) v4)
end
end K85

/-! L12: dicts filled, fields stored, instances made, tuple(range). -/
namespace K85
open PySem PySem.Spec PyProof.Rows L2
/-- neither a list nor an instance is told of -/
def plain : A → Bool
  | .d _ => true
  | .bl _ => true
  | .obj _ => true
  | _ => false
def plainO : Option A → Bool
  | some a => plain a
  | none => true
theorem AV.tk {g : Cfg} {H H' : Hp} (k : TK H H') {v : V} {a : A} (h : AV g H v a) (n : plain a = true) : AV g H' v a := by
  cases h with
  | d x => exact .d (x.mono k)
  | bl b => exact .bl b
  | obj v => exact .obj v
  | ch x => cases n
  | tab x => cases n
  | tr x => cases n
  | ls e t => cases n
  | ob e => cases n
  | nd e => cases n
theorem Rel.tk {g : Cfg} {H H' : Hp} {σ : L2.St} {Γ : List (Option A)} (k : TK H H') (r : Rel g H σ Γ) (n : Γ.all plainO = true) : Rel g H' σ Γ := ⟨r.len, fun i a e => by
  obtain ⟨v, e1, e2⟩ := r.at_ i a e
  have h := List.all_eq_true.mp n (some a) (List.mem_of_getElem? e)
  exact ⟨v, e1, e2.tk k h⟩⟩
section
variable {g : Cfg} {N : List Str} {sc : Scope} {X : Cx} {j k : Nat} {Γ : List (Option A)} {e a b o : Expr} {es : List Expr} {x f : Str} {pos p px opos : Pos} {D : Ends} {σ : L2.St} {H : Hp} {i : Nat}
/-- d[s] = v, d a dict of tuples of numbers -/
theorem ws_dput {l : Addr} {kvs : List (List Key × V)} {s : List Int} {z : Dt} (c : Dtx g N sc k X) (r : Rel g H σ Γ) (ho : DE g X o Γ (.obj (.ref l))) (hi : DE g X a Γ (aSet s)) (he : DE g X e Γ (.d z)) (hl : H l = some (.dT kvs)) (hz : kvs.length ≤ 1000) (hΓ : Γ.all plainO = true)
    (q : ∀ v H1, But l H H1 → H1 l = some (.dT (putK kvs (s.map Sum.inl) v)) → DV H1 v z → Rel g H1 σ Γ → D.nx σ H1) (hs : swapsWith e (some (.Subscript o a opos)) pos.line X.env = pure false := by rfl) : wS X (.Assign [.Subscript o a opos] e pos) D σ H :=
  ⟨_, ps_dput (hu_of c.room) pe_w pe_w pe_w hs, he σ H _ r fun v H1 s1 v1 => ho σ H1 _ (r.mono s1) fun w H2 s2 w2 => hi σ H2 _ (r.mono (s1.trans s2)) fun u H3 s3 u3 => by
    have ew := w2.is
    subst ew
    have s13 := (s1.trans s2).trans s3
    obtain ⟨b, rfl, hb⟩ := u3.setOf
    have hl3 := s13 _ _ hl
    have kk : TK H3 (upd H3 l (.dT (putK kvs (s.map Sum.inl) v))) := TK.upd hl3 fun xs z => by cases z
    refine ⟨l, _, rfl, DPut.t hl3 (k := s.map Sum.inl) ?_ (Nat.lt_of_le_of_lt hz (by decide)), q v _ (fun b' o' hb' e' => ?_) upd_same (((v1.mono (s2.trans s3)).tk kk rfl).dv) ((r.mono s13).tk kk hΓ)⟩
    · rw [List.map_map]
      exact hb
    · rw [upd_ne hb']
      exact s13 _ _ e'⟩
/-- o.f = e -/
theorem ws_fld {l C dx : Addr} {fs : List (Str × V)} {z : A} (c : Dtx g N sc k X) (r : Rel g H σ Γ) (ho : DE g X o Γ (.obj (.ref l))) (he : DE g X e Γ z) (hl : H l = some (.ins C dx fs)) (hC : Cls g.K C) (hn : NoAttr g.K C f) (hz : fs.length < 1000) (hΓ : Γ.all plainO = true)
    (q : ∀ v H1, But l H H1 → H1 l = some (.ins C dx (putF f v fs)) → (plain z = true → AV g H1 v z) → Rel g H1 σ Γ → D.nx σ H1) (hs : swapsWith e (some (.Attribute o f opos)) pos.line X.env = pure false := by rfl) : wS X (.Assign [.Attribute o f opos] e pos) D σ H :=
  ⟨_, ps_fld pe_w pe_w hs, he σ H _ r fun v H1 s1 v1 => ho σ H1 _ (r.mono s1) fun w H2 s2 w2 => by
    have ew := w2.is
    subst ew
    have s12 := s1.trans s2
    have hl2 := s12 _ _ hl
    have kk : TK H2 (upd H2 l (.ins C dx (putF f v fs))) := TK.upd hl2 fun xs z => by cases z
    refine ⟨l, C, dx, fs, rfl, hl2, by rw [c.K]; exact hC, by rw [c.K]; exact hn, hz, q v _ (fun b' o' hb' e' => ?_) upd_same (fun hp => (v1.mono s2).tk kk hp) ((r.mono s12).tk kk hΓ)⟩
    rw [upd_ne hb']
    exact s12 _ _ e'⟩
theorem rng_V (n : Nat) : rgV 0 (n : Int) = (rngI n).map V.int := by rw [rgV_nat]; unfold rngI; rw [List.map_map]; rfl
/-- a slot's object, told -/
theorem Rel.toOb {l : Addr} {o : HO} (r : Rel g H σ Γ) (i : Nat) (hΓ : Γ[i]? = some (some (.obj (.ref l)))) (hl : H l = some o) : Rel g H σ (Γ.set i (some (.ob l o))) := ⟨by rw [List.length_set]; exact r.len, fun j b e => by
  by_cases hj : i = j
  · subst hj
    have hi : i < Γ.length := (List.getElem?_eq_some_iff.mp hΓ).1
    rw [List.getElem?_set_self hi] at e
    have e' : A.ob l o = b := Option.some.inj (Option.some.inj e)
    obtain ⟨v, e1, e2⟩ := r.at_ i _ hΓ
    have ev := e2.is
    subst ev
    exact ⟨_, e1, e' ▸ AV.ob hl⟩
  · rw [List.getElem?_set_ne hj] at e
    exact r.at_ j b e⟩
/-- .. and told of by its place alone -/
theorem Rel.unOb {l : Addr} {o : HO} (r : Rel g H σ Γ) (i : Nat) (hΓ : Γ[i]? = some (some (.ob l o))) : Rel g H σ (Γ.set i (some (.obj (.ref l)))) := ⟨by rw [List.length_set]; exact r.len, fun j b e => by
  by_cases hj : i = j
  · subst hj
    have hi : i < Γ.length := (List.getElem?_eq_some_iff.mp hΓ).1
    rw [List.getElem?_set_self hi] at e
    have e' : A.obj (.ref l) = b := Option.some.inj (Option.some.inj e)
    obtain ⟨v, e1, e2⟩ := r.at_ i _ hΓ
    cases e2
    exact ⟨_, e1, e' ▸ AV.obj _⟩
  · rw [List.getElem?_set_ne hj] at e
    exact r.at_ j b e⟩
theorem AV.obAt {v : V} {l : Addr} {o : HO} (h : AV g H v (.ob l o)) : v = .ref l ∧ H l = some o := by
  cases h with
  | ob e => exact ⟨rfl, e⟩
theorem dt_or3 {t u w : Bool} {c : Expr} (ha : DT g X a Γ t) (hb : t = false → DT g X b Γ u) (hc : t = false → u = false → DT g X c Γ w) : DT g X (.BoolOp .Or [a, b, c] pos) Γ (t || u || w) := fun σ H Q rl q =>
  ⟨_, PW.pt (pw_or pt_w (pw_or pt_w (pw_or1 pt_w))), ha σ H _ rl fun H1 s1 => by
    cases t with
    | true =>
      show Q true H1
      exact q H1 s1
    | false =>
      refine hb rfl σ H1 _ (rl.mono s1) fun H2 s2 => ?_
      cases u with
      | true =>
        show Q true H2
        exact q H2 (s1.trans s2)
      | false =>
        show wT X c σ H2 Q
        exact hc rfl rfl σ H2 _ (rl.mono (s1.trans s2)) fun H3 s3 => q H3 ((s1.trans s2).trans s3)⟩
/-- i in a set of numbers -/
theorem dt_inS {l : Addr} {i : Int} {S : Int → Bool} {n : Nat} (c : Cxk g N sc k X) (ha : DE g X a Γ (aI i)) (hb : DE g X b Γ (.ob l (SetO g.w l S n))) (hm : behindInMarks .In b = false := by with_unfolding_all rfl) : DT g X (.Compare a [.In] [b] pos) Γ (S i) :=
  dt_cmp (r := rSIn g.w) (by rw [← c.w]; exact or_sin) ha hb (fun H v u Q hv hu q => by
    obtain ⟨e1, e2⟩ := hu.obAt
    exact ⟨i, l, S, n, hv.int, e1, e2, q _ H (Same.refl H) (.bl _)⟩) hm
/-- tuple(range(n)) -/
theorem de_tupRg {n : Nat} {p1 p2 : Pos} (c : Cxk g N sc k X) (h : DE g X a Γ (aI n)) (hn : n ≤ 1000) (hg : GlS sc "tuple" := by rfl) (hg2 : GlS sc "range" := by rfl) (na : starEach [a] X.env = (false, eval a X.env) :: starEach [] X.env := by rfl)
    (nb : starEach [.Call (.Name "range" p1) [a] [] p2] X.env = (false, eval (.Call (.Name "range" p1) [a] [] p2) X.env) :: starEach [] X.env := by rfl) : DE g X (.Call (.Name "tuple" p) [.Call (.Name "range" p1) [a] [] p2] [] pos) Γ (aSet (rngI n)) := fun σ H Q r q =>
  ⟨_, pe_tupRg c.calm (c.gl hg) (c.mgN c.T.tuple) (prg_1 (c.gl hg2) (c.mgN c.T.range) pe_w na) nb, h σ H _ r fun v H1 s1 v1 => ⟨(n : Int), v1.int, RgOk.of_le (by omega) (by omega) (by omega) (by omega), fun p hp => q _ _ (s1.trans (Same.newO hp)) (by rw [rng_V]; exact .of_set upd_same)⟩⟩
/-- list(range(n)) -/
theorem dl_listRg {n : Nat} {p1 p2 : Pos} (c : Cxk g N sc k X) (h : DE g X a Γ (aI n)) (hn : n ≤ 1000) (hg : GlS sc "list" := by rfl) (hg2 : GlS sc "range" := by rfl) (na : starEach [a] X.env = (false, eval a X.env) :: starEach [] X.env := by rfl)
    (nb : starEach [.Call (.Name "range" p1) [a] [] p2] X.env = (false, eval (.Call (.Name "range" p1) [a] [] p2) X.env) :: starEach [] X.env := by rfl) : DL g X (.Call (.Name "list" p) [.Call (.Name "range" p1) [a] [] p2] [] pos) Γ ((rngI n).map aI) := fun σ H Q r q =>
  ⟨_, pe_listRg c.calm (c.gl hg) (c.mgN c.T.list) (prg_1 (c.gl hg2) (c.mgN c.T.range) pe_w na) nb, h σ H _ r fun v H1 s1 v1 => ⟨(n : Int), v1.int, RgOk.of_le (by omega) (by omega) (by omega) (by omega), fun p hp => q p _ _ (s1.free hp) (s1.trans (Same.newO hp)) upd_same (by rw [rng_V, ← map_nums]; exact AVs.of_dvs (DVs.of_ints _))⟩⟩
/-- C(..) -/
theorem de_mk {C : Addr} {sp : Sp} {z : A} {as : List A} (c : Cxk g N sc j X) (M : C8.Mak g.P g.w g.K g.mg g.base k x C sp []) (hk : k + 1 ≤ j) (ha : DA g X (e :: es) Γ as)
    (hsp : ∀ (H : Hp) (vs : List V) (l dx : Addr) (Q : VK), AVs g H vs as → H l = none → H dx = none → dx ≠ l → (∀ H', Same H H' → AV g H' (.ref l) z → Q .non H') → sp (.ref l :: vs) (upd (upd H dx (.own l)) l (.ins C dx [])) Q E0) (hg : GlS sc x := by rfl)
    (hdb : (x == ("__debug__" : Str)) = false := by decide) (he : starEach (e :: es) X.env = (false, eval e X.env) :: starEach es X.env := by rfl) (hpl : (backTo pos (starEach es X.env)).any (·.1) = false := by rfl) :
    DE g X (.Call (.Name x p) (e :: es) [] pos) Γ z := fun σ H Q rl q => by
  have M' : C8.Mak X.prog X.w X.K X.mg X.base k x C sp [] := by
    rw [c.P, c.w, c.K, c.mg, c.base]
    exact M
  refine ⟨_, C8.pe_mk M' c.room hk (c.gl hg) pa_w hdb he hpl, ha σ H _ rl fun vs H1 s1 v1 l dx hl hdx hne => ?_⟩
  rw [List.append_nil]
  exact hsp H1 vs l dx _ v1 hl hdx hne fun H2 s2 z2 => ⟨rfl, q _ H2 (s1.trans s2) z2⟩
end
end K85

/-! W5: Chooser.__init__, Chooser.taken, choosers made. -/
namespace K85
open PySem PySem.Spec PyProof.Rows L2
/-- what a chooser may take -/
def Good (n : Nat) (c : List Int → List Int) : Prop := ∀ s ∈ allSets n, IsSet n (c s) ∧ ∀ k ∈ c s, k ∈ s
theorem allSets_nodup {n : Nat} (hn : n = 2 ∨ n = 3) : (allSets n).Nodup := by
  rcases hn with rfl | rfl <;> decide
theorem allSets_len {n : Nat} (hn : n = 2 ∨ n = 3) : (allSets n).length ≤ 8 := by
  rcases hn with rfl | rfl <;> decide
theorem mapIdx_get {α β : Type} {f : Nat → α → β} {xs : List α} {i : Nat} {d : β} (h : (xs.mapIdx f)[i]? = some d) : ∃ x, xs[i]? = some x ∧ f i x = d := by
  rw [List.getElem?_mapIdx] at h
  cases hx : xs[i]? with
  | none =>
    rw [hx] at h
    cases h
  | some x =>
    rw [hx] at h
    exact ⟨x, rfl, Option.some.inj h⟩
section
variable {g : Cfg}
def spInitC (g : Cfg) : Sp := fun vs H Q _ => ∃ (x dx : Addr) (n : Nat) (v : V) (c : List Int → List Int), vs = [.ref x, .int n, v] ∧ (n = 2 ∨ n = 3) ∧ H x = some (.ins g.C dx []) ∧ DV H v (.tup ((allSets n).map fun s => dSet (c s))) ∧ Good n c ∧
  ∀ H', But x H H' → ChAt g H' x n c → Q .non H'
abbrev MakC (g : Cfg) : Prop := C8.Mak g.P g.w g.K g.mg g.base 3 "Chooser" g.C (spInitC g) []
def MakeIn (g : Cfg) (x qual : Str) (C : Addr) (st : Stmt) : Prop := ∃ f fd, FunD g.K "__init__" qual (defArgs st) (defBody st) (defScope st) [] [] f fd ∧ Cls g.K C ∧ Mk g.K C f ∧ g.mg x = some (.ref C)
theorem S_initC : FnScope ["self", "offers", "picks", "sets", "table", "number", "some", "pick"] ["self", "offers", "picks"] (defScope s_Chooser_init) := ⟨rfl, rfl, rfl, by decide +kernel, rfl, by decide +kernel, by decide +kernel⟩
theorem pl {f : Str} {v : V} {fs : List (Str × V)} {n : Nat} (h : fs.length ≤ n) : (putF f v fs).length ≤ n + 1 := Nat.le_trans (length_putF f v fs) (Nat.succ_le_succ h)
theorem lk_eq {f : Str} {v : V} {fs : List (Str × V)} : (putF f v fs).lookup f = some v := by rw [lookup_putF, if_pos rfl]
theorem lk_ne {f h : Str} {v : V} {fs : List (Str × V)} {o : Option V} (ne : h ≠ f) (e : fs.lookup h = o) : (putF f v fs).lookup h = o := by rw [lookup_putF, if_neg ne, e]
theorem inl_inj {s t : List Int} (h : s.map (Sum.inl (β := Str)) = t.map Sum.inl) : s = t := map_inj' (fun _ _ h => Sum.inl.inj h) h
theorem ok_initC (T : Txt g) (F : MakeIn g "Chooser" "Chooser.__init__" g.C s_Chooser_init) (hmost : ∃ t, g.mg "CHOOSER_MOST" = some (.int 6 t)) (W : Def1 g 1 "is_whole" (spP g 1 R_is_whole)) (WA : Def1 g 1 "all_sets" (spP g 1 R_all_sets)) (WS : Def1 g 2 "is_set" (spP g 2 R_is_set)) (WP : Def1 g 1 "chooser_is_part" (spP g 2 R_part)) : MakC g := by
  obtain ⟨f, fd, F, cl, mk, hm⟩ := F
  refine ⟨f, fd, ["self", "offers", "picks"], [], mk, def_ok F S_initC T (fun vs H Q E h => by obtain ⟨x, dx, n, v, c, rfl, _⟩ := h; rfl) fun X c vs H Q E hsp => ?_, hm, (F.bindsN (ps := ["self", "offers", "picks"]) fun _ _ _ _ _ _ us hl => match us, hl with | [_, _, _], _ => rfl), .nil⟩
  obtain ⟨x, dx, n, v, ch, rfl, hn, hx, hv, hg, q⟩ := hsp
  have c' := c.toCxk
  have r : Rel g H (start ["self", "offers", "picks", "sets", "table", "number", "some", "pick"] [.ref x, .int n, v]) [some (.obj (.ref x)), some (aI n), some (.d (.tup ((allSets n).map fun s => dSet (ch s)))), none, none, none, none, none] :=
    rel_cons (.obj _) (rel_cons (.d (.int _)) (rel_cons (.d hv) (rel_no (rel_no (rel_no (rel_no (rel_no rel_nil)))))))
  refine wB_cons (ws_skip r (DT.is (dt_or2 (dt_not (dt_val (de_call c' W (by decide) (da_cons (de_var 1 c') da_nil) ⟨n, rfl, rfl⟩))) fun _ => dt_not (dt_le2 de_int (de_var 1 c') (de_glob c' hmost))) (by rcases hn with rfl | rfl <;> decide)) fun H1 s1 r1 => ?_)
  refine wB_cons (ws_asg 3 c r1 (de_call c' WA (by decide) (da_cons (de_var 1 c') da_nil) ⟨n, hn, rfl, rfl⟩) fun σ2 H2 s2 r2 => ?_)
  refine wB_cons (ws_skip r2 (DT.is (dt_or2 (dt_not (dt_val (de_isiT c' (de_var 2 c')))) fun _ => dt_neI (de_lenT c' (de_var 2 c')) (de_lenT c' (de_var 3 c'))) (by simp)) fun H3 s3 r3 => ?_)
  have s03 := (s1.trans s2).trans s3
  refine wB_cons (wS_of (ps_set c.ndX (c'.at_ (i := 4) rfl) (c'.loc (.inl rfl)) pe_dnewT rfl (.inl (c.fn _))) fun t ht => ?_)
  have s04 := s03.trans (Same.newO (o' := .dT []) ht)
  have r4 : Rel g (upd H3 t (.dT [])) _ _ := (r3.mono (Same.newO (o' := .dT []) ht)).set 4 (.obj (.ref t))
  have h0t : H t = none := s03.free ht
  refine wB_cons (ws_for c r4 (di_enT c' (de_var 3 c')) (pg_P c' (pg_ND (i := 5) c rfl (.inl rfl)) (pg_ND (i := 6) c rfl (.inl rfl))) fun H5 s5 => ?_)
  have el : (((allSets n).map dSet).mapIdx fun i d => A.d (.tup [.num ((i : Nat) : Int), d])).length = (allSets n).length := by simp
  refine ⟨fun i σ' H' => Same H H' ∧ TK H5 H' ∧ (∃ kvs : List (List Key × V), H' t = some (.dT kvs) ∧ kvs.length ≤ i ∧ ∀ j s, j < i → (allSets n)[j]? = some s → ∃ p, valV kvs (s.map Sum.inl) = some (.ref p) ∧ H' p = some (.tup ((ch s).map V.int))) ∧
      Rel g H' σ' [some (.obj (.ref x)), some (aI n), some (.d (.tup ((allSets n).map fun s => dSet (ch s)))), some (.d (.tup ((allSets n).map dSet))), some (.obj (.ref t)), none, none, none],
    ⟨s04.trans s5, TK.refl _, ⟨[], s5 _ _ upd_same, Nat.zero_le _, fun j s hj => absurd hj (Nat.not_lt_zero _)⟩, (r4.mono s5).sub (sub_eq (sub_eq (sub_eq (sub_eq (sub_eq (sub_no (sub_no (sub_no sub_nil))))))))⟩, fun i σ' H' _ h => h.2.1, ?_, ?_⟩
  · rintro i d σ' H' v H2' hd ⟨t0, t1, ⟨kvs, et, hk, hall⟩, r'⟩ t2 vd
    obtain ⟨d', hd', rfl⟩ := mapIdx_get hd
    obtain ⟨s, hs, rfl⟩ := map_get hd'
    have hm : s ∈ allSets n := List.mem_of_getElem? hs
    have hgs := hg s hm
    refine tg_P (vs := [5, 6]) (by simp) (by simp) σ' H2' v _ (r'.mono t2) vd fun σ3 r3 _ => ?_
    refine wB_cons (ws_asg 7 c r3 (de_ix c' (de_var 2 c') (de_var 5 c') (d := dSet (ch s)) (atI_nat (by simp [hs]))) fun σ4 H4 s4 r4 => ?_)
    refine wB_cons (ws_skip r4 (DT.is (dt_or2 (dt_not (dt_val (de_call c' WS (by decide) (da_cons (de_var 1 c') (da_cons (de_var 7 c') da_nil)) ⟨n, ch s, rfl, hgs.1, rfl⟩))) fun _ => dt_not (dt_val (de_call c' WP (by decide) (da_cons (de_var 7 c') (da_cons (de_var 6 c') da_nil)) ⟨ch s, s, rfl, hgs.2, rfl⟩))) (by rfl)) fun H5' s5' r5 => ?_)
    have hi : i < (allSets n).length := by
      have := (List.getElem?_eq_some_iff.mp hs).1
      exact this
    have hlen := allSets_len hn
    have t25 := (t2.trans s4).trans s5'
    refine wB_cons (ws_dput c r5 (de_var 4 c') (de_var 6 c') (de_var 7 c') (t25 _ _ et) (by omega) rfl fun pv H6 b6 e6 v6 r6 => wB_nil ?_)
    have k6 : TK H5' H6 := b6.tk (t25 _ _ et) fun _ z => by cases z
    refine ⟨b6.same (t0.trans t25) h0t, (t1.trans (TK.of t25)).trans k6, ⟨_, e6, ?_, ?_⟩, r6.sub (sub_eq (sub_eq (sub_eq (sub_eq (sub_eq (sub_no (sub_no (sub_no sub_nil))))))))⟩
    · have := length_putK kvs (s.map Sum.inl) pv
      omega
    · intro j s' hj hs'
      rw [valV_put]
      obtain ⟨p6, rfl, hp6⟩ := (AV.d v6 : AV g H6 pv _).setOf
      by_cases hjs : s' = s
      · subst hjs
        rw [if_pos rfl]
        exact ⟨p6, rfl, hp6⟩
      · rw [if_neg (fun z => hjs (inl_inj z))]
        have hji : j < i := by
          rcases Nat.lt_or_ge j i with h | h
          · exact h
          · have e : j = i := by omega
            subst e
            rw [hs] at hs'
            exact absurd (Option.some.inj hs').symm hjs
        obtain ⟨p, e1, e2⟩ := hall j s' hji hs'
        exact ⟨p, e1, k6 _ _ (t25 _ _ e2)⟩
  · rintro σ' H' ⟨t0, t1, ⟨kvs, et, hk, hall⟩, r'⟩
    rw [el] at hall
    have n1 := T.nOffers
    refine wB_cons (ws_fld c r' (de_var 0 c') (de_var 1 c') (t0 _ _ hx) T.cC T.nOffers (by decide) rfl fun v1 H1 b1 e1 a1 r1 => ?_)
    refine wB_cons (ws_fld c r1 (de_var 0 c') (de_var 2 c') e1 T.cC T.nPicks (Nat.lt_of_le_of_lt (pl (Nat.le_refl 0)) (by decide)) rfl fun v2 H2 b2 e2 a2 r2 => ?_)
    refine wB_cons (ws_fld c r2 (de_var 0 c') (de_var 4 c') e2 T.cC T.nTable (Nat.lt_of_le_of_lt (pl (pl (Nat.le_refl 0))) (by decide)) rfl fun v3 H3 b3 e3 a3 r3 => ?_)
    refine wB_cons (ws_fld c r3 (de_var 0 c') (de_tupRg c' (de_var 1 c') (by omega)) e3 T.cC T.nPlaces (Nat.lt_of_le_of_lt (pl (pl (pl (Nat.le_refl 0)))) (by decide)) rfl fun v4 H4 b4 e4 a4 r4 => wB_nil ?_)
    have bb : But x H' H4 := fun b o hb e => b4 b o hb (b3 b o hb (b2 b o hb (b1 b o hb e)))
    have kt : TK H' H4 := bb.tk (t0 _ _ hx) fun _ z => by cases z
    have z1 := (a1 rfl).int
    subst z1
    have z3 := (a3 rfl).is
    subst z3
    obtain ⟨pp, rfl, hpp⟩ := (a4 rfl).setOf
    have hxt : x ≠ t := fun z => by
      subst z
      rw [hx] at h0t
      cases h0t
    refine q H4 (fun b o hb e => bb b o hb (t0 _ _ e)) ⟨dx, _, t, pp, e4, ?_, ?_, ?_, hpp, ?_, ?_, kvs, bb _ _ (Ne.symm hxt) et, fun s hs => ?_⟩
    · exact lk_ne (by decide) (lk_ne (by decide) (lk_ne (by decide) lk_eq))
    · exact lk_ne (by decide) lk_eq
    · exact lk_eq
    · exact lk_ne (by decide) (lk_ne (by decide) (lk_ne (by decide) (lk_ne (by decide) rfl)))
    · exact lk_ne (by decide) (lk_ne (by decide) (lk_ne (by decide) (lk_ne (by decide) rfl)))
    · obtain ⟨j, hj, e⟩ := List.getElem_of_mem hs
      obtain ⟨p, q1, q2⟩ := hall j s hj (by rw [List.getElem?_eq_getElem hj, e])
      exact ⟨p, q1, kt _ _ q2⟩
/-- Chooser(n, picks) -/
theorem de_mkC {N : List Str} {sc : Scope} {X : Cx} {j : Nat} {Γ : List (Option A)} {a b : Expr} {pos p : Pos} {n : Nat} {c : List Int → List Int} (ct : Cxk g N sc j X) (M : MakC g) (hj : 4 ≤ j) (ha : DE g X a Γ (aI n)) (hb : DE g X b Γ (.d (.tup ((allSets n).map fun s => dSet (c s))))) (hn : n = 2 ∨ n = 3) (hc : Good n c) (hg : GlS sc "Chooser" := by rfl)
    (h1 : starEach [a, b] X.env = (false, eval a X.env) :: starEach [b] X.env := by rfl) (h2 : starEach [b] X.env = (false, eval b X.env) :: starEach [] X.env := by rfl) (hpl : (backTo pos (starEach [b] X.env)).any (·.1) = false := by rfl) : DE g X (.Call (.Name "Chooser" p) [a, b] [] pos) Γ (.ch n c) :=
  de_mk ct M hj (da_cons ha (da_cons hb da_nil h2) h1) (fun H vs l dx Q hv hl hdx hne q => by
    obtain ⟨v, u, rfl, v1, v2⟩ := avs2 hv
    have e := v1.int
    subst e
    have sm : Same H (upd (upd H dx (.own l)) l (.ins g.C dx [])) := (Same.newO hdx).trans (Same.newO (by rw [upd_ne (Ne.symm hne)]; exact hl))
    refine ⟨l, dx, n, u, c, rfl, hn, upd_same, v2.dv.mono (TK.of sm), hc, fun H' b h => q H' (b.same sm hl) (.ch h)⟩) hg (he := h1) (hpl := hpl)
end
end K85

/-! W6: lists, choosers made of others, trades. -/
namespace K85
open PySem PySem.Spec PyProof.Rows L2
/-! ### all sets are all ascending lists -/
theorem mem_rngI {n : Nat} {k : Int} : k ∈ rngI n ↔ 0 ≤ k ∧ k < n := by
  unfold rngI
  rw [List.mem_map]
  constructor
  · rintro ⟨i, hi, rfl⟩
    have := List.mem_range.mp hi
    omega
  · intro h
    exact ⟨k.toNat, List.mem_range.mpr (by omega), by omega⟩
theorem rngI_asc (n : Nat) : (rngI n).Pairwise (· < ·) := by
  unfold rngI
  rw [List.pairwise_map]
  exact List.pairwise_lt_range.imp fun h => by omega
theorem isSet_filter {n : Nat} {xs : List Int} (h : IsSet n xs) : xs = (rngI n).filter fun k => decide (k ∈ xs) := by
  refine asc_ext h.1 ((rngI_asc n).filter _) fun k => ?_
  rw [List.mem_filter, mem_rngI]
  constructor
  · intro hk
    exact ⟨h.2 k hk, by simpa using hk⟩
  · intro hk
    simpa using hk.2
theorem mem_allSets {n : Nat} (hn : n = 2 ∨ n = 3) {xs : List Int} : xs ∈ allSets n ↔ IsSet n xs := by
  constructor
  · intro h
    have key : ∀ s ∈ allSets n, s.Pairwise (· < ·) ∧ ∀ x ∈ s, 0 ≤ x ∧ x < (n : Int) := by
      rcases hn with rfl | rfl <;> decide
    exact key xs h
  · intro h
    rw [isSet_filter h]
    rcases hn with rfl | rfl
    · have e : rngI 2 = [0, 1] := by decide
      rw [e]
      by_cases h0 : (0 : Int) ∈ xs <;> by_cases h1 : (1 : Int) ∈ xs <;> simp [h0, h1, allSets]
    · have e : rngI 3 = [0, 1, 2] := by decide
      rw [e]
      by_cases h0 : (0 : Int) ∈ xs <;> by_cases h1 : (1 : Int) ∈ xs <;> by_cases h2 : (2 : Int) ∈ xs <;> simp [h0, h1, h2, allSets]
theorem isSet_len {n : Nat} (hn : n = 2 ∨ n = 3) {xs : List Int} (h : IsSet n xs) : xs.length ≤ 3 := by
  have key : ∀ s ∈ allSets n, s.length ≤ 3 := by
    rcases hn with rfl | rfl <;> decide
  exact key xs ((mem_allSets hn).mpr h)
theorem IsSet.filter {n : Int} {xs : List Int} (h : IsSet n xs) (p : Int → Bool) : IsSet n (xs.filter p) := ⟨h.1.filter _, fun x hx => h.2 x (List.mem_filter.mp hx).1⟩
theorem isSet_asc {n : Int} {xs : List Int} (h : ∀ x ∈ xs, 0 ≤ x ∧ x < n) : IsSet n (asc xs) := ⟨asc_lt xs, fun x hx => h x (mem_asc.mp hx)⟩

section
variable {g : Cfg}
/-! ### is_list -/
def IsRow (n : Nat) (row : List Int) : Prop := row.Nodup ∧ (∀ x ∈ row, 0 ≤ x ∧ x < (n : Int)) ∧ row.length ≤ 60
def R_is_list (as : List A) (b : A) : Prop := ∃ (n : Nat) (row : List Int), as = [aI n, aSet row] ∧ IsRow n row ∧ b = .bl true
theorem S_is_list : FnScope ["offers", "thing", "seen", "one"] ["offers", "thing"] (defScope s_is_list) := ⟨rfl, rfl, rfl, by decide +kernel, rfl, by decide +kernel, by decide +kernel⟩
theorem nodup_take {α : Type} {xs : List α} {i : Nat} {x : α} (h : xs.Nodup) (hx : xs[i]? = some x) : x ∉ xs.take i := by
  intro hm
  obtain ⟨j, hj, e⟩ := List.getElem_of_mem hm
  rw [List.length_take] at hj
  obtain ⟨hi, e2⟩ := List.getElem?_eq_some_iff.mp hx
  rw [List.getElem_take] at e
  exact List.pairwise_iff_getElem.mp h j i (by omega) hi (by omega) (e.trans e2.symm)
theorem ok_is_list (T : Txt g) (F : DefIn g "is_list" s_is_list) (W : Def1 g 1 "is_whole" (spP g 1 R_is_whole)) : Def1 g 2 "is_list" (spP g 2 R_is_list) := by
  obtain ⟨f, fd, F, hm⟩ := F
  refine def_P F hm (F.bindsN (ps := ["offers", "thing"]) fun _ _ _ _ _ _ us hl => match us, hl with | [_, _], _ => rfl) S_is_list T rfl fun X c as b hR hl σ H Q r q => ?_
  obtain ⟨n, row, rfl, ⟨hnd, hrg, hlen⟩, rfl⟩ := hR
  have c' := c.toCxk
  refine wB_cons (ws_skip r ((dt_not (dt_val (de_isiT c' (de_var 1 c'))))) fun H1 s1 r1 => ?_)
  refine wB_cons (wS_of (ps_set c.ndX (c'.at_ (i := 2) rfl) (c'.loc (.inl rfl)) (pe_callTy0 cr_set0 (c'.gl rfl) (c'.mgN T.set) boot_set) rfl (.inl (c.fn _))) ⟨rfl, fun t ht => ?_⟩)
  have ht0 : H t = none := s1.free ht
  rw [c.w]
  have r2 : Rel g (upd H1 t (SetO g.w t (fun _ => false) 0)) _ _ := (r1.mono (Same.newO (o' := SetO g.w t (fun _ => false) 0) ht)).set 2 (.obj (.ref t))
  have s2 : Same H (upd H1 t (SetO g.w t (fun _ => false) 0)) := s1.trans (Same.newO ht)
  refine wB_cons (ws_for c r2 (di_set c' (de_var 1 c')) (pg_ND (i := 3) c rfl (.inl rfl)) fun H3 s3 => ?_)
  refine ⟨fun i σ' H' => Same H H' ∧ TK H3 H' ∧ (∃ m, m ≤ i ∧ H' t = some (SetO g.w t (fun j => decide (j ∈ row.take i)) m)) ∧ Rel g H' σ' [some (aI n), some (aSet row), some (.obj (.ref t)), none],
    ⟨s2.trans s3, TK.refl _, ⟨0, Nat.le_refl _, by simpa using s3 _ _ upd_same⟩, (r2.mono s3).sub (sub_eq (sub_eq (sub_eq (sub_no sub_nil))))⟩, fun i σ' H' _ h => h.2.1, ?_, ?_⟩
  · rintro i d σ' H' v H2' hd ⟨t0, t1, ⟨m, hm, et⟩, r'⟩ t2 vd
    obtain ⟨x, hx, rfl⟩ := map_get hd
    have et2 := t2 _ _ et
    have hxm := List.mem_of_getElem? hx
    have hb := hrg x hxm
    have hnt := nodup_take hnd hx
    have r3 := ((r'.mono t2).set 3 vd).toOb 2 rfl et2
    refine wB_cons (ws_skip r3 (DT.is (dt_or3 (dt_not (dt_val (de_call c' W (by decide) (da_cons (de_var 3 c') da_nil) ⟨x, rfl, rfl⟩))) (fun _ => dt_not (dt_lele de_int (de_var 3 c') (de_var 0 c'))) fun _ _ => dt_inS c' (de_var 3 c') (de_var 2 c')) (by simp [hb.1, hb.2, hnt])) fun H4 s4 r4 => ?_)
    have et4 := s4 _ _ et2
    have hi : i < row.length := (List.getElem?_eq_some_iff.mp hx).1
    refine wB_cons ?_
    refine wS_of (ps_expr (pe_sadd pe_w pa_w) rfl) ?_
    refine useE r4 (de_var 2 c') fun w H5 s5 w5 => ?_
    obtain ⟨rfl, e5⟩ := w5.obAt
    refine ⟨⟨t, _, _, rfl, by rw [c.w]; exact e5⟩, wA_cons (useE (r4.mono s5) (de_var 3 c') fun u H6 s6 u6 => wA_nil ?_)⟩
    have eu := u6.int
    subst eu
    have e6 := s6 _ _ e5
    refine ⟨t, x, _, m, rfl, rfl, by rw [c.w]; exact e6, Nat.lt_of_le_of_lt (show m + 1 ≤ 61 by omega) (by decide), wB_nil ?_⟩
    rw [c.w]
    have t26 := ((t2.trans s4).trans s5).trans s6
    have k6 : TK H6 (upd H6 t (SetO g.w t (fun j => decide (j ∈ row.take i) || decide (j = x)) (if decide (x ∈ row.take i) = true then m else m + 1))) := TK.upd e6 fun _ z => by cases z
    refine ⟨Same.mut (t0.trans t26) ht0, (t1.trans (TK.of t26)).trans k6, ⟨m + 1, by omega, ?_⟩, ((r'.mono t26).tk k6 rfl |> fun z => z.set 3 (.d (.int x)) |> fun z => ?_)⟩
    · rw [upd_same]
      congr 1
      have e7 : (fun j => decide (j ∈ row.take i) || decide (j = x)) = fun j => decide (j ∈ row.take (i + 1)) := by
        funext j
        rw [take_snoc hx]
        by_cases h1 : j ∈ row.take i <;> by_cases h2 : j = x <;> simp [h1, h2]
      rw [e7, if_neg (by simpa using hnt)]
    · exact ((((r4.mono (s5.trans s6)).unOb 2 rfl).tk k6 rfl)).sub (sub_eq (sub_eq (sub_eq (sub_no sub_nil))))
  · rintro σ' H' ⟨t0, t1, _, r'⟩
    exact wB_cons (ws_ret r' de_bl fun v H4 s4 v4 => q v H4 (t0.trans s4) v4)

/-! ### by_lists -/
theorem first1_mem {row s : List Int} {x : Int} (h : first1 row s = some x) : x ∈ s := by
  have := List.find?_some h
  simpa using this
theorem mem_firsts {rows : List (List Int)} {s : List Int} {k : Int} : k ∈ firsts rows s ↔ ∃ row ∈ rows, first1 row s = some k := by
  unfold firsts
  rw [mem_asc]
  constructor
  · intro h
    obtain ⟨o, ho, e⟩ := List.mem_map.mp h
    obtain ⟨h1, h2⟩ := List.mem_filter.mp ho
    obtain ⟨row, hr, rfl⟩ := List.mem_map.mp h1
    cases hf : first1 row s with
    | none =>
      rw [hf] at h2
      simp [dOpt] at h2
    | some x =>
      rw [hf] at e
      have e' : x = k := e
      subst e'
      exact ⟨row, hr, hf⟩
  · rintro ⟨row, hr, hf⟩
    refine List.mem_map.mpr ⟨some k, List.mem_filter.mpr ⟨List.mem_map.mpr ⟨row, hr, hf⟩, by simp [dOpt]⟩, rfl⟩
theorem good_firsts {n : Nat} (hn : n = 2 ∨ n = 3) (rows : List (List Int)) : Good n (firsts rows) := fun s hs => by
  have hm : ∀ k ∈ firsts rows s, k ∈ s := fun k hk => by
    obtain ⟨row, _, hf⟩ := mem_firsts.mp hk
    exact first1_mem hf
  exact ⟨⟨asc_lt _, fun x hx => ((mem_allSets hn).mp hs).2 x (hm x hx)⟩, hm⟩
def R_by_lists (as : List A) (b : A) : Prop := ∃ (n : Nat) (rows : List (List Int)), as = [aI n, .d (.tup (rows.map dSet))] ∧ (n = 2 ∨ n = 3) ∧ (∀ row ∈ rows, IsRow n row) ∧ rows.length ≤ 50 ∧ b = .ch n (firsts rows)
theorem S_by_lists : FnScope ["offers", "lists", "number", "row", "some"] ["offers", "lists"] (defScope s_by_lists) := ⟨rfl, rfl, rfl, by decide +kernel, rfl, by decide +kernel, by decide +kernel⟩
theorem map_sets {α : Type} (xs : List α) (f : α → List Int) : (xs.map fun s => dSet (f s)).map A.d = xs.map fun s => aSet (f s) := by rw [List.map_map]; rfl
theorem ok_by_lists (T : Txt g) (F : DefIn g "by_lists" s_by_lists) (WL : Def1 g 2 "is_list" (spP g 2 R_is_list)) (WA : Def1 g 1 "all_sets" (spP g 1 R_all_sets)) (WF : Def1 g 2 "firsts" (spP g 2 R_firsts)) (M : MakC g) : Def1 g 5 "by_lists" (spP g 2 R_by_lists) := by
  obtain ⟨f, fd, F, hm⟩ := F
  refine def_P F hm (F.bindsN (ps := ["offers", "lists"]) fun _ _ _ _ _ _ us hl => match us, hl with | [_, _], _ => rfl) S_by_lists T rfl fun X c as b hR hl σ H Q r q => ?_
  obtain ⟨n, rows, rfl, hn, hrows, hlen, rfl⟩ := hR
  have c' := c.toCxk
  refine wB_cons (ws_skip r ((dt_not (dt_val (de_isiT c' (de_var 1 c'))))) fun H1 s1 r1 => ?_)
  refine wB_cons (ws_for c r1 (di_enT c' (de_var 1 c')) (pg_P c' (pg_ND (i := 2) c rfl (.inl rfl)) (pg_ND (i := 3) c rfl (.inl rfl))) fun H3 s3 => ?_)
  refine ⟨fun i σ' H' => Same H3 H' ∧ Rel g H' σ' [some (aI n), some (.d (.tup (rows.map dSet))), none, none, none], ⟨Same.refl _, (r1.mono s3).sub (sub_eq (sub_eq (sub_no (sub_no (sub_no sub_nil)))))⟩, fun i σ' H' _ h => TK.of h.1, ?_, ?_⟩
  · rintro i d σ' H' v H2' hd ⟨t1, r'⟩ t2 vd
    obtain ⟨d', hd', rfl⟩ := mapIdx_get hd
    obtain ⟨row, hs, rfl⟩ := map_get hd'
    refine tg_P (vs := [2, 3]) (by simp) (by simp) σ' H2' v _ (r'.mono t2) vd fun σ3 r3 _ => ?_
    refine wB_cons (ws_skip r3 (dt_not (dt_val (de_call c' WL (by decide) (da_cons (de_var 0 c') (da_cons (de_var 3 c') da_nil)) ⟨n, row, rfl, hrows row (List.mem_of_getElem? hs), rfl⟩))) fun H4 s4 r4 => wB_nil ⟨(t1.trans t2).trans s4, r4.sub (sub_eq (sub_eq (sub_no (sub_no (sub_no sub_nil)))))⟩)
  · rintro σ' H' ⟨t1, r'⟩
    refine wB_cons (ws_ret r' (de_mkC c' M (by decide) (de_var 0 c') (de_tupleL c' (DL.is (DC.dl (dc_comp (xs := allSets n) (e := fun x => A.d (dSet x)) (pr := fun _ => true) (f := fun s => aSet (firsts rows s)) (own := [("some", 4)]) (gt := gName 4) (Γx := fun x => [some (aI n), some (.d (.tup (rows.map dSet))), none, none, some (aSet x)]) c'
      (di_tupM c' (de_call c' WA (by decide) (da_cons (de_var 0 c') da_nil) ⟨n, hn, rfl, rfl⟩)).same (by decide +kernel) rfl (fun X' d => pg_N d rfl rfl) (fun x hx => tg_N (by simp)) (fun x hx X' d => dts_nil) (fun x hx _ X' d => de_call d WF (by decide) (da_cons (de_var 1 d) (da_cons (de_var 4 d) da_nil)) ⟨rows, x, rfl, hlen, rfl⟩) (fun _ _ => rfl) (by have := allSets_len hn; omega)) c') (by rw [List.filter_eq_self.mpr (fun _ _ => rfl)]; exact (map_sets _ _).symm))) hn (good_firsts hn rows))
      fun v H4 s4 v4 => q v H4 (((s1.trans s3).trans t1).trans s4) v4)
end
end K85

/-! W7: either_of, in_turn, leaving_out, renamed, taken, trades. -/
namespace K85
open PySem PySem.Spec PyProof.Rows L2
theorem nIs {n : Nat} (hn : n = 2 ∨ n = 3) : n ≤ 100 := by omega
/-- what either takes -/
def eith (c c' : List Int → List Int) (s : List Int) : List Int := asc (c s ++ c' s)
theorem good_eith {n : Nat} {c c' : List Int → List Int} (h : Good n c) (h' : Good n c') : Good n (eith c c') := fun s hs => by
  refine ⟨isSet_asc fun x hx => ?_, fun k hk => ?_⟩
  · rcases List.mem_append.mp hx with h1 | h1
    · exact (h s hs).1.2 x h1
    · exact (h' s hs).1.2 x h1
  · rcases List.mem_append.mp (mem_asc.mp hk) with h1 | h1
    · exact (h s hs).2 k h1
    · exact (h' s hs).2 k h1
def rest (s gone : List Int) : List Int := s.filter fun x => !decide (x ∈ gone)
theorem rest_mem {n : Nat} (hn : n = 2 ∨ n = 3) {s : List Int} (gone : List Int) (hs : s ∈ allSets n) : rest s gone ∈ allSets n := (mem_allSets hn).mpr (((mem_allSets hn).mp hs).filter _)
def turn2 (c c' : List Int → List Int) (s : List Int) : List Int := asc (c s ++ c' (rest s (c s)))
theorem good_turn2 {n : Nat} (hn : n = 2 ∨ n = 3) {c c' : List Int → List Int} (h : Good n c) (h' : Good n c') : Good n (turn2 c c') := fun s hs => by
  have hr := rest_mem hn (c s) hs
  have sub : ∀ k ∈ rest s (c s), k ∈ s := fun k hk => (List.mem_filter.mp hk).1
  refine ⟨isSet_asc fun x hx => ?_, fun k hk => ?_⟩
  · rcases List.mem_append.mp hx with h1 | h1
    · exact (h s hs).1.2 x h1
    · exact (h' _ hr).1.2 x h1
  · rcases List.mem_append.mp (mem_asc.mp hk) with h1 | h1
    · exact (h s hs).2 k h1
    · exact sub k ((h' _ hr).2 k h1)
def leave (c : List Int → List Int) (gone s : List Int) : List Int := c (rest s gone)
theorem good_leave {n : Nat} (hn : n = 2 ∨ n = 3) {c : List Int → List Int} (h : Good n c) (gone : List Int) : Good n (leave c gone) := fun s hs => by
  have h1 := h _ (rest_mem hn gone hs)
  exact ⟨h1.1, fun k hk => (List.mem_filter.mp (h1.2 k hk)).1⟩
/-- an order of all offers -/
def IsOrd (n : Nat) (os : List Int) : Prop := os.length = n ∧ os.Nodup ∧ ∀ x ∈ os, 0 ≤ x ∧ x < (n : Int)
def oa (os : List Int) (k : Int) : Int := os.getD k.toNat 0
theorem oa_get {n : Nat} {os : List Int} (h : IsOrd n os) {k : Int} (hk : 0 ≤ k ∧ k < n) : os[k.toNat]? = some (oa os k) := by
  have : k.toNat < os.length := by rw [h.1]; omega
  unfold oa
  rw [List.getD_eq_getElem?_getD, List.getElem?_eq_getElem this]
  rfl
theorem oa_rng {n : Nat} {os : List Int} (h : IsOrd n os) {k : Int} (hk : 0 ≤ k ∧ k < n) : 0 ≤ oa os k ∧ oa os k < n := h.2.2 _ (List.mem_of_getElem? (oa_get h hk))
theorem oa_inj {n : Nat} {os : List Int} (h : IsOrd n os) {k l : Int} (hk : 0 ≤ k ∧ k < n) (hl : 0 ≤ l ∧ l < n) (e : oa os k = oa os l) : k = l := by
  have e1 := oa_get h hk
  have e2 := oa_get h hl
  obtain ⟨l1, f1⟩ := List.getElem?_eq_some_iff.mp e1
  obtain ⟨l2, f2⟩ := List.getElem?_eq_some_iff.mp e2
  have hp := List.pairwise_iff_getElem.mp h.2.1
  rcases Nat.lt_trichotomy k.toNat l.toNat with q | q | q
  · exact absurd (f1.trans (e.trans f2.symm)) (hp _ _ l1 l2 q)
  · omega
  · exact absurd (f2.trans (e.symm.trans f1.symm)) (hp _ _ l2 l1 q)
def elder (n : Nat) (os s : List Int) : List Int := (rngI n).filter fun k => decide (oa os k ∈ s)
def ren (n : Nat) (os : List Int) (c : List Int → List Int) (s : List Int) : List Int := sortI ((c (elder n os s)).map (oa os))
theorem elder_mem {n : Nat} (hn : n = 2 ∨ n = 3) (os s : List Int) : elder n os s ∈ allSets n := (mem_allSets hn).mpr ⟨(rngI_asc n).filter _, fun x hx => mem_rngI.mp (List.mem_filter.mp hx).1⟩
theorem nodup_map_oa {n : Nat} {os : List Int} (h : IsOrd n os) : ∀ {xs : List Int}, IsSet n xs → (xs.map (oa os)).Nodup
  | [], _ => List.nodup_nil
  | x :: xs, hs => by
    have hp := List.pairwise_cons.mp hs.1
    have hs' : IsSet n xs := ⟨hp.2, fun y hy => hs.2 y (List.mem_cons_of_mem _ hy)⟩
    rw [List.map_cons]
    refine List.nodup_cons.mpr ⟨fun hm => ?_, nodup_map_oa h hs'⟩
    obtain ⟨y, hy, e⟩ := List.mem_map.mp hm
    have := oa_inj h (hs'.2 y hy) (hs.2 x List.mem_cons_self) e
    have := hp.1 y hy
    omega
theorem good_ren {n : Nat} (hn : n = 2 ∨ n = 3) {os : List Int} (ho : IsOrd n os) {c : List Int → List Int} (h : Good n c) : Good n (ren n os c) := fun s hs => by
  have h1 := h _ (elder_mem hn os s)
  refine ⟨⟨asc_of_nodup (nodup_map_oa ho h1.1), fun x hx => ?_⟩, fun k hk => ?_⟩
  · obtain ⟨y, hy, rfl⟩ := List.mem_map.mp (mem_sortI.mp hx)
    exact oa_rng ho (h1.1.2 y hy)
  · obtain ⟨y, hy, rfl⟩ := List.mem_map.mp (mem_sortI.mp hk)
    have := (List.mem_filter.mp (h1.2 y hy)).2
    simpa using this
section
variable {g : Cfg}
def R_either (as : List A) (b : A) : Prop := ∃ (n : Nat) (c c' : List Int → List Int), as = [.ch n c, .ch n c'] ∧ (n = 2 ∨ n = 3) ∧ Good n c ∧ Good n c' ∧ b = .ch n (eith c c')
theorem S_either : FnScope ["one", "other", "some"] ["one", "other"] (defScope s_either_of) := ⟨rfl, rfl, rfl, by decide +kernel, rfl, by decide +kernel, by decide +kernel⟩
theorem ok_either (T : Txt g) (F : DefIn g "either_of" s_either_of) (WS : Def1 g 3 "same_offers" (spP g 1 R_same)) (LC : LenC g) (LT : LenT g) (WA : Def1 g 1 "all_sets" (spP g 1 R_all_sets)) (WT : Def1 g 1 "together" (spP g 2 R_together)) (M : MakC g) : Def1 g 5 "either_of" (spP g 2 R_either) := by
  obtain ⟨f, fd, F, hm⟩ := F
  refine def_P F hm (F.bindsN (ps := ["one", "other"]) fun _ _ _ _ _ _ us hl => match us, hl with | [_, _], _ => rfl) S_either T rfl fun X c as b hR hl σ H Q r q => ?_
  obtain ⟨n, h, h', rfl, hn, g1, g2, rfl⟩ := hR
  have c' := c.toCxk
  refine wB_cons (ws_expr r (de_call c' WS (by decide) (da_cons (dl_lst (da_cons (de_var 0 c') (da_cons (de_var 1 c') da_nil))).de da_nil) ⟨.ch n h, .ch n h', n, rfl, rfl, rfl, nIs hn, rfl⟩) fun H1 s1 r1 => ?_)
  have dlen : ∀ {e : Expr} {pos p : Pos} {j : Nat} {Γ : List (Option A)} {sc : Scope} {X' : Cx}, Cxk g ["one", "other", "some"] sc 4 X' → True := fun _ => trivial
  refine wB_cons (ws_ret r1 (de_mkC c' M (by decide) (de_lenA c' LC LT (by decide) (de_var 0 c') rfl (nIs hn)) (de_tupleL c' (DL.is (DC.dl (dc_comp (xs := allSets n) (e := fun x => A.d (dSet x)) (pr := fun _ => true) (f := fun s => aSet (eith h h' s)) (own := [("some", 2)]) (gt := gName 2) (Γx := fun x => [some (.ch n h), some (.ch n h'), some (aSet x)]) c'
      (di_tupM c' (de_call c' WA (by decide) (da_cons (de_lenA c' LC LT (by decide) (de_var 0 c') rfl (nIs hn)) da_nil) ⟨n, hn, rfl, rfl⟩)).same (by decide +kernel) rfl (fun X' d => pg_N d rfl rfl) (fun x hx => tg_N (by simp)) (fun x hx X' d => dts_nil)
      (fun x hx _ X' d => de_call d WT (by decide) (da_cons (de_tab d (de_table d (de_var 0 d)) (de_var 2 d) hx) (da_cons (de_tab d (de_table d (de_var 1 d)) (de_var 2 d) hx) da_nil)) ⟨h x, h' x, rfl, Nat.le_trans (isSet_len hn (g1 x hx).1) (by decide), Nat.le_trans (isSet_len hn (g2 x hx).1) (by decide), rfl⟩) (fun _ _ => rfl) (by have := allSets_len hn; omega)) c')
      (by rw [List.filter_eq_self.mpr (fun _ _ => rfl)]; exact (map_sets _ _).symm))) hn (good_eith g1 g2)) fun v H4 s4 v4 => q v H4 (s1.trans s4) v4)
def R_leave (as : List A) (b : A) : Prop := ∃ (n : Nat) (c : List Int → List Int) (gone : List Int), as = [.ch n c, aSet gone] ∧ (n = 2 ∨ n = 3) ∧ Good n c ∧ IsSet n gone ∧ b = .ch n (leave c gone)
theorem S_leave : FnScope ["chooser", "some", "picks", "other"] ["chooser", "some"] (defScope s_leaving_out) := ⟨rfl, rfl, rfl, by decide +kernel, rfl, by decide +kernel, by decide +kernel⟩
theorem ok_leave (T : Txt g) (F : DefIn g "leaving_out" s_leaving_out) (WS : Def1 g 2 "is_set" (spP g 2 R_is_set)) (LC : LenC g) (LT : LenT g) (WA : Def1 g 1 "all_sets" (spP g 1 R_all_sets)) (WM : Def1 g 1 "made_rest" (spP g 2 R_made_rest)) (M : MakC g) : Def1 g 5 "leaving_out" (spP g 2 R_leave) := by
  obtain ⟨f, fd, F, hm⟩ := F
  refine def_P F hm (F.bindsN (ps := ["chooser", "some"]) fun _ _ _ _ _ _ us hl => match us, hl with | [_, _], _ => rfl) S_leave T rfl fun X c as b hR hl σ H Q r q => ?_
  obtain ⟨n, h, gone, rfl, hn, g1, hgn, rfl⟩ := hR
  have c' := c.toCxk
  refine wB_cons (ws_skip r (dt_not (dt_val (de_call c' WS (by decide) (da_cons (de_lenA c' LC LT (by decide) (de_var 0 c') rfl (nIs hn)) (da_cons (de_var 1 c') da_nil)) ⟨n, gone, rfl, hgn, rfl⟩))) fun H1 s1 r1 => ?_)
  refine wB_cons (ws_asgC 2 c r1 (dc_comp (xs := allSets n) (e := fun x => A.d (dSet x)) (pr := fun _ => true) (f := fun s => aSet (leave h gone s)) (own := [("other", 3)]) (gt := gName 3) (Γx := fun x => [some (.ch n h), some (aSet gone), none, some (aSet x)]) c'
      (di_tupM c' (de_call c' WA (by decide) (da_cons (de_lenA c' LC LT (by decide) (de_var 0 c') rfl (nIs hn)) da_nil) ⟨n, hn, rfl, rfl⟩)).same (by decide +kernel) rfl (fun X' d => pg_N d rfl rfl) (fun x hx => tg_N (by simp)) (fun x hx X' d => dts_nil)
      (fun x hx _ X' d => de_tab (f := h) (s := rest x gone) d (de_table d (de_var 0 d)) (de_call d WM (by decide) (da_cons (de_var 3 d) (da_cons (de_var 1 d) da_nil)) ⟨x, gone, rfl, by have := isSet_len hn ((mem_allSets hn).mp hx); omega, rfl⟩) (rest_mem hn gone hx)) (fun _ _ => rfl) (by have := allSets_len hn; omega)) fun p xs σ2 H2 h0 s2 e2 v2 r2 => ?_)
  rw [List.filter_eq_self.mpr (fun _ _ => rfl), ← map_sets] at v2
  have r3 := r2.toLs 2 rfl e2 v2
  exact wB_cons (ws_ret r3 (de_mkC c' M (by decide) (de_lenA c' LC LT (by decide) (de_var 0 c') rfl (nIs hn)) (de_tupleLs c' (de_var 2 c')) hn (good_leave hn g1 gone)) fun v H4 s4 v4 => q v H4 ((s1.trans s2).trans s4) v4)
def R_turn2 (as : List A) (b : A) : Prop := ∃ (n : Nat) (c c' : List Int → List Int), as = [.ch n c, .ch n c'] ∧ (n = 2 ∨ n = 3) ∧ Good n c ∧ Good n c' ∧ b = .ch n (turn2 c c')
theorem S_turn2 : FnScope ["one", "other", "picks", "some", "pick"] ["one", "other"] (defScope s_in_turn) := ⟨rfl, rfl, rfl, by decide +kernel, rfl, by decide +kernel, by decide +kernel⟩
theorem ok_turn2 (T : Txt g) (F : DefIn g "in_turn" s_in_turn) (WS : Def1 g 3 "same_offers" (spP g 1 R_same)) (LC : LenC g) (LT : LenT g) (WA : Def1 g 1 "all_sets" (spP g 1 R_all_sets)) (WT : Def1 g 1 "together" (spP g 2 R_together)) (WM : Def1 g 1 "made_rest" (spP g 2 R_made_rest)) (M : MakC g) : Def1 g 5 "in_turn" (spP g 2 R_turn2) := by
  obtain ⟨f, fd, F, hm⟩ := F
  refine def_P F hm (F.bindsN (ps := ["one", "other"]) fun _ _ _ _ _ _ us hl => match us, hl with | [_, _], _ => rfl) S_turn2 T rfl fun X c as b hR hl σ H Q r q => ?_
  obtain ⟨n, h, h', rfl, hn, g1, g2, rfl⟩ := hR
  have c' := c.toCxk
  refine wB_cons (ws_expr r (de_call c' WS (by decide) (da_cons (dl_lst (da_cons (de_var 0 c') (da_cons (de_var 1 c') da_nil))).de da_nil) ⟨.ch n h, .ch n h', n, rfl, rfl, rfl, nIs hn, rfl⟩) fun H1 s1 r1 => ?_)
  refine wB_cons (ws_asgL 2 c r1 (dl_lst da_nil) fun l xs σ2 H2 h0 s2 e2 v2 r2 => ?_)
  have hl0 : H l = none := s1.free h0
  cases v2
  refine wB_cons (ws_for c r2 (di_tupM c' (de_call c' WA (by decide) (da_cons (de_lenA c' LC LT (by decide) (de_var 0 c') rfl (nIs hn)) da_nil) ⟨n, hn, rfl, rfl⟩)) (pg_ND (i := 3) c rfl (.inl rfl)) fun H3 s3 => ?_)
  have nol : ∀ (i : Nat), ∀ a ∈ ((allSets n).take i).map (fun s => aSet (turn2 h h' s)), noLs a = true := fun i a ha => by
    obtain ⟨_, _, rfl⟩ := List.mem_map.mp ha
    rfl
  refine ⟨fun i σ' H' => Same H H' ∧ TK H3 H' ∧ (∃ ys, H' l = some (.lst ys) ∧ AVs g H' ys (((allSets n).take i).map fun s => aSet (turn2 h h' s))) ∧ Rel g H' σ' [some (.ch n h), some (.ch n h'), some (.obj (.ref l)), none, none],
    ⟨(s1.trans s2).trans s3, TK.refl _, ⟨[], s3 _ _ e2, .nil⟩, (r2.mono s3).sub (sub_eq (sub_eq (sub_eq (sub_no (sub_no sub_nil)))))⟩, fun i σ' H' _ h => h.2.1, ?_, ?_⟩
  · rintro i d σ' H' v H2' hd ⟨t0, t1, ⟨ys, el, vl⟩, r'⟩ t2 vd
    obtain ⟨s, hs, rfl⟩ := map_get hd
    have hm := List.mem_of_getElem? hs
    have r3 := (r'.mono t2).set 3 vd
    have hr := rest_mem hn (h s) hm
    refine wB_cons (ws_asg 4 c r3 (de_tab c' (de_table c' (de_var 0 c')) (de_var 3 c') hm) fun σ4 H4 s4 r4 => ?_)
    have vl4 := (vl.mono t2).mono s4
    have el4 := s4 _ _ (t2 _ _ el)
    have ly := vl.length
    rw [List.length_map, List.length_take] at ly
    have hz := allSets_len hn
    refine wB_cons (ws_app c r4 (de_var 2 c') (de_call c' WT (by decide) (da_cons (de_var 4 c') (da_cons (de_tab c' (de_table c' (de_var 1 c')) (de_call c' WM (by decide) (da_cons (de_var 3 c') (da_cons (de_var 4 c') da_nil)) ⟨s, h s, rfl, by have := isSet_len hn ((mem_allSets hn).mp hm); omega, rfl⟩) hr) da_nil))
      ⟨h s, h' (rest s (h s)), rfl, Nat.le_trans (isSet_len hn (g1 s hm).1) (by decide), Nat.le_trans (isSet_len hn (g2 _ hr).1) (by decide), rfl⟩) el4 (by omega) fun v5 H5 b5 e5 v5' r5 => wB_nil ?_)
    have k5 := b5.kp el4 rfl
    refine ⟨b5.same ((t0.trans t2).trans s4) hl0, (t1.trans (TK.of (t2.trans s4))).trans k5.tk, ⟨_, e5, ?_⟩, (r5 rfl).sub (sub_eq (sub_eq (sub_eq (sub_no (sub_no sub_nil)))))⟩
    rw [take_snoc hs, List.map_append]
    exact AVs.snoc (vl4.kp k5 (nol _)) (v5' rfl)
  · rintro σ' H' ⟨t0, t1, ⟨ys, el, vl⟩, r'⟩
    have en : ((allSets n).map fun x => A.d (dSet x)).length = (allSets n).length := by simp
    rw [en, List.take_length, ← map_sets] at vl
    have r3 := r'.toLs 2 rfl el vl
    exact wB_cons (ws_ret r3 (de_mkC c' M (by decide) (de_lenA c' LC LT (by decide) (de_var 0 c') rfl (nIs hn)) (de_tupleLs c' (de_var 2 c')) hn (good_turn2 hn g1 g2)) fun v H4 s4 v4 => q v H4 (t0.trans s4) v4)
def R_ren (as : List A) (b : A) : Prop := ∃ (n : Nat) (c : List Int → List Int) (os : List Int), as = [.ch n c, aSet os] ∧ (n = 2 ∨ n = 3) ∧ Good n c ∧ IsOrd n os ∧ b = .ch n (ren n os c)
theorem S_ren : FnScope ["chooser", "order", "picks", "some", "elder", "one"] ["chooser", "order"] (defScope s_renamed) := ⟨rfl, rfl, rfl, by decide +kernel, rfl, by decide +kernel, by decide +kernel⟩
theorem ok_ren (T : Txt g) (F : DefIn g "renamed" s_renamed) (LC : LenC g) (LT : LenT g) (WA : Def1 g 1 "all_sets" (spP g 1 R_all_sets)) (M : MakC g) : Def1 g 5 "renamed" (spP g 2 R_ren) := by
  obtain ⟨f, fd, F, hm⟩ := F
  refine def_P F hm (F.bindsN (ps := ["chooser", "order"]) fun _ _ _ _ _ _ us hl => match us, hl with | [_, _], _ => rfl) S_ren T rfl fun X c as b hR hl σ H Q r q => ?_
  obtain ⟨n, h, os, rfl, hn, g1, ho, rfl⟩ := hR
  have c' := c.toCxk
  refine wB_cons (ws_asgL 2 c r (dl_lst da_nil) fun l xs σ2 H2 h0 s2 e2 v2 r2 => ?_)
  cases v2
  refine wB_cons (ws_for c r2 (di_tupM c' (de_call c' WA (by decide) (da_cons (de_lenA c' LC LT (by decide) (de_var 0 c') rfl (nIs hn)) da_nil) ⟨n, hn, rfl, rfl⟩)) (pg_ND (i := 3) c rfl (.inr rfl)) fun H3 s3 => ?_)
  have nol : ∀ (i : Nat), ∀ a ∈ ((allSets n).take i).map (fun s => aSet (ren n os h s)), noLs a = true := fun i a ha => by
    obtain ⟨_, _, rfl⟩ := List.mem_map.mp ha
    rfl
  refine ⟨fun i σ' H' => Same H H' ∧ TK H3 H' ∧ (∃ ys, H' l = some (.lst ys) ∧ AVs g H' ys (((allSets n).take i).map fun s => aSet (ren n os h s))) ∧ Rel g H' σ' [some (.ch n h), some (aSet os), some (.obj (.ref l)), none, none, none],
    ⟨s2.trans s3, TK.refl _, ⟨[], s3 _ _ e2, .nil⟩, (r2.mono s3).sub (sub_eq (sub_eq (sub_eq (sub_no (sub_no (sub_no sub_nil))))))⟩, fun i σ' H' _ h => h.2.1, ?_, ?_⟩
  · rintro i d σ' H' v H2' hd ⟨t0, t1, ⟨ys, el, vl⟩, r'⟩ t2 vd
    obtain ⟨s, hs, rfl⟩ := map_get hd
    have hm := List.mem_of_getElem? hs
    have r3 := (r'.mono t2).set 3 vd
    have hel := elder_mem hn os s
    have hg := g1 _ hel
    refine wB_cons (ws_asg (z := aSet (elder n os s)) 4 c r3 (de_tupI c' (DL.is (DC.dl (dc_comp (xs := rngI n) (e := aI) (pr := fun k => decide (oa os k ∈ s)) (f := aI) (own := [("one", 5)]) (gt := gName 5) (Γx := fun x => [some (.ch n h), some (aSet os), some (.obj (.ref l)), some (aSet s), none, some (aI x)]) c'
      ((di_range1 (n := n) c' (de_lenA c' LC LT (by decide) (de_var 0 c') rfl (nIs hn)) (by omega)).is (by unfold rngI; rw [List.map_map]; rfl)).same (by decide +kernel) rfl (fun X' d => pg_N d rfl rfl) (fun x hx => (tg_N (by simp)).sub (sub_eq (sub_eq (sub_eq (sub_eq (sub_no (sub_eq sub_nil)))))))
      (fun x hx X' d => dts_one (dt_inI d (de_ix d (de_var 1 d) (de_var 5 d) (d := .num (oa os x)) (atI_map (atI_get (mem_rngI.mp hx).1 (oa_get ho (mem_rngI.mp hx))))) (de_var 3 d))) (fun x hx _ X' d => de_var 5 d) (fun _ _ => rfl) (by unfold rngI; simp; omega)) c') rfl)) fun σ4 H4 s4 r4 => ?_)
    have vl4 := (vl.mono t2).mono s4
    have el4 := s4 _ _ (t2 _ _ el)
    have ly := vl.length
    rw [List.length_map, List.length_take] at ly
    have hz := allSets_len hn
    refine wB_cons (ws_app (z := aSet (ren n os h s)) c r4 (de_var 2 c') (de_tupI c' (dl_sortedI c' (DL.is (DC.dl (dc_comp (xs := h (elder n os s)) (e := aI) (pr := fun k => true) (f := fun k => aI (oa os k)) (own := [("one", 5)]) (gt := gName 5) (Γx := fun x => [some (.ch n h), some (aSet os), some (.obj (.ref l)), some (aSet s), some (aSet (elder n os s)), some (aI x)]) c'
      (di_set c' (de_tab c' (de_table c' (de_var 0 c')) (de_var 4 c') hel)).same (by decide +kernel) rfl (fun X' d => pg_N d rfl rfl) (fun x hx => tg_N (by simp)) (fun x hx X' d => dts_nil)
      (fun x hx _ X' d => de_ix d (de_var 1 d) (de_var 5 d) (d := .num (oa os x)) (atI_map (atI_get (hg.1.2 x hx).1 (oa_get ho (hg.1.2 x hx))))) (fun _ _ => rfl) (by have := isSet_len hn hg.1; omega)) c') (by rw [List.filter_eq_self.mpr (fun _ _ => rfl)]; exact (List.map_map (f := oa os) (g := aI)).symm)) (by have := isSet_len hn hg.1; simp; omega))) el4 (by omega) fun v5 H5 b5 e5 v5' r5 => wB_nil ?_)
    have k5 := b5.kp el4 rfl
    refine ⟨b5.same ((t0.trans t2).trans s4) h0, (t1.trans (TK.of (t2.trans s4))).trans k5.tk, ⟨_, e5, ?_⟩, (r5 rfl).sub (sub_eq (sub_eq (sub_eq (sub_no (sub_no (sub_no sub_nil))))))⟩
    rw [take_snoc hs, List.map_append]
    exact AVs.snoc (vl4.kp k5 (nol _)) (v5' rfl)
  · rintro σ' H' ⟨t0, t1, ⟨ys, el, vl⟩, r'⟩
    have en : ((allSets n).map fun x => A.d (dSet x)).length = (allSets n).length := by simp
    rw [en, List.take_length, ← map_sets] at vl
    have r3 := r'.toLs 2 rfl el vl
    exact wB_cons (ws_ret r3 (de_mkC c' M (by decide) (de_lenA c' LC LT (by decide) (de_var 0 c') rfl (nIs hn)) (de_tupleLs c' (de_var 2 c')) hn (good_ren hn ho g1)) fun v H4 s4 v4 => q v H4 (t0.trans s4) v4)
def R_taken (as : List A) (b : A) : Prop := ∃ (n : Nat) (c : List Int → List Int) (s : List Int), as = [.ch n c, aSet s] ∧ s ∈ allSets n ∧ IsSet n s ∧ b = aSet (c s)
theorem S_taken : FnScope ["self", "some"] ["self", "some"] (defScope s_Chooser_taken) := ⟨rfl, rfl, rfl, by decide +kernel, rfl, by decide +kernel, by decide +kernel⟩
abbrev MetT (g : Cfg) : Prop := C8.Met g.P g.w g.K g.mg g.base 3 g.C "taken" (spP g 2 R_taken) []
theorem ok_taken (T : Txt g) (F : MethIn g g.C "taken" "Chooser.taken" s_Chooser_taken) (WS : Def1 g 2 "is_set" (spP g 2 R_is_set)) : MetT g := by
  obtain ⟨f, fd, F, cl, me⟩ := F
  refine met_P F cl me (F.bindsN (ps := ["self", "some"]) fun _ _ _ _ _ _ us hl => match us, hl with | [_, _], _ => rfl) S_taken T rfl fun X c as b hR hl σ H Q r q => ?_
  obtain ⟨n, h, s, rfl, hm, hs, rfl⟩ := hR
  have c' := c.toCxk
  refine wB_cons (ws_skip r (dt_not (dt_val (de_call c' WS (by decide) (da_cons (de_offers c' (de_var 0 c')) (da_cons (de_var 1 c') da_nil)) ⟨n, s, rfl, hs, rfl⟩))) fun H1 s1 r1 => ?_)
  exact wB_cons (ws_ret r1 (de_tab c' (de_table c' (de_var 0 c')) (de_var 1 c') hm) fun v H4 s4 v4 => q v H4 (s1.trans s4) v4)
/-- o.taken(s) -/
theorem de_taken {N : List Str} {sc : Scope} {X : Cx} {j : Nat} {Γ : List (Option A)} {a b : Expr} {pos apos : Pos} {n : Nat} {h : List Int → List Int} {s : List Int} {pl : Sem Bool} (c : Cxk g N sc j X) (M : MetT g) (hj : 3 ≤ j) (ha : DE g X a Γ (.ch n h)) (hb : DE g X b Γ (aSet s)) (hm : s ∈ allSets n) (hs : IsSet n s)
    (hst : starEach [b] X.env = (false, eval b X.env) :: starEach [] X.env := by rfl) (hpl : (backTo pos (starEach [] X.env)).any (·.1) = false := by rfl)
    (ht : eval (.Call (.Attribute a "taken" apos) [b] [] pos) X.env = (do
      let ov ← eval a X.env
      standAt apos.atName
      let (f, first) ← holding [ov] (getMethod ov "taken" pl)
      callWith pos f first (backTo pos (starEach [b] X.env)) (backToKw pos (keywordEach [] X.env))) := by rfl) : DE g X (.Call (.Attribute a "taken" apos) [b] [] pos) Γ (aSet (h s)) := fun σ H Q r q =>
  ⟨_, C8.pe_mt (pl := pl) (cal_met c M) c.room hj pe_w pa_w hst hpl ht, ha σ H _ r fun v H1 s1 v1 => by
    cases v1 with
    | @ch l _ _ x =>
      obtain ⟨dx, fs, t, pp, e0, rest⟩ := id x
      refine ⟨l, dx, fs, rfl, e0, rest.2.2.2.2.2.1, wA_cons (hb σ H1 _ (r.mono s1) fun u H2 s2 u2 => wA_nil ?_) hst⟩
      exact ⟨rfl, [.ch n h, aSet s], aSet (h s), .cons (.ch (x.mono (Kp.of s2))) (.cons u2 .nil), ⟨n, h, s, rfl, hm, hs, rfl⟩, fun w H3 s3 w3 => q w H3 ((s1.trans s2).trans s3) w3⟩⟩
/-! ### trades -/
def Lives (l : List Int) : Prop := 1 ≤ l.length ∧ l.length ≤ 9 ∧ ∀ x ∈ l, 1 ≤ x ∧ x ≤ 99
def R_fit (as : List A) (b : A) : Prop := ∃ l : List Int, as = [aSet l] ∧ Lives l ∧ b = .bl true
theorem S_fit : FnScope ["lives", "life"] ["lives"] (defScope s_trade_lives_fit) := ⟨rfl, rfl, rfl, by decide +kernel, rfl, by decide +kernel, by decide +kernel⟩
theorem ok_fit (T : Txt g) (F : DefIn g "trade_lives_fit" s_trade_lives_fit) (h9 : ∃ t, g.mg "TRADE_MOST_OFFERS" = some (.int 9 t)) (h99 : ∃ t, g.mg "TRADE_MOST_LIFE" = some (.int 99 t)) (W : Def1 g 1 "is_whole" (spP g 1 R_is_whole)) : Def1 g 2 "trade_lives_fit" (spP g 1 R_fit) := by
  obtain ⟨f, fd, F, hm⟩ := F
  refine def_P F hm (F.bindsN (ps := ["lives"]) fun _ _ _ _ _ _ us hl => match us, hl with | [_], _ => rfl) S_fit T rfl fun X c as b hR hl σ H Q r q => ?_
  obtain ⟨l, rfl, ⟨h1, h2, h3⟩, rfl⟩ := hR
  have c' := c.toCxk
  refine wB_cons (ws_skip r (DT.is (dt_or2 (dt_not (dt_val (de_isiT c' (de_var 0 c')))) fun _ => dt_not (dt_le2 de_int (de_lenT c' (de_var 0 c')) (de_glob c' h9))) (by simp; omega)) fun H1 s1 r1 => ?_)
  refine wB_cons (ws_for c r1 (di_set c' (de_var 0 c')) (pg_ND (i := 1) c rfl (.inl rfl)) fun H3 s3 => ?_)
  refine ⟨fun i σ' H' => Same H3 H' ∧ Rel g H' σ' [some (aSet l), none], ⟨Same.refl _, r1.mono s3⟩, fun i σ' H' _ h => TK.of h.1, ?_, ?_⟩
  · rintro i d σ' H' v H2' hd ⟨t1, r'⟩ t2 vd
    obtain ⟨x, hx, rfl⟩ := map_get hd
    have hb := h3 x (List.mem_of_getElem? hx)
    refine wB_cons (ws_skip ((r'.mono t2).set 1 vd) (DT.is (dt_or2 (dt_not (dt_val (de_call c' W (by decide) (da_cons (de_var 1 c') da_nil) ⟨x, rfl, rfl⟩))) fun _ => dt_not (dt_le2 de_int (de_var 1 c') (de_glob c' h99))) (by simp [hb.1, hb.2])) fun H4 s4 r4 => wB_nil ⟨(t1.trans t2).trans s4, r4.sub (sub_eq (sub_no sub_nil))⟩)
  · rintro σ' H' ⟨t1, r'⟩
    exact wB_cons (ws_ret r' de_bl fun v H4 s4 v4 => q v H4 (((s1.trans s3).trans t1).trans s4) v4)
def spInitT (g : Cfg) : Sp := fun vs H Q _ => ∃ (x dx : Addr) (v w : V) (l z : List Int), vs = [.ref x, v, w] ∧ H x = some (.ins g.T dx []) ∧ DV H v (dSet l) ∧ DV H w (dSet z) ∧ Lives l ∧ IsSet l.length z ∧
  ∀ H', But x H H' → TrAt g H' x l z → Q .non H'
abbrev MakT (g : Cfg) : Prop := C8.Mak g.P g.w g.K g.mg g.base 3 "Trade" g.T (spInitT g) []
theorem S_initT : FnScope ["self", "lives", "loose"] ["self", "lives", "loose"] (defScope s_Trade_init) := ⟨rfl, rfl, rfl, by decide +kernel, rfl, by decide +kernel, by decide +kernel⟩
theorem ok_initT (T : Txt g) (F : MakeIn g "Trade" "Trade.__init__" g.T s_Trade_init) (WF : Def1 g 2 "trade_lives_fit" (spP g 1 R_fit)) (WS : Def1 g 2 "is_set" (spP g 2 R_is_set)) : MakT g := by
  obtain ⟨f, fd, F, cl, mk, hm⟩ := F
  refine ⟨f, fd, ["self", "lives", "loose"], [], mk, def_ok F S_initT T (fun vs H Q E h => by obtain ⟨x, dx, v, w, l, z, rfl, _⟩ := h; rfl) fun X c vs H Q E hsp => ?_, hm, (F.bindsN (ps := ["self", "lives", "loose"]) fun _ _ _ _ _ _ us hl => match us, hl with | [_, _, _], _ => rfl), .nil⟩
  obtain ⟨x, dx, v, w, l, z, rfl, hx, hv, hw, hL, hz, q⟩ := hsp
  have c' := c.toCxk
  have r : Rel g H (start ["self", "lives", "loose"] [.ref x, v, w]) [some (.obj (.ref x)), some (aSet l), some (aSet z)] := rel_cons (.obj _) (rel_cons (.d hv) (rel_cons (.d hw) rel_nil))
  refine wB_cons (ws_skip r (dt_not (dt_val (de_call c' WF (by decide) (da_cons (de_var 1 c') da_nil) ⟨l, rfl, hL, rfl⟩))) fun H1 s1 r1 => ?_)
  refine wB_cons (ws_skip r1 (dt_not (dt_val (de_call c' WS (by decide) (da_cons (de_lenT c' (de_var 1 c')) (da_cons (de_var 2 c') da_nil)) ⟨l.length, z, by simp, hz, rfl⟩))) fun H2 s2 r2 => ?_)
  refine wB_cons (ws_fld c r2 (de_var 0 c') (de_var 1 c') (s2 _ _ (s1 _ _ hx)) T.cT T.nLives (by decide) rfl fun v1 H3 b3 e3 a3 r3 => ?_)
  refine wB_cons (ws_fld c r3 (de_var 0 c') (de_var 2 c') e3 T.cT T.nLoose (Nat.lt_of_le_of_lt (pl (Nat.le_refl 0)) (by decide)) rfl fun v2 H4 b4 e4 a4 r4 => wB_nil ?_)
  obtain ⟨p, rfl, hp⟩ := (a3 rfl).setOf
  obtain ⟨p2, rfl, hp2⟩ := (a4 rfl).setOf
  have k4 : TK H3 H4 := b4.tk e3 fun _ z => by cases z
  exact q H4 (fun b o hb e => b4 b o hb (b3 b o hb (s2 _ _ (s1 _ _ e)))) ⟨dx, _, p, p2, e4, lk_ne (by decide) lk_eq, lk_eq, k4 _ _ hp, hp2, lk_ne (by decide) (lk_ne (by decide) rfl)⟩
theorem de_mkT {N : List Str} {sc : Scope} {X : Cx} {j : Nat} {Γ : List (Option A)} {a b : Expr} {pos p : Pos} {l z : List Int} (ct : Cxk g N sc j X) (M : MakT g) (hj : 4 ≤ j) (ha : DE g X a Γ (aSet l)) (hb : DE g X b Γ (aSet z)) (hL : Lives l) (hz : IsSet l.length z) (hg : GlS sc "Trade" := by rfl)
    (h1 : starEach [a, b] X.env = (false, eval a X.env) :: starEach [b] X.env := by rfl) (h2 : starEach [b] X.env = (false, eval b X.env) :: starEach [] X.env := by rfl) (hpl : (backTo pos (starEach [b] X.env)).any (·.1) = false := by rfl) : DE g X (.Call (.Name "Trade" p) [a, b] [] pos) Γ (.tr l z) :=
  de_mk ct M hj (da_cons ha (da_cons hb da_nil h2) h1) (fun H vs x dx Q hv hl hdx hne q => by
    obtain ⟨v, u, rfl, v1, v2⟩ := avs2 hv
    have sm : Same H (upd (upd H dx (.own x)) x (.ins g.T dx [])) := (Same.newO hdx).trans (Same.newO (by rw [upd_ne (Ne.symm hne)]; exact hl))
    refine ⟨x, dx, v, u, l, z, rfl, upd_same, v1.dv.mono (TK.of sm), v2.dv.mono (TK.of sm), hL, hz, fun H' b h => q H' (b.same sm hl) (.tr h)⟩) hg (he := h1) (hpl := hpl)
end
end K85

/-! L13: dicts of plain keys: read, filled, walked; lists put together; max of two. -/
namespace K85
open PySem PySem.Spec PyProof.Rows L2
section
variable {g : Cfg} {N : List Str} {sc : Scope} {X : Cx} {j k : Nat} {Γ : List (Option A)} {e a b o tg iter : Expr} {es : List Expr} {x f : Str} {pos p px opos apos cpos : Pos} {D : Ends} {σ : L2.St} {H : Hp} {i : Nat}
/-- d[k], d a dict of plain keys, read as it is or locked -/
def dko (u : HO) (kvs : List (Key × V)) : Prop := u = .dK kvs ∨ ∃ od, u = .frz od (.dK kvs)
theorem dko.rd {l : Addr} {u : HO} {kvs : List (Key × V)} (h : dko u kvs) (e : H l = some u) : Rd H l (.dK kvs) := by
  rcases h with rfl | ⟨od, rfl⟩
  · exact .inl e
  · exact .inr ⟨od, e⟩
theorem de_dgetI {l : Addr} {u : HO} {kvs : List (Key × V)} {i : Int} {v : V} {z : A} (c : Cxk g N sc k X) (ha : DE g X a Γ (.ob l u)) (hb : DE g X b Γ (aI i)) (hu : dko u kvs) (h : valV kvs (.inl i) = some v) (hz : ∀ H, AV g H v z) (hs : NoSl b := by exact fun _ _ => rfl) : DE g X (.Subscript a b pos) Γ z := fun σ H Q rl q =>
  ⟨_, pe_dget (hu_of c.room) pe_w pe_w hs, two (ta := wE X a) ha hb rl fun v' u' H1 s1 v1 u1 => by
    obtain ⟨rfl, e1⟩ := v1.obAt
    have e2 := u1.int
    subst e2
    exact ⟨l, v, rfl, .inl ⟨kvs, .inl i, hu.rd e1, rfl, h.symm⟩, q _ H1 s1 (hz H1)⟩⟩
theorem de_dgetS {l : Addr} {u : HO} {kvs : List (Key × V)} {i : Str} {v : V} {z : A} (c : Cxk g N sc k X) (ha : DE g X a Γ (.ob l u)) (hb : DE g X b Γ (.d (.text i))) (hu : dko u kvs) (h : valV kvs (.inr i) = some v) (hz : ∀ H, AV g H v z) (hs : NoSl b := by exact fun _ _ => rfl) : DE g X (.Subscript a b pos) Γ z := fun σ H Q rl q =>
  ⟨_, pe_dget (hu_of c.room) pe_w pe_w hs, two (ta := wE X a) ha hb rl fun v' u' H1 s1 v1 u1 => by
    obtain ⟨rfl, e1⟩ := v1.obAt
    have e2 : u' = .str i := by cases u1 with | d h => cases h; rfl
    subst e2
    exact ⟨l, v, rfl, .inl ⟨kvs, .inr i, hu.rd e1, rfl, h.symm⟩, q _ H1 s1 (hz H1)⟩⟩
/-- d.get(k, x) -/
theorem de_dget2 {l : Addr} {u : HO} {kvs : List (Key × V)} {i y : Int} {m : Int} (c : Cxk g N sc k X) (ho : DE g X o Γ (.ob l u)) (ha : DE g X a Γ (aI i)) (hb : DE g X b Γ (aI y)) (hu : dko u kvs) (h : (valV kvs (.inl i)).getD (.int y) = .int m)
    (hm : M2 X o "get" apos a b cpos := by exact ⟨rfl, rfl, rfl, rfl⟩) : DE g X (.Call (.Attribute o "get" apos) [a, b] [] cpos) Γ (aI m) := fun σ H Q rl q =>
  ⟨_, pe_dget2 (hu_of c.room) pe_w pe_w pe_w hm, ho σ H _ rl fun v' H1 s1 v1 => by
    obtain ⟨rfl, e1⟩ := v1.obAt
    refine ⟨l, rfl, .inl ⟨kvs, hu.rd e1⟩, ha σ H1 _ (rl.mono s1) fun v2 H2 s2 u2 => hb σ H2 _ (rl.mono (s1.trans s2)) fun v3 H3 s3 u3 => ?_⟩
    have e2 := u2.int
    have e3 := u3.int
    subst e2 e3
    refine ⟨valV kvs (.inl i), .inl ⟨kvs, .inl i, hu.rd ((s2.trans s3) _ _ e1), rfl, rfl⟩, ?_⟩
    rw [h]
    exact q _ H3 ((s1.trans s2).trans s3) (.d (.int m))⟩
/-- d[k] = v -/
theorem ws_dputK {l : Addr} {kvs : List (Key × V)} {y : Key} {yd : Dt} {z : A} (c : Dtx g N sc k X) (r : Rel g H σ Γ) (ho : DE g X o Γ (.ob l (.dK kvs))) (hi : DE g X a Γ (.d yd)) (hy : ∀ H v, DV H v yd → v = kV y) (he : DE g X e Γ z) (hz : kvs.length ≤ 1000)
    (q : ∀ v H1, But l H H1 → H1 l = some (.dK (putK kvs y v)) → (noLs z = true → AV g H1 v z) → D.nx σ H1) (hs : swapsWith e (some (.Subscript o a opos)) pos.line X.env = pure false := by rfl) : wS X (.Assign [.Subscript o a opos] e pos) D σ H :=
  ⟨_, ps_dput (hu_of c.room) pe_w pe_w pe_w hs, he σ H _ r fun v H1 s1 v1 => ho σ H1 _ (r.mono s1) fun w H2 s2 w2 => hi σ H2 _ (r.mono (s1.trans s2)) fun u H3 s3 u3 => by
    obtain ⟨rfl, e2⟩ := w2.obAt
    have s13 := (s1.trans s2).trans s3
    have e3 := s3 _ _ e2
    have ey := hy _ _ u3.dv
    subst ey
    have kk : Kp H3 (upd H3 l (.dK (putK kvs y v))) := Kp.up e3 rfl
    refine ⟨l, _, rfl, DPut.k e3 (Nat.lt_of_le_of_lt hz (by decide)), q v _ (fun b' o' hb' e' => ?_) upd_same fun hn => (v1.mono (s2.trans s3)).kp kk hn⟩
    rw [upd_ne hb']
    exact s13 _ _ e'⟩
theorem kInt (i : Int) : ∀ H v, DV H v (.num i) → v = kV (.inl i) := fun H v h => by cases h; rfl
theorem kStr (i : Str) : ∀ H v, DV H v (.text i) → v = kV (.inr i) := fun H v h => by cases h; rfl
/-- {} -/
theorem ws_dnewK (i : Nat) (c : Dtx g N sc k X) (r : Rel g H σ Γ) (q : ∀ t σ' H1, H t = none → Same H H1 → H1 t = some (.dK []) → Rel g H1 σ' (Γ.set i (some (.obj (.ref t)))) → D.nx σ' H1) (hi : N[i]? = some x := by rfl) (hl : Loc sc x := by first | exact .inl rfl | exact .inr rfl)
    (hs : swapsWith (.Dict [] [] p) (some (.Name x px)) pos.line X.env = pure false := by rfl) : wS X (.Assign [.Name x px] (.Dict [] [] p) pos) D σ H :=
  ⟨_, ps_set c.ndX (c.at_ hi) (c.loc hl) pe_dnewK hs (.inl (c.fn x)), fun t ht => q t _ _ ht (Same.newO ht) upd_same ((r.mono (Same.newO ht)).set i (.obj _))⟩
/-- the keys of a locked dict -/
def keyA : Key → A
  | .inl i => aI i
  | .inr s => .d (.text s)
theorem keyA_av (H : Hp) (y : Key) : AV g H (kV y) (keyA y) := by
  cases y with
  | inl i => exact .d (.int i)
  | inr s => exact .d (.str s)
theorem di_keys {l : Addr} {od : Obj} {kvs : List (Key × V)} (c : Cxk g N sc k X) (h : DE g X iter Γ (.ob l (.frz od (.dK kvs)))) : DI g X tg iter Γ Same (kvs.map fun kv => keyA kv.1) := fun σ H R r q =>
  ⟨_, pi_keys pe_w, h σ H _ r fun v H1 s1 v1 => by
    obtain ⟨rfl, e1⟩ := v1.obAt
    refine ⟨l, od, rfl, .inl ⟨kvs, e1, q _ H1 (fun H' => H' l = some (.frz od (.dK kvs))) s1 (fun H' st => st _ _ e1) ⟨fun i H' hi w => ?_, fun H' w => ?_, fun i H' v H'' hi w y => ?_⟩⟩⟩
    · rw [List.length_map] at hi
      exact ⟨w, hi⟩
    · rw [List.length_map]
      exact ⟨w, Nat.le_refl _⟩
    · obtain ⟨rfl, y, v', hk, rfl⟩ := y
      exact ⟨Same.refl _, keyA y, by rw [List.getElem?_map, hk]; rfl, keyA_av _ y⟩⟩
/-- an expression that gives a new list of data, while a thing is locked -/
theorem dl_lock {l : Addr} {u : HO} {as : List A} (i : Nat) (hΓ : Γ[i]? = some (some (.ob l u))) (mu : Mut (some u)) (hp : (Γ.set i none).all plainO = true) (ha : ∀ z ∈ as, plain z = true) (h : ∀ od, DL g X e (Γ.set i (some (.ob l (.frz od u)))) as) : DL g X e Γ as := fun σ H Q r q => by
  obtain ⟨v, ev, av⟩ := r.at_ i _ hΓ
  obtain ⟨rfl, hl⟩ := av.obAt
  have nt : ∀ xs, u ≠ .tup xs := fun xs z => by
    subst z
    exact mu
  have hi : i < Γ.length := (List.getElem?_eq_some_iff.mp hΓ).1
  refine ⟨_, pe_lock pe_w, l, u, hl, mu, fun od => ?_⟩
  have kk : TK H (upd H l (.frz od u)) := TK.upd hl nt
  have r2 : Rel g (upd H l (.frz od u)) σ (Γ.set i (some (.ob l (.frz od u)))) := ⟨by rw [List.length_set]; exact r.len, fun j z e => by
    by_cases hj : i = j
    · subst hj
      rw [List.getElem?_set_self hi] at e
      have e' : A.ob l (.frz od u) = z := Option.some.inj (Option.some.inj e)
      exact ⟨_, ev, e' ▸ AV.ob upd_same⟩
    · rw [List.getElem?_set_ne hj] at e
      obtain ⟨w, w1, w2⟩ := r.at_ j z e
      have hz := List.all_eq_true.mp hp (some z) (List.mem_of_getElem? (by rw [List.getElem?_set_ne hj]; exact e))
      exact ⟨w, w1, w2.tk kk hz⟩⟩
  refine h od σ _ _ r2 fun p xs H1 h0 s1 e1 t1 => ?_
  have hl1 : H1 l = some (.frz od u) := s1 _ _ upd_same
  have hpl : p ≠ l := fun z => by
    subst z
    rw [upd_same] at h0
    cases h0
  have k2 : TK H1 (upd H1 l u) := TK.upd hl1 fun xs z => by cases z
  refine ⟨hl1, q p xs _ (by rw [upd_ne hpl] at h0; exact h0) (fun a o e => ?_) (by rw [upd_ne hpl]; exact e1) ?_⟩
  · by_cases hal : a = l
    · subst hal
      rw [hl] at e
      rw [upd_same, Option.some.inj e]
    · rw [upd_ne hal]
      exact s1 _ _ (by rw [upd_ne hal]; exact e)
  · exact avs_tk k2 ha t1
where
  avs_tk {H H' : Hp} (k : TK H H') : ∀ {as : List A} {vs : List V}, (∀ z ∈ as, plain z = true) → AVs g H vs as → AVs g H' vs as
    | [], _, _, h => by cases h; exact .nil
    | z :: as, _, n, h => by
      cases h with
      | cons x y => exact .cons (x.tk k (n z List.mem_cons_self)) (avs_tk k (fun w hw => n w (List.mem_cons_of_mem _ hw)) y)
/-- sorted(xs), xs a list that is told -/
theorem dl_sortedPL {xs : List (Int × Int)} (ct : Cxk g N sc k X) (h : DE g X a Γ (.ls (xs.map fun p => A.d (dPair p)))) (hlen : xs.length ≤ 100000) (hg : GlS sc "sorted" := by rfl) (h1 : starEach [a] X.env = (false, eval a X.env) :: starEach [] X.env := by rfl) (hpl : (backTo pos (starEach [] X.env)).any (·.1) = false := by rfl) :
    DL g X (.Call (.Name "sorted" p) [a] [] pos) Γ ((sortP xs).map fun p => A.d (dPair p)) := fun σ H Q r q =>
  ⟨_, pe_callB (cr_srt ct.room.units) (ct.gl hg) (ct.mgN ct.T.sorted) boot_srt pa_w (by decide) (by decide) h1 hpl, wA_cons (h σ H _ r fun v H1 s1 v1 => wA_nil (by
    cases v1 with
    | @ls l ws _ hl t =>
      rw [← map_pairs] at t
      refine ⟨l, ws, xs.map dPair, rfl, hl, AVs.dvs t, al_pair xs, sb_pair xs, by simpa using hlen, (fun d hd => by
        obtain ⟨x, _, rfl⟩ := List.mem_map.mp hd
        exact (shn_pair x).up (by decide)), fun ys p hp d1 => ?_⟩
      rw [ms_pair] at d1
      refine q p ys _ (s1.free hp) (s1.trans (Same.newO hp)) upd_same ?_
      rw [← map_pairs]
      exact AVs.of_dvs (d1.mono (TK.of (Same.newO hp))))) h1⟩
/-- max(i, j) -/
theorem boot_max : bootBuiltins ("max" : Str) = some (.builtin "max") := by decide +kernel
def mx (i m : Int) : Int := if m > i then m else i
theorem de_max2 {i m : Int} (c : Cxk g N sc k X) (ha : DE g X a Γ (aI i)) (hb : DE g X b Γ (aI m)) (hg : GlS sc "max" := by rfl) (h1 : starEach [a, b] X.env = (false, eval a X.env) :: starEach [b] X.env := by rfl) (h2 : starEach [b] X.env = (false, eval b X.env) :: starEach [] X.env := by rfl)
    (hpl : (backTo pos (starEach [b] X.env)).any (·.1) = false := by rfl) : DE g X (.Call (.Name "max" p) [a, b] [] pos) Γ (aI (mx i m)) :=
  de_B c (call_max2 c.calm) c.T.max boot_max (da_cons ha (da_cons hb da_nil h2) h1) (fun H vs Q h q => by
    obtain ⟨v, u, rfl, h1, h2⟩ := avs2 h
    have e1 := h1.int
    have e2 := h2.int
    subst e1 e2
    exact ⟨i, m, rfl, q _ H (Same.refl H) (.d (.int _))⟩) hg (he := h1) (hpl := hpl)
/-- xs + ys of lists -/
theorem dl_cat {as bs : List A} (ha : DE g X a Γ (.ls as)) (hb : DE g X b Γ (.ls bs)) (hz : as.length + bs.length ≤ 100000) : DL g X (.BinOp a .Add b pos) Γ (as ++ bs) := fun σ H Q rl q =>
  ⟨_, pe_op op_cat pe_w pe_w, two (ta := wE X a) ha hb rl fun v u H1 s1 v1 u1 => by
    cases v1 with
    | @ls l xs _ hl t =>
      cases u1 with
      | @ls m ys _ hm t2 =>
        have l1 := t.length
        have l2 := t2.length
        refine ⟨l, m, xs, ys, rfl, rfl, hl, hm, Nat.le_trans (by omega) (show 100000 ≤ sizeLine by decide), fun p hp => q p _ _ (s1.free hp) (s1.trans (Same.newO hp)) upd_same ((avs_append t t2).mono (Same.newO hp))⟩⟩
end
end K85

/-! W8: dated sets, put_together, behind, skylines. -/
namespace K85
open PySem PySem.Spec PyProof.Rows L2
abbrev Dts := List (Int × Int)
/-- a dated set of a trade -/
def IsDated (l : List Int) (D : Dts) : Prop := (D.map (·.1)).Pairwise (· < ·) ∧ ∀ p ∈ D, 0 ≤ p.1 ∧ p.1 < (l.length : Int) ∧ 1 ≤ p.2 ∧ p.2 ≤ oa l p.1
theorem oaGet {l : List Int} {k : Int} (h0 : 0 ≤ k) (h1 : k < (l.length : Int)) : l[k.toNat]? = some (oa l k) := by
  have : k.toNat < l.length := by omega
  unfold oa
  rw [List.getD_eq_getElem?_getD, List.getElem?_eq_getElem this]
  rfl
/-! put together -/
def putP (ps : Dts) (k m : Int) : Dts := if ps.any (fun p => decide (p.1 = k)) then ps.map (fun p => if p.1 = k then (p.1, m) else p) else ps ++ [(k, m)]
def lkP : Dts → Int → Option Int
  | [], _ => none
  | p :: ps, k => if p.1 = k then some p.2 else lkP ps k
def encP (ps : Dts) : List (Key × V) := ps.map fun p => (Sum.inl p.1, V.int p.2)
theorem encP_put (ps : Dts) (k m : Int) : putK (encP ps) (.inl k) (.int m) = encP (putP ps k m) := by
  unfold putK putP encP
  have e : (List.map (fun p : Int × Int => ((Sum.inl p.1 : Key), V.int p.2)) ps).any (fun kv => decide (kv.1 = Sum.inl k)) = ps.any fun p => decide (p.1 = k) := by
    rw [List.any_map]
    congr 1
    funext p
    simp
  rw [e]
  split
  · rw [List.map_map, List.map_map]
    refine List.map_congr_left fun p _ => ?_
    simp only [Function.comp]
    by_cases h : p.1 = k
    · simp [h]
    · simp [h]
  · rw [List.map_append]
    rfl
theorem encP_get : ∀ (ps : Dts) (k : Int), valV (encP ps) (.inl k) = (lkP ps k).map V.int
  | [], k => rfl
  | p :: ps, k => by
    have ih := encP_get ps k
    unfold lkP
    by_cases h : p.1 = k
    · rw [if_pos h]
      exact valV_pos (p := ((Sum.inl p.1 : Key), V.int p.2)) (by rw [h])
    · rw [if_neg h]
      have e : valV (encP (p :: ps)) (.inl k) = valV (encP ps) (.inl k) := valV_neg (p := ((Sum.inl p.1 : Key), V.int p.2)) (fun z => h (Sum.inl.inj z))
      rw [e, ih]
def putAll (ps : Dts) (xs : Dts) : Dts := xs.foldl (fun ps p => putP ps p.1 (mx p.2 ((lkP ps p.1).getD 0))) ps
theorem putP_len (ps : Dts) (k m : Int) : (putP ps k m).length ≤ ps.length + 1 := by
  unfold putP
  split
  · simp
  · simp
theorem putAll_len : ∀ (xs ps : Dts), (putAll ps xs).length ≤ ps.length + xs.length
  | [], ps => Nat.le_refl _
  | x :: xs, ps => by
    have h1 := putAll_len xs (putP ps x.1 (mx x.2 ((lkP ps x.1).getD 0)))
    have h2 := putP_len ps x.1 (mx x.2 ((lkP ps x.1).getD 0))
    have h3 : putAll ps (x :: xs) = putAll (putP ps x.1 (mx x.2 ((lkP ps x.1).getD 0))) xs := rfl
    rw [h3, List.length_cons]
    omega
/-- keys stand once -/
def KeysOnce (ps : Dts) : Prop := (ps.map (·.1)).Nodup
theorem putP_keys (ps : Dts) (k m : Int) : (putP ps k m).map (·.1) = if k ∈ ps.map (·.1) then ps.map (·.1) else ps.map (·.1) ++ [k] := by
  unfold putP
  have e : (ps.any (fun p => decide (p.1 = k)) = true) ↔ k ∈ ps.map (·.1) := by
    rw [List.any_eq_true]
    constructor
    · rintro ⟨p, hp, h⟩
      exact List.mem_map.mpr ⟨p, hp, of_decide_eq_true h⟩
    · intro h
      obtain ⟨p, hp, h⟩ := List.mem_map.mp h
      exact ⟨p, hp, decide_eq_true h⟩
  by_cases h : k ∈ ps.map (·.1)
  · rw [if_pos (e.mpr h), if_pos h, List.map_map]
    refine List.map_congr_left fun p _ => ?_
    simp only [Function.comp]
    by_cases h : p.1 = k <;> simp [h]
  · rw [if_neg (fun z => h (e.mp z)), if_neg h, List.map_append]
    rfl
theorem putP_once {ps : Dts} (h : KeysOnce ps) (k m : Int) : KeysOnce (putP ps k m) := by
  unfold KeysOnce
  rw [putP_keys]
  split
  · exact h
  · rename_i hk
    refine List.nodup_append.mpr ⟨h, by simp, fun a ha b hb => ?_⟩
    simp at hb
    subst hb
    intro z
    subst z
    exact hk ha
theorem putAll_once : ∀ (xs : Dts) {ps : Dts}, KeysOnce ps → KeysOnce (putAll ps xs)
  | [], _, h => h
  | x :: xs, _, h => putAll_once xs (putP_once h _ _)
theorem lk_once : ∀ {ps : Dts}, KeysOnce ps → ∀ p ∈ ps, lkP ps p.1 = some p.2
  | [], _, p, hp => by simp at hp
  | q :: ps, h, p, hp => by
    have h' := List.nodup_cons.mp (show (q.1 :: ps.map (·.1)).Nodup from h)
    unfold lkP
    rcases List.mem_cons.mp hp with rfl | hp
    · rw [if_pos rfl]
    · rw [if_neg (fun z => h'.1 (List.mem_map.mpr ⟨p, hp, z.symm⟩))]
      exact lk_once h'.2 p hp
def puts (xs ys : Dts) : Dts := sortP (putAll [] (xs ++ ys))
/-! deeds -/
inductive Deed where
  | come (k : Int) | day | gone (k : Int)
  deriving DecidableEq
def dDeed : Deed → Dt
  | .come k => .tup [.text "come", .num k]
  | .day => .tup [.text "day"]
  | .gone k => .tup [.text "gone", .num k]
def beh (l : List Int) (D : Dts) : Deed → Dts
  | .day => (D.filter fun p => decide (1 < p.2)).map fun p => (p.1, p.2 - 1)
  | .come k => sortP ((D.filter fun p => !decide (p.1 = k)) ++ [(k, oa l k)])
  | .gone k => sortP (D.filter fun p => !decide (p.1 = k))
/-! skylines -/
def beside (z : List Int) (D : Dts) (p : Int × Int) : List Int := (D.filter fun q => decide (q.1 = p.1) || (decide (p.2 ≤ q.2) && !decide (q.1 ∈ z))).map (·.1)
def sky (c : List Int → List Int) (z : List Int) (D : Dts) : Dts := D.filter fun p => decide (p.1 ∈ c (beside z D p))
theorem beside_mem {n : Nat} (hn : n = 2 ∨ n = 3) {l : List Int} (hl : l.length = n) {D : Dts} (h : IsDated l D) (z : List Int) (p : Int × Int) : beside z D p ∈ allSets n := by
  refine (mem_allSets hn).mpr ⟨?_, fun x hx => ?_⟩
  · unfold beside
    exact h.1.sublist (List.Sublist.map _ List.filter_sublist)
  · obtain ⟨q, hq, rfl⟩ := List.mem_map.mp hx
    have := h.2 q (List.mem_filter.mp hq).1
    rw [hl] at this
    exact ⟨this.1, this.2.1⟩
theorem dated_len {n : Nat} (hn : n = 2 ∨ n = 3) {l : List Int} (hl : l.length = n) {D : Dts} (h : IsDated l D) : D.length ≤ 3 := by
  have : IsSet n (D.map (·.1)) := ⟨h.1, fun x hx => by
    obtain ⟨q, hq, rfl⟩ := List.mem_map.mp hx
    have := h.2 q hq
    rw [hl] at this
    exact ⟨this.1, this.2.1⟩⟩
  have := isSet_len hn this
  simpa using this
theorem IsDated.filter {l : List Int} {D : Dts} (h : IsDated l D) (f : Int × Int → Bool) : IsDated l (D.filter f) := ⟨h.1.sublist (List.Sublist.map _ List.filter_sublist), fun p hp => h.2 p (List.mem_filter.mp hp).1⟩
theorem isDated_nil (l : List Int) : IsDated l [] := ⟨List.Pairwise.nil, fun p hp => by simp at hp⟩
section
variable {g : Cfg}
def R_dated (as : List A) (b : A) : Prop := ∃ (l z : List Int) (D : Dts), as = [.tr l z, aDat D] ∧ l.length ≤ 100 ∧ IsDated l D ∧ b = .bl true
theorem S_dated : FnScope ["trade", "thing", "last", "pair", "offer", "days"] ["trade", "thing"] (defScope s_is_dated_of) := ⟨rfl, rfl, rfl, by decide +kernel, rfl, by decide +kernel, by decide +kernel⟩
theorem ok_dated (T : Txt g) (F : DefIn g "is_dated_of" s_is_dated_of) (W : Def1 g 1 "is_whole" (spP g 1 R_is_whole)) : Def1 g 2 "is_dated_of" (spP g 2 R_dated) := by
  obtain ⟨f, fd, F, hm⟩ := F
  refine def_P F hm (F.bindsN (ps := ["trade", "thing"]) fun _ _ _ _ _ _ us hl => match us, hl with | [_, _], _ => rfl) S_dated T rfl fun X c as b hR hl σ H Q r q => ?_
  obtain ⟨l, z, D, rfl, hlen, hD, rfl⟩ := hR
  have c' := c.toCxk
  refine wB_cons (ws_skip r (dt_not (dt_val (de_isiT c' (de_var 1 c')))) fun H1 s1 r1 => ?_)
  refine wB_cons (ws_asg 2 c r1 (de_neg de_int) fun σ2 H2 s2 r2 => ?_)
  refine wB_cons (ws_for c r2 (di_dat c' (de_var 1 c')) (pg_ND (i := 3) c rfl (.inl rfl)) fun H3 s3 => ?_)
  refine ⟨fun i σ' H' => Same H3 H' ∧ ∃ bv : Int, Rel g H' σ' [some (.tr l z), some (aDat D), some (aI bv), none, none, none] ∧ ∀ (j : Nat) (x : Int × Int), D[j]? = some x → i ≤ j → bv < x.1, ⟨Same.refl _, -1, (r2.mono s3).sub (sub_eq (sub_eq (sub_eq (sub_no (sub_no (sub_no sub_nil)))))), fun j x hx _ => ?_⟩, fun i σ' H' _ h => TK.of h.1, ?_, ?_⟩
  · have := (hD.2 x (List.mem_of_getElem? hx)).1
    omega
  · rintro i d σ' H' v H2' hd ⟨t1, bv, r', hb⟩ t2 vd
    obtain ⟨p, hp, rfl⟩ := map_get hd
    have r3 := (r'.mono t2).set 3 vd
    have h1 := hb i p hp (Nat.le_refl _)
    have h2 := hD.2 p (List.mem_of_getElem? hp)
    refine wB_cons (ws_skip r3 (DT.is (dt_or2 (dt_not (dt_val (de_isiT c' (de_var 3 c')))) fun _ => dt_neI (de_lenT c' (de_var 3 c')) de_int) (by rfl)) fun H4 s4 r4 => ?_)
    refine wB_cons (ws_unp 4 5 c r4 (de_var 3 c') fun σ5 H5 s5 r5 => ?_)
    refine wB_cons (ws_skip r5 (DT.is (dt_or2 (dt_not (dt_val (de_call c' W (by decide) (da_cons (de_var 4 c') da_nil) ⟨p.1, rfl, rfl⟩))) fun _ => dt_not (dt_val (de_call c' W (by decide) (da_cons (de_var 5 c') da_nil) ⟨p.2, rfl, rfl⟩))) (by rfl)) fun H6 s6 r6 => ?_)
    refine wB_cons (ws_skip r6 (DT.is (dt_or2 (dt_not (dt_lt2 (de_var 2 c') (de_var 4 c') (de_lenT c' (de_lives c' (de_var 0 c'))))) fun _ => dt_not (dt_le2 de_int (de_var 5 c') (de_ix c' (de_lives c' (de_var 0 c')) (de_var 4 c') (d := .num (oa l p.1)) (atI_map (atI_get h2.1 (oaGet h2.1 h2.2.1)))))) (by simp [h1, h2.2.1, h2.2.2.1, h2.2.2.2])) fun H7 s7 r7 => ?_)
    refine wB_cons (ws_asg 2 c r7 (de_var 4 c') fun σ8 H8 s8 r8 => wB_nil ⟨(((((t1.trans t2).trans s4).trans s5).trans s6).trans s7).trans s8, p.1, r8.sub (sub_eq (sub_eq (sub_eq (sub_no (sub_no (sub_no sub_nil)))))), fun j y hy hj => ?_⟩)
    have := List.pairwise_iff_getElem.mp hD.1
    obtain ⟨l1, e1⟩ := List.getElem?_eq_some_iff.mp hp
    obtain ⟨l2, e2⟩ := List.getElem?_eq_some_iff.mp hy
    have h3 := this i j (by simpa using l1) (by simpa using l2) (by omega)
    simp only [List.getElem_map] at h3
    rw [e1, e2] at h3
    exact h3
  · rintro σ' H' ⟨t1, bv, r', hb⟩
    exact wB_cons (ws_ret r' de_bl fun v H4 s4 v4 => q v H4 ((((s1.trans s2).trans s3).trans t1).trans s4) v4)
def R_puts (as : List A) (b : A) : Prop := ∃ xs ys : Dts, as = [aDat xs, aDat ys] ∧ xs.length ≤ 100 ∧ ys.length ≤ 100 ∧ b = aDat (puts xs ys)
theorem S_puts : FnScope ["one", "other", "days", "offer", "many"] ["one", "other"] (defScope s_put_together) := ⟨rfl, rfl, rfl, by decide +kernel, rfl, by decide +kernel, by decide +kernel⟩
theorem ok_puts (T : Txt g) (F : DefIn g "put_together" s_put_together) : Def1 g 1 "put_together" (spP g 2 R_puts) := by
  obtain ⟨f, fd, F, hm⟩ := F
  refine def_P F hm (F.bindsN (ps := ["one", "other"]) fun _ _ _ _ _ _ us hl => match us, hl with | [_, _], _ => rfl) S_puts T rfl fun X c as b hR hl σ H Q r q => ?_
  obtain ⟨xs, ys, rfl, hx1, hy1, rfl⟩ := hR
  have c' := c.toCxk
  refine wB_cons (ws_dnewK 2 c r fun t σ1 H1 h0 s1 e1 r1 => ?_)
  refine wB_cons (ws_for c r1 ((di_dat (xs := xs ++ ys) c' (DE.is (de_cat c' (de_var 0 c') (de_var 1 c') (by simp; omega)) (by simp [dDat])))) (pg_P c' (pg_ND (i := 3) c rfl (.inl rfl)) (pg_ND (i := 4) c rfl (.inl rfl))) fun H3 s3 => ?_)
  refine ⟨fun i σ' H' => Same H H' ∧ TK H3 H' ∧ H' t = some (.dK (encP (putAll [] ((xs ++ ys).take i)))) ∧ Rel g H' σ' [some (aDat xs), some (aDat ys), some (.obj (.ref t)), none, none],
    ⟨s1.trans s3, TK.refl _, s3 _ _ e1, (r1.mono s3).sub (sub_eq (sub_eq (sub_eq (sub_no (sub_no sub_nil)))))⟩, fun i σ' H' _ h => h.2.1, ?_, ?_⟩
  · rintro i d σ' H' v H2' hd ⟨t0, t1, et, r'⟩ t2 vd
    obtain ⟨p, hp, rfl⟩ := map_get hd
    refine tg_P (vs := [3, 4]) (by simp) (by simp) σ' H2' v _ (r'.mono t2) vd fun σ3 r3 _ => ?_
    have et2 := t2 _ _ et
    have r4 := r3.toOb 2 rfl et2
    have hlen : (putAll [] ((xs ++ ys).take i)).length ≤ 200 := by
      have h1 := putAll_len ((xs ++ ys).take i) []
      have h2 : ((xs ++ ys).take i).length ≤ 200 := by rw [List.length_take, List.length_append]; omega
      simp only [List.length_nil] at h1
      omega
    refine wB_cons (ws_dputK (z := aI (mx p.2 ((lkP (putAll [] ((xs ++ ys).take i)) p.1).getD 0))) c r4 (de_var 2 c') (de_var 3 c') (kInt p.1) (de_max2 c' (de_var 4 c') (de_dget2 c' (de_var 2 c') (de_var 3 c') de_int (.inl rfl) ?_)) (by unfold encP; simp; omega) fun w H5 b5 e5 v5 => wB_nil ?_)
    · rw [encP_get]
      cases lkP (putAll [] ((xs ++ ys).take i)) p.1 <;> rfl
    have ev := (v5 rfl).int
    subst ev
    have k5 := b5.tk et2 fun _ z => by cases z
    refine ⟨b5.same (t0.trans t2) h0, (t1.trans (TK.of t2)).trans k5, ?_, ((r3.tk k5 rfl)).sub (sub_eq (sub_eq (sub_eq (sub_no (sub_no sub_nil)))))⟩
    rw [e5, encP_put, take_snoc hp]
    unfold putAll
    rw [List.foldl_append]
    rfl
  · rintro σ' H' ⟨t0, t1, et, r'⟩
    have en : ((xs ++ ys).map fun p => A.d (dPair p)).length = (xs ++ ys).length := by simp
    rw [en, List.take_length] at et
    have r3 := r'.toOb 2 rfl et
    have hlen : (putAll [] (xs ++ ys)).length ≤ 200 := by
      have h1 := putAll_len (xs ++ ys) []
      simp only [List.length_nil, List.length_append] at h1
      omega
    have hon : KeysOnce (putAll [] (xs ++ ys)) := putAll_once _ (List.nodup_nil)
    refine wB_cons (ws_ret r3 (de_tupP c' (dl_sortedP (xs := putAll [] (xs ++ ys)) c' (dl_lock 2 rfl trivial rfl (fun z hz => by obtain ⟨_, _, rfl⟩ := List.mem_map.mp hz; rfl) fun od => ?_) (by omega))) fun v H4 s4 v4 => q v H4 (t0.trans s4) v4)
    refine DL.is (DC.dl (dc_comp (xs := putAll [] (xs ++ ys)) (e := fun p => aI p.1) (pr := fun _ => true) (f := fun p => A.d (dPair p)) (own := [("offer", 3)]) (gt := gName 3) (Γx := fun p => [some (aDat xs), some (aDat ys), some (.ob t (.frz od (.dK (encP (putAll [] (xs ++ ys)))))), some (aI p.1), none]) c'
      ((di_keys c' (de_var 2 c')).is ?_) (by decide +kernel) rfl (fun X' d => pg_N d rfl rfl) (fun x hx => tg_N (by simp)) (fun x hx X' d => dts_nil) (fun x hx _ X' d => de_tup (ds := [.num x.1, .num x.2]) (da_cons (de_var 3 d) (da_cons (de_dgetI (v := .int x.2) d (de_var 2 d) (de_var 3 d) (.inr ⟨od, rfl⟩) (by rw [encP_get, lk_once hon x hx]; rfl) fun H => .d (.int _)) da_nil))) (fun _ _ => rfl) (by omega)) c') (by rw [List.filter_eq_self.mpr (fun _ _ => rfl)])
    unfold encP
    rw [List.map_map]
    rfl
def R_beh (as : List A) (b : A) : Prop := ∃ (l z : List Int) (D : Dts) (d : Deed), as = [.tr l z, aDat D, .d (dDeed d)] ∧ D.length ≤ 100 ∧ (∀ k, d = .come k → 0 ≤ k ∧ k < (l.length : Int)) ∧ b = aDat (beh l D d)
theorem S_beh : FnScope ["trade", "dated", "deed", "rest", "offer", "days", "pair"] ["trade", "dated", "deed"] (defScope s_behind) := ⟨rfl, rfl, rfl, by decide +kernel, rfl, by decide +kernel, by decide +kernel⟩
def dKind : Deed → Str
  | .come _ => "come"
  | .day => "day"
  | .gone _ => "gone"
theorem kd1 (k : Int) : ¬ dKind (.come k) = ("day" : Str) := show ¬ (("come" : Str) = "day") by decide
theorem kd2 (k : Int) : ¬ dKind (.gone k) = ("day" : Str) := show ¬ (("gone" : Str) = "day") by decide
theorem kd3 (k : Int) : ¬ dKind (.gone k) = ("come" : Str) := show ¬ (("gone" : Str) = "come") by decide
theorem deed_kind {ds : List Dt} {d : Deed} (h : dDeed d = .tup ds) : atI ds 0 = some (.text (dKind d)) := by
  cases d <;> (cases h; rfl)
theorem dDeed_tup (d : Deed) : ∃ ds, dDeed d = .tup ds := by cases d <;> exact ⟨_, rfl⟩
theorem ok_beh (T : Txt g) (F : DefIn g "behind" s_behind) : Def1 g 1 "behind" (spP g 3 R_beh) := by
  obtain ⟨f, fd, F, hm⟩ := F
  refine def_P F hm (F.bindsN (ps := ["trade", "dated", "deed"]) fun _ _ _ _ _ _ us hl => match us, hl with | [_, _, _], _ => rfl) S_beh T rfl fun X c as b hR hl σ H Q r q => ?_
  obtain ⟨l, z, D, d, rfl, hz, hk, rfl⟩ := hR
  have c' := c.toCxk
  obtain ⟨ds, hds⟩ := dDeed_tup d
  rw [hds] at r
  have kind := deed_kind hds
  refine wB_cons (ws_if r (dt_eqS (de_ix c' (de_var 2 c') de_int kind) de_str) (fun ht H1 s1 r1 => ?_) fun hf H1 s1 r1 => wB_nil ?_)
  · have ed : d = .day := by
      cases d with
      | day => rfl
      | come k => exact absurd (of_decide_eq_true ht) (kd1 k)
      | gone k => exact absurd (of_decide_eq_true ht) (kd2 k)
    subst ed
    exact wB_cons (ws_ret r1 (de_tupP c' (DL.is (DC.dl (dc_comp (xs := D) (e := fun p => A.d (dPair p)) (pr := fun p => decide (1 < p.2)) (f := fun p => A.d (dPair (p.1, p.2 - 1))) (own := [("offer", 4), ("days", 5)]) (gt := gPair g 4 5) (Γx := fun p => [some (.tr l z), some (aDat D), some (.d (.tup ds)), none, some (aI p.1), some (aI p.2), none]) c'
      (di_dat c' (de_var 1 c')).same (by decide +kernel) rfl (fun X' d => pg_P d (pg_N d rfl rfl) (pg_N d rfl rfl)) (fun x hx => tg_P (by simp) (by simp)) (fun x hx X' d => dts_one (dt_gt (de_var 5 d) de_int)) (fun x hx _ X' d => de_tup (ds := [.num x.1, .num (x.2 - 1)]) (da_cons (de_var 4 d) (da_cons (de_sub (de_var 5 d) de_int) da_nil))) (fun _ _ => rfl) (by omega)) c')
      (by unfold beh; rw [List.map_map]; rfl))) fun v H2 s2 v2 => q v H2 (s1.trans s2) v2)
  · have step : ∀ (k : Int), atI ds 1 = some (.num k) → ∀ (H1 : Hp) (σ1 : L2.St), Same H H1 → Rel g H1 σ1 [some (.tr l z), some (aDat D), some (.d (.tup ds)), none, none, none, none] →
        ∀ (bd : List Stmt) (E : Ends), (∀ (p : Addr) (xs : List V) (σ2 : L2.St) (H2 : Hp), H p = none → Same H H2 → H2 p = some (.lst xs) → AVs g H2 xs ((D.filter fun p => !decide (p.1 = k)).map fun p => A.d (dPair p)) → Rel g H2 σ2 [some (.tr l z), some (aDat D), some (.d (.tup ds)), some (.obj (.ref p)), none, none, none] → wB X bd E σ2 H2) → True := fun _ _ _ _ _ _ _ _ _ => trivial
    obtain ⟨k, hk1⟩ : ∃ k, atI ds 1 = some (.num k) := by
      cases d with
      | day => exact absurd hf (by simp [dKind])
      | come k => cases hds; exact ⟨k, rfl⟩
      | gone k => cases hds; exact ⟨k, rfl⟩
    refine wB_cons (ws_asgC 3 c r1 (dc_comp (xs := D) (e := fun p => A.d (dPair p)) (pr := fun p => !decide (p.1 = k)) (f := fun p => A.d (dPair p)) (own := [("pair", 6)]) (gt := gName 6) (Γx := fun p => [some (.tr l z), some (aDat D), some (.d (.tup ds)), none, none, none, some (.d (dPair p))]) c'
      (di_dat c' (de_var 1 c')).same (by decide +kernel) rfl (fun X' d => pg_N d rfl rfl) (fun x hx => tg_N (by simp)) (fun x hx X' d => dts_one (dt_neI (de_ix d (de_var 6 d) de_int (d := .num x.1) rfl) (de_ix d (de_var 2 d) de_int (d := .num k) hk1))) (fun x hx _ X' d => de_var 6 d) (fun _ _ => rfl) (by omega)) fun p xs σ2 H2 h0 s2 e2 v2 r2 => ?_)
    have hfl : (D.filter fun p => !decide (p.1 = k)).length ≤ D.length := List.length_filter_le ..
    have hp0 : H p = none := s1.free h0
    refine wB_cons (ws_if r2 (dt_eqS (de_ix c' (de_var 2 c') de_int kind) de_str) (fun ht H3 s3 r3 => ?_) fun hf2 H3 s3 r3 => wB_nil ?_)
    · have ed : d = .come k := by
        cases d with
        | day => exact absurd (of_decide_eq_true ht) (by decide)
        | come k' =>
          cases hds
          have e3 : NestedKey.num k' = .num k := Option.some.inj hk1
          cases e3
          rfl
        | gone k => exact absurd (of_decide_eq_true ht) (kd3 k)
      have hkk := hk k ed
      subst ed
      have v3 := v2.mono s3
      have e3 := s3 _ _ e2
      have lx := v3.length
      rw [List.length_map] at lx
      refine wB_cons (ws_app (z := .d (dPair (k, oa l k))) c r3 (de_var 3 c') (de_tup (ds := [.num k, .num (oa l k)]) (da_cons (de_ix c' (de_var 2 c') de_int hk1) (da_cons (de_ix c' (de_lives c' (de_var 0 c')) (de_ix c' (de_var 2 c') de_int hk1) (d := .num (oa l k)) (atI_map (atI_get hkk.1 (oaGet hkk.1 hkk.2)))) da_nil))) e3 (by omega) fun w H4 b4 e4 w4 r4 => wB_nil ?_)
      have k4 := b4.kp e3 rfl
      have v4 : AVs g H4 (xs ++ [w]) (((D.filter fun p => !decide (p.1 = k)) ++ [(k, oa l k)]).map fun p => A.d (dPair p)) := by
        rw [List.map_append]
        exact AVs.snoc (v3.kp k4 fun a ha => by obtain ⟨_, _, rfl⟩ := List.mem_map.mp ha; rfl) (w4 rfl)
      have r5 := (r4 rfl).toLs 3 rfl e4 v4
      exact wB_cons (ws_ret r5 (de_tupP c' (dl_sortedPL c' (de_var 3 c') (by simp; omega))) fun v H6 s6 v6 => q v H6 ((b4.same ((s1.trans s2).trans s3) hp0).trans s6) v6)
    · have ed : d = .gone k := by
        cases d with
        | day => exact absurd hf (by simp [dKind])
        | come k' => exact absurd hf2 (by simp [dKind])
        | gone k' =>
          cases hds
          have e3 : NestedKey.num k' = .num k := Option.some.inj hk1
          cases e3
          rfl
      subst ed
      have r5 := r3.toLs 3 rfl (s3 _ _ e2) (v2.mono s3)
      exact wB_cons (ws_ret r5 (de_tupP c' (dl_sortedPL c' (de_var 3 c') (by omega))) fun v H6 s6 v6 => q v H6 (((s1.trans s2).trans s3).trans s6) v6)
def R_sky (as : List A) (b : A) : Prop := ∃ (n : Nat) (c : List Int → List Int) (l z : List Int) (D : Dts), as = [.ch n c, .tr l z, aDat D] ∧ (n = 2 ∨ n = 3) ∧ l.length = n ∧ IsDated l D ∧ b = aDat (sky c z D)
theorem S_sky : FnScope ["chooser", "trade", "dated", "found", "offer", "days", "beside", "other", "many"] ["chooser", "trade", "dated"] (defScope s_skyline_of) := ⟨rfl, rfl, rfl, by decide +kernel, rfl, by decide +kernel, by decide +kernel⟩
theorem ok_sky (T : Txt g) (F : DefIn g "skyline_of" s_skyline_of) : Def1 g 1 "skyline_of" (spP g 3 R_sky) := by
  obtain ⟨f, fd, F, hm⟩ := F
  refine def_P F hm (F.bindsN (ps := ["chooser", "trade", "dated"]) fun _ _ _ _ _ _ us hl => match us, hl with | [_, _, _], _ => rfl) S_sky T rfl fun X c as b hR hl σ H Q r q => ?_
  obtain ⟨n, h, l, z, D, rfl, hn, hln, hD, rfl⟩ := hR
  have c' := c.toCxk
  have hlen := dated_len hn hln hD
  refine wB_cons (ws_asgL 3 c r (dl_lst da_nil) fun p xs σ2 H2 h0 s2 e2 v2 r2 => ?_)
  cases v2
  refine wB_cons (ws_for c r2 (di_dat c' (de_var 2 c')) (pg_P c' (pg_ND (i := 4) c rfl (.inr rfl)) (pg_ND (i := 5) c rfl (.inr rfl))) fun H3 s3 => ?_)
  refine ⟨fun i σ' H' => Same H H' ∧ TK H3 H' ∧ (∃ ys, H' p = some (.lst ys) ∧ AVs g H' ys (((D.take i).filter fun p => decide (p.1 ∈ h (beside z D p))).map fun p => A.d (dPair p))) ∧ Rel g H' σ' [some (.ch n h), some (.tr l z), some (aDat D), some (.obj (.ref p)), none, none, none, none, none],
    ⟨s2.trans s3, TK.refl _, ⟨[], s3 _ _ e2, .nil⟩, (r2.mono s3).sub (sub_eq (sub_eq (sub_eq (sub_eq (sub_no (sub_no (sub_no (sub_no (sub_no sub_nil)))))))))⟩, fun i σ' H' _ h => h.2.1, ?_, ?_⟩
  · rintro i d σ' H' v H2' hd ⟨t0, t1, ⟨ys, el, vl⟩, r'⟩ t2 vd
    obtain ⟨x, hx, rfl⟩ := map_get hd
    refine tg_P (vs := [4, 5]) (by simp) (by simp) σ' H2' v _ (r'.mono t2) vd fun σ3 r3 _ => ?_
    have hb := beside_mem hn hln hD z x
    refine wB_cons (ws_asgC 6 c r3 (dc_comp (xs := D) (e := fun p => A.d (dPair p)) (pr := fun q => decide (q.1 = x.1) || (decide (x.2 ≤ q.2) && !decide (q.1 ∈ z))) (f := fun q => aI q.1) (own := [("other", 7), ("many", 8)]) (gt := gPair g 7 8)
      (Γx := fun q => [some (.ch n h), some (.tr l z), some (aDat D), some (.obj (.ref p)), some (aI x.1), some (aI x.2), none, some (aI q.1), some (aI q.2)]) c'
      (di_dat c' (de_var 2 c')).same (by decide +kernel) rfl (fun X' d => pg_P d (pg_N d rfl rfl) (pg_N d rfl rfl)) (fun x hx => tg_P (by simp) (by simp)) (fun q hq X' d => dts_one (dt_or2 (dt_eqI (de_var 7 d) (de_var 4 d)) fun _ => dt_and2 (dt_ge (de_var 8 d) (de_var 5 d)) fun _ => dt_notInI d (de_var 7 d) (de_loose d (de_var 1 d)))) (fun x hx _ X' d => de_var 7 d) (fun _ _ => rfl) (by omega)) fun m ws σ4 H4 h4 s4 e4 v4 r4 => ?_)
    have vb : AVs g H4 ws ((beside z D x).map aI) := by
      unfold beside
      rw [List.map_map]
      exact v4
    have r5 := r4.toLs 6 rfl e4 vb
    have el4 := s4 _ _ (t2 _ _ el)
    have vl4 := (vl.mono t2).mono s4
    have nol : ∀ i, ∀ a ∈ (((D.take i).filter fun p => decide (p.1 ∈ h (beside z D p))).map fun p => A.d (dPair p)), noLs a = true := fun i a ha => by
      obtain ⟨_, _, rfl⟩ := List.mem_map.mp ha
      rfl
    refine wB_cons (ws_if r5 (dt_inI c' (de_var 4 c') (de_tab c' (de_table c' (de_var 0 c')) (de_tupleLs c' (DE.is (de_var 6 c') (congrArg A.ls (map_nums _).symm))) hb)) (fun ht H5 s5 r6 => ?_) fun hf H5 s5 r6 => wB_nil (wB_nil ⟨((t0.trans t2).trans s4).trans s5, t1.trans (TK.of ((t2.trans s4).trans s5)), ⟨ys, s5 _ _ el4, ?_⟩, r6.sub (sub_eq (sub_eq (sub_eq (sub_eq (sub_no (sub_no (sub_no (sub_no (sub_no sub_nil)))))))))⟩))
    · have ly := vl.length
      have hfl := List.length_filter_le (fun p : Int × Int => decide (p.1 ∈ h (beside z D p))) (D.take i)
      rw [List.length_map] at ly
      have htl : (D.take i).length ≤ D.length := by rw [List.length_take]; omega
      have r7 : Rel g H5 σ4 [some (.ch n h), some (.tr l z), some (aDat D), some (.obj (.ref p)), some (aI x.1), some (aI x.2), none, none, none] := r6.sub (sub_eq (sub_eq (sub_eq (sub_eq (sub_eq (sub_eq (sub_no (sub_no (sub_no sub_nil)))))))))
      refine wB_cons (ws_app (z := .d (dPair x)) c r7 (de_var 3 c') (de_tup (ds := [.num x.1, .num x.2]) (da_cons (de_var 4 c') (da_cons (de_var 5 c') da_nil))) (s5 _ _ el4) (by omega) fun w H6 b6 e6 w6 r8 => wB_nil (wB_nil ?_))
      have k6 := b6.kp (s5 _ _ el4) rfl
      refine ⟨b6.same (((t0.trans t2).trans s4).trans s5) h0, (t1.trans (TK.of ((t2.trans s4).trans s5))).trans k6.tk, ⟨_, e6, ?_⟩, (r8 rfl).sub (sub_eq (sub_eq (sub_eq (sub_eq (sub_no (sub_no (sub_no (sub_no (sub_no sub_nil)))))))))⟩
      rw [take_snoc hx, List.filter_append, List.filter_cons, if_pos ht, List.map_append]
      exact AVs.snoc ((vl4.mono s5).kp k6 (nol i)) (w6 rfl)
    · rw [take_snoc hx, List.filter_append, List.filter_cons, if_neg (by rw [hf]; exact Bool.false_ne_true)]
      simpa using vl4.mono s5
  · rintro σ' H' ⟨t0, t1, ⟨ys, el, vl⟩, r'⟩
    have en : (D.map fun p => A.d (dPair p)).length = D.length := by simp
    rw [en, List.take_length, ← map_pairs] at vl
    have r3 := r'.toLs 3 rfl el vl
    exact wB_cons (ws_ret r3 (de_tupleLs c' (de_var 3 c')) fun v H4 s4 v4 => q v H4 (t0.trans s4) v4)
def R_skyc (as : List A) (b : A) : Prop := ∃ (n : Nat) (c : List Int → List Int) (l z : List Int) (D : Dts), as = [.ch n c, .tr l z, .ls [aDat D]] ∧ (n = 2 ∨ n = 3) ∧ l.length = n ∧ IsDated l D ∧ b = .d .none
theorem S_skyc : FnScope ["chooser", "trade", "rows", "dated"] ["chooser", "trade", "rows"] (defScope s_skyline_check) := ⟨rfl, rfl, rfl, by decide +kernel, rfl, by decide +kernel, by decide +kernel⟩
theorem ok_skyc (T : Txt g) (F : DefIn g "skyline_check" s_skyline_check) (WS : Def1 g 3 "same_offers" (spP g 1 R_same)) (WD : Def1 g 2 "is_dated_of" (spP g 2 R_dated)) : Def1 g 4 "skyline_check" (spP g 3 R_skyc) := by
  obtain ⟨f, fd, F, hm⟩ := F
  refine def_P F hm (F.bindsN (ps := ["chooser", "trade", "rows"]) fun _ _ _ _ _ _ us hl => match us, hl with | [_, _, _], _ => rfl) S_skyc T rfl fun X c as b hR hl σ H Q r q => ?_
  obtain ⟨n, h, l, z, D, rfl, hn, hln, hD, rfl⟩ := hR
  have c' := c.toCxk
  refine wB_cons (ws_expr r (de_call c' WS (by decide) (da_cons (dl_lst (da_cons (de_var 0 c') (da_cons (de_var 1 c') da_nil))).de da_nil) ⟨.ch n h, .tr l z, n, rfl, rfl, congrArg some hln, nIs hn, rfl⟩) fun H1 s1 r1 => ?_)
  refine wB_cons (ws_for c r1 (di_ls c' (de_var 2 c')) (pg_ND (i := 3) c rfl (.inl rfl)) fun H3 s3 => ?_)
  refine ⟨fun i σ' H' => Same H3 H' ∧ Rel g H' σ' [some (.ch n h), some (.tr l z), some (.ls [aDat D]), none], ⟨Same.refl _, r1.mono s3⟩, fun i σ' H' _ h => h.1, ?_, ?_⟩
  · rintro i d σ' H' v H2' hd ⟨t1, r'⟩ t2 vd
    have hd' : d = aDat D := by
      have hm := List.mem_of_getElem? hd
      simpa using hm
    subst hd'
    refine wB_cons (ws_skip ((r'.mono t2).set 3 vd) (dt_not (dt_val (de_call c' WD (by decide) (da_cons (de_var 1 c') (da_cons (de_var 3 c') da_nil)) ⟨l, z, D, rfl, by omega, hD, rfl⟩))) fun H4 s4 r4 => wB_nil ⟨(t1.trans t2).trans s4, r4.sub (sub_eq (sub_eq (sub_eq (sub_no sub_nil))))⟩)
  · rintro σ' H' ⟨t1, r'⟩
    exact wB_nil (q _ H' ((s1.trans s3).trans t1) (.d .non))
theorem S_skyl : FnScope ["chooser", "trade", "dated"] ["chooser", "trade", "dated"] (defScope s_skyline) := ⟨rfl, rfl, rfl, by decide +kernel, rfl, by decide +kernel, by decide +kernel⟩
theorem ok_skyl (T : Txt g) (F : DefIn g "skyline" s_skyline) (WC : Def1 g 4 "skyline_check" (spP g 3 R_skyc)) (WS : Def1 g 1 "skyline_of" (spP g 3 R_sky)) : Def1 g 5 "skyline" (spP g 3 R_sky) := by
  obtain ⟨f, fd, F, hm⟩ := F
  refine def_P F hm (F.bindsN (ps := ["chooser", "trade", "dated"]) fun _ _ _ _ _ _ us hl => match us, hl with | [_, _, _], _ => rfl) S_skyl T rfl fun X c as b hR hl σ H Q r q => ?_
  obtain ⟨n, h, l, z, D, rfl, hn, hln, hD, rfl⟩ := hR
  have c' := c.toCxk
  refine wB_cons (ws_expr r (de_call c' WC (by decide) (da_cons (de_var 0 c') (da_cons (de_var 1 c') (da_cons (dl_lst (da_cons (de_var 2 c') da_nil)).de da_nil))) ⟨n, h, l, z, D, rfl, hn, hln, hD, rfl⟩) fun H1 s1 r1 => ?_)
  exact wB_cons (ws_ret r1 (de_call c' WS (by decide) (da_cons (de_var 0 c') (da_cons (de_var 1 c') (da_cons (de_var 2 c') da_nil))) ⟨n, h, l, z, D, rfl, hn, hln, hD, rfl⟩) fun v H2 s2 v2 => q v H2 (s1.trans s2) v2)
end
end K85

/-! W9: calendars, checks, deeds, what a deed leaves. -/
namespace K85
open PySem PySem.Spec PyProof.Rows L2
/-! sorted pairs -/
theorem mem_sortP {xs : Dts} {p : Int × Int} : p ∈ sortP xs ↔ p ∈ xs := (List.mergeSort_perm xs _).mem_iff
theorem sortP_asc {xs : Dts} (h : (xs.map (·.1)).Nodup) : ((sortP xs).map (·.1)).Pairwise (· < ·) := by
  have h1 := List.pairwise_mergeSort (le := leP) (fun a b c h1 h2 => by simp [leP] at h1 h2 ⊢; omega) (fun a b => by simp [leP]; omega) xs
  have h2 : ((sortP xs).map (·.1)).Nodup := ((List.mergeSort_perm xs _).map _).nodup_iff.mpr h
  rw [List.pairwise_map]
  have h3 : (sortP xs).Pairwise fun a b => a.1 ≠ b.1 := by
    have := h2
    unfold List.Nodup at this
    rw [List.pairwise_map] at this
    exact this
  exact (h1.and h3).imp fun ⟨a, b⟩ => by simp [leP] at a; omega
theorem asc_nodup {xs : List Int} (h : xs.Pairwise (· < ·)) : xs.Nodup := h.imp fun h => by omega
/-- two lists with ascending keys and the same members are the same -/
theorem dts_ext : ∀ {xs ys : Dts}, (xs.map (·.1)).Pairwise (· < ·) → (ys.map (·.1)).Pairwise (· < ·) → (∀ p, p ∈ xs ↔ p ∈ ys) → xs = ys
  | [], [], _, _, _ => rfl
  | [], y :: ys, _, _, h => by have := (h y).mpr List.mem_cons_self; simp at this
  | x :: xs, [], _, _, h => by have := (h x).mp List.mem_cons_self; simp at this
  | x :: xs, y :: ys, hx, hy, h => by
    rw [List.map_cons, List.pairwise_cons] at hx hy
    have e : x = y := by
      rcases List.mem_cons.mp ((h x).mp List.mem_cons_self) with e | m
      · exact e
      · rcases List.mem_cons.mp ((h y).mpr List.mem_cons_self) with e | m'
        · exact e.symm
        · have h1 := hy.1 x.1 (List.mem_map.mpr ⟨x, m, rfl⟩)
          have h2 := hx.1 y.1 (List.mem_map.mpr ⟨y, m', rfl⟩)
          omega
    subst e
    congr 1
    refine dts_ext hx.2 hy.2 fun k => ⟨fun hk => ?_, fun hk => ?_⟩
    · rcases List.mem_cons.mp ((h k).mp (List.mem_cons_of_mem _ hk)) with e | m
      · have := hx.1 k.1 (List.mem_map.mpr ⟨k, hk, rfl⟩)
        rw [e] at this
        omega
      · exact m
    · rcases List.mem_cons.mp ((h k).mpr (List.mem_cons_of_mem _ hk)) with e | m
      · have := hy.1 k.1 (List.mem_map.mpr ⟨k, hk, rfl⟩)
        rw [e] at this
        omega
      · exact m
theorem sortP_self {xs : Dts} (h : (xs.map (·.1)).Pairwise (· < ·)) : sortP xs = xs := dts_ext (sortP_asc (asc_nodup h)) h fun p => mem_sortP
/-- what a deed may be of a trade of l -/
def DeedOk (l : List Int) : Deed → Prop
  | .come k => 0 ≤ k ∧ k < (l.length : Int)
  | _ => True
theorem nodup_fst_filter {D : Dts} (h : (D.map (·.1)).Pairwise (· < ·)) (f : Int × Int → Bool) : ((D.filter f).map (·.1)).Nodup := asc_nodup (h.sublist (List.Sublist.map _ List.filter_sublist))
theorem beh_dated {l : List Int} (hL : Lives l) {D : Dts} (h : IsDated l D) {d : Deed} (hd : DeedOk l d) : IsDated l (beh l D d) := by
  cases d with
  | day =>
    refine ⟨?_, fun p hp => ?_⟩
    · show (((D.filter fun p => decide (1 < p.2)).map fun p => (p.1, p.2 - 1)).map (·.1)).Pairwise _
      rw [List.map_map]
      exact h.1.sublist (List.Sublist.map _ List.filter_sublist)
    · obtain ⟨q, hq, rfl⟩ := List.mem_map.mp hp
      obtain ⟨h1, h2⟩ := List.mem_filter.mp hq
      have := h.2 q h1
      have h3 : 1 < q.2 := of_decide_eq_true h2
      exact ⟨this.1, this.2.1, by show 1 ≤ q.2 - 1; omega, by show q.2 - 1 ≤ oa l q.1; omega⟩
  | gone k =>
    refine ⟨sortP_asc (nodup_fst_filter h.1 _), fun p hp => ?_⟩
    exact h.2 p (List.mem_filter.mp (mem_sortP.mp hp)).1
  | come k =>
    have hd' : 0 ≤ k ∧ k < (l.length : Int) := hd
    have hk := hL.2.2 (oa l k) (List.mem_of_getElem? (oaGet hd'.1 hd'.2))
    refine ⟨sortP_asc ?_, fun p hp => ?_⟩
    · rw [List.map_append]
      refine List.nodup_append.mpr ⟨nodup_fst_filter h.1 _, by simp, fun a ha b hb => ?_⟩
      obtain ⟨q, hq, rfl⟩ := List.mem_map.mp ha
      have h2 := (List.mem_filter.mp hq).2
      simp at hb h2
      subst hb
      exact h2
    · rcases List.mem_append.mp (mem_sortP.mp hp) with h1 | h1
      · exact h.2 p (List.mem_filter.mp h1).1
      · simp at h1
        subst h1
        exact ⟨hd'.1, hd'.2, hk.1, Int.le_refl _⟩
theorem sky_dated {l : List Int} {D : Dts} (h : IsDated l D) (c : List Int → List Int) (z : List Int) : IsDated l (sky c z D) := h.filter _
abbrev Spot := Int × Dts
def dSpot (s : Spot) : Dt := .tup [.num s.1, dDat s.2]
def dCal (cal : List (List Int)) : Dt := .tup (cal.map dSet)
def IsCal (n : Nat) (cal : List (List Int)) : Prop := 1 ≤ cal.length ∧ cal.length ≤ 100 ∧ ∀ s ∈ cal, IsSet n s
def dayOf (cal : List (List Int)) (i : Int) : List Int := cal.getD i.toNat []
def deedsOf (cal : List (List Int)) (z : List Int) (i : Int) : List Deed := (dayOf cal i).map .come ++ [.day] ++ z.map .gone
def aft (c : List Int → List Int) (l z : List Int) (m : Int) (s : Spot) (d : Deed) : Spot := (if dKind d = ("day" : Str) then (s.1 + 1) % m else s.1, sky c z (beh l s.2 d))
theorem dayGet {cal : List (List Int)} {i : Int} (h0 : 0 ≤ i) (h1 : i < (cal.length : Int)) : cal[i.toNat]? = some (dayOf cal i) := by
  have : i.toNat < cal.length := by omega
  unfold dayOf
  rw [List.getD_eq_getElem?_getD, List.getElem?_eq_getElem this]
  rfl
section
variable {g : Cfg}
def R_cal (as : List A) (b : A) : Prop := ∃ (l z : List Int) (cal : List (List Int)), as = [.tr l z, .d (dCal cal)] ∧ IsCal l.length cal ∧ b = .bl true
theorem S_cal : FnScope ["trade", "thing", "some"] ["trade", "thing"] (defScope s_is_calendar) := ⟨rfl, rfl, rfl, by decide +kernel, rfl, by decide +kernel, by decide +kernel⟩
theorem ok_cal (T : Txt g) (F : DefIn g "is_calendar" s_is_calendar) (WS : Def1 g 2 "is_set" (spP g 2 R_is_set)) : Def1 g 3 "is_calendar" (spP g 2 R_cal) := by
  obtain ⟨f, fd, F, hm⟩ := F
  refine def_P F hm (F.bindsN (ps := ["trade", "thing"]) fun _ _ _ _ _ _ us hl => match us, hl with | [_, _], _ => rfl) S_cal T rfl fun X c as b hR hl σ H Q r q => ?_
  obtain ⟨l, z, cal, rfl, ⟨h1, h2, h3⟩, rfl⟩ := hR
  have c' := c.toCxk
  refine wB_cons (ws_skip r (DT.is (dt_or2 (dt_not (dt_val (de_isiT c' (de_var 1 c')))) fun _ => dt_eqI (de_lenT c' (de_var 1 c')) de_int) (by simp; exact fun h => by subst h; simp at h1)) fun H1 s1 r1 => ?_)
  refine wB_cons (ws_for c r1 (di_tupM (enc := dSet) c' (de_var 1 c')) (pg_ND (i := 2) c rfl (.inl rfl)) fun H3 s3 => ?_)
  refine ⟨fun i σ' H' => Same H3 H' ∧ Rel g H' σ' [some (.tr l z), some (.d (dCal cal)), none], ⟨Same.refl _, r1.mono s3⟩, fun i σ' H' _ h => TK.of h.1, ?_, ?_⟩
  · rintro i d σ' H' v H2' hd ⟨t1, r'⟩ t2 vd
    obtain ⟨s, hs, rfl⟩ := map_get hd
    refine wB_cons (ws_skip ((r'.mono t2).set 2 vd) (dt_not (dt_val (de_call c' WS (by decide) (da_cons (de_lenT c' (de_lives c' (de_var 0 c'))) (da_cons (de_var 2 c') da_nil)) ⟨l.length, s, by simp, h3 s (List.mem_of_getElem? hs), rfl⟩))) fun H4 s4 r4 => wB_nil ⟨(t1.trans t2).trans s4, r4.sub (sub_eq (sub_eq (sub_no sub_nil)))⟩)
  · rintro σ' H' ⟨t1, r'⟩
    exact wB_cons (ws_ret r' de_bl fun v H4 s4 v4 => q v H4 (((s1.trans s3).trans t1).trans s4) v4)
def IsWs (n : Nat) (ws : List Int) : Prop := ws.length = n ∧ ∀ w ∈ ws, 0 ≤ w
def R_areW (as : List A) (b : A) : Prop := ∃ (l z ws : List Int), as = [.tr l z, aSet ws] ∧ IsWs l.length ws ∧ b = .bl true
theorem S_areW : FnScope ["trade", "thing", "worth"] ["trade", "thing"] (defScope s_shelf_are_worths) := ⟨rfl, rfl, rfl, by decide +kernel, rfl, by decide +kernel, by decide +kernel⟩
theorem ok_areW (T : Txt g) (F : DefIn g "shelf_are_worths" s_shelf_are_worths) (W : Def1 g 1 "is_whole" (spP g 1 R_is_whole)) : Def1 g 2 "shelf_are_worths" (spP g 2 R_areW) := by
  obtain ⟨f, fd, F, hm⟩ := F
  refine def_P F hm (F.bindsN (ps := ["trade", "thing"]) fun _ _ _ _ _ _ us hl => match us, hl with | [_, _], _ => rfl) S_areW T rfl fun X c as b hR hl σ H Q r q => ?_
  obtain ⟨l, z, ws, rfl, ⟨h1, h2⟩, rfl⟩ := hR
  have c' := c.toCxk
  refine wB_cons (ws_skip r (DT.is (dt_or2 (dt_not (dt_val (de_isiT c' (de_var 1 c')))) fun _ => dt_neI (de_lenT c' (de_var 1 c')) (de_lenT c' (de_lives c' (de_var 0 c')))) (by simp; omega)) fun H1 s1 r1 => ?_)
  refine wB_cons (ws_for c r1 (di_set c' (de_var 1 c')) (pg_ND (i := 2) c rfl (.inl rfl)) fun H3 s3 => ?_)
  refine ⟨fun i σ' H' => Same H3 H' ∧ Rel g H' σ' [some (.tr l z), some (aSet ws), none], ⟨Same.refl _, r1.mono s3⟩, fun i σ' H' _ h => TK.of h.1, ?_, ?_⟩
  · rintro i d σ' H' v H2' hd ⟨t1, r'⟩ t2 vd
    obtain ⟨s, hs, rfl⟩ := map_get hd
    have h3 := h2 s (List.mem_of_getElem? hs)
    refine wB_cons (ws_skip ((r'.mono t2).set 2 vd) (DT.is (dt_or2 (dt_not (dt_val (de_call c' W (by decide) (da_cons (de_var 2 c') da_nil) ⟨s, rfl, rfl⟩))) fun _ => dt_lt (de_var 2 c') de_int) (by simp; omega)) fun H4 s4 r4 => wB_nil ⟨(t1.trans t2).trans s4, r4.sub (sub_eq (sub_eq (sub_no sub_nil)))⟩)
  · rintro σ' H' ⟨t1, r'⟩
    exact wB_cons (ws_ret r' de_bl fun v H4 s4 v4 => q v H4 (((s1.trans s3).trans t1).trans s4) v4)
def R_chk (as : List A) (b : A) : Prop := ∃ (n : Nat) (c : List Int → List Int) (l z : List Int) (cal : List (List Int)), as = [.ch n c, .tr l z, .d (dCal cal)] ∧ (n = 2 ∨ n = 3) ∧ l.length = n ∧ IsCal n cal ∧ b = .d .none
theorem S_chk : FnScope ["chooser", "trade", "calendar"] ["chooser", "trade", "calendar"] (defScope s_shelf_check) := ⟨rfl, rfl, rfl, by decide +kernel, rfl, by decide +kernel, by decide +kernel⟩
theorem ok_chk (T : Txt g) (F : DefIn g "shelf_check" s_shelf_check) (WS : Def1 g 3 "same_offers" (spP g 1 R_same)) (WC : Def1 g 3 "is_calendar" (spP g 2 R_cal)) : Def1 g 4 "shelf_check" (spP g 3 R_chk) := by
  obtain ⟨f, fd, F, hm⟩ := F
  refine def_P F hm (F.bindsN (ps := ["chooser", "trade", "calendar"]) fun _ _ _ _ _ _ us hl => match us, hl with | [_, _, _], _ => rfl) S_chk T rfl fun X c as b hR hl σ H Q r q => ?_
  obtain ⟨n, h, l, z, cal, rfl, hn, hln, hC, rfl⟩ := hR
  have c' := c.toCxk
  refine wB_cons (ws_expr r (de_call c' WS (by decide) (da_cons (dl_lst (da_cons (de_var 0 c') (da_cons (de_var 1 c') da_nil))).de da_nil) ⟨.ch n h, .tr l z, n, rfl, rfl, congrArg some hln, nIs hn, rfl⟩) fun H1 s1 r1 => ?_)
  exact wB_cons (ws_skip r1 (dt_not (dt_val (de_call c' WC (by decide) (da_cons (de_var 1 c') (da_cons (de_var 2 c') da_nil)) ⟨l, z, cal, rfl, by rw [hln]; exact hC, rfl⟩))) fun H4 s4 r4 => wB_nil (q _ H4 (s1.trans s4) (.d .non)))
def R_chkw (as : List A) (b : A) : Prop := ∃ (n : Nat) (c : List Int → List Int) (l z : List Int) (cal : List (List Int)) (ws : List Int), as = [.ch n c, .tr l z, .d (dCal cal), aSet ws] ∧ (n = 2 ∨ n = 3) ∧ l.length = n ∧ IsCal n cal ∧ IsWs n ws ∧ b = .d .none
theorem S_chkw : FnScope ["chooser", "trade", "calendar", "worths"] ["chooser", "trade", "calendar", "worths"] (defScope s_shelf_check_worths) := ⟨rfl, rfl, rfl, by decide +kernel, rfl, by decide +kernel, by decide +kernel⟩
theorem ok_chkw (T : Txt g) (F : DefIn g "shelf_check_worths" s_shelf_check_worths) (WS : Def1 g 4 "shelf_check" (spP g 3 R_chk)) (WC : Def1 g 2 "shelf_are_worths" (spP g 2 R_areW)) : Def1 g 5 "shelf_check_worths" (spP g 4 R_chkw) := by
  obtain ⟨f, fd, F, hm⟩ := F
  refine def_P F hm (F.bindsN (ps := ["chooser", "trade", "calendar", "worths"]) fun _ _ _ _ _ _ us hl => match us, hl with | [_, _, _, _], _ => rfl) S_chkw T rfl fun X c as b hR hl σ H Q r q => ?_
  obtain ⟨n, h, l, z, cal, ws, rfl, hn, hln, hC, hW, rfl⟩ := hR
  have c' := c.toCxk
  refine wB_cons (ws_expr r (de_call c' WS (by decide) (da_cons (de_var 0 c') (da_cons (de_var 1 c') (da_cons (de_var 2 c') da_nil))) ⟨n, h, l, z, cal, rfl, hn, hln, hC, rfl⟩) fun H1 s1 r1 => ?_)
  exact wB_cons (ws_skip r1 (dt_not (dt_val (de_call c' WC (by decide) (da_cons (de_var 1 c') (da_cons (de_var 3 c') da_nil)) ⟨l, z, ws, rfl, by rw [hln]; exact hW, rfl⟩))) fun H4 s4 r4 => wB_nil (q _ H4 (s1.trans s4) (.d .non)))
/-! deeds of a day -/
def R_deeds (as : List A) (bs : List A) : Prop := ∃ (l z : List Int) (cal : List (List Int)) (i : Int), as = [.tr l z, .d (dCal cal), aI i] ∧ 0 ≤ i ∧ i < (cal.length : Int) ∧ (dayOf cal i).length ≤ 100 ∧ z.length ≤ 100 ∧ bs = (deedsOf cal z i).map fun d => .d (dDeed d)
theorem S_deeds : FnScope ["trade", "calendar", "index", "deeds", "offer"] ["trade", "calendar", "index"] (defScope s_shelf_deeds) := ⟨rfl, rfl, rfl, by decide +kernel, rfl, by decide +kernel, by decide +kernel⟩
theorem ok_deeds (T : Txt g) (F : DefIn g "shelf_deeds" s_shelf_deeds) : Def1 g 1 "shelf_deeds" (spL g 3 R_deeds) := by
  obtain ⟨f, fd, F, hm⟩ := F
  refine def_L F hm (F.bindsN (ps := ["trade", "calendar", "index"]) fun _ _ _ _ _ _ us hl => match us, hl with | [_, _, _], _ => rfl) S_deeds T rfl fun X c as b hR hl σ H Q r q => ?_
  obtain ⟨l, z, cal, i, rfl, h0, h1, hd, hz, rfl⟩ := hR
  have c' := c.toCxk
  refine wB_cons (ws_asgL 3 c r (dl_cat (as := (dayOf cal i).map fun k => A.d (dDeed (.come k))) (bs := [A.d (dDeed .day)]) (DL.de (DL.is (DC.dl (dc_comp (xs := dayOf cal i) (e := aI) (pr := fun _ => true) (f := fun k => A.d (dDeed (.come k))) (own := [("offer", 4)]) (gt := gName 4) (Γx := fun k => [some (.tr l z), some (.d (dCal cal)), some (aI i), none, some (aI k)]) c'
      (di_set c' (de_ix c' (de_var 1 c') (de_var 2 c') (d := dSet (dayOf cal i)) (atI_map (atI_get h0 (dayGet h0 h1))))).same (by decide +kernel) rfl (fun X' d => pg_N d rfl rfl) (fun x hx => tg_N (by simp)) (fun x hx X' d => dts_nil) (fun x hx _ X' d => de_tup (ds := [.text "come", .num x]) (da_cons de_str (da_cons (de_var 4 d) da_nil))) (fun _ _ => rfl) (by omega)) c')
      (by rw [List.filter_eq_self.mpr (fun _ _ => rfl)]))) (dl_lst (da_cons (de_tup (ds := [.text "day"]) (da_cons de_str da_nil)) da_nil)).de (by simp; omega)) fun p xs σ2 H2 hp s2 e2 v2 r2 => ?_)
  have r3 := r2.toLs 3 rfl e2 v2
  have e : (deedsOf cal z i).map (fun d => A.d (dDeed d)) = ((dayOf cal i).map (fun k => A.d (dDeed (.come k))) ++ [A.d (dDeed .day)]) ++ z.map fun k => A.d (dDeed (.gone k)) := by
    unfold deedsOf
    simp [List.map_append, List.map_map, Function.comp_def]
  rw [e] at q
  refine wB_cons (ws_retL r3 (dl_cat (de_var 3 c') (DL.de (DL.is (DC.dl (dc_comp (xs := z) (e := aI) (pr := fun _ => true) (f := fun k => A.d (dDeed (.gone k))) (own := [("offer", 4)]) (gt := gName 4) (Γx := fun k => [some (.tr l z), some (.d (dCal cal)), some (aI i), none, some (aI k)]) c'
      (di_set c' (de_loose c' (de_var 0 c'))).same (by decide +kernel) rfl (fun X' d => pg_N d rfl rfl) (fun x hx => (tg_N (by simp)).sub (sub_eq (sub_eq (sub_eq (sub_no (sub_eq sub_nil)))))) (fun x hx X' d => dts_nil) (fun x hx _ X' d => de_tup (ds := [.text "gone", .num x]) (da_cons de_str (da_cons (de_var 4 d) da_nil))) (fun _ _ => rfl) (by omega)) c')
      (by rw [List.filter_eq_self.mpr (fun _ _ => rfl)]))) (by simp; omega)) fun p2 xs2 H3 h3 s3 e3 v3 => q p2 xs2 H3 (s2.free h3) (s2.trans s3) e3 v3)
def R_aft (as : List A) (b : A) : Prop := ∃ (n : Nat) (c : List Int → List Int) (l z : List Int) (cal : List (List Int)) (s : Spot) (d : Deed), as = [.ch n c, .tr l z, .d (dCal cal), .d (dSpot s), .d (dDeed d)] ∧ (n = 2 ∨ n = 3) ∧ l.length = n ∧ Lives l ∧ 1 ≤ cal.length ∧ IsDated l s.2 ∧ DeedOk l d ∧ b = .d (dSpot (aft c l z cal.length s d))
theorem S_aft : FnScope ["chooser", "trade", "calendar", "spot", "deed", "index", "sky", "fresh"] ["chooser", "trade", "calendar", "spot", "deed"] (defScope s_shelf_after) := ⟨rfl, rfl, rfl, by decide +kernel, rfl, by decide +kernel, by decide +kernel⟩
theorem ok_aft (T : Txt g) (F : DefIn g "shelf_after" s_shelf_after) (WB : Def1 g 1 "behind" (spP g 3 R_beh)) (WS : Def1 g 1 "skyline_of" (spP g 3 R_sky)) : Def1 g 2 "shelf_after" (spP g 5 R_aft) := by
  obtain ⟨f, fd, F, hm⟩ := F
  refine def_P F hm (F.bindsN (ps := ["chooser", "trade", "calendar", "spot", "deed"]) fun _ _ _ _ _ _ us hl => match us, hl with | [_, _, _, _, _], _ => rfl) S_aft T rfl fun X c as b hR hl σ H Q r q => ?_
  obtain ⟨n, h, l, z, cal, s, d, rfl, hn, hln, hL, hc, hD, hd, rfl⟩ := hR
  have c' := c.toCxk
  obtain ⟨ds, hds⟩ := dDeed_tup d
  have kind := deed_kind hds
  have hlen := dated_len hn hln hD
  refine wB_cons (ws_unp 5 6 c r (de_var 3 c') fun σ2 H2 s2 r2 => ?_)
  refine wB_cons (ws_asg 7 c r2 (de_call c' WS (by decide) (da_cons (de_var 0 c') (da_cons (de_var 1 c') (da_cons (de_call c' WB (by decide) (da_cons (de_var 1 c') (da_cons (de_var 6 c') (da_cons (de_var 4 c') da_nil))) ⟨l, z, s.2, d, rfl, by omega, fun k e => by subst e; exact hd, rfl⟩) da_nil))) ⟨n, h, l, z, beh l s.2 d, rfl, hn, hln, beh_dated hL hD hd, rfl⟩) fun σ3 H3 s3 r3 => ?_)
  rw [hds] at r3
  refine wB_cons (ws_ret r3 (de_tup (ds := [.num _, dDat (sky h z (beh l s.2 d))]) (da_cons (x := aI (if dKind d = ("day" : Str) then (s.1 + 1) % (cal.length : Int) else s.1)) (de_ifE (dt_eqS (de_ix c' (de_var 4 c') de_int kind) de_str) (fun ht => DE.is (de_mod (de_add (de_var 5 c') de_int) (DE.is (de_lenT c' (de_var 2 c')) (by rw [List.length_map])) (by omega)) (by rw [if_pos (of_decide_eq_true ht)])) fun hf => DE.is (de_var 5 c') (by rw [if_neg (of_decide_eq_false hf)])) (da_cons (de_var 7 c') da_nil))) fun v H4 s4 v4 => q v H4 ((s2.trans s3).trans s4) v4)
end
end K85

/-! L14: a dict whose keys are nested tuples. -/
namespace K85
open PySem PySem.Spec PyProof.Rows L2
mutual
theorem DV.nested {X : Cx} {pins : List (Addr × Obj)} {σ : L2.St} {H : Hp} {s : Shared} (I : Inv X pins σ H s) : ∀ {d : Dt} {v : V} {u : Value}, DV H v d → RelV v u → NestedIs s.heap d u
  | .none, _, u, h, r => by
    cases h
    rw [show u = Value.none from r]
    exact .none
  | .num i, _, u, h, r => by
    cases h
    obtain ⟨t, rfl⟩ := (show ∃ t, u = Value.int i t from r)
    exact .int i t
  | .text x, _, u, h, r => by
    cases h
    obtain ⟨t, rfl⟩ := (show ∃ t, u = Value.str x t from r)
    exact .text x t
  | .tup ds, _, u, h, r => by
    cases h with
    | @tup a xs _ e t =>
      obtain rfl : u = Value.ref a := r
      obtain ⟨its, rv, pt, hz⟩ := I.tuple (.inl (.inl e))
      obtain ⟨o, ho, hc, n, hd⟩ := pt
      exact .tup ho hc hd (DVs.nested I t rv)
theorem DVs.nested {X : Cx} {pins : List (Addr × Obj)} {σ : L2.St} {H : Hp} {s : Shared} (I : Inv X pins σ H s) : ∀ {ds : List Dt} {vs : List V} {us : List Value}, DVs H vs ds → Vals vs us → NestedAll s.heap ds us
  | [], _, us, h, r => by
    cases h
    cases r
    exact .nil
  | d :: ds, _, us, h, r => by
    cases h with
    | cons x y =>
      cases r with
      | cons r1 r2 => exact .cons (DV.nested I x r1) (DVs.nested I y r2)
end
theorem nroom {P : Program} {w : World} {A : Around} (hu : A.units + 64 < cLine) : (nestedKind P w).room A := by
  show A.units + 8 < cLine
  omega
theorem nroom1 {P : Program} {w : World} {A : Around} (hu : A.units + 64 < cLine) : (nestedKind P w).room A.in1 := by
  show A.units + 1 + 8 < cLine
  omega
/-- what the dict holds -/
def lkD : List (Dt × Dt) → Dt → Option Dt
  | [], _ => none
  | p :: ps, k => if p.1 = k then some p.2 else lkD ps k
section
variable {P : Program} {w : World} {H : Hp} {o : Obj} {es : Array DictEntry} {ep : Nat} {ys : List (Dt × Addr × Addr)} {kd : List (Dt × Dt)}
abbrev PN (H : Hp) : Dt × Dt → Dt × Addr × Addr → Prop := fun p y => p.1 = y.1 ∧ p.1.depth ≤ 8 ∧ DV H (.ref y.2.1) p.1 ∧ DV H (.ref y.2.2) p.2
theorem lk_none : ∀ {kd : List (Dt × Dt)} {ys : List (Dt × Addr × Addr)} {k : Dt}, Paired (PN H) kd ys → lkD kd k = none → atKey (rawN ys) k = none
  | [], _, k, h, e => by cases h; rfl
  | p :: kd, _, k, h, e => by
    cases h with
    | @cons _ y _ ys r t =>
      unfold lkD at e
      by_cases hk : p.1 = k
      · rw [if_pos hk] at e
        cases e
      · rw [if_neg hk] at e
        have ih := lk_none t e
        unfold atKey rawN at ih ⊢
        rw [List.map_cons, List.find?_cons]
        have : decide (y.1 = k) = false := decide_eq_false fun z => hk (r.1.trans z)
        simp only [this]
        exact ih
theorem lk_some : ∀ {kd : List (Dt × Dt)} {ys : List (Dt × Addr × Addr)} {k d : Dt}, Paired (PN H) kd ys → lkD kd k = some d → ∃ b q, atKey (rawN ys) k = some (b, .ref q) ∧ DV H (.ref q) d
  | [], _, k, d, h, e => by cases e
  | p :: kd, _, k, d, h, e => by
    cases h with
    | @cons _ y _ ys r t =>
      unfold lkD at e
      by_cases hk : p.1 = k
      · rw [if_pos hk] at e
        have e' := Option.some.inj e
        subst e'
        refine ⟨y.2.1, y.2.2, ?_, r.2.2.2⟩
        unfold atKey rawN
        rw [List.map_cons, List.find?_cons]
        have : decide (y.1 = k) = true := decide_eq_true (r.1.symm.trans hk)
        simp only [this]
        rfl
      · rw [if_neg hk] at e
        obtain ⟨b, q, ih, hd⟩ := lk_some t e
        refine ⟨b, q, ?_, hd⟩
        unfold atKey rawN at ih ⊢
        rw [List.map_cons, List.find?_cons]
        have : decide (y.1 = k) = false := decide_eq_false fun z => hk (r.1.trans z)
        simp only [this]
        exact ih
theorem NDict.at {X : Cx} {pins : List (Addr × Obj)} {σ : L2.St} {s : Shared} {a : Addr} (I : Inv X pins σ H s) (ha : H a = some (DX a o)) (h : NOk X.prog X.w H o es ep ys kd) : s.heap.get? a = some o ∧ s.heap.DictOfH (nestedKind X.prog X.w) a (rawN ys) := by
  have ho : s.heap.get? a = some o := (I.hok a _ ha).1
  refine ⟨ho, o, es, ep, ho, h.exact, h.data, h.ents, fun x hx => ?_, h.once⟩
  obtain ⟨y, hy, rfl⟩ := List.mem_map.mp hx
  have key : ∀ {kd : List (Dt × Dt)} {ys : List (Dt × Addr × Addr)}, Paired (PN H) kd ys → ∀ y ∈ ys, (nestedKind X.prog X.w).is s.heap y.1 y.2.1 := by
    intro kd ys h
    induction h with
    | nil => intro y hy; simp at hy
    | @cons p z _ _ r t ih =>
      intro y hy
      rcases List.mem_cons.mp hy with rfl | hy
      · obtain ⟨e1, e2, e3, _⟩ := r
        rw [← e1]
        exact ⟨DV.nested I e3 rfl, e2⟩
      · exact ih y hy
  exact key h.all y hy
theorem NOk.len (h : NOk P w H o es ep ys kd) : ys.length = kd.length := (Paired.length h.all).symm
theorem rawN_len : (rawN ys).length = ys.length := List.length_map ..
end
section
variable {g : Cfg} {N : List Str} {sc : Scope} {X : Cx} {j k : Nat} {Γ : List (Option A)} {e a b o tg iter : Expr} {es : List Expr} {x f : Str} {pos p px opos apos cpos : Pos} {D : Ends} {σ : L2.St} {H : Hp} {i : Nat}
/-- k not in d -/
def rNNotIn (P : Program) (w : World) : R2 := fun x y H Q => ∃ a b kd d, x = .ref b ∧ y = .ref a ∧ NDict P w H a kd ∧ DV H (.ref b) d ∧ d.depth ≤ 8 ∧ Q (.bl (!(lkD kd d).isSome)) H
theorem or_nnotin (hu : X.A.units + 64 < cLine) : OpR X (compareOp .NotIn) (rNNotIn X.prog X.w) := by
  intro pins s σ H x y v u Q I rx ry h
  obtain ⟨a, b, kd, d, rfl, rfl, ⟨hs, o, es, ep, ys, ha, ok⟩, hd, h8, q⟩ := h
  cases rx
  cases ry
  have hm := (NDict.at I ha ok).2
  refine notIn_keyed (knd := nestedKind X.prog X.w) (k := d) (nroom1 hu) ⟨DV.nested I hd rfl, h8⟩ hs ⟨_, hm, rfl⟩ ?_
  refine ⟨.bl (!(lkD kd d).isSome), H, I.tok _, ?_, q⟩
  rw [valueAt_pairsH]
  cases hl : lkD kd d with
  | none =>
    rw [lk_none ok.all hl]
    rfl
  | some z =>
    obtain ⟨b', q', h1, _⟩ := lk_some ok.all hl
    rw [h1]
    rfl
theorem AV.refOf {v : V} {ds : List Dt} (h : AV g H v (.d (.tup ds))) : ∃ a, v = .ref a ∧ DV H (.ref a) (.tup ds) := by
  obtain ⟨a, xs, rfl, e, t⟩ := h.tupOf
  exact ⟨a, rfl, .tup e t⟩
theorem dt_nnotin {ds : List Dt} {kd : List (Dt × Dt)} (c : Cxk g N sc k X) (ha : DE g X a Γ (.d (.tup ds))) (hb : DE g X b Γ (.nd kd)) (h8 : (NestedKey.tup ds).depth ≤ 8) (hm : behindInMarks .NotIn b = false := by with_unfolding_all rfl) :
    DT g X (.Compare a [.NotIn] [b] pos) Γ (!(lkD kd (.tup ds)).isSome) := dt_cmp (r := rNNotIn g.P g.w) (by rw [← c.P, ← c.w]; exact or_nnotin c.room.units) ha hb (fun H v u Q hv hu q => by
    obtain ⟨b, rfl, hd⟩ := hv.refOf
    cases hu with
    | @nd l _ n => exact ⟨l, b, kd, .tup ds, rfl, rfl, n, hd, h8, q _ H (Same.refl H) (.bl _)⟩) hm
/-- d[k], there -/
def tNGet (P : Program) (w : World) (td ty : TE) : TE := fun σ H Q => td σ H fun x H1 => ty σ H1 fun y H2 => ∃ a b kd d z, x = .ref a ∧ y = .ref b ∧ NDict P w H2 a kd ∧ DV H2 (.ref b) d ∧ d.depth ≤ 8 ∧ lkD kd d = some z ∧ ∀ q, DV H2 (.ref q) z → Q (.ref q) H2
theorem pe_nget {td ty : TE} {i : Expr} (hu : X.A.units + 64 < cLine) (ho : PE X o td) (hi : PE X i ty) (hs : NoSl i) : PE X (.Subscript o i pos) (tNGet X.prog X.w td ty) := by
  refine ⟨fun pins s σ H Q I h => ?_⟩
  refine subD_of PySem.F.slot_dict_getitem.lookup hs (thn (ho.run pins s σ H _ I h) fun u s1 ⟨x, H1, I1, rx, q1⟩ => thn (hi.run pins s1 σ H1 _ I1 q1) fun iv s2 ⟨y, H2, I2, ry, a, b, kd, d, z, ex, ey, ⟨hs, o, es, ep, ys, ha, ok⟩, hd, h8, hl, q⟩ => ?_)
  subst ex ey
  obtain rfl : u = Value.ref a := rx
  obtain rfl : iv = Value.ref b := ry
  obtain ⟨ho, hm⟩ := NDict.at I2 ha ok
  obtain ⟨b', q', h1, h2⟩ := lk_some ok.all hl
  exact ⟨hm.typeIs, wpAny_getItem_heap (knd := nestedKind X.prog X.w) (k := d) (nroom1 hu) ⟨DV.nested I2 hd rfl, h8⟩ hm h1 ⟨.ref q', H2, I2.tok _, rfl, q q' h2⟩⟩
theorem de_nget {ds es : List Dt} {kd : List (Dt × Dt)} (c : Cxk g N sc k X) (ha : DE g X a Γ (.nd kd)) (hb : DE g X b Γ (.d (.tup ds))) (h8 : (NestedKey.tup ds).depth ≤ 8) (hl : lkD kd (.tup ds) = some (.tup es)) (hs : NoSl b := by exact fun _ _ => rfl) : DE g X (.Subscript a b pos) Γ (.d (.tup es)) := fun σ H Q rl q =>
  ⟨_, pe_nget c.room.units pe_w pe_w hs, two (ta := wE X a) ha hb rl fun v u H1 s1 v1 u1 => by
    obtain ⟨y, rfl, hd⟩ := u1.refOf
    cases v1 with
    | @nd l _ n =>
      rw [← c.P, ← c.w] at n
      exact ⟨l, y, kd, .tup ds, .tup es, rfl, rfl, n, hd, h8, hl, fun q' h' => q _ H1 s1 (.d h')⟩⟩
/-- d[k] = v, k new -/
def sNPut (P : Program) (w : World) (td ty tv : TE) : TS := fun D σ H => tv σ H fun v H1 => td σ H1 fun x H2 => ty σ H2 fun y H3 => ∃ a b q kd d z, x = .ref a ∧ y = .ref b ∧ v = .ref q ∧ NDict P w H3 a kd ∧ DV H3 (.ref b) d ∧ DV H3 (.ref q) z ∧ d.depth ≤ 8 ∧ kd.length ≤ 1000 ∧ lkD kd d = none ∧
  ∀ o', TK H3 (upd H3 a (DX a o')) → NDict P w (upd H3 a (DX a o')) a (kd ++ [(d, z)]) → D.nx σ (upd H3 a (DX a o'))
theorem dx_ok {P : Program} {w : World} {H : Hp} {h : Heap} {a : Addr} {o : Obj} (e : h.get? a = some o) : ObjOk P w H h a (DX a o) := ⟨e, ⟨o, e⟩, fun h1 h2 p k => k o p⟩
theorem paired_snoc {α β : Type} {G : α → β → Prop} {x : α} {y : β} : ∀ {xs : List α} {ys : List β}, Paired G xs ys → G x y → Paired G (xs ++ [x]) (ys ++ [y])
  | _, _, .nil, h => .cons h .nil
  | _, _, .cons r t, h => .cons r (paired_snoc t h)
theorem ps_nput {td ty tv : TE} {i value : Expr} (hu : X.A.units + 64 < cLine) (ho : PE X o td) (hi : PE X i ty) (hv : PE X value tv) (hs : swapsWith value (some (.Subscript o i opos)) pos.line X.env = pure false) :
    PS X (.Assign [.Subscript o i opos] value pos) (sNPut X.prog X.w td ty tv) := by
  refine ⟨fun pins s σ H D I h => ?_⟩
  refine wpAny_Assign_Subscript (thn (hv.run pins s σ H _ I h) fun r s1 ⟨v, H1, I1, rv, q1⟩ => thn (ho.run pins s1 σ H1 _ I1 q1) fun u s2 ⟨x, H2, I2, rx, q2⟩ => thn (hi.run pins s2 σ H2 _ I2 q2) fun iv s3 ⟨y, H3, I3, ry, a, b, q, kd, d, z, ex, ey, ev, ⟨hsm, o, es, ep, ys, ha, ok⟩, hd, hz, h8, hlen, hl, qq⟩ => ?_) hs
  subst ex ey ev
  obtain rfl : u = Value.ref a := rx
  obtain rfl : iv = Value.ref b := ry
  obtain rfl : r = Value.ref q := rv
  obtain ⟨hoo, hm⟩ := NDict.at I3 ha ok
  have hnone := lk_none ok.all hl
  refine wpAny_setItem_heap (knd := nestedKind X.prog X.w) (k := d) (hsz := by rw [rawN_len, ok.len]; exact Nat.le_trans hlen (by decide)) (nroom1 hu) ⟨DV.nested I3 hd rfl, h8⟩ hm fun h' hm' hs' => ?_
  rw [storedH_new hnone] at hm'
  obtain ⟨o', es', ep', e1, e2, e3, e4, _, e6⟩ := hm'
  have er : rawN ys ++ [(d, b, Value.ref q)] = rawN (ys ++ [(d, b, q)]) := by unfold rawN; rw [List.map_append]; rfl
  rw [er] at e4 e6
  have kk : TK H3 (upd H3 a (DX a o')) := TK.upd ha fun xs z => by cases z
  have I4 : Inv X pins σ (upd H3 a (DX a o')) { s3 with heap := h', toks := s3.toks + (nestedKind X.prog X.w).draws d } := d_write I3 (by rw [ha]; exact True.intro) hs' ⟨o', e1⟩ (dx_ok e1)
  exact ⟨σ, _, I4, qq o' kk ⟨hsm, o', es', ep', _, upd_same, e2, e3, e4, e6, paired_snoc (Paired.mapP ok.all fun _ _ ⟨a, b, c, d⟩ => ⟨a, b, c.mono kk, d.mono kk⟩) ⟨rfl, h8, hd.mono kk, hz.mono kk⟩⟩⟩
theorem ws_nput {l : Addr} {kd : List (Dt × Dt)} {ds zs : List Dt} (c : Dtx g N sc k X) (r : Rel g H σ Γ) (ho : DE g X o Γ (.obj (.ref l))) (hi : DE g X a Γ (.d (.tup ds))) (he : DE g X e Γ (.d (.tup zs))) (hd : NDict g.P g.w H l kd) (h8 : (NestedKey.tup ds).depth ≤ 8) (hz : kd.length ≤ 1000) (hl : lkD kd (.tup ds) = none)
    (q : ∀ H1, But l H H1 → NDict g.P g.w H1 l (kd ++ [(.tup ds, .tup zs)]) → (∀ o, H1 l = some o → fixO o = false) → D.nx σ H1) (hs : swapsWith e (some (.Subscript o a opos)) pos.line X.env = pure false := by rfl) : wS X (.Assign [.Subscript o a opos] e pos) D σ H :=
  ⟨_, ps_nput c.room.units pe_w pe_w pe_w hs, he σ H _ r fun v H1 s1 v1 => ho σ H1 _ (r.mono s1) fun w H2 s2 w2 => hi σ H2 _ (r.mono (s1.trans s2)) fun u H3 s3 u3 => by
    have ew := w2.is
    subst ew
    have s13 := (s1.trans s2).trans s3
    obtain ⟨y, rfl, hy⟩ := u3.refOf
    obtain ⟨q', rfl, hq⟩ := (v1.mono (s2.trans s3)).refOf
    have hd3 := hd.mono (TK.of s13) fun o e => s13 _ _ e
    refine ⟨l, y, q', kd, .tup ds, .tup zs, rfl, rfl, rfl, by rw [c.P, c.w]; exact hd3, hy, hq, h8, hz, hl, fun o' kk n' => ?_⟩
    rw [c.P, c.w] at n'
    refine q _ (fun b' o'' hb' e' => ?_) n' fun o e => ?_
    · rw [upd_ne hb']
      exact s13 _ _ e'
    · rw [upd_same] at e
      cases e
      rfl⟩
/-- len(d) -/
def rNLen (P : Program) (w : World) : List V → Hp → VK → Prop := fun xs H Q => ∃ a kd, xs = [.ref a] ∧ NDict P w H a kd ∧ kd.length ≤ 1000 ∧ Q (.int kd.length) H
theorem cr_nlen : CallR X (.builtin "len") (rNLen X.prog X.w) := by
  intro pins s σ H xs us Q I r h
  obtain ⟨a, kd, rfl, ⟨hs, o, es, ep, ys, ha, ok⟩, hlen, q⟩ := h
  rw [Vals.ref1 r]
  have hm := (NDict.at I ha ok).2
  have hl : (rawN ys).length = kd.length := by rw [rawN_len, ok.len]
  refine call_len_dictH hs hm (by rw [hl]; omega) ?_
  rw [hl]
  exact ⟨.int kd.length, H, I.tok _, ⟨_, rfl⟩, q⟩
theorem de_nlen {kd : List (Dt × Dt)} (c : Cxk g N sc k X) (ha : DE g X a Γ (.nd kd)) (hlen : kd.length ≤ 1000) (hg : GlS sc "len" := by rfl) (h1 : starEach [a] X.env = (false, eval a X.env) :: starEach [] X.env := by rfl) : DE g X (.Call (.Name "len" p) [a] [] pos) Γ (aI kd.length) :=
  de_B c cr_nlen c.T.len PySem.boot_len (da_cons ha da_nil h1) (fun H vs Q h q => by
    obtain ⟨v, rfl, h1⟩ := avs1 h
    cases h1 with
    | @nd l _ n =>
      rw [← c.P, ← c.w] at n
      exact ⟨l, kd, rfl, n, hlen, q _ H (Same.refl H) (.d (.int _))⟩) hg (he := h1)
/-- {k: v} -/
def NDPost (P : Program) (w : World) (p : Addr) (Q : VK) (ps : List (V × V)) (H2 : Hp) : Prop := H2 p = some (.dT []) ∧ ∃ b q d z, ps = [(.ref b, .ref q)] ∧ DV H2 (.ref b) d ∧ DV H2 (.ref q) z ∧ d.depth ≤ 8 ∧
  ∀ o', TK H2 (upd H2 p (DX p o')) → NDict P w (upd H2 p (DX p o')) p [(d, z)] → Q (.ref p) (upd H2 p (DX p o'))
def tNDisp (P : Program) (w : World) (tk tv : TE) : TE := fun σ H Q => ∀ p, H p = none → tk σ (upd H p (.dT [])) fun x H1 => tv σ H1 fun y H2 => NDPost P w p Q [(x, y)] H2
theorem pe_ndisp {tk tv : TE} {kx vx : Expr} (hu : X.A.units + 64 < cLine) (hk : PE X kx tk) (hv : PE X vx tv) : PE X (.Dict [some kx] [vx] pos) (tNDisp X.prog X.w tk tv) := by
  refine ⟨fun pins s σ H Q I h => ?_⟩
  have hn := I.hok.fresh (Nat.le_refl s.heap.objs.size)
  have I1 := I.laid (a := s.heap.objs.size) (o := .dT []) (h' := s.heap.push { cls := .type "dict", data := .dict #[] }) (t' := s.toks) (fun _ _ q => Heap.get?_push_of_some _ q) (Nat.le_refl _) (dt_empty s.heap I.big)
  have hpp : PPs X pos [some kx] [vx] [(tk, tv)] := pps_cons hk hv pps_nil
  rw [arm_eval_Dict, zip_pairTrees [some kx] [vx] X.env pos rfl rfl, dictDisplay_pairs _ (by intro z; have := pairTrees_length [some kx] [vx] X.env pos rfl rfl; rw [z] at this; simp at this) (by rw [pairTrees_length [some kx] [vx] X.env pos rfl rfl]; show 1 < 17; decide)]
  refine wpAny_bind (wpAny_standAt (wpAny_bind (wpAny_subDictH (knd := nestedKind X.prog X.w) (nroom hu) (by rw [pairTrees_length [some kx] [vx] X.env pos rfl rfl]; show 1 ≤ 15; decide) ?_)))
  refine thn (hpp.run pins _ σ _ (NDPost X.prog X.w s.heap.objs.size Q) I1 (h _ hn)) fun ws s2 ⟨ps, H2, I2, rel, e, b, q, d, z, ep, hd, hz, h8, qq⟩ => ?_
  · subst ep
    cases rel with
    | @cons _ wv _ _ r1 t1 =>
      cases t1
      obtain ⟨w1, w2⟩ := wv
      obtain ⟨r1, r2⟩ := r1
      obtain rfl : w1 = Value.ref b := r1
      obtain rfl : w2 = Value.ref q := r2
      obtain ⟨hz0, hsm, xs0, rel0, dd⟩ := dt_of I2.hok e
      cases rel0
      obtain ⟨oo, es0, ep0, f1, f2, f3, f4, _, _⟩ := id dd
      refine ⟨[(d, b, .ref q)], ⟨rfl, rfl, ⟨DV.nested I2 hd rfl, h8⟩, trivial⟩, ⟨oo, es0, ep0, f1, f2, f3, f4, fun x hx => by simp at hx, List.nodup_nil⟩, fun h' tk' hm' hs' => wpAny_pure ?_⟩
      obtain ⟨o', es', ep', e1, e2, e3, e4, _, e6⟩ := hm'
      have kk : TK H2 (upd H2 s.heap.objs.size (DX s.heap.objs.size o')) := TK.upd e fun xs z => by cases z
      have I4 : Inv X pins σ (upd H2 s.heap.objs.size (DX s.heap.objs.size o')) { s2 with heap := h', toks := tk' } := d_write I2 (by rw [e]; exact True.intro) hs' ⟨o', e1⟩ (dx_ok e1)
      exact ⟨.ref s.heap.objs.size, _, I4, rfl, qq o' kk ⟨hsm, o', es', ep', [(d, b, q)], upd_same, e2, e3, e4, e6, .cons ⟨rfl, h8, hd.mono kk, hz.mono kk⟩ .nil⟩⟩
end
end K85

/-! L15: a dict of nested tuples walked, written out; sums and maxima; while loops. -/
namespace K85
open PySem PySem.Spec PyProof.Rows L2
def ItN (d : Addr) (o : Obj) (ys : List (Dt × Addr × Addr)) : It :=
  ⟨fun i H => H d = some (DX d o) ∧ i < ys.length, fun i H x H' => H' = H ∧ ∃ y, ys[i]? = some y ∧ x = .ref y.2.1, fun i H => H d = some (DX d o) ∧ ys.length ≤ i⟩
theorem turn_N {P : Program} {w : World} {K : PySem.W.Frag} {tg : Expr} {d : Addr} {o : Obj} {es : Array DictEntry} {ep : Nat} {ys : List (Dt × Addr × Addr)} (it : Addr) (hod : o.data = .dict es ep) (hsz : es.size = ys.length) (hen : ∀ (i : Nat) (y : Dt × Addr × Addr), ys[i]? = some y → ∃ en : DictEntry, es[i]? = some en ∧ en.key = .ref y.2.1) :
    Turn P w K tg (ItN d o ys) [it] it (fun i h => h.IsKeyIter it d i ys.length ep) where
  mem := by simp
  obj := fun i h st b hb => by
    have e : b = it := by simpa using hb
    subst e
    obtain ⟨oi, e, c, dd⟩ := st
    exact ⟨oi, e, fun v z => by rw [dd] at z; cases z⟩
  keep := fun i h h' st k => st.at fun oi e => k it (by simp) oi e
  item := by
    intro X hP hw hK hc i pins s σ H E I hf st hg
    subst hP hw hK
    obtain ⟨hd, hi⟩ := hg
    obtain ⟨f0, f1, f2, f3, f4, f5⟩ := hf it (by simp)
    have hgd : s.heap.get? d = some o := (I.hok d _ hd).1
    have hy : ys[i]? = some ys[i] := List.getElem?_eq_getElem hi
    obtain ⟨en, he, hkey⟩ := hen i _ hy
    refine next_key_item st hgd hod hsz he fun h' st' sb => ?_
    have I1 : Inv X pins σ H { s with heap := h' } := I.turned (t' := s.toks) (fun b ob hb e => (sb.2 b hb).trans e) f0 f1 f3 f4 f5
    obtain ⟨oi, e, c, dd⟩ := id st'
    exact ⟨en.key, rfl, go_of (s := { s with heap := h' }) e c dd (by decide) ⟨.ref ys[i].2.1, H, I1, hkey, ⟨rfl, ys[i], hy, rfl⟩, st', fun b hb => (hf b hb).1⟩⟩
  done := by
    intro X hP hw hK hc i pins s σ H E I hf st hg
    subst hP hw hK
    obtain ⟨hd, hi⟩ := hg
    obtain ⟨f0, f1, f2, f3, f4, f5⟩ := hf it (by simp)
    have hgd : s.heap.get? d = some o := (I.hok d _ hd).1
    exact next_key_end (I.ok.hd hc) st hgd hod hsz hi fun h' eb => ⟨rfl, I.turned (t' := s.toks) (fun b ob hb e => eb b ob hb e) f0 f1 f3 f4 f5⟩
  self := fun A i s Q E st h => by
    refine wpAny_pyIter_slot st.typeIs F.slot_dict_keyiterator_iter (wpAny_call_entry F.slot_dict_keyiterator_iter st.typeIs F.entry_dict_keyiterator_iter ?_ (F.args_dict_keyiterator_iter_1 _))
    show wpAny _ _ (ret (.ref it)) _ _ s
    exact wpAny_pure ⟨_, rfl, "dict_keyiterator", _, st.typeIs, F.slot_dict_keyiterator_next.lookup, h⟩
def iN (P : Program) (w : World) (td : TE) : TI := fun σ H R => td σ H fun x H1 => ∃ d o es ep ys kd, x = .ref d ∧ (d == sysModules) = false ∧ H1 d = some (DX d o) ∧ NOk P w H1 o es ep ys kd ∧ R (ItN d o ys) H1
theorem pi_N {X : Cx} {tg e : Expr} {td : TE} (he : PE X e td) : PI X tg e (iN X.prog X.w td) := by
  refine ⟨fun pins s σ H R I h => ?_⟩
  refine thn (he.run pins s σ H _ I h) fun u s1 ⟨x, H1, I1, rx, d, o, es, ep, ys, kd, ex, hs, hd, ok, q⟩ => ?_
  subst ex
  obtain rfl : u = Value.ref d := rx
  have hgd : s1.heap.get? d = some o := (I1.hok d _ hd).1
  have hsz : es.size = ys.length := by
    have := congrArg List.length ok.ents
    rw [Array.length_toList, List.length_map, rawN_len] at this
    exact this
  refine iter_keys hs hgd ok.exact ok.data (pi_one (tk := s1.toks) I1 _ (turn_N _ ok.data hsz fun i y hy => ?_) ⟨_, Heap.get?_push_size _ rfl, rfl, ?_⟩ q)
  · have e := entry_at ok.ents i
    unfold rawN at e
    rw [List.getElem?_map, hy] at e
    exact ⟨_, e, rfl⟩
  · rw [hsz] <;> rfl
section
variable {g : Cfg} {N : List Str} {sc : Scope} {X : Cx} {j k : Nat} {Γ : List (Option A)} {e a b o tg iter kx vx : Expr} {es : List Expr} {x f : Str} {pos p px opos apos cpos : Pos} {D : Ends} {σ : L2.St} {H : Hp} {i : Nat}
theorem di_N {kd : List (Dt × Dt)} (c : Cxk g N sc k X) (h : DE g X iter Γ (.nd kd)) : DI g X tg iter Γ Same (kd.map fun p => A.d p.1) := fun σ H R r q =>
  ⟨_, pi_N pe_w, h σ H _ r fun v H1 s1 v1 => by
    cases v1 with
    | @nd l _ n =>
      obtain ⟨hs, o, es, ep, ys, hd, ok⟩ := n
      have ok' := ok
      rw [← c.P, ← c.w] at ok'
      have hl : (kd.map fun p => A.d p.1).length = ys.length := by rw [List.length_map, ok.len]
      refine ⟨l, o, es, ep, ys, kd, rfl, hs, hd, ok', q _ H1 (fun H' => H' l = some (DX l o) ∧ TK H1 H') s1 (fun H' st => ⟨st _ _ hd, TK.of st⟩) ⟨fun i H' hi w => ?_, fun H' w => ?_, fun i H' v H'' hi w y => ?_⟩⟩
      · exact ⟨w.1, by rw [← hl]; exact hi⟩
      · exact ⟨w.1, Nat.le_of_eq hl.symm⟩
      · obtain ⟨rfl, y, hy, rfl⟩ := y
        rw [List.length_map] at hi
        have hp : kd[i]? = some kd[i] := List.getElem?_eq_getElem hi
        obtain ⟨y', hy', r1⟩ := paired_get ok.all hp
        rw [hy] at hy'
        cases hy'
        exact ⟨Same.refl _, A.d kd[i].1, by rw [List.getElem?_map, hp]; rfl, .d (r1.2.2.1.mono w.2)⟩⟩
theorem w_ndisp {ds zs : List Dt} {Q : VK} (c : Cxk g N sc k X) (r : Rel g H σ Γ) (hk : DE g X kx Γ (.d (.tup ds))) (hv : DE g X vx Γ (.d (.tup zs))) (h8 : (NestedKey.tup ds).depth ≤ 8) (q : ∀ p H1, H p = none → Same H H1 → NDict g.P g.w H1 p [(.tup ds, .tup zs)] → (∀ o, H1 p = some o → fixO o = false) → Q (.ref p) H1) : wE X (.Dict [some kx] [vx] pos) σ H Q :=
  ⟨_, pe_ndisp c.room.units pe_w pe_w, fun p hp => hk σ _ _ (r.mono (Same.newO hp)) fun v H1 s1 v1 => hv σ H1 _ (r.mono ((Same.newO hp).trans s1)) fun u H2 s2 u2 => by
    obtain ⟨b, rfl, hb⟩ := (v1.mono s2).refOf
    obtain ⟨z, rfl, hz⟩ := u2.refOf
    refine ⟨s2 _ _ (s1 _ _ upd_same), b, z, .tup ds, .tup zs, rfl, hb, hz, h8, fun o' kk n => ?_⟩
    rw [c.P, c.w] at n
    refine q p _ hp (Same.mut (((Same.newO hp).trans s1).trans s2) hp) n fun o e => ?_
    rw [upd_same] at e
    cases e
    rfl⟩
/-- d[k] = v, k new; the dict is told of for the value alone -/
theorem ws_nput2 {Γ2 : List (Option A)} {l : Addr} {kd : List (Dt × Dt)} {ds zs : List Dt} (c : Dtx g N sc k X) (r : Rel g H σ Γ) (r2 : Rel g H σ Γ2) (ho : DE g X o Γ (.obj (.ref l))) (hi : DE g X a Γ (.d (.tup ds))) (he : DE g X e Γ2 (.d (.tup zs))) (hd : NDict g.P g.w H l kd) (h8 : (NestedKey.tup ds).depth ≤ 8) (hz : kd.length ≤ 1000) (hl : lkD kd (.tup ds) = none)
    (q : ∀ H1, But l H H1 → NDict g.P g.w H1 l (kd ++ [(.tup ds, .tup zs)]) → (∀ o, H1 l = some o → fixO o = false) → D.nx σ H1) (hs : swapsWith e (some (.Subscript o a opos)) pos.line X.env = pure false := by rfl) : wS X (.Assign [.Subscript o a opos] e pos) D σ H :=
  ⟨_, ps_nput c.room.units pe_w pe_w pe_w hs, he σ H _ r2 fun v H1 s1 v1 => ho σ H1 _ (r.mono s1) fun w H2 s2 w2 => hi σ H2 _ (r.mono (s1.trans s2)) fun u H3 s3 u3 => by
    have ew := w2.is
    subst ew
    have s13 := (s1.trans s2).trans s3
    obtain ⟨y, rfl, hy⟩ := u3.refOf
    obtain ⟨q', rfl, hq⟩ := (v1.mono (s2.trans s3)).refOf
    have hd3 := hd.mono (TK.of s13) fun o e => s13 _ _ e
    refine ⟨l, y, q', kd, .tup ds, .tup zs, rfl, rfl, rfl, by rw [c.P, c.w]; exact hd3, hy, hq, h8, hz, hl, fun o' kk n' => ?_⟩
    rw [c.P, c.w] at n'
    refine q _ (fun b' o'' hb' e' => ?_) n' fun o e => ?_
    · rw [upd_ne hb']
      exact s13 _ _ e'
    · rw [upd_same] at e
      cases e
      rfl⟩
/-- a slot's dict, told -/
theorem Rel.toNd {l : Addr} {kd : List (Dt × Dt)} (r : Rel g H σ Γ) (i : Nat) (hΓ : Γ[i]? = some (some (.obj (.ref l)))) (hl : NDict g.P g.w H l kd) : Rel g H σ (Γ.set i (some (.nd kd))) := ⟨by rw [List.length_set]; exact r.len, fun j b e => by
  by_cases hj : i = j
  · subst hj
    have hi : i < Γ.length := (List.getElem?_eq_some_iff.mp hΓ).1
    rw [List.getElem?_set_self hi] at e
    have e' : A.nd kd = b := Option.some.inj (Option.some.inj e)
    obtain ⟨v, e1, e2⟩ := r.at_ i _ hΓ
    have ev := e2.is
    subst ev
    exact ⟨_, e1, e' ▸ AV.nd hl⟩
  · rw [List.getElem?_set_ne hj] at e
    exact r.at_ j b e⟩
/-- sum(a list of numbers) -/
theorem boot_sum' : bootBuiltins ("sum" : Str) = some (.builtin "sum") := by decide +kernel
theorem de_sumL {xs : List Int} (c : Cxk g N sc k X) (ha : DL g X a Γ (xs.map aI)) (hg : GlS sc "sum" := by rfl) (h1 : starEach [a] X.env = (false, eval a X.env) :: starEach [] X.env := by rfl) : DE g X (.Call (.Name "sum" p) [a] [] pos) Γ (aI xs.sum) :=
  de_B c (cr_sum c.calm) c.T.sum boot_sum' (da_cons ha.de da_nil h1) (fun H vs Q h q => by
    obtain ⟨v, rfl, h1⟩ := avs1 h
    cases h1 with
    | @ls l ws _ hl t =>
      rw [← map_nums] at t
      have e := (AVs.dvs t).ints
      subst e
      exact ⟨l, xs, rfl, .inl (.inl hl), q _ H (Same.refl H) (.d (.int _))⟩) hg (he := h1)
/-- max(a list of numbers) -/
def IsMax (m : Int) (xs : List Int) : Prop := m ∈ xs ∧ ∀ y ∈ xs, y ≤ m
theorem IsMax.uniq {m m' : Int} {xs : List Int} (h : IsMax m xs) (h' : IsMax m' xs) : m = m' := by
  have h1 := h.2 m' h'.1
  have h2 := h'.2 m h.1
  omega
theorem de_maxL {xs : List Int} {m : Int} (c : Cxk g N sc k X) (ha : DE g X a Γ (.ls (xs.map aI))) (hm : IsMax m xs) (hg : GlS sc "max" := by rfl) (h1 : starEach [a] X.env = (false, eval a X.env) :: starEach [] X.env := by rfl) : DE g X (.Call (.Name "max" p) [a] [] pos) Γ (aI m) :=
  de_B c (cr_max c.calm) c.T.max boot_max (da_cons ha da_nil h1) (fun H vs Q h q => by
    obtain ⟨v, rfl, h1⟩ := avs1 h
    cases h1 with
    | @ls l ws _ hl t =>
      rw [← map_nums] at t
      have e := (AVs.dvs t).ints
      subst e
      refine ⟨l, xs, rfl, by rw [c.K]; exact .inl (.inl hl), List.length_pos_of_mem hm.1, fun m' h1 h2 => ?_⟩
      have e : m' = m := IsMax.uniq ⟨h1, h2⟩ hm
      subst e
      exact q _ H (Same.refl H) (.d (.int _))) hg (he := h1)
end
end K85

/-! M1: a search by levels, in plain Lean. -/
namespace K85
section bfs
variable {α β : Type} [DecidableEq α]
def lkG {γ : Type} : List (α × γ) → α → Option γ
  | [], _ => none
  | p :: ps, k => if p.1 = k then some p.2 else lkG ps k
variable (nb : α → List β) (go : α → β → α)
abbrev St2 (α β : Type) := List (α × List β) × List α
def stp (s : α) (st : St2 α β) (d : β) : St2 α β := if (lkG st.1 (go s d)).isSome then st else (st.1 ++ [(go s d, (lkG st.1 s).getD [] ++ [d])], st.2 ++ [go s d])
def row1 (st : St2 α β) (s : α) : St2 α β := (nb s).foldl (stp go s) st
def lvl (F : List (α × List β)) (R : List α) : St2 α β := R.foldl (row1 nb go) (F, [])
def runB : Nat → List (α × List β) → List α → List (α × List β)
  | 0, F, _ => F
  | n + 1, F, R => if R = [] then F else runB n (lvl nb go F R).1 (lvl nb go F R).2
end bfs
theorem lk_append {α γ : Type} [DecidableEq α] : ∀ (xs ys : List (α × γ)) (k : α), lkG (xs ++ ys) k = match lkG xs k with | some v => some v | none => lkG ys k
  | [], ys, k => rfl
  | x :: xs, ys, k => by
    by_cases h : x.1 = k
    · simp [lkG, h]
    · simp only [List.cons_append, lkG, if_neg h]
      exact lk_append xs ys k
theorem lk_mem {α γ : Type} [DecidableEq α] : ∀ {xs : List (α × γ)} {k : α} {v : γ}, lkG xs k = some v → (k, v) ∈ xs
  | [], _, _, h => by cases h
  | x :: xs, k, v, h => by
    unfold lkG at h
    by_cases e : x.1 = k
    · rw [if_pos e] at h
      have := Option.some.inj h
      subst this e
      exact List.mem_cons_self
    · rw [if_neg e] at h
      exact List.mem_cons_of_mem _ (lk_mem h)
theorem lk_isSome {α γ : Type} [DecidableEq α] {xs : List (α × γ)} {k : α} : (lkG xs k).isSome = true ↔ k ∈ xs.map (·.1) := by
  induction xs with
  | nil => simp [lkG]
  | cons x xs ih =>
    unfold lkG
    by_cases e : x.1 = k
    · rw [if_pos e]
      simp [e]
    · rw [if_neg e, ih]
      have e' : ¬ k = x.1 := fun q => e q.symm
      simp [e']
theorem lk_noneN {α γ : Type} [DecidableEq α] {xs : List (α × γ)} {k : α} : lkG xs k = none ↔ k ∉ xs.map (·.1) := by
  rw [← lk_isSome]
  cases lkG xs k <;> simp
theorem lk_nodup {α γ : Type} [DecidableEq α] : ∀ {xs : List (α × γ)} {k : α} {v : γ}, (xs.map (·.1)).Nodup → (k, v) ∈ xs → lkG xs k = some v
  | [], _, _, _, h => by simp at h
  | x :: xs, k, v, hn, h => by
    have hn' := List.nodup_cons.mp (show (x.1 :: xs.map (·.1)).Nodup from hn)
    unfold lkG
    rcases List.mem_cons.mp h with e | h
    · subst e
      rw [if_pos rfl]
    · rw [if_neg (fun z => hn'.1 (List.mem_map.mpr ⟨_, h, z.symm⟩))]
      exact lk_nodup hn'.2 h
/-- a list without doubles is no longer than one that holds it -/
theorem nodup_sub_len {α : Type} [DecidableEq α] : ∀ {xs ys : List α}, xs.Nodup → (∀ x ∈ xs, x ∈ ys) → xs.length ≤ ys.length
  | [], _, _, _ => Nat.zero_le _
  | x :: xs, ys, hn, hs => by
    have hn' := List.nodup_cons.mp hn
    have hx := hs x List.mem_cons_self
    have ih := nodup_sub_len (xs := xs) (ys := ys.erase x) hn'.2 fun y hy => (List.mem_erase_of_ne (show y ≠ x from fun e => hn'.1 (e ▸ hy))).mpr (hs y (List.mem_cons_of_mem _ hy))
    rw [List.length_erase_of_mem hx] at ih
    have := List.length_pos_of_mem hx
    simp only [List.length_cons]
    omega
section spec
variable {α β : Type} [DecidableEq α] (nb : α → List β) (go : α → β → α) (s0 : α)
/-- in n steps -/
inductive RN : Nat → α → Prop
  | z : RN 0 s0
  | s {n : Nat} {s : α} {d : β} : RN n s → d ∈ nb s → RN (n + 1) (go s d)
/-- the least number of steps -/
def Dist (n : Nat) (k : α) : Prop := RN nb go s0 n k ∧ ∀ m, m < n → ¬ RN nb go s0 m k
theorem Dist.uniq {n m : Nat} {k : α} (h : Dist nb go s0 n k) (h' : Dist nb go s0 m k) : n = m := by
  rcases Nat.lt_trichotomy n m with q | q | q
  · exact absurd h.1 (h'.2 n q)
  · exact q
  · exact absurd h'.1 (h.2 m q)
theorem exists_dist {n : Nat} {k : α} (h : RN nb go s0 n k) : ∃ m, m ≤ n ∧ Dist nb go s0 m k := by
  induction n using Nat.strongRecOn with
  | _ n ih =>
    by_cases hm : ∃ m, m < n ∧ RN nb go s0 m k
    · obtain ⟨m, hm, hr⟩ := hm
      obtain ⟨j, hj, hd⟩ := ih m hm hr
      exact ⟨j, by omega, hd⟩
    · exact ⟨n, Nat.le_refl n, h, fun m hm' hr => hm ⟨m, hm', hr⟩⟩
/-- level i is done -/
structure Lev (i : Nat) (F : List (α × List β)) (R : List α) : Prop where
  once : (F.map (·.1)).Nodup
  dist : ∀ p ∈ F, p.2.length ≤ i ∧ Dist nb go s0 p.2.length p.1
  all : ∀ j k, j ≤ i → RN nb go s0 j k → k ∈ F.map (·.1)
  rows : ∀ k, k ∈ R ↔ Dist nb go s0 i k
  mono : (F.map (·.2.length)).Pairwise (· ≤ ·)
structure Mid (i : Nat) (F0 : List (α × List β)) (st : St2 α β) : Prop where
  ex : ∃ new : List (α × List β), st.1 = F0 ++ new ∧ st.2 = new.map (·.1) ∧ ∀ p ∈ new, p.2.length = i + 1 ∧ RN nb go s0 (i + 1) p.1 ∧ p.1 ∉ F0.map (·.1)
  once : (st.1.map (·.1)).Nodup
theorem Mid.keys {i : Nat} {F0 : List (α × List β)} {st : St2 α β} (h : Mid nb go s0 i F0 st) {k : α} (hk : k ∈ F0.map (·.1)) : k ∈ st.1.map (·.1) := by
  obtain ⟨new, e, _⟩ := h.ex
  rw [e, List.map_append]
  exact List.mem_append_left _ hk
theorem stp_mono {st : St2 α β} {s : α} {d : β} {k : α} (h : k ∈ st.1.map (·.1)) : k ∈ (stp go s st d).1.map (·.1) := by
  unfold stp
  split
  · exact h
  · rw [List.map_append]
    exact List.mem_append_left _ h
theorem stp_has {st : St2 α β} {s : α} {d : β} : go s d ∈ (stp go s st d).1.map (·.1) := by
  unfold stp
  split
  · rename_i h
    exact lk_isSome.mp h
  · rw [List.map_append]
    exact List.mem_append_right _ (by simp)
theorem stp_mid {i : Nat} {F0 : List (α × List β)} {st : St2 α β} {s : α} {d : β} (h : Mid nb go s0 i F0 st) (hs : ∃ p, lkG F0 s = some p ∧ p.length = i) (hr : RN nb go s0 i s) (hd : d ∈ nb s) : Mid nb go s0 i F0 (stp go s st d) := by
  unfold stp
  split
  · exact h
  · rename_i hn
    obtain ⟨new, e1, e2, e3⟩ := h.ex
    obtain ⟨p, hp, hl⟩ := hs
    have hk : go s d ∉ st.1.map (·.1) := fun z => hn (lk_isSome.mpr z)
    have hlk : lkG st.1 s = some p := by rw [e1, lk_append, hp]
    refine ⟨⟨new ++ [(go s d, (lkG st.1 s).getD [] ++ [d])], ?_, ?_, ?_⟩, ?_⟩
    · rw [e1, List.append_assoc]
    · rw [e2, List.map_append]
      rfl
    · intro q hq
      rcases List.mem_append.mp hq with hq | hq
      · exact e3 q hq
      · simp at hq
        subst hq
        refine ⟨?_, .s hr hd, fun z => hk (h.keys nb go s0 z)⟩
        rw [hlk]
        simp [hl]
    · rw [List.map_append]
      refine List.nodup_append.mpr ⟨h.once, by simp, fun a ha b hb => ?_⟩
      simp at hb
      subst hb
      intro z
      subst z
      exact hk ha
theorem row_mid {i : Nat} {F0 : List (α × List β)} {s : α} (hs : ∃ p, lkG F0 s = some p ∧ p.length = i) (hr : RN nb go s0 i s) : ∀ (ds : List β) (st : St2 α β), (∀ d ∈ ds, d ∈ nb s) → Mid nb go s0 i F0 st →
    Mid nb go s0 i F0 (ds.foldl (stp go s) st) ∧ (∀ k, k ∈ st.1.map (·.1) → k ∈ (ds.foldl (stp go s) st).1.map (·.1)) ∧ ∀ d ∈ ds, go s d ∈ (ds.foldl (stp go s) st).1.map (·.1)
  | [], st, _, h => ⟨h, fun _ z => z, fun d hd => by simp at hd⟩
  | d :: ds, st, hd, h => by
    obtain ⟨a, b, c⟩ := row_mid hs hr ds (stp go s st d) (fun x hx => hd x (List.mem_cons_of_mem _ hx)) (stp_mid nb go s0 h hs hr (hd d List.mem_cons_self))
    refine ⟨a, fun k hk => b k (stp_mono go hk), fun x hx => ?_⟩
    rcases List.mem_cons.mp hx with rfl | hx
    · exact b _ (stp_has go)
    · exact c x hx
theorem lvl_mid {i : Nat} {F0 : List (α × List β)} : ∀ (R : List α) (st : St2 α β), (∀ s ∈ R, (∃ p, lkG F0 s = some p ∧ p.length = i) ∧ RN nb go s0 i s) → Mid nb go s0 i F0 st →
    Mid nb go s0 i F0 (R.foldl (row1 nb go) st) ∧ (∀ k, k ∈ st.1.map (·.1) → k ∈ (R.foldl (row1 nb go) st).1.map (·.1)) ∧ ∀ s ∈ R, ∀ d ∈ nb s, go s d ∈ (R.foldl (row1 nb go) st).1.map (·.1)
  | [], st, _, h => ⟨h, fun _ z => z, fun d hd => by simp at hd⟩
  | s :: R, st, hR, h => by
    obtain ⟨a1, b1, c1⟩ := row_mid nb go s0 (hR s List.mem_cons_self).1 (hR s List.mem_cons_self).2 (nb s) st (fun _ z => z) h
    obtain ⟨a, b, c⟩ := lvl_mid R (row1 nb go st s) (fun x hx => hR x (List.mem_cons_of_mem _ hx)) a1
    refine ⟨a, fun k hk => b k (b1 k hk), fun x hx => ?_⟩
    rcases List.mem_cons.mp hx with rfl | hx
    · exact fun d hd => b _ (c1 d hd)
    · exact c x hx
theorem lev_step {i : Nat} {F : List (α × List β)} {R : List α} (h : Lev nb go s0 i F R) : Lev nb go s0 (i + 1) (lvl nb go F R).1 (lvl nb go F R).2 := by
  have hR : ∀ s ∈ R, (∃ p, lkG F s = some p ∧ p.length = i) ∧ RN nb go s0 i s := fun s hs => by
    have hd := (h.rows s).mp hs
    obtain ⟨⟨k, p⟩, hp, rfl⟩ := List.mem_map.mp (h.all i s (Nat.le_refl i) hd.1)
    exact ⟨⟨p, lk_nodup h.once hp, Dist.uniq nb go s0 (h.dist _ hp).2 hd⟩, hd.1⟩
  obtain ⟨M, hk, hc⟩ := lvl_mid nb go s0 R (F, []) hR ⟨⟨[], by simp, rfl, fun p hp => by simp at hp⟩, h.once⟩
  obtain ⟨new, e1, e2, e3⟩ := M.ex
  have hd3 : ∀ p ∈ new, Dist nb go s0 (i + 1) p.1 := fun p hp => ⟨(e3 p hp).2.1, fun m hm hr => (e3 p hp).2.2 (h.all m p.1 (by omega) hr)⟩
  have hall : ∀ j k, j ≤ i + 1 → RN nb go s0 j k → k ∈ (lvl nb go F R).1.map (·.1) := fun j k hj hr => by
    rcases Nat.lt_or_ge j (i + 1) with q | q
    · exact hk k (h.all j k (by omega) hr)
    · have e : j = i + 1 := by omega
      subst e
      cases hr with
      | @s _ s d hs hd =>
        obtain ⟨m, hm, hdist⟩ := exists_dist nb go s0 hs
        rcases Nat.lt_or_ge m i with q | q
        · exact hk _ (h.all (m + 1) _ (by omega) (.s hdist.1 hd))
        · have e : m = i := by omega
          subst e
          exact hc s ((h.rows s).mpr hdist) d hd
  have e1' : (lvl nb go F R).1 = F ++ new := e1
  have e2' : (lvl nb go F R).2 = new.map (·.1) := e2
  refine ⟨M.once, ?_, hall, fun k => ?_, ?_⟩
  · rw [e1']
    intro p hp
    rcases List.mem_append.mp hp with hp | hp
    · have := h.dist p hp
      exact ⟨by omega, this.2⟩
    · rw [(e3 p hp).1]
      exact ⟨Nat.le_refl _, hd3 p hp⟩
  · rw [e2']
    constructor
    · intro hk'
      obtain ⟨p, hp, rfl⟩ := List.mem_map.mp hk'
      exact hd3 p hp
    · intro hd
      have hm := hall (i + 1) k (Nat.le_refl _) hd.1
      rw [e1', List.map_append] at hm
      rcases List.mem_append.mp hm with hm | hm
      · obtain ⟨p, hp, rfl⟩ := List.mem_map.mp hm
        have := h.dist p hp
        have e := Dist.uniq nb go s0 this.2 hd
        omega
      · exact hm
  · rw [e1', List.map_append]
    refine List.pairwise_append.mpr ⟨h.mono, ?_, fun a ha b hb => ?_⟩
    · have : ∀ b ∈ new.map (fun p => p.2.length), b = i + 1 := fun b hb => by
        obtain ⟨p, hp, rfl⟩ := List.mem_map.mp hb
        exact (e3 p hp).1
      exact List.pairwise_of_forall_mem_list fun a ha b hb => by rw [this a ha, this b hb]; exact Nat.le_refl _
    · obtain ⟨p, hp, rfl⟩ := List.mem_map.mp ha
      obtain ⟨q, hq, rfl⟩ := List.mem_map.mp hb
      rw [(e3 q hq).1]
      have := (h.dist p hp).1
      omega
/-- the whole search -/
structure Found (F : List (α × List β)) : Prop where
  once : (F.map (·.1)).Nodup
  dist : ∀ p ∈ F, Dist nb go s0 p.2.length p.1
  all : ∀ k, k ∈ F.map (·.1) ↔ ∃ n, RN nb go s0 n k
  mono : (F.map (·.2.length)).Pairwise (· ≤ ·)
theorem lev_done {i : Nat} {F : List (α × List β)} (h : Lev nb go s0 i F []) : Found nb go s0 F := by
  have hno : ∀ k, ¬ Dist nb go s0 i k := fun k hd => by have := (h.rows k).mpr hd; simp at this
  have hall : ∀ n k, RN nb go s0 n k → k ∈ F.map (·.1) := by
    intro n k hr
    induction hr with
    | z => exact h.all 0 _ (Nat.zero_le _) .z
    | @s n s d hs hd ih =>
      obtain ⟨p, hp, rfl⟩ := List.mem_map.mp ih
      have := h.dist p hp
      have hne : p.2.length ≠ i := fun e => hno p.1 (e ▸ this.2)
      exact h.all (p.2.length + 1) _ (by omega) (.s this.2.1 hd)
  refine ⟨h.once, fun p hp => (h.dist p hp).2, fun k => ⟨fun hk => ?_, fun ⟨n, hn⟩ => hall n k hn⟩, h.mono⟩
  obtain ⟨p, hp, rfl⟩ := List.mem_map.mp hk
  exact ⟨_, (h.dist p hp).2.1⟩
theorem lev_zero : Lev nb go s0 0 [(s0, [])] [s0] := by
  have hz : ∀ k, RN nb go s0 0 k → k = s0 := fun k h => by cases h; rfl
  refine ⟨by simp, fun p hp => ?_, fun j k hj hr => ?_, fun k => ?_, by simp⟩
  · simp at hp
    subst hp
    exact ⟨Nat.le_refl _, .z, fun m hm => by simp at hm⟩
  · have e : j = 0 := by omega
    subst e
    simp [hz k hr]
  · constructor
    · intro h
      simp at h
      subst h
      exact ⟨.z, fun m hm => by omega⟩
    · intro h
      simp [hz k h.1]
theorem lvl_len {F : List (α × List β)} {R : List α} {i : Nat} (h : Lev nb go s0 i F R) : (lvl nb go F R).1.length = F.length + (lvl nb go F R).2.length := by
  have hR : ∀ s ∈ R, (∃ p, lkG F s = some p ∧ p.length = i) ∧ RN nb go s0 i s := fun s hs => by
    have hd := (h.rows s).mp hs
    obtain ⟨⟨k, p⟩, hp, rfl⟩ := List.mem_map.mp (h.all i s (Nat.le_refl i) hd.1)
    exact ⟨⟨p, lk_nodup h.once hp, Dist.uniq nb go s0 (h.dist _ hp).2 hd⟩, hd.1⟩
  obtain ⟨M, hk, hc⟩ := lvl_mid nb go s0 R (F, []) hR ⟨⟨[], by simp, rfl, fun p hp => by simp at hp⟩, h.once⟩
  obtain ⟨new, e1, e2, e3⟩ := M.ex
  have e1' : (lvl nb go F R).1 = F ++ new := e1
  have e2' : (lvl nb go F R).2 = new.map (·.1) := e2
  rw [e1', e2']
  simp
theorem run_found : ∀ (n i : Nat) (F : List (α × List β)) (R : List α) (B : Nat), Lev nb go s0 i F R → (∀ j F' R', Lev nb go s0 j F' R' → F'.length ≤ B) → 2 * (B - F.length) + (if R = [] then 0 else 1) < n → Found nb go s0 (runB nb go n F R)
  | 0, i, F, R, B, h, hB, hn => absurd hn (Nat.not_lt_zero _)
  | n + 1, i, F, R, B, h, hB, hn => by
    unfold runB
    by_cases hR : R = []
    · rw [if_pos hR]
      subst hR
      exact lev_done nb go s0 h
    · rw [if_neg hR]
      have h' := lev_step nb go s0 h
      refine run_found n (i + 1) _ _ B h' hB ?_
      have hl := lvl_len nb go s0 h
      have h1 := hB _ _ _ h'
      have h2 := hB _ _ _ h
      rw [if_neg hR] at hn
      by_cases hR' : (lvl nb go F R).2 = []
      · rw [if_pos hR']
        rw [hR'] at hl
        simp at hl
        omega
      · rw [if_neg hR']
        have : 0 < (lvl nb go F R).2.length := List.length_pos_iff.mpr hR'
        omega
end spec
end K85

/-! W10: shelf_streams. -/
namespace K85
open PySem PySem.Spec PyProof.Rows L2
/-! ### few spots -/
def enumD : Int → List Int → List Dts
  | _, [] => [[]]
  | k, x :: r => enumD (k + 1) r ++ (List.range x.toNat).flatMap fun (d : Nat) => (enumD (k + 1) r).map fun D => (k, (d : Int) + 1) :: D
theorem enum_len : ∀ (k : Int) (l : List Int), (∀ x ∈ l, x ≤ 3) → (enumD k l).length ≤ 4 ^ l.length
  | _, [], _ => Nat.le_refl 1
  | k, x :: r, h => by
    have ih := enum_len (k + 1) r fun y hy => h y (List.mem_cons_of_mem _ hy)
    have hx := h x List.mem_cons_self
    unfold enumD
    rw [List.length_append, List.length_flatMap]
    have e : ((List.range x.toNat).map fun (d : Nat) => ((enumD (k + 1) r).map fun D => (k, (d : Int) + 1) :: D).length) = (List.range x.toNat).map fun (_ : Nat) => (enumD (k + 1) r).length := List.map_congr_left fun d _ => List.length_map ..
    rw [e]
    have h3 : x.toNat = 0 ∨ x.toNat = 1 ∨ x.toNat = 2 ∨ x.toNat = 3 := by omega
    have e4 : 4 ^ (x :: r).length = 4 ^ r.length * 4 := by rw [List.length_cons, Nat.pow_succ]
    rw [e4]
    rcases h3 with q | q | q | q <;> rw [q] <;> simp [List.range_succ] <;> omega
theorem enum_mem : ∀ (l : List Int) (k : Int) (D : Dts), (D.map (·.1)).Pairwise (· < ·) → (∀ p ∈ D, k ≤ p.1 ∧ p.1 < k + (l.length : Int) ∧ 1 ≤ p.2 ∧ p.2 ≤ oa l (p.1 - k)) → D ∈ enumD k l
  | [], k, D, _, h => by
    cases D with
    | nil => exact List.mem_singleton.mpr rfl
    | cons p D =>
      have := h p List.mem_cons_self
      simp at this
      omega
  | x :: r, k, D, ha, h => by
    have step : ∀ p ∈ D, k + 1 ≤ p.1 → k + 1 ≤ p.1 ∧ p.1 < k + 1 + (r.length : Int) ∧ 1 ≤ p.2 ∧ p.2 ≤ oa r (p.1 - (k + 1)) := fun p hp hk => by
      have h1 := h p hp
      have e : (p.1 - k).toNat = (p.1 - (k + 1)).toNat + 1 := by omega
      have e2 : oa (x :: r) (p.1 - k) = oa r (p.1 - (k + 1)) := by
        unfold oa
        rw [e]
        rfl
      rw [e2] at h1
      rw [List.length_cons] at h1
      exact ⟨hk, by omega, h1.2.2.1, h1.2.2.2⟩
    unfold enumD
    cases D with
    | nil => exact List.mem_append_left _ (enum_mem r (k + 1) [] ha fun p hp => by simp at hp)
    | cons p D =>
      have ha' := List.pairwise_cons.mp (show (p.1 :: D.map (·.1)).Pairwise (· < ·) from ha)
      have hp := h p List.mem_cons_self
      by_cases hk : p.1 = k
      · refine List.mem_append_right _ (List.mem_flatMap.mpr ⟨(p.2 - 1).toNat, List.mem_range.mpr ?_, List.mem_map.mpr ⟨D, enum_mem r (k + 1) D ha'.2 fun q hq => step q (List.mem_cons_of_mem _ hq) ?_, ?_⟩⟩)
        · have e : oa (x :: r) (p.1 - k) = x := by
            unfold oa
            rw [hk, Int.sub_self]
            rfl
          rw [e] at hp
          omega
        · have := ha'.1 q.1 (List.mem_map.mpr ⟨q, hq, rfl⟩)
          omega
        · have : (((p.2 - 1).toNat : Nat) : Int) + 1 = p.2 := by omega
          rw [this, ← hk]
      · refine List.mem_append_left _ (enum_mem r (k + 1) (p :: D) ha fun q hq => step q hq ?_)
        rcases List.mem_cons.mp hq with rfl | hq
        · omega
        · have := ha'.1 q.1 (List.mem_map.mpr ⟨q, hq, rfl⟩)
          omega
def SpotOk (l : List Int) (m : Nat) (s : Spot) : Prop := 0 ≤ s.1 ∧ s.1 < (m : Int) ∧ IsDated l s.2
/-- as few offers, days as the law draws -/
structure Tiny (n : Nat) (l : List Int) (cal : List (List Int)) : Prop where
  two3 : n = 2 ∨ n = 3
  len : l.length = n
  lives : ∀ x ∈ l, 1 ≤ x ∧ x ≤ 3
  calOk : IsCal n cal
  two : cal.length ≤ 2
theorem Tiny.lv {n : Nat} {l : List Int} {cal : List (List Int)} (t : Tiny n l cal) : Lives l := ⟨by have := t.two3; rw [t.len]; omega, by have := t.two3; rw [t.len]; omega, fun x hx => by have := t.lives x hx; omega⟩
theorem spots_few {n : Nat} {l : List Int} {cal : List (List Int)} (t : Tiny n l cal) {xs : List Spot} (hn : xs.Nodup) (h : ∀ s ∈ xs, SpotOk l cal.length s) : xs.length ≤ 128 := by
  have h1 := nodup_sub_len (ys := (List.range 2).flatMap fun (i : Nat) => (enumD 0 l).map fun D => (((i : Nat) : Int), D)) hn fun s hs => by
    obtain ⟨a, b, c⟩ := h s hs
    have h2 := t.two
    refine List.mem_flatMap.mpr ⟨s.1.toNat, List.mem_range.mpr (by omega), List.mem_map.mpr ⟨s.2, enum_mem l 0 s.2 c.1 fun p hp => ?_, ?_⟩⟩
    · have := c.2 p hp
      rw [Int.sub_zero]
      omega
    · have : ((s.1.toNat : Nat) : Int) = s.1 := by omega
      rw [this]
  have h2 := enum_len 0 l fun x hx => (t.lives x hx).2
  have h3 : 4 ^ l.length ≤ 64 := by
    rw [t.len]
    rcases t.two3 with e | e <;> rw [e] <;> decide
  have h4 : ((List.range 2).flatMap fun (i : Nat) => (enumD 0 l).map fun D => (((i : Nat) : Int), D)).length = 2 * (enumD 0 l).length := by
    simp [List.range_succ]
    omega
  omega
/-! ### the search -/
def nbS (cal : List (List Int)) (z : List Int) (s : Spot) : List Deed := deedsOf cal z s.1
abbrev Fnd := List (Spot × List Deed)
def streams (c : List Int → List Int) (l z : List Int) (cal : List (List Int)) : Fnd := runB (nbS cal z) (aft c l z cal.length) 1000 [((0, []), [])] [(0, [])]
def dPath (p : List Deed) : Dt := .tup (p.map dDeed)
def encF (F : Fnd) : List (Dt × Dt) := F.map fun x => (dSpot x.1, dPath x.2)
theorem dSpot_inj {s t : Spot} (h : dSpot s = dSpot t) : s = t := by
  obtain ⟨i, D⟩ := s
  obtain ⟨j, E⟩ := t
  simp only [dSpot, NestedKey.tup.injEq, List.cons.injEq, NestedKey.num.injEq, and_true] at h
  rw [h.1, dDat_inj h.2]
theorem lk_enc : ∀ (F : Fnd) (s : Spot), lkD (encF F) (dSpot s) = (lkG F s).map dPath
  | [], s => rfl
  | x :: F, s => by
    have ih := lk_enc F s
    have e : encF (x :: F) = (dSpot x.1, dPath x.2) :: encF F := rfl
    rw [e]
    unfold lkD lkG
    by_cases h : x.1 = s
    · rw [if_pos h, if_pos (by rw [h])]
      rfl
    · rw [if_neg h, if_neg (fun q => h (dSpot_inj q)), ih]
theorem dSpot_depth (s : Spot) : (dSpot s).depth ≤ 8 := by
  have h1 := (shn_dat s.2).1
  have : Shn 3 (dSpot s) := shn_tup fun d hd => by
    simp only [List.mem_cons, List.not_mem_nil, or_false] at hd
    rcases hd with rfl | rfl
    · exact (shn_num _).up (by decide)
    · exact shn_dat _
  have := this.1
  omega
theorem dSpot_shn (s : Spot) : Shn 3 (dSpot s) := shn_tup fun d hd => by
  simp only [List.mem_cons, List.not_mem_nil, or_false] at hd
  rcases hd with rfl | rfl
  · exact (shn_num _).up (by decide)
  · exact shn_dat _
/-- what stands at every step of the search -/
structure GS (l : List Int) (m : Nat) (F : Fnd) (R : List Spot) : Prop where
  once : (F.map (·.1)).Nodup
  ok : ∀ x ∈ F, SpotOk l m x.1
  short : ∀ x ∈ F, x.2.length < F.length
  rows : ∀ s ∈ R, s ∈ F.map (·.1)
theorem GS.few {n : Nat} {l : List Int} {cal : List (List Int)} (t : Tiny n l cal) {F : Fnd} {R : List Spot} (h : GS l cal.length F R) : F.length ≤ 128 := by
  have := spots_few t h.once fun s hs => by
    obtain ⟨x, hx, rfl⟩ := List.mem_map.mp hs
    exact h.ok x hx
  simpa using this
theorem aft_ok {n : Nat} {l : List Int} {cal : List (List Int)} (t : Tiny n l cal) (c : List Int → List Int) (z : List Int) {s : Spot} (hs : SpotOk l cal.length s) {d : Deed} (hd : DeedOk l d) : SpotOk l cal.length (aft c l z cal.length s d) := by
  have hc := t.calOk.1
  obtain ⟨a, b, e⟩ := hs
  refine ⟨?_, ?_, sky_dated (beh_dated t.lv e hd) c z⟩
  · show 0 ≤ (if dKind d = ("day" : Str) then (s.1 + 1) % (cal.length : Int) else s.1)
    split
    · exact Int.emod_nonneg _ (by omega)
    · exact a
  · show (if dKind d = ("day" : Str) then (s.1 + 1) % (cal.length : Int) else s.1) < _
    split
    · exact Int.emod_lt_of_pos _ (by omega)
    · exact b
theorem deeds_ok {n : Nat} {l : List Int} {cal : List (List Int)} (t : Tiny n l cal) (z : List Int) {s : Spot} (hs : SpotOk l cal.length s) : ∀ d ∈ nbS cal z s, DeedOk l d := fun d hd => by
  obtain ⟨a, b, _⟩ := hs
  unfold nbS deedsOf at hd
  rcases List.mem_append.mp hd with hd | hd
  · rcases List.mem_append.mp hd with hd | hd
    · obtain ⟨k, hk, rfl⟩ := List.mem_map.mp hd
      have := (t.calOk.2.2 _ (List.mem_of_getElem? (dayGet a b))).2 k hk
      show 0 ≤ k ∧ k < (l.length : Int)
      rw [t.len]
      exact this
    · simp at hd
      subst hd
      trivial
  · obtain ⟨k, hk, rfl⟩ := List.mem_map.mp hd
    trivial
theorem gs_stp {n : Nat} {l : List Int} {cal : List (List Int)} (t : Tiny n l cal) (c : List Int → List Int) (z : List Int) {F : Fnd} {R : List Spot} (h : GS l cal.length F R) {s : Spot} (hs : s ∈ F.map (·.1)) {d : Deed} (hd : d ∈ nbS cal z s) :
    GS l cal.length (stp (aft c l z cal.length) s (F, R) d).1 (stp (aft c l z cal.length) s (F, R) d).2 ∧ ∀ k, k ∈ F.map (·.1) → k ∈ (stp (aft c l z cal.length) s (F, R) d).1.map (·.1) := by
  refine ⟨?_, fun k hk => stp_mono _ hk⟩
  obtain ⟨⟨s', p⟩, hx, rfl⟩ := List.mem_map.mp hs
  have hok := h.ok _ hx
  have hlk := lk_nodup h.once hx
  unfold stp
  split
  · exact h
  · rename_i hn
    have hk : aft c l z cal.length s' d ∉ F.map (·.1) := fun q => hn (lk_isSome.mpr q)
    refine ⟨?_, fun x hx' => ?_, fun x hx' => ?_, fun k hk' => ?_⟩
    · rw [List.map_append]
      refine List.nodup_append.mpr ⟨h.once, by simp, fun a ha b hb => ?_⟩
      simp at hb
      subst hb
      intro q
      subst q
      exact hk ha
    · rcases List.mem_append.mp hx' with hx' | hx'
      · exact h.ok x hx'
      · simp at hx'
        subst hx'
        exact aft_ok t c z hok (deeds_ok t z hok d hd)
    · rw [List.length_append]
      rcases List.mem_append.mp hx' with hx' | hx'
      · have := h.short x hx'
        simp
        omega
      · simp at hx'
        subst hx'
        have h1 := h.short _ hx
        have hlk' : lkG F s' = some p := hlk
        simp only [hlk', Option.getD_some, List.length_append, List.length_singleton]
        simp only at h1
        omega
    · rw [List.map_append]
      rcases List.mem_append.mp hk' with hk' | hk'
      · exact List.mem_append_left _ (h.rows k hk')
      · exact List.mem_append_right _ (by simpa using hk')
theorem gs_row {n : Nat} {l : List Int} {cal : List (List Int)} (t : Tiny n l cal) (c : List Int → List Int) (z : List Int) (s : Spot) : ∀ (ds : List Deed) (st : St2 Spot Deed), GS l cal.length st.1 st.2 → s ∈ st.1.map (·.1) → (∀ d ∈ ds, d ∈ nbS cal z s) →
    GS l cal.length (ds.foldl (stp (aft c l z cal.length) s) st).1 (ds.foldl (stp (aft c l z cal.length) s) st).2 ∧ ∀ k, k ∈ st.1.map (·.1) → k ∈ (ds.foldl (stp (aft c l z cal.length) s) st).1.map (·.1)
  | [], st, h, _, _ => ⟨h, fun _ q => q⟩
  | d :: ds, st, h, hs, hd => by
    obtain ⟨a, b⟩ := gs_stp t c z h hs (hd d List.mem_cons_self)
    obtain ⟨a2, b2⟩ := gs_row t c z s ds (stp (aft c l z cal.length) s st d) a (b s hs) fun x hx => hd x (List.mem_cons_of_mem _ hx)
    exact ⟨a2, fun k hk => b2 k (b k hk)⟩
theorem gs_lvl {n : Nat} {l : List Int} {cal : List (List Int)} (t : Tiny n l cal) (c : List Int → List Int) (z : List Int) : ∀ (R : List Spot) (st : St2 Spot Deed), GS l cal.length st.1 st.2 → (∀ s ∈ R, s ∈ st.1.map (·.1)) →
    GS l cal.length (R.foldl (row1 (nbS cal z) (aft c l z cal.length)) st).1 (R.foldl (row1 (nbS cal z) (aft c l z cal.length)) st).2 ∧ ∀ k, k ∈ st.1.map (·.1) → k ∈ (R.foldl (row1 (nbS cal z) (aft c l z cal.length)) st).1.map (·.1)
  | [], st, h, _ => ⟨h, fun _ q => q⟩
  | s :: R, st, h, hR => by
    obtain ⟨a, b⟩ := gs_row t c z s (nbS cal z s) st h (hR s List.mem_cons_self) fun _ q => q
    obtain ⟨a2, b2⟩ := gs_lvl t c z R (row1 (nbS cal z) (aft c l z cal.length) st s) a fun x hx => b x (hR x (List.mem_cons_of_mem _ hx))
    exact ⟨a2, fun k hk => b2 k (b k hk)⟩
theorem GS.norows {l : List Int} {m : Nat} {F : Fnd} {R : List Spot} (h : GS l m F R) : GS l m F [] := ⟨h.once, h.ok, h.short, fun s hs => by simp at hs⟩
theorem stp_len {α β : Type} [DecidableEq α] (go : α → β → α) (s : α) (st : St2 α β) (d : β) : (stp go s st d).1.length + st.2.length = st.1.length + (stp go s st d).2.length := by
  unfold stp
  split
  · omega
  · simp; omega
theorem row_len {α β : Type} [DecidableEq α] (go : α → β → α) (s : α) : ∀ (ds : List β) (st : St2 α β), (ds.foldl (stp go s) st).1.length + st.2.length = st.1.length + (ds.foldl (stp go s) st).2.length
  | [], st => rfl
  | d :: ds, st => by
    have h1 := row_len go s ds (stp go s st d)
    have h2 := stp_len go s st d
    rw [List.foldl_cons]
    omega
theorem lvl_len' {α β : Type} [DecidableEq α] (nb : α → List β) (go : α → β → α) : ∀ (R : List α) (st : St2 α β), (R.foldl (row1 nb go) st).1.length + st.2.length = st.1.length + (R.foldl (row1 nb go) st).2.length
  | [], st => rfl
  | s :: R, st => by
    have h1 := lvl_len' nb go R (row1 nb go st s)
    have h2 := row_len go s (nb s) st
    have h3 : row1 nb go st s = (nb s).foldl (stp go s) st := rfl
    rw [h3] at h1
    rw [List.foldl_cons, h3]
    omega
end K85

/-! W11: the walk of shelf_streams. -/
namespace K85
open PySem PySem.Spec PyProof.Rows L2
/-- all but two things stay -/
def But2 (p m : Addr) (H H' : Hp) : Prop := ∀ b o, b ≠ p → b ≠ m → H b = some o → H' b = some o
theorem But2.of {p m : Addr} {H H' : Hp} (s : Same H H') : But2 p m H H' := fun b o _ _ e => s b o e
theorem But2.trans {p m : Addr} {H H1 H2 : Hp} (a : But2 p m H H1) (b : But2 p m H1 H2) : But2 p m H H2 := fun x o h1 h2 e => b x o h1 h2 (a x o h1 h2 e)
theorem But2.l {p m : Addr} {H H' : Hp} (b : But p H H') : But2 p m H H' := fun x o h1 _ e => b x o h1 e
theorem But2.r {p m : Addr} {H H' : Hp} (b : But m H H') : But2 p m H H' := fun x o _ h2 e => b x o h2 e
/-- of what may change nothing is told by tuples, instances -/
def Soft (H : Hp) (p : Addr) : Prop := ∃ o, H p = some o ∧ fixO o = false
theorem Soft.same {H H' : Hp} {p : Addr} (h : Soft H p) (s : Same H H') : Soft H' p := let ⟨o, e, f⟩ := h; ⟨o, s _ _ e, f⟩
theorem But2.kp {p m : Addr} {H H' : Hp} (b : But2 p m H H') (hp : Soft H p) (hm : Soft H m) : Kp H H' := fun x o e f => by
  obtain ⟨o1, e1, f1⟩ := hp
  obtain ⟨o2, e2, f2⟩ := hm
  exact b x o (fun q => by subst q; rw [e1] at e; cases e; rw [f1] at f; cases f) (fun q => by subst q; rw [e2] at e; cases e; rw [f2] at f; cases f) e
section
variable {g : Cfg} {N : List Str} {sc : Scope} {X : Cx} {k : Nat} {Γ : List (Option A)} {tg iter : Expr} {pos : Pos} {D : Ends} {σ : L2.St} {H : Hp}
/-- what is walked, at one state -/
def DIa (g : Cfg) (X : Cx) (tg iter : Expr) (σ : L2.St) (H : Hp) (St : Hp → Hp → Prop) (vals : List A) : Prop :=
  ∀ (R : It → Hp → Prop), (∀ (J : It) (H1 : Hp) (G : Hp → Prop), Same H H1 → (∀ H', St H1 H' → G H') → Walk J vals.length G (fun i H x H' => Same H H' ∧ ∃ d, vals[i]? = some d ∧ AV g H' x d) → R J H1) → ∃ wi, PI X tg iter wi ∧ wi σ H R
theorem ws_forA {body : List Stmt} {gt : TG} {St : Hp → Hp → Prop} {vals : List A} (c : Dtx g N sc k X) (hi : DIa g X tg iter σ H St vals) (hg : PG X tg gt)
    (h : ∀ H1, Same H H1 → ∃ Pv : Nat → L2.St → Hp → Prop, Pv 0 σ H1 ∧ (∀ i σ' H', i ≤ vals.length → Pv i σ' H' → St H1 H') ∧
      (∀ i d σ' H' v H2, vals[i]? = some d → Pv i σ' H' → Same H' H2 → AV g H2 v d → gt v σ' H2 fun σ2 H3 => wB X body { D with nx := Pv (i + 1), ct := Pv (i + 1), bk := D.nx } σ2 H3) ∧ (∀ σ' H', Pv vals.length σ' H' → D.nx σ' H'))
    (hs : ∀ z, foldedSetIterable iter X.env z = pure z := by intro _; rfl) : wS X (.For tg iter body [] pos) D σ H := by
  obtain ⟨wi, p1, w1⟩ := hi (fun J H1 => ∃ W : Nat → Nat → L2.St → Hp → Prop, (∃ m, W 0 m σ H1) ∧ ∀ i m σ H, W i m σ H →
      (J.stop i H ∧ D.nx σ H) ∨ (J.go i H ∧ ∃ N : L2.St → Hp → Prop, (∀ σ' H', N σ' H' → ∃ m', m' < m ∧ W (i + 1) m' σ' H') ∧ ∀ x H', J.yld i H x H' → gt x σ H' fun σ2 H2 => wB X body { D with nx := N, ct := N, bk := D.nx } σ2 H2)) fun J H1 G s1 hG wk => by
    obtain ⟨Pv, h0, hst, step, done⟩ := h H1 s1
    exact for_it (g := gt) (tb := wB X body) (D := D) wk Pv h0 (fun i σ' H' hi hp => hG H' (hst i σ' H' hi hp)) (fun i v σ' H' H'' hi hp ⟨t2, d, hd, vd⟩ => step i d σ' H' v H'' hd hp t2 vd) done
  exact ⟨_, ps_for c.pass c.calm p1 hg pb_w hs, w1⟩
/-- over a list of data by its place, while two other things change -/
theorem dia_ob {l p m : Addr} {xs : List V} {ds : List Dt} (h : DE g X iter Γ (.ob l (.lst xs))) (r : Rel g H σ Γ) (t : DVs H xs ds) (hp : Soft H p) (hm : Soft H m) (lp : l ≠ p) (lm : l ≠ m) : DIa g X tg iter σ H (But2 p m) (ds.map .d) := fun R q =>
  ⟨_, pi_list pe_w, h σ H _ r fun v H1 s1 v1 => by
    obtain ⟨rfl, hl⟩ := v1.obAt
    have hx := t.length
    have t1 := t.mono (TK.of s1)
    refine ⟨l, rfl, ⟨xs, .inl (.inl hl)⟩, q _ H1 (fun H' => H' l = some (.lst xs) ∧ DVs H' xs ds) s1 (fun H' st => ⟨st _ _ lp lm hl, t1.mono (st.kp (hp.same s1) (hm.same s1)).tk⟩) ?_⟩
    have e : (ds.map A.d).length = xs.length := by rw [List.length_map, hx]
    rw [e]
    refine walk_list.mono (fun H' w => .inl (.inl w.1)) fun i H' x H'' hi w y => ?_
    obtain ⟨rfl, y⟩ := y
    obtain ⟨d, e1, e2⟩ := w.2.at y
    exact ⟨Same.refl _, .d d, by rw [List.getElem?_map, e1]; rfl, .d e2⟩⟩
/-- over a new list of data -/
theorem dia_dl {p m : Addr} {ds : List Dt} (h : DL g X iter Γ (ds.map .d)) (r : Rel g H σ Γ) (hp : Soft H p) (hm : Soft H m) : DIa g X tg iter σ H (But2 p m) (ds.map .d) := fun R q =>
  ⟨_, pi_list pe_w, h σ H _ r fun l xs H1 h0 s1 hl t' => by
    have t := AVs.dvs t'
    have hx := t.length
    have lp : l ≠ p := fun z => by obtain ⟨o, e, _⟩ := hp; rw [z, e] at h0; cases h0
    have lm : l ≠ m := fun z => by obtain ⟨o, e, _⟩ := hm; rw [z, e] at h0; cases h0
    refine ⟨l, rfl, ⟨xs, .inl (.inl hl)⟩, q _ H1 (fun H' => H' l = some (.lst xs) ∧ DVs H' xs ds) s1 (fun H' st => ⟨st _ _ lp lm hl, t.mono (st.kp (hp.same s1) (hm.same s1)).tk⟩) ?_⟩
    have e : (ds.map A.d).length = xs.length := by rw [List.length_map, hx]
    rw [e]
    refine walk_list.mono (fun H' w => .inl (.inl w.1)) fun i H' x H'' hi w y => ?_
    obtain ⟨rfl, y⟩ := y
    obtain ⟨d, e1, e2⟩ := w.2.at y
    exact ⟨Same.refl _, .d d, by rw [List.getElem?_map, e1]; rfl, .d e2⟩⟩
end
section
variable {g : Cfg}
def R_streams (as : List A) (b : A) : Prop := ∃ (n : Nat) (c : List Int → List Int) (l z : List Int) (cal : List (List Int)), as = [.ch n c, .tr l z, .d (dCal cal), aI 400] ∧ Tiny n l cal ∧ IsSet n z ∧ b = .nd (encF (streams c l z cal))
theorem S_streams : FnScope ["chooser", "trade", "calendar", "most", "found", "rows", "later", "spot", "deed", "fresh"] ["chooser", "trade", "calendar", "most"] (defScope s_shelf_streams) := ⟨rfl, rfl, rfl, by decide +kernel, rfl, by decide +kernel, by decide +kernel⟩
abbrev encR (R : List Spot) : List A := R.map fun s => A.d (dSpot s)
/-- the two that grow -/
structure SS (g : Cfg) (p m : Addr) (H : Hp) (F : Fnd) (L : List Spot) : Prop where
  d : NDict g.P g.w H p (encF F)
  soft : Soft H p
  l : ∃ ys, H m = some (.lst ys) ∧ AVs g H ys (encR L)
theorem SS.same {p m : Addr} {H H' : Hp} {F : Fnd} {L : List Spot} (h : SS g p m H F L) (s : Same H H') : SS g p m H' F L := by
  obtain ⟨a, b, ys, e, t⟩ := h
  exact ⟨a.mono (TK.of s) fun o q => s _ _ q, b.same s, ys, s _ _ e, t.mono s⟩
theorem SS.softm {p m : Addr} {H : Hp} {F : Fnd} {L : List Spot} (h : SS g p m H F L) : Soft H m := by
  obtain ⟨a, b, ys, e, t⟩ := h
  exact ⟨_, e, rfl⟩
theorem encR_noLs (L : List Spot) : ∀ a ∈ encR L, noLs a = true := fun a ha => by
  obtain ⟨_, _, rfl⟩ := List.mem_map.mp ha
  rfl
theorem encF_len (F : Fnd) : (encF F).length = F.length := List.length_map ..
theorem path_shn (p : List Deed) : True := trivial
theorem run_step {c : List Int → List Int} {l z : List Int} {cal : List (List Int)} {k : Nat} {F : Fnd} {R : List Spot} (h : R ≠ []) : runB (nbS cal z) (aft c l z cal.length) (k + 1) F R = runB (nbS cal z) (aft c l z cal.length) k (lvl (nbS cal z) (aft c l z cal.length) F R).1 (lvl (nbS cal z) (aft c l z cal.length) F R).2 := by
  conv => lhs; unfold runB
  rw [if_neg h]
theorem run_nil {c : List Int → List Int} {l z : List Int} {cal : List (List Int)} {k : Nat} {F : Fnd} : runB (nbS cal z) (aft c l z cal.length) k F [] = F := by
  cases k with
  | zero => rfl
  | succ k =>
    unfold runB
    rw [if_pos rfl]
theorem stp_yes {c : List Int → List Int} {l z : List Int} {m : Int} {s : Spot} {st : St2 Spot Deed} {d : Deed} (h : (lkG st.1 (aft c l z m s d)).isSome = true) : stp (aft c l z m) s st d = st := by
  unfold stp
  rw [if_pos h]
theorem stp_no {c : List Int → List Int} {l z : List Int} {m : Int} {s : Spot} {st : St2 Spot Deed} {d : Deed} (h : (lkG st.1 (aft c l z m s d)).isSome = false) : stp (aft c l z m) s st d = (st.1 ++ [(aft c l z m s d, (lkG st.1 s).getD [] ++ [d])], st.2 ++ [aft c l z m s d]) := by
  unfold stp
  rw [if_neg (by rw [h]; exact Bool.false_ne_true)]
theorem ok_streams (T : Txt g) (F : DefIn g "shelf_streams" s_shelf_streams) (WD : Def1 g 1 "shelf_deeds" (spL g 3 R_deeds)) (WA : Def1 g 2 "shelf_after" (spP g 5 R_aft)) : Def1 g 3 "shelf_streams" (spP g 4 R_streams) := by
  obtain ⟨f, fd, F, hm⟩ := F
  refine def_P F hm (F.bindsN (ps := ["chooser", "trade", "calendar", "most"]) fun _ _ _ _ _ _ us hl => match us, hl with | [_, _, _, _], _ => rfl) S_streams T rfl fun X c as b hR hl σ H Q r q => ?_
  obtain ⟨n, h, l, z, cal, rfl, t, hz, rfl⟩ := hR
  have c' := c.toCxk
  have zlen : z.length ≤ 3 := isSet_len t.two3 hz
  refine wB_cons (ws_par 4 5 c (w_ndisp c' r (ds := [.num 0, .tup []]) (zs := []) (de_tup (ds := [.num 0, .tup []]) (da_cons de_int (da_cons (de_tup (ds := []) da_nil) da_nil))) (de_tup (ds := []) da_nil) (by decide) fun p H1 h0 s1 n1 f1 => useL (r.mono s1) (dl_lst (as := [A.d (dSpot (0, []))]) (da_cons (de_tup (ds := [.num 0, .tup []]) (da_cons de_int (da_cons (de_tup (ds := []) da_nil) da_nil))) da_nil)) fun l0 xs H2 h2 s2 e2 v2 => ?_))
  have n2 : NDict g.P g.w H2 p (encF [((0, []), [])]) := n1.mono (TK.of s2) fun o e => s2 _ _ e
  obtain ⟨_, o1, _, _, _, ho1, _⟩ := id n1
  have soft2 : Soft H2 p := ⟨_, s2 _ _ ho1, f1 _ ho1⟩
  have pl0 : p ≠ l0 := ne_of_none ho1 h2
  have r2 : Rel g H2 _ _ := ((r.mono (s1.trans s2)).set 4 (.obj (.ref p))).set 5 (.obj (.ref l0))
  let Γ0 : Addr → List (Option A) := fun l1 => [some (.ch n h), some (.tr l z), some (.d (dCal cal)), some (aI 400), some (.obj (.ref p)), some (.obj (.ref l1)), none, none, none, none]
  let go := aft h l z cal.length
  let nb := nbS cal z
  refine wB_cons ⟨_, ps_while c.pass pt_w pb_w, ⟨fun mm σ' H' => ∃ (Fd : Fnd) (R : List Spot) (k : Nat) (l1 : Addr) (ys : List V), mm = 2 * (200 - Fd.length) + (if R = [] then 0 else 1) ∧ mm ≤ k ∧ runB nb go k Fd R = streams h l z cal ∧ GS l cal.length Fd R ∧ Same H H' ∧ H l1 = none ∧ p ≠ l1 ∧
    NDict g.P g.w H' p (encF Fd) ∧ Soft H' p ∧ H' l1 = some (.lst ys) ∧ AVs g H' ys (encR R) ∧ Rel g H' σ' (Γ0 l1), ⟨_, [((0, []), [])], [(0, [])], 1000, l0, xs, rfl, by decide, rfl, ⟨by simp, fun x hx => ?_, fun x hx => ?_, fun s hs => by simpa using hs⟩, s1.trans s2, s1.free h2, pl0, n2, soft2, e2, v2, r2⟩, ?_⟩⟩
  · simp at hx
    subst hx
    exact ⟨Int.le_refl 0, by have := t.calOk.1; show (0 : Int) < _; omega, isDated_nil l⟩
  · simp at hx
    subst hx
    decide
  rintro mm σ' H' ⟨Fd, R, k, l1, ys, rfl, hk, hrun, gs, t0, hl1, pl1, nd, soft, el, vl, r'⟩
  have few := gs.few t
  have rL := r'.toLs 5 rfl el vl
  have hRs : ∀ d ∈ R.map dSpot, Shn 50 d := fun d hd => by
    obtain ⟨s, _, rfl⟩ := List.mem_map.mp hd
    exact (dSpot_shn s).up (by decide)
  have ht : DT g X _ _ (!decide (R.map dSpot = [])) := dt_cmp (pos := ⟨0, 0, 0, 0⟩) (c_neD c') (DE.is (de_var 5 c' (Γ := [some (.ch n h), some (.tr l z), some (.d (dCal cal)), some (aI 400), some (.obj (.ref p)), some (.ls (encR R)), none, none, none, none]) (pos := ⟨0, 0, 0, 0⟩)) (congrArg A.ls (show encR R = (R.map dSpot).map A.d by rw [List.map_map]; rfl))) (dl_lst (pos := ⟨0, 0, 0, 0⟩) da_nil).de (rd_neL hRs) (nomark _)
  refine dt_cmp (c_neD c') (DE.is (de_var 5 c') (congrArg A.ls (show encR R = (R.map dSpot).map A.d by rw [List.map_map]; rfl))) (dl_lst da_nil).de (rd_neL hRs) (nomark _) σ' H' _ rL fun H1 u1 => ?_
  have nd1 := nd.mono (TK.of u1) fun o e => u1 _ _ e
  have soft1 := soft.same u1
  have r1 := r'.mono u1
  by_cases hR : R = []
  · subst hR
    rw [if_neg (by simp)]
    have eF : Fd = streams h l z cal := run_nil.symm.trans hrun
    have rn := r1.toNd 4 rfl nd1
    refine wB_cons (ws_skip rn (DT.is (dt_gt (de_nlen c' (de_var 4 c') (by rw [encF_len]; omega)) (de_var 3 c')) (by rw [encF_len]; simp; omega)) fun H3 s3 r3 => ?_)
    rw [eF] at r3
    exact wB_cons (ws_ret r3 (de_var 4 c') fun v H4 s4 v4 => q v H4 (((t0.trans u1).trans s3).trans s4) v4)
  · rw [if_pos (by simp [hR])]
    rw [if_neg hR] at hk
    obtain ⟨k, rfl⟩ : ∃ k', k = k' + 1 := ⟨k - 1, by omega⟩
    rw [run_step hR] at hrun
    refine ⟨fun σ2 H2 => ∃ (Fd' : Fnd) (R' : List Spot) (l2 : Addr) (ys' : List V), Fd' = (lvl nb go Fd R).1 ∧ R' = (lvl nb go Fd R).2 ∧ GS l cal.length Fd' R' ∧ Same H H2 ∧ H l2 = none ∧ p ≠ l2 ∧ NDict g.P g.w H2 p (encF Fd') ∧ Soft H2 p ∧ H2 l2 = some (.lst ys') ∧ AVs g H2 ys' (encR R') ∧ Rel g H2 σ2 (Γ0 l2), ?_, ?_⟩
    · rintro σ2 H2 ⟨Fd', R', l2, ys', rfl, rfl, gs', t2, hl2, pl2, nd2, soft2, el2, vl2, r2⟩
      have hlen := lvl_len' nb go R (Fd, [])
      have hlen' : (lvl nb go Fd R).1.length = Fd.length + (lvl nb go Fd R).2.length := hlen
      have few' := gs'.few t
      refine ⟨2 * (200 - (lvl nb go Fd R).1.length) + (if (lvl nb go Fd R).2 = [] then 0 else 1), ?_, (lvl nb go Fd R).1, (lvl nb go Fd R).2, k, l2, ys', rfl, ?_, hrun, gs', t2, hl2, pl2, nd2, soft2, el2, vl2, r2⟩
      · rw [if_neg hR]
        by_cases hR' : (lvl nb go Fd R).2 = []
        · rw [if_pos hR']
          rw [hR'] at hlen'
          simp at hlen'
          omega
        · rw [if_neg hR']
          have : 0 < (lvl nb go Fd R).2.length := List.length_pos_iff.mpr hR'
          omega
      · by_cases hR' : (lvl nb go Fd R).2 = []
        · rw [if_pos hR']
          rw [hR'] at hlen'
          simp at hlen'
          omega
        · rw [if_neg hR']
          have : 0 < (lvl nb go Fd R).2.length := List.length_pos_iff.mpr hR'
          omega
    · -- the level
      refine wB_cons (ws_asgL 6 c r1 (dl_lst da_nil) fun m ms σ3 H3 h3 s3 e3 v3 r3 => ?_)
      cases v3
      have t3 := (t0.trans u1).trans s3
      have hm0 : H m = none := (t0.trans u1).free h3
      have ss3 : SS g p m H3 Fd [] := ⟨nd1.mono (TK.of s3) fun o e => s3 _ _ e, soft1.same s3, [], e3, .nil⟩
      have el3 : H3 l1 = some (.lst ys) := s3 _ _ (u1 _ _ el)
      have pm : p ≠ m := by
        obtain ⟨o, e, _⟩ := soft1
        exact ne_of_none e h3
      have l1m : l1 ≠ m := ne_of_none (u1 _ _ el) h3
      have rO := r3.toOb 5 rfl el3
      have vl3 : DVs H3 ys (R.map dSpot) := AVs.dvs (by rw [List.map_map]; exact (vl.mono u1).mono s3)
      let Γ1 : List (Option A) := [some (.ch n h), some (.tr l z), some (.d (dCal cal)), some (aI 400), some (.obj (.ref p)), some (.obj (.ref l1)), some (.obj (.ref m)), none, none, none]
      refine wB_cons (ws_forA c (dia_ob (p := p) (m := m) (de_var 5 c') rO vl3 ss3.soft ss3.softm (Ne.symm pl1) l1m) (pg_ND (i := 7) c rfl (.inl rfl)) fun H4 s4 => ?_)
      have en : ((R.map dSpot).map A.d).length = R.length := by simp
      refine ⟨fun i σ' H' => Same H H' ∧ But2 p m H4 H' ∧ SS g p m H' ((R.take i).foldl (row1 nb go) (Fd, [])).1 ((R.take i).foldl (row1 nb go) (Fd, [])).2 ∧ Rel g H' σ' Γ1, ⟨t3.trans s4, fun _ _ _ _ e => e, ss3.same s4, (r3.mono s4)⟩, fun i σ' H' _ h => h.2.1, ?_, ?_⟩
      · rintro i d σ' H' v H2' hd ⟨w0, w1, ss, r'⟩ w2 vd
        obtain ⟨d', hd', rfl⟩ := map_get hd
        obtain ⟨s, hs, rfl⟩ := map_get hd'
        have hsR := List.mem_of_getElem? hs
        have gsi := gs_lvl t h z (R.take i) (Fd, []) gs.norows fun x hx => gs.rows x (List.mem_of_mem_take hx)
        have hsk : s ∈ ((R.take i).foldl (row1 nb go) (Fd, [])).1.map (·.1) := gsi.2 s (gs.rows s hsR)
        have hsok : SpotOk l cal.length s := by
          obtain ⟨x, hx, rfl⟩ := List.mem_map.mp (gs.rows s hsR)
          exact gs.ok x hx
        have ss2 := ss.same w2
        have r4 := (r'.mono w2).set 7 vd
        have dok := deeds_ok t z hsok
        have dlen : (dayOf cal s.1).length ≤ 100 := by
          have := isSet_len t.two3 (t.calOk.2.2 _ (List.mem_of_getElem? (dayGet hsok.1 hsok.2.1)))
          omega
        refine wB_cons (ws_forA c (dia_dl (p := p) (m := m) (ds := (nbS cal z s).map dDeed) (DL.is (dl_call c' WD (by decide) (da_cons (de_var 1 c') (da_cons (de_var 2 c') (da_cons (de_ix c' (de_var 7 c') de_int (d := .num s.1) rfl) da_nil))) ⟨l, z, cal, s.1, rfl, hsok.1, hsok.2.1, dlen, by omega, rfl⟩) (by rw [List.map_map]; rfl)) r4 ss2.soft ss2.softm) (pg_ND (i := 8) c rfl (.inl rfl)) fun H5 s5 => ?_)
        have en2 : (((nbS cal z s).map dDeed).map A.d).length = (nbS cal z s).length := by simp
        have erow : ((R.take (i + 1)).foldl (row1 nb go) (Fd, [])) = (nbS cal z s).foldl (stp go s) ((R.take i).foldl (row1 nb go) (Fd, [])) := by
          rw [take_snoc hs, List.foldl_append]
          rfl
        generalize hst0 : (R.take i).foldl (row1 nb go) (Fd, []) = st0 at *
        refine ⟨fun j σ' H' => Same H H' ∧ But2 p m H4 H' ∧ But2 p m H5 H' ∧ SS g p m H' (((nbS cal z s).take j).foldl (stp go s) st0).1 (((nbS cal z s).take j).foldl (stp go s) st0).2 ∧ Rel g H' σ' [some (.ch n h), some (.tr l z), some (.d (dCal cal)), some (aI 400), some (.obj (.ref p)), some (.obj (.ref l1)), some (.obj (.ref m)), some (.d (dSpot s)), none, none],
          ⟨(w0.trans w2).trans s5, (w1.trans (But2.of w2)).trans (But2.of s5), fun _ _ _ _ e => e, ss2.same s5, (r4.mono s5)⟩, fun j σ' H' _ h => h.2.2.1, ?_, ?_⟩
        · rintro j d σ5 H6 v6 H7 hd5 ⟨y0, y1, y2, ss6, r6⟩ y3 vd6
          obtain ⟨d', hd', rfl⟩ := map_get hd5
          obtain ⟨de, hde, rfl⟩ := map_get hd'
          have hmem := List.mem_of_getElem? hde
          have gsj := gs_row t h z s ((nbS cal z s).take j) st0 gsi.1 hsk fun x hx => List.mem_of_mem_take hx
          have erow2 : ((nbS cal z s).take (j + 1)).foldl (stp go s) st0 = stp go s (((nbS cal z s).take j).foldl (stp go s) st0) de := by
            rw [take_snoc hde, List.foldl_append]
            rfl
          have hsk' := gsj.2 s hsk
          generalize hst1 : ((nbS cal z s).take j).foldl (stp go s) st0 = st1 at *
          have r7 := (r6.mono y3).set 8 vd6
          have ss7 := ss6.same y3
          refine wB_cons (ws_asg 9 c r7 (de_call c' WA (by decide) (da_cons (de_var 0 c') (da_cons (de_var 1 c') (da_cons (de_var 2 c') (da_cons (de_var 7 c') (da_cons (de_var 8 c') da_nil))))) ⟨n, h, l, z, cal, s, de, rfl, t.two3, t.len, t.lv, t.calOk.1, hsok.2.2, dok de hmem, rfl⟩) fun σ8 H8 s8 r8 => ?_)
          have ss8 := ss7.same s8
          have rn8 := r8.toNd 4 rfl ss8.d
          have hlk := lk_enc st1.1 (go s de)
          have few1 := gsj.1.few t
          refine wB_cons (ws_if rn8 (DT.is (dt_nnotin c' (de_var 9 c') (de_var 4 c') (dSpot_depth (go s de))) (show _ = !(lkG st1.1 (go s de)).isSome by rw [show NestedKey.tup [.num (go s de).1, dDat (go s de).2] = dSpot (go s de) from rfl, hlk, Option.isSome_map])) (fun ht H9 s9 r9 => ?_) fun hf H9 s9 r9 => wB_nil (wB_nil ?_))
          · have hnone : (lkG st1.1 (go s de)).isSome = false := by simpa using ht
            have ss9 := ss8.same s9
            have r9' := r8.mono s9
            obtain ⟨x0, hx0, ex0⟩ := List.mem_map.mp hsk'
            have hlk0 : lkG st1.1 s = some x0.2 := by rw [← ex0]; exact lk_nodup gsj.1.once hx0
            have hsh := gsj.1.short x0 hx0
            have elk : lkD (encF st1.1) (dSpot s) = some (dPath x0.2) := by rw [lk_enc, hlk0]; rfl
            refine wB_cons (ws_nput2 c r9' r9 (de_var 4 c') (de_var 9 c') (DE.is (de_cat c' (de_nget c' (de_var 4 c') (de_var 7 c') (dSpot_depth s) elk) (de_tup (ds := [dDeed de]) (da_cons (de_var 8 c') da_nil)) (by simp; omega)) (show _ = A.d (dPath (x0.2 ++ [de])) by unfold dPath; rw [List.map_append]; rfl)) ss9.d (dSpot_depth (go s de)) (by rw [encF_len]; omega) (by rw [show NestedKey.tup [.num (go s de).1, dDat (go s de).2] = dSpot (go s de) from rfl, hlk]; cases hq : lkG st1.1 (go s de) with | none => rfl | some _ => rw [hq] at hnone; cases hnone) fun H10 b10 n10 f10 => ?_)
            have soft10 : Soft H10 p := by
              obtain ⟨_, o, _, _, _, ho, _⟩ := id n10
              exact ⟨_, ho, f10 _ ho⟩
            have k10 : Kp H9 H10 := (But2.l b10 : But2 p m H9 H10).kp ss9.soft ss9.softm
            have r10 := r9'.kp k10 rfl
            obtain ⟨zs, ez, vz⟩ := ss9.l
            have ez10 := b10 _ _ (Ne.symm pm) ez
            have vz10 := vz.kp k10 (encR_noLs _)
            have lz := vz.length
            rw [List.length_map] at lz
            have lrow : st1.2.length ≤ st1.1.length := by
              have h1 := row_len go s ((nbS cal z s).take j) st0
              have h2 := lvl_len' nb go (R.take i) (Fd, [])
              rw [hst1] at h1
              rw [hst0] at h2
              simp only [List.length_nil] at h2
              omega
            refine wB_cons (ws_app (z := .d (dSpot (go s de))) c r10 (de_var 6 c') (de_var 9 c') ez10 (by omega) fun w H11 b11 e11 w11 r11 => wB_nil (wB_nil ?_))
            have k11 : Kp H10 H11 := (But2.r b11 : But2 p m H10 H11).kp soft10 ⟨_, ez10, rfl⟩
            have b7 : But2 p m H6 H11 := (((But2.of ((y3.trans s8).trans s9)).trans (But2.l b10)).trans (But2.r b11))
            have hss : SS g p m H11 (st1.1 ++ [(go s de, (some x0.2).getD [] ++ [de])]) (st1.2 ++ [go s de]) := by
              refine ⟨?_, ?_, ?_⟩
              · have := n10.mono k11.tk fun o e => b11 _ _ pm e
                have e : encF (st1.1 ++ [(go s de, x0.2 ++ [de])]) = encF st1.1 ++ [(dSpot (go s de), dPath (x0.2 ++ [de]))] := by unfold encF; rw [List.map_append]; rfl
                rw [show (some x0.2).getD [] = x0.2 from rfl, e]
                exact this
              · obtain ⟨o, e, f⟩ := soft10
                exact ⟨o, b11 _ _ pm e, f⟩
              · refine ⟨_, e11, ?_⟩
                unfold encR
                rw [List.map_append]
                exact AVs.snoc (vz10.kp k11 (encR_noLs _)) (w11 rfl)
            refine ⟨?_, y1.trans b7, y2.trans b7, by rw [erow2, stp_no hnone, hlk0]; exact hss, (r11 rfl).sub (sub_eq (sub_eq (sub_eq (sub_eq (sub_eq (sub_eq (sub_eq (sub_eq (sub_no (sub_no sub_nil))))))))))⟩
            intro a o e
            have hap : a ≠ p := ne_of_none e h0
            have ham : a ≠ m := ne_of_none e hm0
            exact b7 a o hap ham (y0 a o e)
          · have hsome : (lkG st1.1 (go s de)).isSome = true := by simpa using hf
            have sm := (y3.trans s8).trans s9
            refine ⟨y0.trans sm, y1.trans (But2.of sm), y2.trans (But2.of sm), by rw [erow2, stp_yes hsome]; exact ss8.same s9, (r8.mono s9).sub (sub_eq (sub_eq (sub_eq (sub_eq (sub_eq (sub_eq (sub_eq (sub_eq (sub_no (sub_no sub_nil))))))))))⟩
        · rintro σ5 H6 ⟨y0, y1, y2, ss6, r6⟩
          rw [en2, List.take_length, ← erow] at ss6
          exact wB_nil ⟨y0, y1, ss6, r6.sub (sub_eq (sub_eq (sub_eq (sub_eq (sub_eq (sub_eq (sub_eq (sub_no (sub_no (sub_no sub_nil))))))))))⟩
      · rintro σ5 H6 ⟨y0, y1, ss6, r6⟩
        rw [en, List.take_length] at ss6
        have ss7 : SS g p m H6 (lvl nb go Fd R).1 (lvl nb go Fd R).2 := ss6
        have gsE := gs_lvl t h z R (Fd, []) gs.norows fun x hx => gs.rows x hx
        have gsE' : GS l cal.length (lvl nb go Fd R).1 (lvl nb go Fd R).2 := gsE.1
        have few' := gsE'.few t
        have rn := r6.toNd 4 rfl ss7.d
        refine wB_cons (ws_skip rn (DT.is (dt_gt (de_nlen c' (de_var 4 c') (by rw [encF_len]; omega)) (de_var 3 c')) (by rw [encF_len]; simp; omega)) fun H8 s8 _ => ?_)
        have ss8 := ss7.same s8
        refine wB_cons (ws_asg 5 c (r6.mono s8) (de_var 6 c') fun σ9 H9 s9 r9 => wB_nil ?_)
        have ss9 := ss8.same s9
        obtain ⟨zs, ez, vz⟩ := ss9.l
        exact ⟨_, _, m, zs, rfl, rfl, gsE', (y0.trans s8).trans s9, hm0, pm, ss9.d, ss9.soft, ez, vz, r9.sub (sub_eq (sub_eq (sub_eq (sub_eq (sub_eq (sub_eq (sub_no (sub_no (sub_no (sub_no sub_nil))))))))))⟩
end
end K85

/-! W12: worths, first streams, spots, shelves. -/
namespace K85
open PySem PySem.Spec PyProof.Rows L2
def worth (ws : List Int) (D : Dts) : Int := (D.map fun p => oa ws p.1).sum
def InW (n : Nat) (D : Dts) : Prop := D.length ≤ 1000 ∧ ∀ p ∈ D, 0 ≤ p.1 ∧ p.1 < (n : Int)
/-- a def with most=400 -/
def DefKw (g : Cfg) (x : Str) (st : Stmt) : Prop := ∃ f fd, FunD g.K x x (defArgs st) (defBody st) (defScope st) [] [("most", .int 400)] f fd ∧ g.mg x = some (.ref f)
abbrev DefK (g : Cfg) (k : Nat) (x : Str) (sp : Sp) : Prop := C8.Cal g.P g.w g.K g.mg g.base k x sp [.int 400]
theorem def_K {g : Cfg} {N ps : List Str} {sc : Scope} {k n : Nat} {x : Str} {params : Arguments} {body : List Stmt} {f : Addr} {fd : FuncData} {R : List A → A → Prop} (F : FunD g.K x x params body sc [] [("most", .int 400)] f fd) (hm : g.mg x = some (.ref f)) (b : ∃ ds, Vals [V.int 400] ds ∧ Binds g.K fd ps ds) (S : FnScope N ps sc) (T : Txt g) (hn : n = ps.length)
    (h : ∀ (X : Cx), Dtx g N sc k X → ∀ (as : List A) (r : A), R as r → as.length = n → ∀ (σ : L2.St) (H : Hp) (Q : VK), Rel g H σ (as.map some ++ List.replicate (N.length - n) none) → (∀ v H1, Same H H1 → AV g H1 v r → Q v H1) →
      wB X body { nx := fun _ H' => Q .non H', rt := Q } σ H) : DefK g (k + 1) x (spP g n R) := by
  obtain ⟨ds, hv, hb⟩ := b
  refine ⟨⟨f, fd, ps, ds, def_ok F S T (fun vs H Q E h => h.1.trans hn) fun X c vs H Q E hsp => ?_, hm, F.kp, hb, hv⟩⟩
  obtain ⟨hl, as, r, a, hr, q⟩ := hsp
  have ea : as.length = n := a.length.symm.trans hl
  have r0 := start_rel (N := N) a
  rw [ea] at r0
  exact h X c as r hr ea _ H Q r0 q
section
variable {g : Cfg} {N : List Str} {sc : Scope} {X : Cx} {Γ : List (Option A)} {j k : Nat} {e : Expr} {es : List Expr} {z : A} {pos p : Pos} {x : Str} {as : List A} {r : A}
theorem de_callK {n : Nat} {R : List A → A → Prop} (c : Cxk g N sc j X) (F : DefK g k x (spP g n R)) (hk : k ≤ j) (ha : DA g X (e :: es) Γ as) (hr : R (as ++ [aI 400]) r) (hn : as.length + 1 = n := by rfl) (hg : GlS sc x := by rfl)
    (hdb : (x == ("__debug__" : Str)) = false := by decide) (he : starEach (e :: es) X.env = (false, eval e X.env) :: starEach es X.env := by rfl) (hpl : (backTo pos (starEach es X.env)).any (·.1) = false := by rfl) :
    DE g X (.Call (.Name x p) (e :: es) [] pos) Γ r := fun σ H Q rl q =>
  ⟨_, C8.pe_c (c.cal F) c.room hk (c.gl hg) pa_w hdb he hpl, ha σ H _ rl fun vs H1 s1 v1 => by
    have hl := v1.length
    exact ⟨by rw [List.length_append, hl]; exact hn, as ++ [aI 400], r, avs_append v1 (.cons (.d (.int 400)) .nil), hr, fun v H2 s2 v2 => q v H2 (s1.trans s2) v2⟩⟩
end
/-! sorted data -/
def sortD (ds : List Dt) : List Dt := ds.mergeSort (PySem.W.dataLe false NestedKey.data)
theorem alike_pairs : ∀ (xs ys : Dts), PySem.W.alikeAll (NestedKey.datas (xs.map dPair)) (NestedKey.datas (ys.map dPair)) = true
  | [], _ => by simp [NestedKey.datas, PySem.W.alikeAll]
  | x :: xs, [] => by simp [NestedKey.datas, PySem.W.alikeAll]
  | x :: xs, y :: ys => by
    have ih := alike_pairs xs ys
    simp only [List.map_cons, NestedKey.datas, PySem.W.alikeAll, ih, Bool.and_true]
    simp [dPair, NestedKey.data, NestedKey.datas, PySem.W.alike, PySem.W.alikeAll]
theorem al_spot (xs : List Spot) : PySem.W.AllAlike ((xs.map dSpot).map NestedKey.data) := by
  rw [List.map_map]
  refine PySem.W.AllAlike.of fun a b => ?_
  have h := alike_pairs a.2 b.2
  simp [dSpot, dDat, NestedKey.data, NestedKey.datas, PySem.W.alike, PySem.W.alikeAll, h]
theorem sb_spot (xs : List Spot) : PySem.W.Sortable ((xs.map dSpot).map NestedKey.data) := by
  rw [List.map_map]
  exact PySem.W.Sortable.tuples fun a => ⟨_, _, by simp only [Function.comp, dSpot, NestedKey.data, NestedKey.datas]; rfl⟩
theorem sortD_shn {m : Nat} {ds : List Dt} (h : ∀ d ∈ ds, Shn m d) : ∀ d ∈ sortD ds, Shn m d := fun d hd => h d ((List.mergeSort_perm ds _).mem_iff.mp hd)
section
variable {g : Cfg}
def R_worth (as : List A) (b : A) : Prop := ∃ (ws : List Int) (D : Dts), as = [aSet ws, aDat D] ∧ InW ws.length D ∧ b = aI (worth ws D)
theorem S_worth : FnScope ["worths", "sky", "offer", "days"] ["worths", "sky"] (defScope s_shelf_worth) := ⟨rfl, rfl, rfl, by decide +kernel, rfl, by decide +kernel, by decide +kernel⟩
theorem ok_worth (T : Txt g) (F : DefIn g "shelf_worth" s_shelf_worth) : Def1 g 1 "shelf_worth" (spP g 2 R_worth) := by
  obtain ⟨f, fd, F, hm⟩ := F
  refine def_P F hm (F.bindsN (ps := ["worths", "sky"]) fun _ _ _ _ _ _ us hl => match us, hl with | [_, _], _ => rfl) S_worth T rfl fun X c as b hR hl σ H Q r q => ?_
  obtain ⟨ws, D, rfl, ⟨hz, hD⟩, rfl⟩ := hR
  have c' := c.toCxk
  refine wB_cons (ws_ret r (de_sumL (xs := D.map fun (p : Int × Int) => oa ws p.1) c' (DL.is (DC.dl (dc_comp (xs := D) (e := fun p => A.d (dPair p)) (pr := fun _ => true) (f := fun (p : Int × Int) => aI (oa ws p.1)) (own := [("offer", 2), ("days", 3)]) (gt := gPair g 2 3) (Γx := fun p => [some (aSet ws), some (aDat D), some (aI p.1), some (aI p.2)]) c'
    (di_dat c' (de_var 1 c')).same (by decide +kernel) rfl (fun X' d => pg_P d (pg_N d rfl rfl) (pg_N d rfl rfl)) (fun x hx => tg_P (by simp) (by simp)) (fun x hx X' d => dts_nil) (fun x hx _ X' d => de_ix d (de_var 0 d) (de_var 2 d) (d := .num (oa ws x.1)) (atI_map (atI_get (hD x hx).1 (oaGet (hD x hx).1 (hD x hx).2)))) (fun _ _ => rfl) (by omega)) c')
    (by rw [List.filter_eq_self.mpr (fun _ _ => rfl), List.map_map]; rfl))) q)
/-- the first stream to a spot of so much -/
def firstTo (F : Fnd) (ws : List Int) (least : Int) : Option (Spot × List Deed) := F.find? fun x => decide (least ≤ worth ws x.1.2)
def R_first (as : List A) (b : A) : Prop := ∃ (F : Fnd) (ws : List Int) (least : Int) (x : Spot × List Deed), as = [.nd (encF F), aSet ws, aI least] ∧ (F.map (·.1)).Nodup ∧ (∀ x ∈ F, InW ws.length x.1.2) ∧ firstTo F ws least = some x ∧ b = .d (dPath x.2)
theorem S_first : FnScope ["streams", "worths", "least", "spot"] ["streams", "worths", "least"] (defScope s_shelf_first) := ⟨rfl, rfl, rfl, by decide +kernel, rfl, by decide +kernel, by decide +kernel⟩
theorem ok_first (T : Txt g) (F : DefIn g "shelf_first" s_shelf_first) (WW : Def1 g 1 "shelf_worth" (spP g 2 R_worth)) : Def1 g 2 "shelf_first" (spP g 3 R_first) := by
  obtain ⟨f, fd, F, hm⟩ := F
  refine def_P F hm (F.bindsN (ps := ["streams", "worths", "least"]) fun _ _ _ _ _ _ us hl => match us, hl with | [_, _, _], _ => rfl) S_first T rfl fun X c as b hR hl σ H Q r q => ?_
  obtain ⟨Fd, ws, least, x, rfl, hon, hin, hx, rfl⟩ := hR
  have c' := c.toCxk
  refine wB_cons (ws_for c r ((di_N c' (de_var 0 c')).is (show _ = Fd.map fun x => A.d (dSpot x.1) by unfold encF; rw [List.map_map]; rfl)) (pg_ND (i := 3) c rfl (.inl rfl)) fun H3 s3 => ?_)
  have r3 := r.mono s3
  refine ⟨fun i σ' H' => Same H3 H' ∧ Rel g H' σ' [some (.nd (encF Fd)), some (aSet ws), some (aI least), none] ∧ (Fd.take i).find? (fun x => decide (least ≤ worth ws x.1.2)) = none, ⟨Same.refl _, r3, rfl⟩, fun i σ' H' _ h => h.1, ?_, ?_⟩
  · rintro i d σ' H' v H2' hd ⟨t1, r', hf⟩ t2 vd
    obtain ⟨y, hy, rfl⟩ := map_get hd
    have hm := List.mem_of_getElem? hy
    have r4 := (r'.mono t2).set 3 vd
    refine wB_cons (ws_if r4 (dt_ge (de_call c' WW (by decide) (da_cons (de_var 1 c') (da_cons (de_ix c' (de_var 3 c') de_int (d := dDat y.1.2) rfl) da_nil)) ⟨ws, y.1.2, rfl, hin y hm, rfl⟩) (de_var 2 c')) (fun ht H4 s4 r5 => ?_) fun hf' H4 s4 r5 => wB_nil (wB_nil ⟨(t1.trans t2).trans s4, r5.sub (sub_eq (sub_eq (sub_eq (sub_no sub_nil)))), ?_⟩))
    · have e : firstTo Fd ws least = some y := by
        unfold firstTo
        have hsp : Fd = Fd.take (i + 1) ++ Fd.drop (i + 1) := (List.take_append_drop _ _).symm
        rw [hsp, take_snoc hy, List.find?_append, List.find?_append, hf, List.find?_cons, ht]
        rfl
      rw [e] at hx
      cases hx
      exact wB_cons (ws_ret r5 (de_nget (es := x.2.map dDeed) c' (de_var 0 c') (de_var 3 c') (dSpot_depth x.1) (show lkD (encF Fd) (dSpot x.1) = _ by rw [lk_enc, lk_nodup hon (show (x.1, x.2) ∈ Fd from hm)]; rfl)) fun v H5 s5 v5 => q v H5 ((((s3.trans t1).trans t2).trans s4).trans s5) v5)
    · rw [take_snoc hy, List.find?_append, hf, List.find?_cons, hf']
      rfl
  · rintro σ' H' ⟨t1, r', hf⟩
    have en : (Fd.map fun x => A.d (dSpot x.1)).length = Fd.length := by simp
    rw [en, List.take_length] at hf
    unfold firstTo at hx
    rw [hf] at hx
    cases hx
theorem streams_gs {n : Nat} {l : List Int} {cal : List (List Int)} (t : Tiny n l cal) (c : List Int → List Int) (z : List Int) : GS l cal.length (streams c l z cal) [] := by
  have key : ∀ (k : Nat) (F : Fnd) (R : List Spot), GS l cal.length F R → GS l cal.length (runB (nbS cal z) (aft c l z cal.length) k F R) [] := by
    intro k
    induction k with
    | zero => intro F R h; exact h.norows
    | succ k ih =>
      intro F R h
      unfold runB
      split
      · exact h.norows
      · exact ih _ _ (gs_lvl t c z R (F, []) h.norows fun x hx => h.rows x hx).1
  refine key 1000 _ _ ⟨by simp, fun x hx => ?_, fun x hx => ?_, fun s hs => by simpa using hs⟩
  · simp at hx
    subst hx
    exact ⟨Int.le_refl 0, by have := t.calOk.1; show (0 : Int) < _; omega, isDated_nil l⟩
  · simp at hx
    subst hx
    decide
theorem spot_inW {n : Nat} {l : List Int} {cal : List (List Int)} (t : Tiny n l cal) {s : Spot} (h : SpotOk l cal.length s) : InW n s.2 := ⟨by have := dated_len t.two3 t.len h.2.2; omega, fun p hp => by
  have := h.2.2.2 p hp
  rw [t.len] at this
  exact ⟨this.1, this.2.1⟩⟩
def spotsOf (c : List Int → List Int) (l z : List Int) (cal : List (List Int)) : List Dt := sortD ((streams c l z cal).map fun x => dSpot x.1)
def R_spots (as : List A) (b : A) : Prop := ∃ (n : Nat) (c : List Int → List Int) (l z : List Int) (cal : List (List Int)), as = [.ch n c, .tr l z, .d (dCal cal), aI 400] ∧ Tiny n l cal ∧ IsSet n z ∧ b = .d (.tup (spotsOf c l z cal))
theorem S_spots : FnScope ["chooser", "trade", "calendar", "most", "streams", "spot"] ["chooser", "trade", "calendar", "most"] (defScope s_spots) := ⟨rfl, rfl, rfl, by decide +kernel, rfl, by decide +kernel, by decide +kernel⟩
theorem ok_spots (T : Txt g) (F : DefKw g "spots" s_spots) (WC : Def1 g 4 "shelf_check" (spP g 3 R_chk)) (WS : Def1 g 3 "shelf_streams" (spP g 4 R_streams)) : DefK g 5 "spots" (spP g 4 R_spots) := by
  obtain ⟨f, fd, F, hm⟩ := F
  refine def_K F hm (F.binds0 (ps := ["chooser", "trade", "calendar", "most"]) 3 (by simp) rfl fun D _ _ _ _ _ us ks hl hk => match us, ks, hl, hk with | [_, _, _], [_], _, _ => ⟨_, _, _, _, _, _, rfl, rfl, rfl⟩) S_spots T rfl fun X c as b hR hl σ H Q r q => ?_
  obtain ⟨n, h, l, z, cal, rfl, t, hz, rfl⟩ := hR
  have c' := c.toCxk
  have gs := streams_gs t h z
  have few := gs.few t
  refine wB_cons (ws_expr r (de_call c' WC (by decide) (da_cons (de_var 0 c') (da_cons (de_var 1 c') (da_cons (de_var 2 c') da_nil))) ⟨n, h, l, z, cal, rfl, t.two3, t.len, t.calOk, rfl⟩) fun H1 s1 r1 => ?_)
  refine wB_cons (ws_asg 4 c r1 (de_call c' WS (by decide) (da_cons (de_var 0 c') (da_cons (de_var 1 c') (da_cons (de_var 2 c') (da_cons (de_var 3 c') da_nil)))) ⟨n, h, l, z, cal, rfl, t, hz, rfl⟩) fun σ2 H2 s2 r2 => ?_)
  refine wB_cons (ws_ret r2 (de_tupleL c' (dl_sorted (ds := (streams h l z cal).map fun (x : Spot × List Deed) => dSpot x.1) c' (DL.is (DC.dl (dc_comp (xs := streams h l z cal) (e := fun (x : Spot × List Deed) => A.d (dSpot x.1)) (pr := fun _ => true) (f := fun (x : Spot × List Deed) => A.d (dSpot x.1)) (own := [("spot", 5)]) (gt := gName 5) (Γx := fun x => [some (.ch n h), some (.tr l z), some (.d (dCal cal)), some (aI 400), some (.nd (encF (streams h l z cal))), some (.d (dSpot x.1))]) c'
    ((di_N c' (de_var 4 c')).is (show _ = (streams h l z cal).map fun x => A.d (dSpot x.1) by unfold encF; rw [List.map_map]; rfl)) (by decide +kernel) rfl (fun X' d => pg_N d rfl rfl) (fun x hx => tg_N (by simp)) (fun x hx X' d => dts_nil) (fun x hx _ X' d => de_var 5 d) (fun _ _ => rfl) (by omega)) c')
    (by rw [List.filter_eq_self.mpr (fun _ _ => rfl), List.map_map]; rfl)) (show PySem.W.AllAlike _ from by rw [show ((streams h l z cal).map fun x => dSpot x.1) = ((streams h l z cal).map (·.1)).map dSpot by rw [List.map_map]; rfl]; exact al_spot _) (show PySem.W.Sortable _ from by rw [show ((streams h l z cal).map fun x => dSpot x.1) = ((streams h l z cal).map (·.1)).map dSpot by rw [List.map_map]; rfl]; exact sb_spot _)
    (by rw [List.length_map]; omega) (fun d hd => by
      obtain ⟨x, _, rfl⟩ := List.mem_map.mp hd
      exact (dSpot_shn _).up (by decide)))) fun v H3 s3 v3 => q v H3 ((s1.trans s2).trans s3) v3)
/-! shelves -/
def worths (F : Fnd) (ws : List Int) : List Int := F.map fun x => worth ws x.1.2
def R_shelf (as : List A) (b : A) : Prop := ∃ (n : Nat) (c : List Int → List Int) (l z : List Int) (cal : List (List Int)) (ws : List Int) (m : Int), as = [.ch n c, .tr l z, .d (dCal cal), aSet ws, aI 400] ∧ Tiny n l cal ∧ IsSet n z ∧ IsWs n ws ∧ IsMax m (worths (streams c l z cal) ws) ∧ b = aI m
theorem S_shelf : FnScope ["chooser", "trade", "calendar", "worths", "most", "streams", "spot"] ["chooser", "trade", "calendar", "worths", "most"] (defScope s_shelf) := ⟨rfl, rfl, rfl, by decide +kernel, rfl, by decide +kernel, by decide +kernel⟩
theorem ok_shelf (T : Txt g) (F : DefKw g "shelf" s_shelf) (WC : Def1 g 5 "shelf_check_worths" (spP g 4 R_chkw)) (WS : Def1 g 3 "shelf_streams" (spP g 4 R_streams)) (WW : Def1 g 1 "shelf_worth" (spP g 2 R_worth)) : DefK g 6 "shelf" (spP g 5 R_shelf) := by
  obtain ⟨f, fd, F, hm⟩ := F
  refine def_K F hm (F.binds0 (ps := ["chooser", "trade", "calendar", "worths", "most"]) 4 (by simp) rfl fun D _ _ _ _ _ us ks hl hk => match us, ks, hl, hk with | [_, _, _, _], [_], _, _ => ⟨_, _, _, _, _, _, rfl, rfl, rfl⟩) S_shelf T rfl fun X c as b hR hl σ H Q r q => ?_
  obtain ⟨n, h, l, z, cal, ws, m, rfl, t, hz, hw, hmx, rfl⟩ := hR
  have c' := c.toCxk
  have gs := streams_gs t h z
  have few := gs.few t
  refine wB_cons (ws_expr r (de_call c' WC (by decide) (da_cons (de_var 0 c') (da_cons (de_var 1 c') (da_cons (de_var 2 c') (da_cons (de_var 3 c') da_nil)))) ⟨n, h, l, z, cal, ws, rfl, t.two3, t.len, t.calOk, hw, rfl⟩) fun H1 s1 r1 => ?_)
  refine wB_cons (ws_asg 5 c r1 (de_call c' WS (by decide) (da_cons (de_var 0 c') (da_cons (de_var 1 c') (da_cons (de_var 2 c') (da_cons (de_var 4 c') da_nil)))) ⟨n, h, l, z, cal, rfl, t, hz, rfl⟩) fun σ2 H2 s2 r2 => ?_)
  refine wB_cons (ws_ret r2 (de_maxL (xs := worths (streams h l z cal) ws) c' (DL.de (DL.is (DC.dl (dc_comp (xs := streams h l z cal) (e := fun (x : Spot × List Deed) => A.d (dSpot x.1)) (pr := fun _ => true) (f := fun (x : Spot × List Deed) => aI (worth ws x.1.2)) (own := [("spot", 6)]) (gt := gName 6) (Γx := fun x => [some (.ch n h), some (.tr l z), some (.d (dCal cal)), some (aSet ws), some (aI 400), some (.nd (encF (streams h l z cal))), some (.d (dSpot x.1))]) c'
    ((di_N c' (de_var 5 c')).is (show _ = (streams h l z cal).map fun x => A.d (dSpot x.1) by unfold encF; rw [List.map_map]; rfl)) (by decide +kernel) rfl (fun X' d => pg_N d rfl rfl) (fun x hx => tg_N (by simp)) (fun x hx X' d => dts_nil) (fun x hx _ X' d => de_call d WW (by decide) (da_cons (de_var 3 d) (da_cons (de_ix d (de_var 6 d) de_int (d := dDat x.1.2) rfl) da_nil)) ⟨ws, x.1.2, rfl, by rw [hw.1]; exact spot_inW t (gs.ok x hx), rfl⟩) (fun _ _ => rfl) (by omega)) c')
    (by rw [List.filter_eq_self.mpr (fun _ _ => rfl)]; unfold worths; rw [List.map_map]; rfl))) hmx) fun v H3 s3 v3 => q v H3 ((s1.trans s2).trans s3) v3)
def R_fg (as : List A) (b : A) : Prop := ∃ (n : Nat) (c : List Int → List Int) (l z : List Int) (cal : List (List Int)) (ws : List Int) (m : Int) (x : Spot × List Deed), as = [.ch n c, .tr l z, .d (dCal cal), aSet ws, aI 400] ∧ Tiny n l cal ∧ IsSet n z ∧ IsWs n ws ∧ IsMax m (worths (streams c l z cal) ws) ∧ firstTo (streams c l z cal) ws m = some x ∧ b = .d (dPath x.2)
theorem S_fg : FnScope ["chooser", "trade", "calendar", "worths", "most", "streams", "greatest", "spot"] ["chooser", "trade", "calendar", "worths", "most"] (defScope s_first_greatest) := ⟨rfl, rfl, rfl, by decide +kernel, rfl, by decide +kernel, by decide +kernel⟩
theorem ok_fg (T : Txt g) (F : DefKw g "first_greatest" s_first_greatest) (WC : Def1 g 5 "shelf_check_worths" (spP g 4 R_chkw)) (WS : Def1 g 3 "shelf_streams" (spP g 4 R_streams)) (WW : Def1 g 1 "shelf_worth" (spP g 2 R_worth)) (WF : Def1 g 2 "shelf_first" (spP g 3 R_first)) : DefK g 6 "first_greatest" (spP g 5 R_fg) := by
  obtain ⟨f, fd, F, hm⟩ := F
  refine def_K F hm (F.binds0 (ps := ["chooser", "trade", "calendar", "worths", "most"]) 4 (by simp) rfl fun D _ _ _ _ _ us ks hl hk => match us, ks, hl, hk with | [_, _, _, _], [_], _, _ => ⟨_, _, _, _, _, _, rfl, rfl, rfl⟩) S_fg T rfl fun X c as b hR hl σ H Q r q => ?_
  obtain ⟨n, h, l, z, cal, ws, m, x, rfl, t, hz, hw, hmx, hx, rfl⟩ := hR
  have c' := c.toCxk
  have gs := streams_gs t h z
  have few := gs.few t
  refine wB_cons (ws_expr r (de_call c' WC (by decide) (da_cons (de_var 0 c') (da_cons (de_var 1 c') (da_cons (de_var 2 c') (da_cons (de_var 3 c') da_nil)))) ⟨n, h, l, z, cal, ws, rfl, t.two3, t.len, t.calOk, hw, rfl⟩) fun H1 s1 r1 => ?_)
  refine wB_cons (ws_asg 5 c r1 (de_call c' WS (by decide) (da_cons (de_var 0 c') (da_cons (de_var 1 c') (da_cons (de_var 2 c') (da_cons (de_var 4 c') da_nil)))) ⟨n, h, l, z, cal, rfl, t, hz, rfl⟩) fun σ2 H2 s2 r2 => ?_)
  refine wB_cons (ws_asg 6 c r2 (de_maxL (xs := worths (streams h l z cal) ws) c' (DL.de (DL.is (DC.dl (dc_comp (xs := streams h l z cal) (e := fun (x : Spot × List Deed) => A.d (dSpot x.1)) (pr := fun _ => true) (f := fun (x : Spot × List Deed) => aI (worth ws x.1.2)) (own := [("spot", 7)]) (gt := gName 7) (Γx := fun x => [some (.ch n h), some (.tr l z), some (.d (dCal cal)), some (aSet ws), some (aI 400), some (.nd (encF (streams h l z cal))), none, some (.d (dSpot x.1))]) c'
    ((di_N c' (de_var 5 c')).is (show _ = (streams h l z cal).map fun x => A.d (dSpot x.1) by unfold encF; rw [List.map_map]; rfl)) (by decide +kernel) rfl (fun X' d => pg_N d rfl rfl) (fun x hx => tg_N (by simp)) (fun x hx X' d => dts_nil) (fun x hx _ X' d => de_call d WW (by decide) (da_cons (de_var 3 d) (da_cons (de_ix d (de_var 7 d) de_int (d := dDat x.1.2) rfl) da_nil)) ⟨ws, x.1.2, rfl, by rw [hw.1]; exact spot_inW t (gs.ok x hx), rfl⟩) (fun _ _ => rfl) (by omega)) c')
    (by rw [List.filter_eq_self.mpr (fun _ _ => rfl)]; unfold worths; rw [List.map_map]; rfl))) hmx) fun σ3 H3 s3 r3 => ?_)
  exact wB_cons (ws_ret r3 (de_call c' WF (by decide) (da_cons (de_var 5 c') (da_cons (de_var 3 c') (da_cons (de_var 6 c') da_nil))) ⟨streams h l z cal, ws, m, x, rfl, gs.once, fun y hy => by rw [hw.1]; exact spot_inW t (gs.ok y hy), hx, rfl⟩) fun v H4 s4 v4 => q v H4 (((s1.trans s2).trans s3).trans s4) v4)
end
end K85

/-! L16: the deck, more operators, expressions that draw. -/
namespace K85
open PySem PySem.Spec PyProof.Rows L2
section
variable {g : Cfg} {N : List Str} {sc : Scope} {X : Cx} {j k : Nat} {Γ : List (Option A)} {e a b o : Expr} {es : List Expr} {x : Str} {pos p : Pos}
theorem de_mul {i j : Int} (ha : DE g X a Γ (aI i)) (hb : DE g X b Γ (aI j)) (h : CMul i j) : DE g X (.BinOp a .Mult b pos) Γ (aI (i * j)) := de_op op_mul ha hb (rd_I h)
theorem de_fdiv {i j : Int} (ha : DE g X a Γ (aI i)) (hb : DE g X b Γ (aI j)) (h : CDiv i j) : DE g X (.BinOp a .FloorDiv b pos) Γ (aI (i / j)) := de_op op_fdiv ha hb (rd_I h)
theorem de_pow {i j : Int} (ha : DE g X a Γ (aI i)) (hb : DE g X b Γ (aI j)) (h : CPow i j) : DE g X (.BinOp a .Pow b pos) Γ (aI (i ^ j.toNat)) := de_op op_pow ha hb (rd_I h)
theorem de_intI {i : Int} (c : Cxk g N sc k X) (ha : DE g X a Γ (aI i)) (hg : GlS sc "int" := by rfl) (h1 : starEach [a] X.env = (false, eval a X.env) :: starEach [] X.env := by rfl) : DE g X (.Call (.Name "int" p) [a] [] pos) Γ (aI i) :=
  de_Ty c call_int1 c.T.int boot_ty_int (da_cons ha da_nil h1) (fun H vs Q h q => by
    obtain ⟨v, rfl, h1⟩ := avs1 h
    have e1 := h1.int
    subst e1
    exact .inl ⟨i, rfl, q _ H (Same.refl H) (.d (.int i))⟩) hg (he := h1)
/-- a tuple of numbers that has just been made: it has no dict of its own -/
def TX (p : Addr) (ns : List Int) : HO := .ext fun h => ∃ o, h.get? p = some o ∧ o.cls = .type "tuple" ∧ o.dict = none ∧ ∃ (n : Nat) (its : List Value), o.data = .seq its.toArray n ∧ Vals (ns.map V.int) its
theorem tx_ok {P : Program} {w : World} {H : Hp} {h : Heap} {p : Addr} {its : List Value} {ns : List Int} (e : h.get? p = some { cls := .type "tuple", data := .seq its.toArray }) (r : Vals (ns.map V.int) its) : ObjOk P w H h p (TX p ns) :=
  ⟨⟨_, e, rfl, rfl, 0, its, rfl, r⟩, ⟨_, e⟩, fun h1 h2 ⟨o, e1, r⟩ k => ⟨o, k o e1, r⟩⟩
/-- t + u, both not empty -/
def rCatX (K : PySem.W.Frag) : R2 := fun x y H Q => ∃ (a b : Addr) (ns ms : List Int), x = .ref a ∧ y = .ref b ∧ SqT K H a (ns.map V.int) ∧ SqT K H b (ms.map V.int) ∧ ns ≠ [] ∧ ms ≠ [] ∧ ns.length + ms.length ≤ sizeLine ∧ ∀ p, H p = none → Q (.ref p) (upd H p (TX p (ns ++ ms)))
theorem op_catX : OpR X (binaryOp .Add) (rCatX X.K) := by
  intro pins s σ H x y v u Q I rx ry h
  obtain ⟨a, b, ns, ms, rfl, rfl, ha, hb, hx, hy, hz, q2⟩ := h
  cases rx
  cases ry
  obtain ⟨its, r1, p1, _⟩ := I.tuple ha
  obtain ⟨its2, r2, p2, _⟩ := I.tuple hb
  have hx' : ns.map V.int ≠ [] := fun z => hx (List.map_eq_nil_iff.mp z)
  have hy' : ms.map V.int ≠ [] := fun z => hy (List.map_eq_nil_iff.mp z)
  refine HT.cat_tup p1 p2 (fun z => hx' (r1.nil_iff.mp z)) (fun z => absurd (r2.nil_iff.mp z) hy') (fun z => ?_) (by rw [← r1.length, ← r2.length, List.length_map, List.length_map]; exact hz)
  refine ⟨.ref s.heap.objs.size, _, I.laid (t' := s.toks) (o := TX s.heap.objs.size (ns ++ ms)) (fun b ob q => Heap.get?_push_of_some _ q) (Nat.le_refl _) ?_, rfl, q2 _ (I.hok.fresh (Nat.le_refl _))⟩
  exact tx_ok (Heap.get?_push_size _ rfl) (by rw [List.map_append]; exact r1.append r2)
/-- such a tuple told of as any other -/
def tForget (t : TS) : TS := fun D σ H => ∃ (a : Addr) (ns : List Int), H a = some (TX a ns) ∧ ns.length ≤ 1000 ∧ t D σ (upd H a (.tup (ns.map V.int)))
theorem ps_forget {st : Stmt} {t : TS} (h : PS X st t) : PS X st (tForget t) := by
  refine ⟨fun pins s σ H D I hw => ?_⟩
  obtain ⟨a, ns, ha, hz, hw⟩ := hw
  obtain ⟨⟨o, e, hc, hdi, n, its, hd, r⟩, _⟩ := I.hok a _ ha
  have new : ObjOk X.prog X.w (upd H a (.tup (ns.map V.int))) s.heap a (.tup (ns.map V.int)) := ⟨by rw [List.length_map]; exact Nat.le_trans hz (by decide), its, r, o, e, hc, n, hd⟩
  have I1 : Inv X pins σ (upd H a (.tup (ns.map V.int))) { s with heap := s.heap, toks := s.toks } := I.write (x := a) (e := a) (by rw [ha]; exact True.intro) (.inl rfl) (fun b u _ q => q) ⟨o, e⟩ new
  exact h.run pins s σ _ D I1 hw
/-- t.index(k) -/
def IdxPost (p : Addr) (ns : List Int) (Q : VK) (vs : List V) (H2 : Hp) : Prop := ∃ i : Int, vs = [.int i] ∧ H2 p = some (TX p ns) ∧ i ∈ ns ∧ Q (.int (ns.idxOf i : Nat)) H2
def tIdx (to : TE) (t : TE) : TE := fun σ H Q => to σ H fun x H1 => ∃ (p : Addr) (ns : List Int), x = .ref p ∧ H1 p = some (TX p ns) ∧ t σ H1 fun y H2 => IdxPost p ns Q [y] H2
theorem pe_idx {to te : TE} {apos cpos : Pos} (ho : PE X o to) (ha : PE X a te)
    (hbase : attributeBase o "index" X.env (eval o X.env) = eval o X.env := by rfl)
    (hfew : ((backTo cpos (starEach [a] X.env)).all (fun x => !x.1) && (backToKw cpos (keywordEach [] X.env)).all (fun x => x.1.isSome)
      && decide ([a].length + ([] : List Keyword).length + (if ([] : List Keyword).isEmpty then 0 else 1) < 30)) = true := by rfl)
    (hline : (apos.endLine == cpos.line) = true := by rfl) (hs : starEach [a] X.env = (false, eval a X.env) :: starEach [] X.env := by rfl) (hplain : (backTo cpos (starEach [] X.env)).any (·.1) = false := by rfl) :
    PE X (.Call (.Attribute o "index" apos) [a] [] cpos) (tIdx to te) := by
  refine ⟨fun pins s σ H Q I h => ?_⟩
  refine wpAny_Call_method_late hbase hfew hline rfl (thn (ho.run pins s σ H _ I h) fun v s1 ⟨x, H1, I1, r1, p, ns, ex, hp, q1⟩ => ?_)
  subst ex
  obtain rfl : v = Value.ref p := r1
  obtain ⟨⟨o1, e1, c1, d1, n1, its, dat1, rel1⟩, _⟩ := I1.hok p _ hp
  refine ⟨"tuple", "tuple.index", PySem.F.plainAttrs_tuple, PySem.F.slot_tuple_index, PySem.F.type_tuple_index, ⟨o1, e1, c1⟩, fun b z => by cases z; exact ⟨o1, e1, d1⟩, ?_⟩
  have hA := (pa_cons (X := X) ha pa_nil hs).run cpos pins s1 σ H1 (IdxPost p ns Q) I1 q1
  rw [hs] at hA ⊢
  refine Calls.callWith_builtin (by show (false || (backTo cpos (starEach [] X.env)).any (·.1)) = false; rw [hplain] <;> rfl) (Calls.evalArgs_plain ?_)
  refine thn hA fun us s2 ⟨vs, H2, I2, r2, i, ev, hp2, hm, q⟩ => ?_
  subst ev
  obtain ⟨u, rfl, t, rfl⟩ := r2.one
  obtain ⟨⟨o2, e2, c2, d2, n2, its2, dat2, rel2⟩, _⟩ := I2.hok p _ hp2
  exact PySem.SeqAt.tuple_index_ints (vs := its2) ⟨o2, e2, c2, n2, dat2⟩ rel2.ints hm ⟨.int (ns.idxOf i : Nat), H2, I2.tok _, ⟨_, rfl⟩, q⟩
theorem de_idx {l : Addr} {ns : List Int} {i : Int} {apos cpos : Pos} (ho : DE g X o Γ (.ob l (TX l ns))) (ha : DE g X a Γ (aI i)) (hm : i ∈ ns)
    (pe : ∀ (t t' : TE), PE X o t → PE X a t' → PE X (.Call (.Attribute o "index" apos) [a] [] cpos) (tIdx t t') := by exact fun _ _ p p' => pe_idx p p') :
    DE g X (.Call (.Attribute o "index" apos) [a] [] cpos) Γ (aI (ns.idxOf i : Nat)) := fun σ H Q r q =>
  ⟨_, pe _ _ pe_w pe_w, ho σ H _ r fun v H1 s1 v1 => by
    obtain ⟨rfl, e1⟩ := v1.obAt
    refine ⟨l, ns, rfl, e1, ha σ H1 _ (r.mono s1) fun u H2 s2 u2 => ?_⟩
    have eu := u2.int
    subst eu
    exact ⟨i, rfl, s2 _ _ e1, hm, q _ H2 (s1.trans s2) (.d (.int _))⟩⟩
end
/-! ### the deck -/
def deckL (c : Addr) (s t : Int) : List (Key × V) := [(.inr "cells", .ref c), (.inr "stirred", .int s), (.inr "turn", .int t)]
structure DeckAt (H : Hp) (d c : Addr) (k : Nat) : Prop where
  ex : ∃ (s t : Int) (ns : List Int), H d = some (.dK (deckL c s t)) ∧ H c = some (.lst (ns.map V.int)) ∧ 0 ≤ t ∧ t + (k : Int) ≤ 1000 ∧ ns.length ≤ 63 ∧ 0 ≤ s ∧ s < 2147483563
theorem DeckAt.soft {H : Hp} {d c : Addr} {k : Nat} (h : DeckAt H d c k) : Soft H d ∧ Soft H c := by
  obtain ⟨s, t, ns, e1, e2, _⟩ := h.ex
  exact ⟨⟨_, e1, rfl⟩, ⟨_, e2, rfl⟩⟩
theorem DeckAt.same {H H' : Hp} {d c : Addr} {k : Nat} (h : DeckAt H d c k) (s : Same H H') : DeckAt H' d c k := by
  obtain ⟨a, t, ns, e1, e2, r⟩ := h.ex
  exact ⟨a, t, ns, s _ _ e1, s _ _ e2, r⟩
theorem DeckAt.less {H : Hp} {d c : Addr} {k k' : Nat} (h : DeckAt H d c k) (l : k' ≤ k) : DeckAt H d c k' := by
  obtain ⟨a, t, ns, e1, e2, h0, h1, r⟩ := h.ex
  exact ⟨a, t, ns, e1, e2, h0, by omega, r⟩
theorem DeckAt.ne {H : Hp} {d c : Addr} {k : Nat} (h : DeckAt H d c k) : d ≠ c := by
  obtain ⟨a, t, ns, e1, e2, _⟩ := h.ex
  intro z
  subst z
  rw [e1] at e2
  cases e2
/-- the deck while other things are written -/
theorem DeckAt.but {H H' : Hp} {d c l : Addr} {k : Nat} (h : DeckAt H d c k) (b : But l H H') (hd : d ≠ l) (hc : c ≠ l) : DeckAt H' d c k := by
  obtain ⟨a, t, ns, e1, e2, r⟩ := h.ex
  exact ⟨a, t, ns, b _ _ hd e1, b _ _ hc e2, r⟩
theorem deck_put (c : Addr) (s t t' : Int) : putK (deckL c s t) (.inr "turn") (.int t') = deckL c s t' := by
  have h1 : ¬ ((Sum.inr "cells" : Key) = .inr "turn") := by decide
  have h2 : ¬ ((Sum.inr "stirred" : Key) = .inr "turn") := by decide
  unfold putK deckL
  simp [h1, h2]
theorem dk1 : ¬ ((Sum.inr "cells" : Key) = .inr "stirred") := by decide
theorem dk2 : ¬ ((Sum.inr "cells" : Key) = .inr "turn") := by decide
theorem dk3 : ¬ ((Sum.inr "stirred" : Key) = .inr "turn") := by decide
theorem deck_cells (c : Addr) (s t : Int) : valV (deckL c s t) (.inr "cells") = some (.ref c) := valV_pos rfl
theorem deck_stirred (c : Addr) (s t : Int) : valV (deckL c s t) (.inr "stirred") = some (.int s) := by
  unfold deckL
  rw [valV_neg dk1, valV_pos rfl]
theorem deck_turn (c : Addr) (s t : Int) : valV (deckL c s t) (.inr "turn") = some (.int t) := by
  unfold deckL
  rw [valV_neg dk2, valV_neg dk3, valV_pos rfl]
/-! ### what draws -/
/-- e gives one of P, the deck at d (its cells at c) goes from budget k to k' -/
def KE (g : Cfg) (X : Cx) (e : Expr) (Γ : List (Option A)) (d c : Addr) (k k' : Nat) (P : A → Prop) : Prop := ∀ (σ : L2.St) (H : Hp) (Q : VK), Rel g H σ Γ → DeckAt H d c k → (∀ v H1 z, P z → But2 d c H H1 → DeckAt H1 d c k' → AV g H1 v z → Q v H1) → wE X e σ H Q
def KT (g : Cfg) (X : Cx) (e : Expr) (Γ : List (Option A)) (d c : Addr) (k k' : Nat) : Prop := ∀ (σ : L2.St) (H : Hp) (Q : Bool → Hp → Prop), Rel g H σ Γ → DeckAt H d c k → (∀ b H1, But2 d c H H1 → DeckAt H1 d c k' → Q b H1) → wT X e σ H Q
/-- a promise of a def whose first argument is the deck -/
def spK (g : Cfg) (n : Nat) (R : List A → Nat → (A → Prop) → Prop) : Sp := fun vs H Q _ => ∃ (d c : Addr) (ws : List V) (as : List A) (k cost : Nat) (P : A → Prop), vs = .ref d :: ws ∧ ws.length = n ∧ DeckAt H d c k ∧ AVs g H ws as ∧ R as cost P ∧ cost ≤ k ∧
  ∀ v H1 z, P z → But2 d c H H1 → DeckAt H1 d c (k - cost) → AV g H1 v z → Q v H1
section
variable {g : Cfg} {N ps : List Str} {sc : Scope} {X : Cx} {j k k' : Nat} {Γ : List (Option A)} {e a b o : Expr} {es : List Expr} {x : Str} {pos px p : Pos} {d c : Addr} {P : A → Prop} {D : Ends} {σ : L2.St} {H : Hp}
theorem def_D {n : Nat} {R : List A → Nat → (A → Prop) → Prop} {params : Arguments} {body : List Stmt} {f : Addr} {fd : FuncData} (F : FunD g.K x x params body sc [] [] f fd) (hm : g.mg x = some (.ref f)) (b : Binds g.K fd ps []) (S : FnScope N ps sc) (T : Txt g) (hn : n + 1 = ps.length)
    (h : ∀ (X : Cx), Dtx g N sc j X → ∀ (d c : Addr) (as : List A) (k cost : Nat) (P : A → Prop), R as cost P → as.length = n → cost ≤ k → ∀ (σ : L2.St) (H : Hp) (Q : VK), DeckAt H d c k → Rel g H σ (some (.obj (.ref d)) :: (as.map some ++ List.replicate (N.length - (n + 1)) none)) → (∀ v H1 z, P z → But2 d c H H1 → DeckAt H1 d c (k - cost) → AV g H1 v z → Q v H1) →
      wB X body { nx := fun _ H' => Q .non H', rt := Q } σ H) : Def1 g (j + 1) x (spK g n R) := by
  refine ⟨⟨f, fd, ps, [], def_ok F S T (fun vs H Q E h => by obtain ⟨_, _, ws, _, _, _, _, rfl, hl, _⟩ := h; rw [List.length_cons, hl]; exact hn) fun X cc vs H Q E hsp => ?_, hm, F.kp, b, .nil⟩⟩
  obtain ⟨d, c, ws, as, k, cost, P, rfl, hl, dk, a, hr, hk, q⟩ := hsp
  have ea : as.length = n := a.length.symm.trans hl
  have r0 := start_rel (N := N) (AVs.cons (AV.obj (g := g) (H := H) (.ref d)) a)
  rw [List.length_cons, ea] at r0
  exact h X cc d c as k cost P hr ea hk _ H Q dk r0 q
theorem ke_call {n : Nat} {R : List A → Nat → (A → Prop) → Prop} {as : List A} {cost : Nat} (ct : Cxk g N sc j X) {kk : Nat} (F : Def1 g kk x (spK g n R)) (hk : kk ≤ j) (hd : DE g X e Γ (.obj (.ref d))) (ha : DA g X es Γ as) (hr : R as cost P) (hc : cost ≤ k) (hk' : k' = k - cost) (hn : as.length = n := by rfl) (hg : GlS sc x := by rfl)
    (hdb : (x == ("__debug__" : Str)) = false := by decide) (he : starEach (e :: es) X.env = (false, eval e X.env) :: starEach es X.env := by rfl) (hpl : (backTo pos (starEach es X.env)).any (·.1) = false := by rfl) :
    KE g X (.Call (.Name x p) (e :: es) [] pos) Γ d c k k' P := fun σ H Q rl dk q =>
  ⟨_, C8.pe_c (ct.cal F) ct.room hk (ct.gl hg) pa_w hdb he hpl, wA_cons (hd σ H _ rl fun v H1 s1 v1 => ha σ H1 _ (rl.mono s1) fun vs H2 s2 v2 => by
    have ev := v1.is
    subst ev
    rw [List.append_nil]
    exact ⟨d, c, vs, as, k, cost, P, rfl, v2.length.trans hn, dk.same (s1.trans s2), v2, hr, hc, fun w H3 z hz b3 d3 w3 => q w H3 z hz ((But2.of (s1.trans s2)).trans b3) (hk' ▸ d3) w3⟩) he⟩
theorem KE.mono {P' : A → Prop} (h : KE g X e Γ d c k k' P) (w : ∀ z, P z → P' z) : KE g X e Γ d c k k' P' := fun σ H Q r dk q => h σ H Q r dk fun v H1 z hz => q v H1 z (w z hz)
/-- i + e -/
theorem ke_add {i : Int} (ha : DE g X a Γ (aI i)) (hb : KE g X b Γ d c k k' fun z => ∃ m, z = aI m ∧ P (aI (i + m))) : KE g X (.BinOp a .Add b pos) Γ d c k k' P := fun σ H Q r dk q =>
  ⟨_, pe_op op_add pe_w pe_w, ha σ H _ r fun v H1 s1 v1 => hb σ H1 _ (r.mono s1) (dk.same s1) fun u H2 z ⟨m, hz, hp⟩ b2 d2 u2 => by
    have e1 := v1.int
    subst e1 hz
    exact ⟨i, m, rfl, u2.int, q _ H2 _ hp ((But2.of s1).trans b2) d2 (.d (.int _))⟩⟩
/-- e == i, e > i -/
theorem kt_eq {i : Int} (ha : KE g X a Γ d c k k' fun z => ∃ m, z = aI m) (hb : DE g X b Γ (aI i)) (hΓ : Γ.all noLsO = true) : KT g X (.Compare a [.Eq] [b] pos) Γ d c k k' := fun σ H Q r dk q =>
  ⟨_, pt_cmpR op_eq pe_w pe_w (nomark _), ha σ H _ r dk fun v H1 z ⟨m, hz⟩ b1 d1 v1 => hb σ H1 _ (r.kp (b1.kp dk.soft.1 dk.soft.2) hΓ) fun u H2 s2 u2 => by
    subst hz
    exact rd_eqI H2 v u _ (v1.mono s2) u2 fun w H3 s3 w3 => ⟨_, w3.bool, q _ H3 (b1.trans (But2.of (s2.trans s3))) (d1.same (s2.trans s3))⟩⟩
theorem kt_gt {i : Int} (ha : KE g X a Γ d c k k' fun z => ∃ m, z = aI m) (hb : DE g X b Γ (aI i)) (hΓ : Γ.all noLsO = true) : KT g X (.Compare a [.Gt] [b] pos) Γ d c k k' := fun σ H Q r dk q =>
  ⟨_, pt_cmpR op_gt pe_w pe_w (nomark _), ha σ H _ r dk fun v H1 z ⟨m, hz⟩ b1 d1 v1 => hb σ H1 _ (r.kp (b1.kp dk.soft.1 dk.soft.2) hΓ) fun u H2 s2 u2 => by
    subst hz
    exact rd_B0 H2 v u _ (v1.mono s2) u2 fun w H3 s3 w3 => ⟨_, w3.bool, q _ H3 (b1.trans (But2.of (s2.trans s3))) (d1.same (s2.trans s3))⟩⟩
/-- xs[e] -/
theorem ke_ix {ds : List Dt} (ct : Cxk g N sc j X) (ha : DE g X a Γ (.d (.tup ds))) (hb : KE g X b Γ d c k k' fun z => ∃ m, z = aI m ∧ ∃ y, atI ds m = some y ∧ P (.d y)) (hs : PlainIx b := by exact fun _ _ => rfl) : KE g X (.Subscript a b pos) Γ d c k k' P := fun σ H Q r dk q =>
  ⟨_, pe_ix (c_ix ct) pe_w pe_w hs, ha σ H _ r fun v H1 s1 v1 => hb σ H1 _ (r.mono s1) (dk.same s1) fun u H2 z ⟨m, hz, y, hy, hp⟩ b2 d2 u2 => by
    subst hz
    have dk1 := (dk.same s1).soft
    exact rd_ix hy H2 v u _ (v1.kp (b2.kp dk1.1 dk1.2) rfl) u2 fun w H3 s3 w3 => q w H3 _ hp ((But2.of s1).trans (b2.trans (But2.of s3))) (d2.same s3) w3⟩
/-- x = e -/
theorem ws_asgK (i : Nat) (ct : Dtx g N sc j X) (r : Rel g H σ Γ) (dk : DeckAt H d c k) (h : KE g X e Γ d c k k' P) (hΓ : Γ.all noLsO = true) (q : ∀ z σ' H1, P z → But2 d c H H1 → DeckAt H1 d c k' → Rel g H1 σ' (Γ.set i (some z)) → D.nx σ' H1) (hi : N[i]? = some x := by rfl) (hl : Loc sc x := by first | exact .inl rfl | exact .inr rfl)
    (hs : swapsWith e (some (.Name x px)) pos.line X.env = pure false := by rfl) : wS X (.Assign [.Name x px] e pos) D σ H :=
  ⟨_, ps_set ct.ndX (ct.at_ hi) (ct.loc hl) pe_w hs (.inl (ct.fn x)), h σ H _ r dk fun v H1 z hz b1 d1 v1 => q z _ H1 hz b1 d1 ((r.kp (b1.kp dk.soft.1 dk.soft.2) hΓ).set i v1)⟩
theorem ws_retK (r : Rel g H σ Γ) (dk : DeckAt H d c k) (h : KE g X e Γ d c k k' P) (q : ∀ v H1 z, P z → But2 d c H H1 → DeckAt H1 d c k' → AV g H1 v z → D.rt v H1) : wS X (.Return (some e) pos) D σ H := ⟨_, ps_ret pe_w, h σ H _ r dk q⟩
/-- for x in range(e) -/
theorem ws_forK {tg : Expr} {body : List Stmt} {gt : TG} {e : Expr} (ct : Dtx g N sc j X) (r : Rel g H σ Γ) (dk : DeckAt H d c k) (h : KE g X e Γ d c k k' fun z => ∃ m : Nat, z = aI m ∧ m ≤ 1000 ∧ P (aI m)) (hg : PG X tg gt)
    (hb : ∀ (m : Nat) H1, P (aI m) → But2 d c H H1 → DeckAt H1 d c k' → ∃ Pv : Nat → L2.St → Hp → Prop, Pv 0 σ H1 ∧
      (∀ i σ' H' v, i < m → Pv i σ' H' → AV g H' v (aI i) → gt v σ' H' fun σ2 H3 => wB X body { D with nx := Pv (i + 1), ct := Pv (i + 1), bk := D.nx } σ2 H3) ∧ (∀ σ' H', Pv m σ' H' → D.nx σ' H'))
    (hgl : GlS sc "range" := by rfl) (h1 : starEach [e] X.env = (false, eval e X.env) :: starEach [] X.env := by rfl) (h2 : starEach [e] X.env = [(false, eval e X.env)] := by rfl)
    (hs : ∀ z, foldedSetIterable (.Call (.Name "range" p) [e] [] px) X.env z = pure z := by intro _; rfl) : wS X (.For tg (.Call (.Name "range" p) [e] [] px) body [] pos) D σ H := by
  refine ⟨_, ps_for ct.pass ct.calm (pi_range1 (ct.gl hgl) (ct.mgN ct.T.range) (pa_cons pe_w pa_nil h1) h2) hg pb_w hs, h σ H _ r dk fun v H1 z ⟨m, hz, hm, hp⟩ b1 d1 v1 => ?_⟩
  subst hz
  obtain ⟨Pv, p0, step, done⟩ := hb m H1 hp b1 d1
  refine ⟨(m : Int), by rw [v1.int], by omega, by omega, ?_⟩
  have e : (m : Int).toNat = m := by omega
  rw [e]
  exact for_it (g := gt) (tb := wB X body) (D := D) (walk_range (lo := 0) (n := m)) Pv p0 (fun _ _ _ _ _ => trivial) (fun i v' σ' H' H'' hi hp' ⟨e1, e2⟩ => by
    subst e1 e2
    exact step i σ' H'' _ hi hp' (show AV g H'' (V.int (0 + ((i : Nat) : Int))) _ by rw [Int.zero_add]; exact .d (.int _))) done
end
end K85

/-! W13: the deck made, draws. -/
namespace K85
open PySem PySem.Spec PyProof.Rows L2
section
variable {g : Cfg}
/-! ### the deck -/
def spDeck (g : Cfg) : Sp := fun vs H Q _ => ∃ (a : Addr) (ns : List Int), vs = [.ref a] ∧ SqL g.K H a (ns.map V.int) ∧ ns.length ≤ 63 ∧ ∀ d c H1, Same H H1 → DeckAt H1 d c 1000 → Q (.ref d) H1
theorem S_deck : FnScope ["_law_script", "_law_cells", "_law_stirred", "_law_cell"] ["_law_script"] (defScope s_law_deck) := ⟨rfl, rfl, rfl, by decide +kernel, rfl, by decide +kernel, by decide +kernel⟩
theorem cut_short (xs : List V) : (cutV xs none (some 63)).length ≤ xs.length := cutV_length xs none (some 63)
theorem cut_ints (ns : List Int) : ∃ ms : List Int, cutV (ns.map V.int) none (some 63) = ms.map V.int ∧ ms.length ≤ ns.length := by
  refine ⟨(ns.drop (HT.sIx (ns.map V.int).length 0 none)).take (HT.sIx (ns.map V.int).length (ns.map V.int).length (some 63) - HT.sIx (ns.map V.int).length 0 none), ?_, ?_⟩
  · unfold cutV
    rw [List.map_take, List.map_drop]
  · rw [List.length_take, List.length_drop]
    omega
theorem ok_deck (T : Txt g) (F : DefIn g "_law_deck" s_law_deck) : Def1 g 1 "_law_deck" (spDeck g) := by
  obtain ⟨f, fd, F, hm⟩ := F
  refine ⟨⟨f, fd, ["_law_script"], [], def_ok F S_deck T (fun vs H Q E h => by obtain ⟨a, ns, rfl, _⟩ := h; rfl) fun X c vs H Q E hsp => ?_, hm, F.kp, F.bindsN (ps := ["_law_script"]) fun _ _ _ _ _ _ us hl => match us, hl with | [_], _ => rfl, .nil⟩⟩
  obtain ⟨a, ns, rfl, hS, hlen, q⟩ := hsp
  have c' := c.toCxk
  have r : Rel g H (start ["_law_script", "_law_cells", "_law_stirred", "_law_cell"] [.ref a]) [some (.obj (.ref a)), none, none, none] := rel_cons (.obj _) (rel_no (rel_no (rel_no rel_nil)))
  obtain ⟨ms, ems, hms⟩ := cut_ints ns
  -- list(script[:63])
  have hl : ∀ (σ : L2.St) (Q' : VK) (p1 p2 p3 p4 p5 : Pos) (k0 : Nat), Rel g H σ [some (.obj (.ref a)), none, none, none] → (∀ l H1, H l = none → Same H H1 → H1 l = some (.lst (ms.map V.int)) → Q' (.ref l) H1) →
      wE X (.Call (.Name "list" p1) [.Subscript (.Name "_law_script" p2) (.Slice none (some (.Constant (.int 63) k0 p3)) none p4) p5] [] p1) σ H Q' → True := fun _ _ _ _ _ _ _ _ _ _ _ => trivial
  refine wB_cons (ws_par 1 2 c ?_)
  refine wE_of (pe_callTy (call_list_of) (c'.gl rfl) (c'.mgN T.list) boot_ty_list (pa_cons (pe_slice sl_list (pe_w (e := .Name "_law_script" _)) po_none (po_some pe_int)) pa_nil rfl) (by decide) (by decide) rfl rfl) ?_
  refine useE r (de_var 0 c') fun v H1 s1 v1 => ?_
  have ev := v1.is
  subst ev
  have hS1 : SqL g.K H1 a (ns.map V.int) := by
    rcases hS with h | h
    · rcases h with h | ⟨o, h⟩
      · exact .inl (.inl (s1 _ _ h))
      · exact .inl (.inr ⟨o, s1 _ _ h⟩)
    · exact .inr h
  refine ⟨63, rfl, a, ns.map V.int, rfl, by rw [c.K]; exact hS1, fun t ht => ⟨t, _, rfl, .inl (.inl (.inl upd_same)), fun l hl => ?_⟩⟩
  rw [ems] at hl ⊢
  have s2 : Same H (upd (upd H1 t (.lst (ms.map V.int))) l (.lst (ms.map V.int))) := (s1.trans (Same.newO ht)).trans (Same.newO hl)
  have hl0 : H l = none := (s1.trans (Same.newO (o' := .lst (ms.map V.int)) ht)).free hl
  refine useE (r.mono s2) de_int fun v3 H3 s3 v3' => ?_
  have r3 : Rel g H3 _ _ := ((r.mono (s2.trans s3)).set 1 (.obj (.ref l))).set 2 v3'
  have el3 : H3 l = some (.lst (ms.map V.int)) := s3 _ _ upd_same
  have rL := r3.toLs 1 rfl el3 (show AVs g H3 (ms.map V.int) (ms.map aI) by rw [← map_nums]; exact AVs.of_dvs (DVs.of_ints _))
  refine wB_cons (ws_for c rL (di_ls c' (de_var 1 c')) (pg_ND (i := 3) c rfl (.inl rfl)) fun H4 s4 => ?_)
  refine ⟨fun i σ' H' => Same H4 H' ∧ ∃ s : Int, 0 ≤ s ∧ s < 2147483563 ∧ Rel g H' σ' [some (.obj (.ref a)), some (.obj (.ref l)), some (aI s), none], ⟨Same.refl _, 1087201, by decide, by decide, r3.mono s4⟩, fun i σ' H' _ h => h.1, ?_, ?_⟩
  · rintro i d σ' H' v H2' hd ⟨t1, s, h0, h1, r'⟩ t2 vd
    obtain ⟨n, hn, rfl⟩ := map_get hd
    have r5 := (r'.mono t2).set 3 vd
    refine wB_cons (ws_asg 2 c r5 (de_mod (de_intI c' (de_add (de_add (de_mul (de_var 2 c') de_int (.inr ⟨by decide, by decide⟩)) (de_mod (de_intI c' (de_var 3 c')) de_int (by decide))) de_int)) de_int (by decide)) fun σ6 H6 s6 r6 => wB_nil ⟨(t1.trans t2).trans s6, _, Int.emod_nonneg _ (by decide), Int.emod_lt_of_pos _ (by decide), r6.sub (sub_eq (sub_eq (sub_eq (sub_no sub_nil))))⟩)
  · rintro σ' H' ⟨t1, s, h0, h1, r'⟩
    -- the display
    refine wB_cons ?_
    refine ⟨_, ps_ret (pe_disp (pps_cons pe_str (pe_revL (pe_w (e := .Name "_law_cells" _))) |> fun z => z (pps_cons pe_str (pe_w (e := .Name "_law_stirred" _)) (pps_cons pe_str pe_int pps_nil))) rfl rfl (by simp) (by decide)), fun d hd => ?_⟩
    have r7 := r'.mono (Same.newO (o' := .dK []) hd)
    refine useE r7 (de_var 1 c') fun v8 H8 s8 v8' => ?_
    have e8 := v8'.is
    subst e8
    have el8 : H8 l = some (.lst (ms.map V.int)) := s8 _ _ (by rw [upd_ne (ne_of_none (t1 _ _ (s4 _ _ el3)) hd)]; exact t1 _ _ (s4 _ _ el3))
    refine ⟨l, ms.map V.int, rfl, .inl (.inl el8), fun cl hcl => ?_⟩
    have s9 : Same H8 (upd H8 cl (.lst (ms.map V.int).reverse)) := Same.newO hcl
    refine useE (r7.mono (s8.trans s9)) (de_var 2 c') fun v10 H10 s10 v10' => ?_
    have e10 := v10'.int
    subst e10
    have hd8 : H8 d = some (.dK []) := s8 _ _ upd_same
    have hd10 : H10 d = some (.dK []) := s10 _ _ (s9 _ _ hd8)
    have hc10 : H10 cl = some (.lst (ms.map V.int).reverse) := s10 _ _ upd_same
    refine ⟨hd10, [(.inr "cells", .ref cl), (.inr "stirred", .int s), (.inr "turn", .int 0)], rfl, show 3 ≤ 15 by decide, ?_⟩
    have dcl : cl ≠ d := by
      intro z
      subst z
      rw [hd8] at hcl
      cases hcl
    have em : mergeK [] [(.inr "cells", .ref cl), (.inr "stirred", .int s), (.inr "turn", .int 0)] = deckL cl s 0 := by
      have k1 : ¬ ((Sum.inr "cells" : Key) = .inr "stirred") := dk1
      have k2 : ¬ ((Sum.inr "cells" : Key) = .inr "turn") := dk2
      have k3 : ¬ ((Sum.inr "stirred" : Key) = .inr "turn") := dk3
      simp [mergeK, putK, deckL, k1, k2, k3]
    have h0d : H d = none := ((s2.trans s3).trans (s4.trans t1)).free hd
    refine q d cl _ (Same.mut (((((s2.trans s3).trans s4).trans t1).trans (Same.newO (o' := .dK []) hd)).trans ((s8.trans s9).trans s10)) h0d) ⟨s, 0, ms.reverse, by rw [upd_same, em], by rw [upd_ne dcl, hc10, List.map_reverse], Int.le_refl 0, by decide, by rw [List.length_reverse]; omega, h0, h1⟩
/-! ### a draw -/
def R_draw (as : List A) (cost : Nat) (P : A → Prop) : Prop := ∃ b : Int, as = [aI b] ∧ 0 < b ∧ b < 1073741824 ∧ cost = 1 ∧ P = fun z => ∃ i : Int, z = aI i ∧ 0 ≤ i ∧ i < b
theorem S_draw : FnScope ["_law_deck_here", "_law_below", "_law_stirred", "_law_cell"] ["_law_deck_here", "_law_below"] (defScope s_law_draw) := ⟨rfl, rfl, rfl, by decide +kernel, rfl, by decide +kernel, by decide +kernel⟩
theorem boot_ge18 : (10 : Int) ^ (18 : Int).toNat = 1000000000000000000 := by decide
theorem ok_draw (T : Txt g) (F : DefIn g "_law_draw" s_law_draw) : Def1 g 1 "_law_draw" (spK g 1 R_draw) := by
  obtain ⟨f, fd, F, hm⟩ := F
  refine def_D F hm (F.bindsN (ps := ["_law_deck_here", "_law_below"]) fun _ _ _ _ _ _ us hl => match us, hl with | [_, _], _ => rfl) S_draw T rfl fun X c d cl as k cost P hR hl hk σ H Q dk r q => ?_
  obtain ⟨b, rfl, hb0, hb1, rfl, rfl⟩ := hR
  have c' := c.toCxk
  have hne := dk.ne
  obtain ⟨s, t, ns, ed, ec, ht0, htk, hlen, hs0, hs1⟩ := dk.ex
  have ro := r.toOb 0 rfl ed
  -- turn
  refine wB_cons (ws_dputK (z := aI (t + 1)) c ro (de_var 0 c') de_str (kStr "turn") (de_add (de_dgetS (v := .int t) c' (de_var 0 c') de_str (.inl rfl) (deck_turn cl s t) fun H => .d (.int _)) de_int) (by show 3 ≤ 1000; decide) fun v H1 b1 e1 v1 => ?_)
  have ev := (v1 rfl).int
  subst ev
  rw [deck_put] at e1
  have k1 : Kp H H1 := b1.kp ed rfl
  have ec1 := b1 _ _ (Ne.symm hne) ec
  have bb1 : But2 d cl H H1 := But2.l b1
  have r1 := r.kp k1 rfl
  have ro1 := r1.toOb 0 rfl e1
  have turn : ∀ {Γ : List (Option A)} {pos p2 p3 : Pos} {j : Nat}, DE g X (.Name "_law_deck_here" p2) Γ (.ob d (.dK (deckL cl s (t + 1)))) → DE g X (.Subscript (.Name "_law_deck_here" p2) (.Constant (.str "turn") j p3) pos) Γ (aI (t + 1)) := fun h => de_dgetS (v := .int (t + 1)) c' h de_str (.inl rfl) (deck_turn cl s (t + 1)) fun H => .d (.int _)
  refine wB_cons (ws_asg 2 c ro1 (de_add (de_dgetS (v := .int s) (z := aI s) c' (de_var 0 c') de_str (.inl rfl) (deck_stirred cl s (t + 1)) fun H => .d (.int _)) (de_mul (de_mul de_int (turn (de_var 0 c')) (.inl ⟨by decide, by decide⟩)) (turn (de_var 0 c')) (.inr ⟨by omega, by omega⟩))) fun σ2 H2 s2 r2 => ?_)
  have e2 := s2 _ _ e1
  have ec2 := s2 _ _ ec1
  have bb2 := bb1.trans (But2.of s2)
  -- the tail
  have tail : ∀ (st : Int) (σ' : L2.St) (H' : Hp) (ns' : List Int), But2 d cl H H' → H' d = some (.dK (deckL cl s (t + 1))) → H' cl = some (.lst (ns'.map V.int)) → ns'.length ≤ 63 → Rel g H' σ' [some (.ob d (.dK (deckL cl s (t + 1)))), some (aI b), some (aI st), none] →
      wB X (((defBody s_law_draw).drop 3)) { nx := fun _ H' => Q .non H', rt := Q } σ' H' := by
    intro st σ' H' ns' bb e' ec' hl' r'
    refine wB_cons (ws_asg 2 c r' (de_mod (de_intI c' (de_add (de_mul (de_mod (de_var 2 c') de_int (by decide)) de_int (.inr ⟨by decide, by decide⟩)) (turn (de_var 0 c')))) de_int (by decide)) fun σ3 H3 s3 r3 => ?_)
    refine wB_cons (ws_asg 2 c r3 (de_mod (de_intI c' (de_add (de_add (de_mul (de_var 2 c') (de_var 2 c') (.inl ⟨?_, ?_⟩)) (de_mul de_int (turn (de_var 0 c')) (.inl ⟨by decide, by decide⟩))) de_int)) de_int (by decide)) fun σ4 H4 s4 r4 => ?_)
    · exact Int.lt_of_lt_of_le (by decide) (Int.emod_nonneg _ (by decide))
    · exact Int.lt_trans (Int.emod_lt_of_pos _ (by decide)) (by decide)
    refine wB_cons (ws_ret r4 (de_mod (de_fdiv (de_mod (de_intI c' (de_mul (de_var 2 c') de_int (.inr ⟨by decide, by decide⟩))) de_int (by decide)) de_int ⟨by decide, by decide⟩) (de_var 1 c') hb0) fun v H5 s5 v5 => ?_)
    have sm := (s3.trans s4).trans s5
    exact q v H5 _ ⟨_, rfl, Int.emod_nonneg _ (by omega), Int.emod_lt_of_pos _ hb0⟩ (bb.trans (But2.of sm)) ⟨s, t + 1, ns', sm _ _ e', sm _ _ ec', by omega, by omega, hl', hs0, hs1⟩ v5
  -- cells
  have r2' : Rel g H2 σ2 [some (.ob d (.dK (deckL cl s (t + 1)))), some (aI b), some (aI (s + 50021 * (t + 1) * (t + 1))), none] := r2
  have cells : ∀ {Γ : List (Option A)} {pos p2 p3 : Pos} {j : Nat}, DE g X (.Name "_law_deck_here" p2) Γ (.ob d (.dK (deckL cl s (t + 1)))) → DE g X (.Subscript (.Name "_law_deck_here" p2) (.Constant (.str "cells") j p3) pos) Γ (.obj (.ref cl)) := fun h => de_dgetS (v := .ref cl) c' h de_str (.inl rfl) (deck_cells cl s (t + 1)) fun H => .obj _
  refine wB_cons ⟨_, ps_if (pt_cmpR (c_neD c') pe_w pe_w (nomark _)) pb_w pb_w, cells (de_var 0 c') σ2 H2 _ r2' fun v3 H3 s3 v3' => ?_⟩
  have e3 := v3'.is
  subst e3
  refine (dl_lst da_nil).de σ2 H3 _ (r2'.mono s3) fun v4 H4 s4 v4' => ?_
  have ec4 := s4 _ _ (s3 _ _ ec2)
  have hsh : ∀ x ∈ ns.map NestedKey.num, Shn 50 x := fun x hx => by
    obtain ⟨y, _, rfl⟩ := List.mem_map.mp hx
    exact (shn_num y).up (by decide)
  refine rd_neL hsh H4 _ _ _ (.ls ec4 (AVs.of_dvs (DVs.of_ints ns))) v4' fun w H5 s5 w5 => ⟨_, w5.bool, ?_⟩
  have s25 := (s3.trans s4).trans s5
  have e5 := s25 _ _ e2
  have ec5 := s25 _ _ ec2
  have bb5 := bb2.trans (But2.of s25)
  have r5 := r2'.mono s25
  by_cases hns : ns = []
  · subst hns
    show (if (!decide (([] : List Int).map NestedKey.num = [])) = true then _ else _)
    rw [if_neg (by simp)]
    exact wB_nil (tail _ σ2 H5 [] bb5 e5 ec5 (by simp) r5)
  · have hnn : ns.map NestedKey.num ≠ [] := fun z => hns (List.map_eq_nil_iff.mp z)
    show (if (!decide (ns.map NestedKey.num = [])) = true then _ else _)
    rw [if_pos (by simp [hns])]
    -- pop
    obtain ⟨ms, x, rfl⟩ : ∃ ms x, ns = ms ++ [x] := ⟨ns.dropLast, ns.getLast hns, (List.dropLast_concat_getLast hns).symm⟩
    refine wB_cons (wS_of (ps_set c.ndX (c'.at_ (i := 3) rfl) (c'.loc (.inl rfl)) (pe_bm0 PySem.F.plainAttrs_list PySem.F.slot_list_pop PySem.F.type_list_pop mt_pop pe_w) rfl (.inl (c.fn _))) ?_)
    refine cells (de_var 0 c') σ2 H5 _ r5 fun v6 H6 s6 v6' => ?_
    have e6 := v6'.is
    subst e6
    have ec6 := s6 _ _ ec5
    refine ⟨.inl ⟨rfl, _, .inl (.inl ec6)⟩, cl, (ms ++ [x]).map V.int, .int x, rfl, rfl, ec6, by simp, ?_⟩
    have edl : ((ms ++ [x]).map V.int).dropLast = ms.map V.int := by rw [List.map_append]; simp
    rw [edl]
    generalize hH7 : upd H6 cl (.lst (ms.map V.int)) = H7
    have b7 : But cl H6 H7 := fun a o hne e => by rw [← hH7, upd_ne hne]; exact e
    have ec7 : H7 cl = some (.lst (ms.map V.int)) := by rw [← hH7]; exact upd_same
    have ed7 : H7 d = some (.dK (deckL cl s (t + 1))) := b7 _ _ hne (s6 _ _ e5)
    have k7 : Kp H6 H7 := b7.kp ec6 rfl
    have bb7 : But2 d cl H H7 := (bb5.trans (But2.of s6)).trans (But2.r b7)
    have rr : Rel g H6 σ2 [some (.obj (.ref d)), some (aI b), some (aI (s + 50021 * (t + 1) * (t + 1))), none] := (r5.mono s6).unOb 0 rfl
    have r7 : Rel g H7 _ _ := ((rr.kp k7 rfl).set 3 (.d (.int x)))
    have hml : ms.length ≤ 62 := by rw [List.length_append] at hlen; simp at hlen; omega
    have r7o := r7.toOb 0 rfl ed7
    refine wB_cons (ws_if r7o (dt_ge (de_var 3 c') (de_pow de_int de_int ⟨by decide, by decide, by decide⟩)) (fun hbig H8 s8 r8 => ?_) fun hsm H8 s8 r8 => wB_nil ?_)
    · have ec8 := s8 _ _ ec7
      have ed8 := s8 _ _ ed7
      refine wB_cons (ws_app (z := aI (x / b)) (l := cl) c r8 (cells (de_var 0 c')) (de_fdiv (de_var 3 c') (de_var 1 c') ⟨hb0, hb1⟩) ec8 (by rw [List.length_map]; omega) fun w H9 b9 e9 w9 _ => ?_)
      have ed9 := b9 _ _ hne ed8
      have ew := (w9 rfl).int
      subst ew
      have r9 : Rel g H9 _ [some (.obj (.ref d)), some (aI b), some (aI (s + 50021 * (t + 1) * (t + 1))), some (aI x)] := (r7.mono s8).kp (b9.kp ec8 rfl) rfl
      refine wB_cons (ws_ret r9 (de_mod (de_intI c' (de_var 3 c')) (de_var 1 c') hb0) fun v H10 s10 v10 => ?_)
      refine q v H10 _ ⟨_, rfl, Int.emod_nonneg _ (by omega), Int.emod_lt_of_pos _ hb0⟩ (((bb7.trans (But2.of s8)).trans (But2.r b9)).trans (But2.of s10)) ⟨s, t + 1, ms ++ [x / b], s10 _ _ ed9, ?_, by omega, by omega, by simp; omega, hs0, hs1⟩ v10
      have := s10 _ _ e9
      rw [this, List.map_append]
      rfl
    · have r8' := r8
      refine wB_cons (ws_asg 2 c r8 (de_add (de_var 2 c') (de_mod (de_intI c' (de_var 3 c')) de_int (by decide))) fun σ9 H9 s9 r9 => wB_nil ?_)
      exact tail _ σ9 H9 ms ((bb7.trans (But2.of s8)).trans (But2.of s9)) (s9 _ _ (s8 _ _ ed7)) (s9 _ _ (s8 _ _ ec7)) (by omega) (r9.sub (sub_eq (sub_eq (sub_eq (sub_no sub_nil)))))
abbrev DrawIs (g : Cfg) : Prop := Def1 g 1 "_law_draw" (spK g 1 R_draw)
/-- _law_draw(deck, below) -/
theorem ke_draw {N : List Str} {sc : Scope} {X : Cx} {j k k' : Nat} {Γ : List (Option A)} {e a : Expr} {pos p : Pos} {d c : Addr} {b : Int} {P : A → Prop} (ct : Cxk g N sc j X) (W : DrawIs g) (hj : 1 ≤ j) (hd : DE g X e Γ (.obj (.ref d))) (ha : DE g X a Γ (aI b)) (hb : 0 < b ∧ b < 1073741824) (hk : k' + 1 = k) (hP : ∀ i : Int, 0 ≤ i → i < b → P (aI i)) (hg : GlS sc "_law_draw" := by rfl)
    (h2 : starEach [a] X.env = (false, eval a X.env) :: starEach [] X.env := by rfl) (he : starEach [e, a] X.env = (false, eval e X.env) :: starEach [a] X.env := by rfl) (hpl : (backTo pos (starEach [a] X.env)).any (·.1) = false := by rfl) :
    KE g X (.Call (.Name "_law_draw" p) [e, a] [] pos) Γ d c k k' P :=
  (ke_call ct W hj hd (da_cons ha da_nil h2) ⟨b, rfl, hb.1, hb.2, rfl, rfl⟩ (by omega) (by omega) (hg := hg) (he := he) (hpl := hpl)).mono fun z ⟨i, hz, h0, h1⟩ => hz ▸ hP i h0 h1
end
end K85

/-! W14: picks, lists, dated sets drawn; turned. -/
namespace K85
open PySem PySem.Spec PyProof.Rows L2
section
variable {g : Cfg}
def R_pick (as : List A) (cost : Nat) (P : A → Prop) : Prop := ∃ ds : List Dt, as = [.d (.tup ds)] ∧ ds ≠ [] ∧ ds.length ≤ 1000 ∧ cost = 1 ∧ P = fun z => ∃ y ∈ ds, z = .d y
theorem S_pick : FnScope ["_law_deck_here", "_law_some"] ["_law_deck_here", "_law_some"] (defScope s_law_pick) := ⟨rfl, rfl, rfl, by decide +kernel, rfl, by decide +kernel, by decide +kernel⟩
abbrev PickIs (g : Cfg) : Prop := Def1 g 2 "_law_pick" (spK g 1 R_pick)
theorem atI_pick {ds : List Dt} {i : Int} (h0 : 0 ≤ i) (h1 : i < (ds.length : Int)) : ∃ y, atI ds i = some y ∧ y ∈ ds := by
  have hi : i.toNat < ds.length := by omega
  exact ⟨ds[i.toNat], atI_get h0 (List.getElem?_eq_getElem hi), List.getElem_mem hi⟩
theorem ok_pick (T : Txt g) (F : DefIn g "_law_pick" s_law_pick) (W : DrawIs g) : PickIs g := by
  obtain ⟨f, fd, F, hm⟩ := F
  refine def_D F hm (F.bindsN (ps := ["_law_deck_here", "_law_some"]) fun _ _ _ _ _ _ us hl => match us, hl with | [_, _], _ => rfl) S_pick T rfl fun X c d cl as k cost P hR hl hk σ H Q dk r q => ?_
  obtain ⟨ds, rfl, hne, hz, rfl, rfl⟩ := hR
  have c' := c.toCxk
  have hpos := List.length_pos_iff.mpr hne
  exact wB_cons (ws_retK (k := k) (k' := k - 1) r dk (ke_ix (P := fun z => ∃ y ∈ ds, z = .d y) c' (de_var 1 c') (ke_draw c' W (by decide) (de_var 0 c') (de_lenT c' (de_var 1 c')) ⟨by omega, by omega⟩ (by omega) fun i h0 h1 => ⟨i, rfl, by
    obtain ⟨y, e, hm⟩ := atI_pick h0 h1
    exact ⟨y, e, y, hm, rfl⟩⟩)) q)
theorem ke_pick {N : List Str} {sc : Scope} {X : Cx} {j k k' : Nat} {Γ : List (Option A)} {e a : Expr} {pos p : Pos} {d c : Addr} {ds : List Dt} {P : A → Prop} (ct : Cxk g N sc j X) (W : PickIs g) (hj : 2 ≤ j) (hd : DE g X e Γ (.obj (.ref d))) (ha : DE g X a Γ (.d (.tup ds))) (hne : ds ≠ []) (hz : ds.length ≤ 1000) (hk : k' + 1 = k) (hP : ∀ y ∈ ds, P (.d y)) (hg : GlS sc "_law_pick" := by rfl)
    (h2 : starEach [a] X.env = (false, eval a X.env) :: starEach [] X.env := by rfl) (he : starEach [e, a] X.env = (false, eval e X.env) :: starEach [a] X.env := by rfl) (hpl : (backTo pos (starEach [a] X.env)).any (·.1) = false := by rfl) :
    KE g X (.Call (.Name "_law_pick" p) [e, a] [] pos) Γ d c k k' P :=
  (ke_call ct W hj hd (da_cons ha da_nil h2) ⟨ds, rfl, hne, hz, rfl, rfl⟩ (by omega) (by omega) (hg := hg) (he := he) (hpl := hpl)).mono fun z ⟨y, hy, h⟩ => h ▸ hP y hy
/-! lists drawn -/
def R_lists (as : List A) (cost : Nat) (P : A → Prop) : Prop := ∃ n : Nat, (n = 2 ∨ n = 3) ∧ as = [aI n] ∧ cost = 9 ∧ P = fun z => ∃ rows : List (List Int), z = .d (.tup (rows.map dSet)) ∧ rows.length ≤ 2 ∧ ∀ row ∈ rows, IsRow n row
theorem S_lists : FnScope ["_law_deck_here", "_law_offers", "_law_rows", "_law_turn", "_law_left", "_law_row", "_law_go", "_law_x", "_law_y"] ["_law_deck_here", "_law_offers"] (defScope s_law_lists) := ⟨rfl, rfl, rfl, by decide +kernel, rfl, by decide +kernel, by decide +kernel⟩
theorem rngI_len (n : Nat) : (rngI n).length = n := by unfold rngI; simp
theorem nodup_rem {xs : List Int} {x : Int} (h : xs.Nodup) (hx : x ∈ xs) : (xs.filter fun y => !decide (y = x)).length + 1 = xs.length := by
  induction xs with
  | nil => simp at hx
  | cons y ys ih =>
    have h' := List.nodup_cons.mp h
    rw [List.filter_cons]
    by_cases e : y = x
    · subst e
      have hall : ∀ z ∈ ys, (!decide (z = y)) = true := fun z hz => by
        have : z ≠ y := fun q => h'.1 (q ▸ hz)
        simp [this]
      rw [List.filter_eq_self.mpr hall]
      simp
    · have hx' : x ∈ ys := by
        rcases List.mem_cons.mp hx with q | q
        · exact absurd q.symm e
        · exact q
      have := ih h'.2 hx'
      simp [e]
      omega
theorem ok_lists (T : Txt g) (F : DefIn g "_law_lists" s_law_lists) (W : DrawIs g) (WP : PickIs g) : Def1 g 3 "_law_lists" (spK g 1 R_lists) := by
  obtain ⟨f, fd, F, hm⟩ := F
  refine def_D F hm (F.bindsN (ps := ["_law_deck_here", "_law_offers"]) fun _ _ _ _ _ _ us hl => match us, hl with | [_, _], _ => rfl) S_lists T rfl fun X c d cl as k cost P hR hl hk σ H Q dk r q => ?_
  obtain ⟨n, hn, rfl, rfl, rfl⟩ := hR
  have c' := c.toCxk
  refine wB_cons (ws_asg 2 c r (de_tup (ds := []) da_nil) fun σ1 H1 s1 r1 => ?_)
  have dk1 := dk.same s1
  refine wB_cons (ws_forK (k' := k - 1) (P := fun z => ∃ m : Nat, z = aI m ∧ m ≤ 2) c r1 dk1 (ke_add de_int (ke_draw (k' := k - 1) c' W (by decide) (de_var 0 c') de_int ⟨by decide, by decide⟩ (by omega) fun i h0 h1 => ⟨i, rfl, (1 + i).toNat, by rw [show (((1 + i).toNat : Nat) : Int) = 1 + i by omega], by omega, (1 + i).toNat, by rw [show (((1 + i).toNat : Nat) : Int) = 1 + i by omega], by omega⟩)) (pg_ND (i := 3) c rfl (.inl rfl)) fun m H2 ⟨m', em, hm2⟩ b2 d2 => ?_)
  have em' : m = m' := by
    have : (m : Int) = (m' : Int) := by
      injection em with e1
      injection e1
    omega
  subst em'
  have r2 := r1.kp (b2.kp dk1.soft.1 dk1.soft.2) rfl
  refine ⟨fun i σ' H' => But2 d cl H H' ∧ DeckAt H' d cl (k - 1 - 4 * i) ∧ ∃ rows : List (List Int), rows.length = i ∧ (∀ row ∈ rows, IsRow n row) ∧ Rel g H' σ' [some (.obj (.ref d)), some (aI n), some (.d (.tup (rows.map dSet))), none, none, none, none, none, none],
    ⟨(But2.of s1).trans b2, by simpa using d2, [], rfl, fun row h => by simp at h, r2⟩, ?_, ?_⟩
  · rintro i σ3 H3 v3 hi ⟨b3, d3, rows, hri, hrows, r3⟩ v3'
    have r4 := r3.set 3 v3'
    refine wB_cons (ws_par 4 5 c (useE r4 (de_tupRg c' (de_var 1 c') (by omega)) fun v5 H5 s5 w5 => useE (r4.mono s5) (de_tup (ds := []) da_nil) fun v6 H6 s6 w6 => ?_))
    have r6 : Rel g H6 _ _ := ((r4.mono (s5.trans s6)).set 4 (w5.mono s6)).set 5 w6
    have d6 := d3.same (s5.trans s6)
    refine wB_cons (ws_forK (k' := k - 1 - 4 * i - 1) (P := fun z => ∃ m : Nat, z = aI m ∧ m ≤ n) c r6 d6 (ke_add de_int (ke_draw (k' := k - 1 - 4 * i - 1) c' W (by decide) (de_var 0 c') (de_var 1 c') ⟨by omega, by omega⟩ (by omega) fun i h0 h1 => ⟨i, rfl, (1 + i).toNat, by rw [show (((1 + i).toNat : Nat) : Int) = 1 + i by omega], by omega, (1 + i).toNat, by rw [show (((1 + i).toNat : Nat) : Int) = 1 + i by omega], by omega⟩)) (pg_ND (i := 6) c rfl (.inl rfl)) fun m2 H7 ⟨m2', em2, hm3⟩ b7 d7 => ?_)
    have em2' : m2 = m2' := by
      have : (m2 : Int) = (m2' : Int) := by
        injection em2 with e1
        injection e1
      omega
    subst em2'
    have r7 := r6.kp (b7.kp d6.soft.1 d6.soft.2) rfl
    refine ⟨fun j σ' H' => But2 d cl H H' ∧ DeckAt H' d cl (k - 1 - 4 * i - 1 - j) ∧ ∃ L row : List Int, L.Nodup ∧ L.length + j = n ∧ row.length = j ∧ (∀ x ∈ L, 0 ≤ x ∧ x < (n : Int)) ∧ (∀ x ∈ row, 0 ≤ x ∧ x < (n : Int)) ∧ row.Nodup ∧ (∀ x ∈ row, x ∉ L) ∧
        Rel g H' σ' [some (.obj (.ref d)), some (aI n), some (.d (.tup (rows.map dSet))), some (aI i), some (aSet L), some (aSet row), none, none, none],
      ⟨(b3.trans (But2.of (s5.trans s6))).trans b7, by simpa using d7, rngI n, [], asc_nodup (rngI_asc n), by rw [rngI_len]; rfl, rfl, fun x hx => mem_rngI.mp hx, fun x hx => by simp at hx, List.nodup_nil, fun x hx => by simp at hx, r7⟩, ?_, ?_⟩
    · rintro j σ8 H8 v8 hj ⟨b8, d8, L, row, hLn, hLl, hrl, hLr, hrr, hrn, hdis, r8⟩ v8'
      have r9 := r8.set 6 v8'
      have hLne : L.map NestedKey.num ≠ [] := fun z => by
        have := List.map_eq_nil_iff.mp z
        subst this
        simp at hLl
        omega
      refine wB_cons (ws_asgK (k' := k - 1 - 4 * i - 1 - (j + 1)) (P := fun z => ∃ x ∈ L, z = aI x) 7 c r9 d8 (ke_pick c' WP (by decide) (de_var 0 c') (de_var 4 c') hLne (by rw [List.length_map]; omega) (by omega) fun y hy => by
        obtain ⟨x, hx, rfl⟩ := List.mem_map.mp hy
        exact ⟨x, hx, rfl⟩) rfl (fun z σ10 H10 ⟨x, hx, ez⟩ b10 d10 r10 => ?_))
      subst ez
      have hxr := hLr x hx
      refine wB_cons (ws_par 4 5 c (useE r10 (z := aSet (L.filter fun y => !decide (y = x))) (de_tupI c' (DL.is (DC.dl (dc_comp (xs := L) (e := aI) (pr := fun y => !decide (y = x)) (f := aI) (own := [("_law_y", 8)]) (gt := gName 8) (Γx := fun y => [some (.obj (.ref d)), some (aI n), some (.d (.tup (rows.map dSet))), some (aI i), some (aSet L), some (aSet row), some (aI j), some (aI x), some (aI y)]) c'
        (di_set c' (de_var 4 c')).same (by decide +kernel) rfl (fun X' d => pg_N d rfl rfl) (fun x hx => tg_N (by simp)) (fun y hy X' d => dts_one (dt_neI (de_var 8 d) (de_var 7 d))) (fun y hy _ X' d => de_var 8 d) (fun _ _ => rfl) (by omega)) c') rfl)) fun v11 H11 s11 w11 => useE (r10.mono s11) (z := aSet (row ++ [x])) (DE.is (de_cat c' (de_var 5 c') (de_tup (ds := [.num x]) (da_cons (de_var 7 c') da_nil)) (by simp; omega)) (by simp [dSet])) fun v12 H12 s12 w12 => ?_))
      have r12 : Rel g H12 _ _ := ((r10.mono (s11.trans s12)).set 4 (w11.mono s12)).set 5 w12
      refine wB_nil ⟨(b8.trans b10).trans (But2.of (s11.trans s12)), d10.same (s11.trans s12), L.filter (fun y => !decide (y = x)), row ++ [x], ?_, ?_, ?_, fun y hy => hLr y (List.mem_filter.mp hy).1, fun y hy => ?_, ?_, fun y hy hyL => ?_, r12.sub (sub_eq (sub_eq (sub_eq (sub_eq (sub_eq (sub_eq (sub_no (sub_no (sub_no sub_nil)))))))))⟩
      · exact hLn.sublist List.filter_sublist
      · have := nodup_rem hLn hx
        omega
      · simp [hrl]
      · rcases List.mem_append.mp hy with h | h
        · exact hrr y h
        · simp at h
          subst h
          exact hxr
      · refine List.nodup_append.mpr ⟨hrn, by simp, fun a ha b hb => ?_⟩
        simp at hb
        subst hb
        intro z
        subst z
        exact hdis a ha hx
      · obtain ⟨h1, h2⟩ := List.mem_filter.mp hyL
        rcases List.mem_append.mp hy with h | h
        · exact hdis y h h1
        · simp at h h2
          exact h2 h
    · rintro σ8 H8 ⟨b8, d8, L, row, hLn, hLl, hrl, hLr, hrr, hrn, hdis, r8⟩
      refine wB_cons (ws_asg 2 c r8 (z := .d (.tup ((rows ++ [row]).map dSet))) (DE.is (de_cat c' (de_var 2 c') (de_tup (ds := [dSet row]) (da_cons (de_var 5 c') da_nil)) (by simp; omega)) (by simp)) fun σ9 H9 s9 r9 => wB_nil ⟨b8.trans (But2.of s9), (d8.same s9).less (by omega), rows ++ [row], by simp [hri], fun y hy => ?_, r9.sub (sub_eq (sub_eq (sub_eq (sub_no (sub_no (sub_no (sub_no (sub_no (sub_no sub_nil)))))))))⟩)
      rcases List.mem_append.mp hy with h | h
      · exact hrows y h
      · simp at h
        subst h
        exact ⟨hrn, hrr, by omega⟩
  · rintro σ3 H3 ⟨b3, d3, rows, hri, hrows, r3⟩
    exact wB_cons (ws_ret r3 (de_var 2 c') fun v4 H4 s4 v4' => q v4 H4 _ ⟨rows, rfl, by omega, hrows⟩ (b3.trans (But2.of s4)) ((d3.same s4).less (by omega)) v4')
/-! dated sets drawn -/
def R_ddated (as : List A) (cost : Nat) (P : A → Prop) : Prop := ∃ l : List Int, as = [aSet l] ∧ l.length ≤ 3 ∧ (∀ x ∈ l, 1 ≤ x ∧ x ≤ 99) ∧ cost = 3 ∧ P = fun z => ∃ D : Dts, z = aDat D ∧ IsDated l D
theorem S_ddated : FnScope ["_law_deck_here", "_law_lives", "_law_found", "_law_x", "_law_life", "_law_days"] ["_law_deck_here", "_law_lives"] (defScope s_law_dated) := ⟨rfl, rfl, rfl, by decide +kernel, rfl, by decide +kernel, by decide +kernel⟩
theorem ok_ddated (T : Txt g) (F : DefIn g "_law_dated" s_law_dated) (W : DrawIs g) : Def1 g 2 "_law_dated" (spK g 1 R_ddated) := by
  obtain ⟨f, fd, F, hm⟩ := F
  refine def_D F hm (F.bindsN (ps := ["_law_deck_here", "_law_lives"]) fun _ _ _ _ _ _ us hl => match us, hl with | [_, _], _ => rfl) S_ddated T rfl fun X c d cl as k cost P hR hl hk σ H Q dk r q => ?_
  obtain ⟨l, rfl, hlen, hlv, rfl, rfl⟩ := hR
  have c' := c.toCxk
  refine wB_cons (ws_asgL 2 c r (dl_lst da_nil) fun p xs σ1 H1 h0 s1 e1 v1 r1 => ?_)
  cases v1
  have dk1 := dk.same s1
  have dp : d ≠ p := by
    obtain ⟨o, e, _⟩ := dk.soft.1
    exact ne_of_none e h0
  have cp : cl ≠ p := by
    obtain ⟨o, e, _⟩ := dk.soft.2
    exact ne_of_none e h0
  refine wB_cons (ws_for c r1 (di_enT (ds := l.map .num) c' (de_var 1 c')) (pg_P c' (pg_ND (i := 3) c rfl (.inl rfl)) (pg_ND (i := 4) c rfl (.inl rfl))) fun H2 s2 => ?_)
  have nol : ∀ (D : Dts), ∀ a ∈ (D.map fun p => A.d (dPair p)), noLs a = true := fun D a ha => by
    obtain ⟨_, _, rfl⟩ := List.mem_map.mp ha
    rfl
  refine ⟨fun i σ' H' => But2 d cl H H' ∧ TK H2 H' ∧ DeckAt H' d cl (k - i) ∧ (∃ (D : Dts) (ys : List V), H' p = some (.lst ys) ∧ AVs g H' ys (D.map fun p => A.d (dPair p)) ∧ D.length ≤ i ∧ (D.map (·.1)).Pairwise (· < ·) ∧ ∀ q ∈ D, 0 ≤ q.1 ∧ q.1 < (i : Int) ∧ 1 ≤ q.2 ∧ q.2 ≤ oa l q.1) ∧ Rel g H' σ' [some (.obj (.ref d)), some (aSet l), some (.obj (.ref p)), none, none, none],
    ⟨But2.of (s1.trans s2), TK.refl _, dk1.same s2, ⟨[], [], s2 _ _ e1, .nil, Nat.le_refl _, List.Pairwise.nil, fun q hq => by simp at hq⟩, (r1.mono s2).sub (sub_eq (sub_eq (sub_eq (sub_no (sub_no (sub_no sub_nil))))))⟩, fun i σ' H' _ h => h.2.1, ?_, ?_⟩
  · rintro i dd σ3 H3 v3 H4 hd ⟨b3, t3, d3, ⟨D, ys, ep, vp, hDl, hDa, hDq⟩, r3⟩ s4 v3'
    obtain ⟨d', hd', rfl⟩ := mapIdx_get hd
    obtain ⟨x, hx, rfl⟩ := map_get hd'
    have hxm := hlv x (List.mem_of_getElem? hx)
    have hi : i < l.length := (List.getElem?_eq_some_iff.mp hx).1
    refine tg_P (vs := [3, 4]) (by simp) (by simp) σ3 H4 v3 _ (r3.mono s4) v3' fun σ5 r5 _ => ?_
    have d4 := d3.same s4
    refine wB_cons (ws_asgK (k' := k - (i + 1)) (P := fun z => ∃ m : Int, z = aI m ∧ 0 ≤ m ∧ m ≤ x) 5 c r5 d4 (ke_draw c' W (by decide) (de_var 0 c') (de_add (de_var 4 c') de_int) ⟨by omega, by omega⟩ (by omega) fun m h0 h1 => ⟨m, rfl, h0, by omega⟩) rfl (fun z σ6 H6 ⟨m, ez, hm0, hm1⟩ b6 d6 r6 => ?_))
    subst ez
    have k6 := b6.kp d4.soft.1 d4.soft.2
    have ep6 := b6 _ _ (Ne.symm dp) (Ne.symm cp) (s4 _ _ ep)
    have vp6 := (vp.mono s4).kp k6 (nol D)
    have hoa : oa l ((i : Nat) : Int) = x := by
      unfold oa
      rw [List.getD_eq_getElem?_getD, show ((i : Nat) : Int).toNat = i by omega, hx]
      rfl
    refine wB_cons (ws_if r6 (dt_gt (de_var 5 c') de_int) (fun ht H7 s7 r7 => ?_) fun hf H7 s7 r7 => wB_nil (wB_nil ⟨((b3.trans (But2.of s4)).trans b6).trans (But2.of s7), (t3.trans (TK.of s4)).trans (k6.tk.trans (TK.of s7)), d6.same s7, ⟨D, ys, s7 _ _ ep6, vp6.mono s7, by omega, hDa, fun q hq => ?_⟩, r7.sub (sub_eq (sub_eq (sub_eq (sub_no (sub_no (sub_no sub_nil))))))⟩))
    · have lp := vp6.length
      rw [List.length_map] at lp
      refine wB_cons (ws_app (z := .d (dPair ((i : Int), m))) c r7 (de_var 2 c') (de_tup (ds := [.num (i : Int), .num m]) (da_cons (de_var 3 c') (da_cons (de_var 5 c') da_nil))) (s7 _ _ ep6) (by omega) fun w H8 b8 e8 w8 r8 => wB_nil (wB_nil ?_))
      have k8 := b8.kp (s7 _ _ ep6) rfl
      have hm' : 0 < m := of_decide_eq_true ht
      refine ⟨?_, (t3.trans (TK.of s4)).trans (k6.tk.trans ((TK.of s7).trans k8.tk)), (d6.same s7).but b8 dp cp, ⟨D ++ [((i : Int), m)], _, e8, ?_, by simp; omega, ?_, fun q hq => ?_⟩, (r8 rfl).sub (sub_eq (sub_eq (sub_eq (sub_no (sub_no (sub_no sub_nil))))))⟩
      · intro a o h1 h2 e
        have hap : a ≠ p := ne_of_none e h0
        exact b8 a o hap (s7 _ _ (b6 a o h1 h2 (s4 _ _ (b3 a o h1 h2 e))))
      · rw [List.map_append]
        exact AVs.snoc ((vp6.mono s7).kp k8 (nol D)) (w8 rfl)
      · rw [List.map_append, List.pairwise_append]
        refine ⟨hDa, by simp, fun a ha b hb => ?_⟩
        obtain ⟨q, hq, rfl⟩ := List.mem_map.mp ha
        simp at hb
        subst hb
        exact (hDq q hq).2.1
      · rcases List.mem_append.mp hq with h | h
        · have := hDq q h
          exact ⟨this.1, by omega, this.2.2⟩
        · simp at h
          subst h
          refine ⟨by show (0 : Int) ≤ (i : Int); omega, by show (i : Int) < ((i + 1 : Nat) : Int); omega, by show 1 ≤ m; omega, ?_⟩
          show m ≤ oa l (i : Int)
          rw [hoa]
          exact hm1
    · have := hDq q hq
      exact ⟨this.1, by omega, this.2.2⟩
  · rintro σ3 H3 ⟨b3, t3, d3, ⟨D, ys, ep, vp, hDl, hDa, hDq⟩, r3⟩
    have en : ((l.map NestedKey.num).mapIdx fun i d => A.d (.tup [.num ((i : Nat) : Int), d])).length = l.length := by simp
    rw [en] at hDl hDq d3
    rw [← map_pairs] at vp
    have r4 := r3.toLs 2 rfl ep vp
    exact wB_cons (ws_ret r4 (de_tupleLs c' (de_var 2 c')) fun v5 H5 s5 v5' => q v5 H5 _ ⟨D, rfl, hDa, hDq⟩ (b3.trans (But2.of s5)) ((d3.same s5).less (by omega)) v5')
/-! turned -/
def R_turned (as : List A) (b : A) : Prop := ∃ xs os : List Int, as = [aSet xs, aSet os] ∧ xs.length ≤ 100 ∧ (∀ x ∈ xs, 0 ≤ x ∧ x < (os.length : Int)) ∧ b = aSet (sortI (xs.map (oa os)))
theorem S_turned : FnScope ["_law_some", "_law_order", "_law_x"] ["_law_some", "_law_order"] (defScope s_law_turned) := ⟨rfl, rfl, rfl, by decide +kernel, rfl, by decide +kernel, by decide +kernel⟩
theorem ok_turned (T : Txt g) (F : DefIn g "_law_turned" s_law_turned) : Def1 g 1 "_law_turned" (spP g 2 R_turned) := by
  obtain ⟨f, fd, F, hm⟩ := F
  refine def_P F hm (F.bindsN (ps := ["_law_some", "_law_order"]) fun _ _ _ _ _ _ us hl => match us, hl with | [_, _], _ => rfl) S_turned T rfl fun X c as b hR hl σ H Q r q => ?_
  obtain ⟨xs, os, rfl, hz, hx, rfl⟩ := hR
  have c' := c.toCxk
  exact wB_cons (ws_ret r (de_tupI c' (dl_sortedI (xs := xs.map (oa os)) c' (DL.is (DC.dl (dc_comp (xs := xs) (e := aI) (pr := fun _ => true) (f := fun k => aI (oa os k)) (own := [("_law_x", 2)]) (gt := gName 2) (Γx := fun x => [some (aSet xs), some (aSet os), some (aI x)]) c'
      (di_set c' (de_var 0 c')).same (by decide +kernel) rfl (fun X' d => pg_N d rfl rfl) (fun x hx => tg_N (by simp)) (fun x hx X' d => dts_nil)
      (fun x hm _ X' d => de_ix d (de_var 1 d) (de_var 2 d) (d := .num (oa os x)) (atI_map (atI_get (hx x hm).1 (oaGet (hx x hm).1 (hx x hm).2)))) (fun _ _ => rfl) (by omega)) c') (by rw [List.filter_eq_self.mpr (fun _ _ => rfl), List.map_map]; rfl)) (by rw [List.length_map]; omega))) q)
end
end K85

/-! L17: comprehensions that draw. -/
namespace K85
open PySem PySem.Spec PyProof.Rows L2
/-- an expression's tests that draw, one of B -/
def KTs (g : Cfg) (X : Cx) (ifs : List Expr) (Γ : List (Option A)) (d c : Addr) (k k' : Nat) (B : Bool → Prop) : Prop := ∀ (σ : L2.St) (H : Hp) (Q : Bool → Hp → Prop), Rel g H σ Γ → DeckAt H d c k → (∀ b H1, B b → But2 d c H H1 → DeckAt H1 d c k' → Q b H1) → wTs X ifs σ H Q
/-- a new list, one of I -/
def KL (g : Cfg) (X : Cx) (e : Expr) (Γ : List (Option A)) (d c : Addr) (k k' : Nat) (I : List A → Prop) : Prop := ∀ (σ : L2.St) (H : Hp) (Q : VK), Rel g H σ Γ → DeckAt H d c k → (∀ p xs H1 zs, I zs → H p = none → But2 d c H H1 → DeckAt H1 d c k' → H1 p = some (.lst xs) → AVs g H1 xs zs → Q (.ref p) H1) → wE X e σ H Q
section
variable {g : Cfg} {N : List Str} {sc : Scope} {X : Cx} {j k k' : Nat} {Γ : List (Option A)} {e a b o tg iter elt : Expr} {es ifs : List Expr} {x : Str} {pos px p : Pos} {d c : Addr} {P : A → Prop} {D : Ends} {σ : L2.St} {H : Hp}
theorem kts_nil : KTs g X [] Γ d c k k (fun b => b = true) := fun σ H Q r dk q => ⟨_, pts_nil, q true H rfl (But2.of (Same.refl H)) dk⟩
theorem kts_one (h : KT g X e Γ d c k k') : KTs g X [e] Γ d c k k' (fun _ => True) := fun σ H Q r dk q => ⟨_, pts_one pt_w, h σ H _ r dk fun b H1 b1 d1 => q b H1 trivial b1 d1⟩
theorem ke_of (h : DE g X e Γ a') : KE g X e Γ d c k k (fun z => z = a') := fun σ H Q r dk q => h σ H Q r fun v H1 s1 v1 => q v H1 _ rfl (But2.of s1) (dk.same s1) v1
theorem kc_comp {α : Type} {xs : List α} {e : α → A} {own : List (Str × Nat)} {scope : Scope} {gt : TG} {Γx : α → List (Option A)} {w1 w2 : Nat} {B : Bool → Prop} {P : α → A → Prop} (I : Nat → List A → Prop) (ct : Cxk g N sc j X)
    (hi : DI g X tg iter Γ TK (xs.map e)) (ok : blkC N sc scope own = true) (hk : scope.kind = .function) (hΓ : Γ.all noLsO = true) (hΓx : ∀ x ∈ xs, (Γx x).all noLsO = true)
    (hpg : ∀ X', Cxk g N (relS scope sc) j X' → PG X' tg gt) (hgt : ∀ x ∈ xs, TgSem g gt (own.map (·.2)) (wipeΓ Γ (own.map (·.2))) (e x) (Γx x))
    (ht : ∀ x ∈ xs, ∀ X' kk, Cxk g N (relS scope sc) j X' → w1 + w2 ≤ kk → KTs g X' ifs (Γx x) d c kk (kk - w1) B)
    (he : ∀ x ∈ xs, ∀ X' kk, Cxk g N (relS scope sc) j X' → w2 ≤ kk → KE g X' elt (Γx x) d c kk (kk - w2) (P x)) (hn : ∀ x z, P x z → noLs z = true)
    (I0 : I 0 []) (I1 : ∀ i x zs z, xs[i]? = some x → I i zs → B true → P x z → I (i + 1) (zs ++ [z])) (I2 : ∀ i x zs, xs[i]? = some x → I i zs → B false → I (i + 1) zs) (hlen : ∀ i zs, I i zs → zs.length ≤ i ∧ ∀ z ∈ zs, noLs z = true)
    (hw : k' + (w1 + w2) * xs.length ≤ k) (hz : xs.length ≤ 1000)
    (hs : ∀ z, foldedSetIterable iter X.env z = pure z := by intro _; rfl) : KL g X (.ListComp elt [⟨tg, iter, ifs, 0⟩] scope pos) Γ d c k k' (I xs.length) := fun σ H Q r dk q => by
  let tt : TT := fun σ H Q => ∀ (s : Shared) (H0 : Hp) (C : Addr) (cl : List (Str × Addr)) (fp : List Addr), wTs (X.blk s H0 scope (compEnvC scope cl C X.env) fp) ifs σ H Q
  let te : TE := fun σ H Q => ∀ (s : Shared) (H0 : Hp) (C : Addr) (cl : List (Str × Addr)) (fp : List Addr), wE (X.blk s H0 scope (compEnvC scope cl C X.env) fp) elt σ H Q
  have cb : ∀ (s : Shared) (H0 : Hp) (C : Addr) (cl : List (Str × Addr)) (fp : List Addr), Cxk g N (relS scope sc) j (X.blk s H0 scope (compEnvC scope cl C X.env) fp) := fun s H0 C cl fp =>
    ⟨ct.P, ct.w, ct.K, ct.mg, ct.base, ct.calm, ct.room, ct.T, ct.eN, rel_scope ct scope cl C, hk, ct.nd⟩
  have ok' : BlkOk X.N X.env.scope scope own := by
    rw [ct.eN, ct.eS]
    exact blkOk_by ok
  refine LcP.pe ct ?_
  obtain ⟨wi, p1, w1'⟩ := hi σ H (fun J H1 => ∀ D, H1 D = none → ∃ W : Nat → Nat → Hp → Prop, (∃ m, W 0 m (upd H1 D (.lst []))) ∧ ∀ i m H, W i m H →
      (J.stop i H ∧ Q (.ref D) H) ∨ (J.go i H ∧ ∃ Nx : Hp → Prop, (∀ H', Nx H' → ∃ m', m' < m ∧ W (i + 1) m' H') ∧ ∀ x H', J.yld i H x H' → gt x (L2.wipe σ (own.map (·.2))) H' fun σ2 H2 => L2.wipe σ2 (own.map (·.2)) = L2.wipe σ (own.map (·.2)) ∧ tt σ2 H2 fun b H3 =>
        if b = true then te σ2 H3 fun y H4 => ∃ acc, H4 D = some (.lst acc) ∧ acc.length < sizeLine ∧ Nx (upd H4 D (.lst (acc ++ [y]))) else Nx H3)) r fun J H1 G s1 hG wk Da hD => by
    have hD0 : H Da = none := s1.free hD
    have dkH1 := dk.same s1
    have dD : d ≠ Da := by
      obtain ⟨o, e, _⟩ := dkH1.soft.1
      exact ne_of_none e hD
    have cD : c ≠ Da := by
      obtain ⟨o, e, _⟩ := dkH1.soft.2
      exact ne_of_none e hD
    let Pv : Nat → Hp → Prop := fun i H' => But2 d c H1 H' ∧ DeckAt H' d c (k - (w1 + w2) * i) ∧ ∃ acc zs, H' Da = some (.lst acc) ∧ AVs g H' acc zs ∧ I i zs
    have el : (xs.map e).length = xs.length := List.length_map ..
    have kp1 : ∀ {H'}, But2 d c H1 H' → Kp H1 H' := fun {H'} b => b.kp dkH1.soft.1 dkH1.soft.2
    refine ⟨fun i m H' => m = xs.length - i ∧ i ≤ xs.length ∧ Pv i H', ⟨xs.length, by simp, Nat.zero_le _, But2.of (Same.newO hD), by simpa using dkH1.same (Same.newO hD), [], [], upd_same, .nil, I0⟩, ?_⟩
    rintro i m H' ⟨rfl, hi', b1, d1, acc, zs, ea, ta, hI⟩
    by_cases hlt : i < xs.length
    · refine .inr ⟨wk.goes i H' (by rw [el]; exact hlt) (hG H' (kp1 b1).tk), Pv (i + 1), fun H'' p' => ⟨xs.length - (i + 1), by omega, rfl, hlt, p'⟩, fun v H'' y => ?_⟩
      obtain ⟨t2, dd, hd, vd⟩ := wk.yields i H' v H'' (by rw [el]; exact hlt) (hG H' (kp1 b1).tk) y
      rw [List.getElem?_map] at hd
      have hx : xs[i]? = some xs[i] := List.getElem?_eq_getElem hlt
      rw [hx] at hd
      have ed : e xs[i] = dd := Option.some.inj hd
      subst ed
      have hm : xs[i] ∈ xs := List.getElem_mem hlt
      have rr : Rel g H'' σ Γ := (((r.mono s1).kp (kp1 b1) hΓ).mono t2)
      refine hgt _ hm _ H'' v _ (rr.wipe _) vd fun σ2 r2 hw' => ⟨hw'.trans (wipe_wipe _ _), fun s H0 C cl fp => ?_⟩
      have hkk : w1 + w2 ≤ k - (w1 + w2) * i := by
        have h1 : (w1 + w2) * (i + 1) ≤ (w1 + w2) * xs.length := Nat.mul_le_mul_left _ hlt
        rw [Nat.mul_add, Nat.mul_one] at h1
        omega
      have d2 := d1.same t2
      have hl1 := hlen i zs hI
      have hal := ta.length
      refine ht _ hm _ (k - (w1 + w2) * i) (cb s H0 C cl fp) hkk σ2 H'' _ r2 d2 fun bb H3 hB b3 d3 => ?_
      have k3 : Kp H'' H3 := b3.kp d2.soft.1 d2.soft.2
      have ea3 : H3 Da = some (.lst acc) := b3 _ _ (Ne.symm dD) (Ne.symm cD) (t2 _ _ ea)
      have ta3 : AVs g H3 acc zs := (ta.mono t2).kp k3 hl1.2
      have b13 : But2 d c H1 H3 := (b1.trans (But2.of t2)).trans b3
      cases bb with
      | false =>
        refine ⟨b13, d3.less (by rw [Nat.mul_add, Nat.mul_one]; omega), acc, zs, ea3, ta3, I2 i _ zs hx hI hB⟩
      | true =>
        show te σ2 H3 _
        intro s' H0' C' cl' fp'
        refine he _ hm _ (k - (w1 + w2) * i - w1) (cb s' H0' C' cl' fp') (by omega) σ2 H3 _ (r2.kp k3 (hΓx _ hm)) d3 fun y4 H4 z hP b4 d4 v4 => ?_
        have k4 : Kp H3 H4 := b4.kp d3.soft.1 d3.soft.2
        have ea4 : H4 Da = some (.lst acc) := b4 _ _ (Ne.symm dD) (Ne.symm cD) ea3
        have ta4 := ta3.kp k4 hl1.2
        have kk5 : Kp H4 (upd H4 Da (.lst (acc ++ [y4]))) := Kp.up ea4 rfl
        refine ⟨acc, ea4, by rw [sizeLine_eq]; omega, ?_, ?_, acc ++ [y4], zs ++ [z], upd_same, AVs.snoc (ta4.kp kk5 hl1.2) (v4.kp kk5 (hn _ _ hP)), I1 i _ zs z hx hI hB hP⟩
        · intro b o h1 h2 e'
          have hbD : b ≠ Da := ne_of_none e' hD
          rw [upd_ne hbD]
          exact b4 _ _ h1 h2 (b13 b o h1 h2 e')
        · exact (d4.but (l := Da) (fun b o hb e' => by rw [upd_ne hb]; exact e') dD cD).less (by rw [Nat.mul_add, Nat.mul_one]; omega)
    · have ei : i = xs.length := by omega
      subst ei
      refine .inl ⟨by rw [← el]; exact wk.stops H' (hG H' (kp1 b1).tk), ?_⟩
      exact q Da acc H' zs hI hD0 ((But2.of s1).trans b1) (d1.less (by omega)) ea ta
  exact ⟨own, wi, gt, tt, te, p1, ok', (fun s H0 C cl fp => hpg _ (cb s H0 C cl fp)), (fun s H0 C cl fp => ⟨fun pins s' σ' H' Q' I' h' => pts_w.run pins s' σ' H' Q' I' (h' s H0 C cl fp)⟩), (fun s H0 C cl fp => ⟨fun pins s' σ' H' Q' I' h' => pe_w.run pins s' σ' H' Q' I' (h' s H0 C cl fp)⟩), hs, w1'⟩
/-- tuple(a list that is drawn) -/
theorem ke_tuple {I : List A → Prop} (ct : Cxk g N sc j X) (h : KL g X a Γ d c k k' I) (hI : ∀ zs, I zs → ∃ ns : List Int, zs = ns.map aI ∧ P (aSet ns)) (hg : GlS sc "tuple" := by rfl) (na : starEach [a] X.env = (false, eval a X.env) :: starEach [] X.env := by rfl) : KE g X (.Call (.Name "tuple" p) [a] [] pos) Γ d c k k' P := fun σ H Q r dk q =>
  ⟨_, pe_tupleOf (ct.gl hg) (ct.mgN ct.T.tuple) pe_w na, h σ H _ r dk fun l xs H1 zs hz h0 b1 d1 hl t => by
    obtain ⟨ns, rfl, hp⟩ := hI zs hz
    rw [← map_nums] at t
    exact .inl ⟨l, xs, rfl, .inl (.inl hl), fun p hp' => q _ _ _ hp (b1.trans (But2.of (Same.newO hp'))) (d1.same (Same.newO hp')) (.d (.tup upd_same ((AVs.dvs t).mono (TK.of (Same.newO hp')))))⟩⟩
/-- f(a, b), b drawn -/
theorem ke_call2 {R : List A → A → Prop} {P1 : A → Prop} {kk : Nat} {z0 : A} (ct : Cxk g N sc j X) (F : Def1 g kk x (spP g 2 R)) (hk : kk ≤ j) (ha : DE g X a Γ z0) (hb : KE g X b Γ d c k k' P1) (hz : noLs z0 = true) (hr : ∀ z, P1 z → ∃ r, R [z0, z] r ∧ P r) (hg : GlS sc x := by rfl)
    (hdb : (x == ("__debug__" : Str)) = false := by decide) (h1 : starEach [a, b] X.env = (false, eval a X.env) :: starEach [b] X.env := by rfl) (h2 : starEach [b] X.env = (false, eval b X.env) :: starEach [] X.env := by rfl) (hpl : (backTo pos (starEach [b] X.env)).any (·.1) = false := by rfl) :
    KE g X (.Call (.Name x p) [a, b] [] pos) Γ d c k k' P := fun σ H Q rl dk q =>
  ⟨_, C8.pe_c (ct.cal F) ct.room hk (ct.gl hg) pa_w hdb h1 hpl, wA_cons (ha σ H _ rl fun v H1 s1 v1 => wA_cons (hb σ H1 _ (rl.mono s1) (dk.same s1) fun u H2 z hP b2 d2 u2 => wA_nil (by
    obtain ⟨r, hR, hp⟩ := hr z hP
    rw [List.append_nil]
    have dk1 := (dk.same s1).soft
    exact ⟨rfl, [z0, z], r, .cons (v1.kp (b2.kp dk1.1 dk1.2) hz) (.cons u2 .nil), hR, fun w H3 s3 w3 => q w H3 r hp (((But2.of s1).trans b2).trans (But2.of s3)) (d2.same s3) w3⟩)) h2) h1⟩
theorem useK {Q : VK} (r : Rel g H σ Γ) (dk : DeckAt H d c k) (h : KE g X e Γ d c k k' P) (q : ∀ v H1 z, P z → But2 d c H H1 → DeckAt H1 d c k' → AV g H1 v z → Q v H1) : wE X e σ H Q := h σ H Q r dk q
/-- a slot that holds a value is told of -/
theorem Rel.re {v : V} {z : A} (r : Rel g H σ Γ) (i : Nat) (hΓ : Γ[i]? = some (some (.obj v))) (h : AV g H v z) : Rel g H σ (Γ.set i (some z)) := ⟨by rw [List.length_set]; exact r.len, fun j b e => by
  by_cases hj : i = j
  · subst hj
    have hi : i < Γ.length := (List.getElem?_eq_some_iff.mp hΓ).1
    rw [List.getElem?_set_self hi] at e
    have e' : z = b := Option.some.inj (Option.some.inj e)
    obtain ⟨w, e1, e2⟩ := r.at_ i _ hΓ
    have ev := e2.is
    subst ev
    exact ⟨_, e1, e' ▸ h⟩
  · rw [List.getElem?_set_ne hj] at e
    exact r.at_ j b e⟩
/-- len of a list by its place -/
theorem de_lenOb {l : Addr} {xs : List V} (ct : Cxk g N sc j X) (ha : DE g X a Γ (.ob l (.lst xs))) (hg : GlS sc "len" := by rfl) (h1 : starEach [a] X.env = (false, eval a X.env) :: starEach [] X.env := by rfl) : DE g X (.Call (.Name "len" p) [a] [] pos) Γ (aI xs.length) :=
  de_B ct (c_lenS ct) ct.T.len PySem.boot_len (da_cons ha da_nil h1) (fun H vs Q h q => by
    obtain ⟨v, rfl, h1⟩ := avs1 h
    obtain ⟨rfl, hl⟩ := h1.obAt
    exact ⟨l, xs, rfl, .inl (.inl (.inl hl)), q _ H (Same.refl H) (.d (.int _))⟩) hg (he := h1)
/-- over a list of numbers by its place -/
theorem di_ob {l : Addr} {ns : List Int} (h : DE g X iter Γ (.ob l (.lst (ns.map V.int)))) : DI g X tg iter Γ Same (ns.map aI) := fun σ H R r q =>
  ⟨_, pi_list pe_w, h σ H _ r fun v H1 s1 v1 => by
    obtain ⟨rfl, hl⟩ := v1.obAt
    refine ⟨l, rfl, ⟨_, .inl (.inl hl)⟩, q _ H1 (fun H' => H' l = some (.lst (ns.map V.int))) s1 (fun H' st => st _ _ hl) ?_⟩
    have e : (ns.map aI).length = (ns.map V.int).length := by rw [List.length_map, List.length_map]
    rw [e]
    refine walk_list.mono (fun H' w => .inl (.inl w)) fun i H' x H'' hi w y => ?_
    obtain ⟨rfl, y⟩ := y
    obtain ⟨k, e1, rfl⟩ := map_get y
    exact ⟨Same.refl _, aI k, by rw [List.getElem?_map, e1]; rfl, .d (.int _)⟩⟩
theorem de_eqI {i m : Int} (ha : DE g X a Γ (aI i)) (hb : DE g X b Γ (aI m)) : DE g X (.Compare a [.Eq] [b] pos) Γ (.bl (decide (i = m))) := de_cmp op_eq ha hb rd_eqI (nomark _)
end
end K85

/-! M2: list choosers: what is behind what a skyline leaves. -/
namespace K85
/-! ### the first of a row -/
theorem first1_iff {row s : List Int} {k : Int} : first1 row s = some k ↔ k ∈ row ∧ k ∈ s ∧ ∀ x ∈ row, x ∈ s → row.idxOf k ≤ row.idxOf x := by
  induction row with
  | nil => simp [first1]
  | cons y ys ih =>
    unfold first1 at ih ⊢
    rw [List.find?_cons]
    by_cases hy : y ∈ s
    · simp only [hy, decide_true]
      constructor
      · intro h
        have e := Option.some.inj h
        subst e
        exact ⟨List.mem_cons_self, hy, fun x _ _ => by simp [List.idxOf_cons]⟩
      · rintro ⟨h1, h2, h3⟩
        have := h3 y List.mem_cons_self hy
        simp only [List.idxOf_cons, beq_self_eq_true, cond_true] at this
        by_cases e : y = k
        · rw [e]
        · have e' : (y == k) = false := beq_eq_false_iff_ne.mpr e
          rw [e'] at this
          simp at this
    · simp only [hy, decide_false]
      rw [ih]
      constructor
      · rintro ⟨h1, h2, h3⟩
        have hyk : ¬ y = k := fun e => hy (e ▸ h2)
        refine ⟨List.mem_cons_of_mem _ h1, h2, fun x hx hxs => ?_⟩
        have hyx : ¬ y = x := fun e => hy (e ▸ hxs)
        rcases List.mem_cons.mp hx with e | hx
        · exact absurd e.symm hyx
        · have := h3 x hx hxs
          rw [List.idxOf_cons, List.idxOf_cons, beq_eq_false_iff_ne.mpr hyk, beq_eq_false_iff_ne.mpr hyx]
          simpa using this
      · rintro ⟨h1, h2, h3⟩
        have hyk : ¬ y = k := fun e => hy (e ▸ h2)
        have h1' : k ∈ ys := by
          rcases List.mem_cons.mp h1 with e | h
          · exact absurd e.symm hyk
          · exact h
        refine ⟨h1', h2, fun x hx hxs => ?_⟩
        have hyx : ¬ y = x := fun e => hy (e ▸ hxs)
        have := h3 x (List.mem_cons_of_mem _ hx) hxs
        rw [List.idxOf_cons, List.idxOf_cons, beq_eq_false_iff_ne.mpr hyk, beq_eq_false_iff_ne.mpr hyx] at this
        simpa using this
theorem idx_inj : ∀ {row : List Int} {a b : Int}, a ∈ row → b ∈ row → row.idxOf a = row.idxOf b → a = b
  | [], a, b, ha, _, _ => by simp at ha
  | y :: ys, a, b, ha, hb, e => by
    rw [List.idxOf_cons, List.idxOf_cons] at e
    by_cases h1 : y = a <;> by_cases h2 : y = b
    · exact h1.symm.trans h2
    · have e1 : (y == a) = true := beq_iff_eq.mpr h1
      have e2 : (y == b) = false := beq_eq_false_iff_ne.mpr h2
      rw [e1, e2] at e
      simp at e
    · have e1 : (y == a) = false := beq_eq_false_iff_ne.mpr h1
      have e2 : (y == b) = true := beq_iff_eq.mpr h2
      rw [e1, e2] at e
      simp at e
    · have e1 : (y == a) = false := beq_eq_false_iff_ne.mpr h1
      have e2 : (y == b) = false := beq_eq_false_iff_ne.mpr h2
      rw [e1, e2] at e
      have ha' : a ∈ ys := by
        rcases List.mem_cons.mp ha with q | q
        · exact absurd q.symm h1
        · exact q
      have hb' : b ∈ ys := by
        rcases List.mem_cons.mp hb with q | q
        · exact absurd q.symm h2
        · exact q
      exact idx_inj ha' hb' (by simpa using e)
theorem mem_beside {z : List Int} {D : Dts} {p : Int × Int} {k : Int} : k ∈ beside z D p ↔ ∃ q ∈ D, q.1 = k ∧ (q.1 = p.1 ∨ (p.2 ≤ q.2 ∧ q.1 ∉ z)) := by
  unfold beside
  rw [List.mem_map]
  constructor
  · rintro ⟨q, hq, e⟩
    obtain ⟨h1, h2⟩ := List.mem_filter.mp hq
    simp at h2
    exact ⟨q, h1, e, h2⟩
  · rintro ⟨q, h1, e, h2⟩
    exact ⟨q, List.mem_filter.mpr ⟨h1, by simpa using h2⟩, e⟩
/-- q stands before p in the row, lasts as long, is firm -/
def Dom (row z : List Int) (p q : Int × Int) : Prop := q.1 ∈ row ∧ row.idxOf q.1 < row.idxOf p.1 ∧ p.2 ≤ q.2 ∧ q.1 ∉ z
/-- p is the row's in D -/
def Top (row z : List Int) (D : Dts) (p : Int × Int) : Prop := p.1 ∈ row ∧ ∀ q ∈ D, ¬ Dom row z p q
theorem first_top {row z : List Int} {D : Dts} {p : Int × Int} (hp : p ∈ D) : first1 row (beside z D p) = some p.1 ↔ Top row z D p := by
  rw [first1_iff]
  constructor
  · rintro ⟨h1, _, h3⟩
    refine ⟨h1, fun q hq ⟨d1, d2, d3, d4⟩ => ?_⟩
    have := h3 q.1 d1 (mem_beside.mpr ⟨q, hq, rfl, .inr ⟨d3, d4⟩⟩)
    omega
  · rintro ⟨h1, h2⟩
    refine ⟨h1, mem_beside.mpr ⟨p, hp, rfl, .inl rfl⟩, fun x hx hxs => ?_⟩
    obtain ⟨q, hq, e, h⟩ := mem_beside.mp hxs
    subst e
    rcases h with h | ⟨h3, h4⟩
    · rw [h]
      exact Nat.le_refl _
    · rcases Nat.lt_or_ge (row.idxOf q.1) (row.idxOf p.1) with g | g
      · exact absurd ⟨hx, g, h3, h4⟩ (h2 q hq)
      · exact g
theorem mem_sky {c : List Int → List Int} {z : List Int} {D : Dts} {p : Int × Int} : p ∈ sky c z D ↔ p ∈ D ∧ p.1 ∈ c (beside z D p) := by
  unfold sky
  rw [List.mem_filter]
  simp
theorem mem_skyF {rows : List (List Int)} {z : List Int} {D : Dts} {p : Int × Int} : p ∈ sky (firsts rows) z D ↔ p ∈ D ∧ ∃ row ∈ rows, Top row z D p := by
  rw [mem_sky]
  constructor
  · rintro ⟨h1, h2⟩
    obtain ⟨row, hr, h⟩ := mem_firsts.mp h2
    exact ⟨h1, row, hr, (first_top h1).mp h⟩
  · rintro ⟨h1, row, hr, h⟩
    exact ⟨h1, mem_firsts.mpr ⟨row, hr, (first_top h1).mpr h⟩⟩
/-- whoever is dominated is dominated by a top -/
theorem dom_top {row z : List Int} {D : Dts} {p : Int × Int} : ∀ (n : Nat) (q : Int × Int), row.idxOf q.1 = n → q ∈ D → Dom row z p q → ∃ q' ∈ D, Dom row z p q' ∧ Top row z D q' := by
  intro n
  induction n using Nat.strongRecOn with
  | _ n ih =>
    intro q hn hq hd
    by_cases h : ∃ q2 ∈ D, Dom row z q q2
    · obtain ⟨q2, h2, hd2⟩ := h
      have hd3 : Dom row z p q2 := ⟨hd2.1, Nat.lt_trans hd2.2.1 hd.2.1, Int.le_trans hd.2.2.1 hd2.2.2.1, hd2.2.2.2⟩
      exact ih (row.idxOf q2.1) (by rw [← hn]; exact hd2.2.1) q2 rfl h2 hd3
    · exact ⟨q, hq, hd, hd.1, fun q2 h2 hd2 => h ⟨q2, h2, hd2⟩⟩
/-- a part that holds every row's tops has the same tops -/
theorem top_part {row z : List Int} {E D : Dts} (sub : ∀ p ∈ E, p ∈ D) (tops : ∀ p ∈ D, Top row z D p → p ∈ E) {p : Int × Int} : (p ∈ E ∧ Top row z E p) ↔ (p ∈ D ∧ Top row z D p) := by
  constructor
  · rintro ⟨h1, h2, h3⟩
    refine ⟨sub p h1, h2, fun q hq hd => ?_⟩
    obtain ⟨q', hq', hd', ht'⟩ := dom_top (row.idxOf q.1) q rfl hq hd
    exact h3 q' (tops q' hq' ht') hd'
  · rintro ⟨h1, h2, h3⟩
    exact ⟨tops p h1 ⟨h2, h3⟩, h2, fun q hq => h3 q (sub q hq)⟩
theorem sky_part {rows : List (List Int)} {z : List Int} {E D : Dts} (sub : ∀ p ∈ E, p ∈ D) (tops : ∀ row ∈ rows, ∀ p ∈ D, Top row z D p → p ∈ E) (p : Int × Int) : p ∈ sky (firsts rows) z E ↔ p ∈ sky (firsts rows) z D := by
  rw [mem_skyF, mem_skyF]
  constructor
  · rintro ⟨h1, row, hr, h⟩
    have := (top_part sub (tops row hr)).mp ⟨h1, h⟩
    exact ⟨this.1, row, hr, this.2⟩
  · rintro ⟨h1, row, hr, h⟩
    have := (top_part sub (tops row hr)).mpr ⟨h1, h⟩
    exact ⟨this.1, row, hr, this.2⟩
theorem sky_ext {l : List Int} {c c' : List Int → List Int} {z : List Int} {D E : Dts} (hD : IsDated l D) (hE : IsDated l E) (h : ∀ p, p ∈ sky c z D ↔ p ∈ sky c' z E) : sky c z D = sky c' z E := dts_ext (sky_dated hD c z).1 (sky_dated hE c' z).1 h
/-- twice is once -/
theorem sky_twice {l : List Int} {rows : List (List Int)} {z : List Int} {D : Dts} (hD : IsDated l D) : sky (firsts rows) z (sky (firsts rows) z D) = sky (firsts rows) z D :=
  sky_ext (sky_dated hD _ z) hD (sky_part (fun p hp => (mem_sky.mp hp).1) fun row hr p hp ht => mem_skyF.mpr ⟨hp, row, hr, ht⟩)
/-! ### behind a deed -/
theorem mem_beh_day {l : List Int} {D : Dts} {p : Int × Int} : p ∈ beh l D .day ↔ 1 ≤ p.2 ∧ (p.1, p.2 + 1) ∈ D := by
  unfold beh
  rw [List.mem_map]
  constructor
  · rintro ⟨q, hq, rfl⟩
    obtain ⟨h1, h2⟩ := List.mem_filter.mp hq
    have h3 : 1 < q.2 := of_decide_eq_true h2
    refine ⟨by show 1 ≤ q.2 - 1; omega, ?_⟩
    show (q.1, q.2 - 1 + 1) ∈ D
    rw [show q.2 - 1 + 1 = q.2 by omega]
    exact h1
  · rintro ⟨h1, h2⟩
    refine ⟨(p.1, p.2 + 1), List.mem_filter.mpr ⟨h2, decide_eq_true (by show 1 < p.2 + 1; omega)⟩, ?_⟩
    show (p.1, p.2 + 1 - 1) = p
    rw [show p.2 + 1 - 1 = p.2 by omega]
theorem mem_beh_gone {l : List Int} {D : Dts} {k : Int} {p : Int × Int} : p ∈ beh l D (.gone k) ↔ p ∈ D ∧ p.1 ≠ k := by
  unfold beh
  rw [mem_sortP, List.mem_filter]
  simp
theorem mem_beh_come {l : List Int} {D : Dts} {k : Int} {p : Int × Int} : p ∈ beh l D (.come k) ↔ (p ∈ D ∧ p.1 ≠ k) ∨ p = (k, oa l k) := by
  unfold beh
  rw [mem_sortP, List.mem_append, List.mem_filter]
  simp
/-- what a deed may be: an offer of the trade comes, a day, a loose offer goes -/
def DeedZ (l z : List Int) : Deed → Prop
  | .come k => 0 ≤ k ∧ k < (l.length : Int)
  | .day => True
  | .gone k => k ∈ z
theorem DeedZ.ok {l z : List Int} {d : Deed} (h : DeedZ l z d) : DeedOk l d := by
  cases d with
  | come k => exact h
  | day => trivial
  | gone k => trivial
theorem beh_sub {l : List Int} {E D : Dts} (sub : ∀ p ∈ E, p ∈ D) {d : Deed} (p : Int × Int) (hp : p ∈ beh l E d) : p ∈ beh l D d := by
  cases d with
  | come k =>
    rcases mem_beh_come.mp hp with h | h
    · exact mem_beh_come.mpr (.inl ⟨sub p h.1, h.2⟩)
    · exact mem_beh_come.mpr (.inr h)
  | day =>
    have := mem_beh_day.mp hp
    exact mem_beh_day.mpr ⟨this.1, sub _ this.2⟩
  | gone k =>
    have := mem_beh_gone.mp hp
    exact mem_beh_gone.mpr ⟨sub p this.1, this.2⟩
/-- a skyline is enough to go on -/
theorem sky_beh {l : List Int} (hL : Lives l) {rows : List (List Int)} {z : List Int} {D : Dts} (hD : IsDated l D) {d : Deed} (hd : DeedZ l z d) : sky (firsts rows) z (beh l (sky (firsts rows) z D) d) = sky (firsts rows) z (beh l D d) := by
  have hs := sky_dated hD (firsts rows) z
  refine sky_ext (beh_dated hL hs hd.ok) (beh_dated hL hD hd.ok) (sky_part (beh_sub fun p hp => (mem_sky.mp hp).1) fun row hr p hp ht => ?_)
  have inE : ∀ q, q ∈ D → Top row z D q → q ∈ sky (firsts rows) z D := fun q hq h => mem_skyF.mpr ⟨hq, row, hr, h⟩
  cases d with
  | come k =>
    rcases mem_beh_come.mp hp with h | h
    · refine mem_beh_come.mpr (.inl ⟨inE p h.1 ⟨ht.1, fun q hq hd => ?_⟩, h.2⟩)
      by_cases e : q.1 = k
      · have hq2 := (hD.2 q hq).2.2.2
        refine ht.2 (k, oa l k) (mem_beh_come.mpr (.inr rfl)) ⟨e ▸ hd.1, by show row.idxOf k < _; rw [← e]; exact hd.2.1, ?_, e ▸ hd.2.2.2⟩
        show p.2 ≤ oa l k
        rw [← e]
        exact Int.le_trans hd.2.2.1 hq2
      · exact ht.2 q (mem_beh_come.mpr (.inl ⟨hq, e⟩)) hd
    · exact mem_beh_come.mpr (.inr h)
  | day =>
    obtain ⟨h1, h2⟩ := mem_beh_day.mp hp
    refine mem_beh_day.mpr ⟨h1, inE _ h2 ⟨ht.1, fun q hq hd => ?_⟩⟩
    have hd3 : p.2 + 1 ≤ q.2 := hd.2.2.1
    refine ht.2 (q.1, q.2 - 1) (mem_beh_day.mpr ⟨by show 1 ≤ q.2 - 1; omega, ?_⟩) ⟨hd.1, hd.2.1, by show p.2 ≤ q.2 - 1; omega, hd.2.2.2⟩
    show (q.1, q.2 - 1 + 1) ∈ D
    rw [show q.2 - 1 + 1 = q.2 by omega]
    exact hq
  | gone k =>
    obtain ⟨h1, h2⟩ := mem_beh_gone.mp hp
    refine mem_beh_gone.mpr ⟨inE p h1 ⟨ht.1, fun q hq hd' => ?_⟩, h2⟩
    have hk : k ∈ z := hd
    by_cases e : q.1 = k
    · exact hd'.2.2.2 (e ▸ hk)
    · exact ht.2 q (mem_beh_gone.mpr ⟨hq, e⟩) hd'
end K85

/-! M3: searches of list choosers by raw states; either of two; shelves. -/
namespace K85
open PySem PySem.Spec PyProof.Rows L2
/-! ### what is found -/
theorem deedsZ {n : Nat} {l : List Int} {cal : List (List Int)} (t : Tiny n l cal) {z : List Int} {i : Int} (h0 : 0 ≤ i) (h1 : i < (cal.length : Int)) {d : Deed} (hd : d ∈ deedsOf cal z i) : DeedZ l z d := by
  unfold deedsOf at hd
  rcases List.mem_append.mp hd with hd | hd
  · rcases List.mem_append.mp hd with hd | hd
    · obtain ⟨k, hk, rfl⟩ := List.mem_map.mp hd
      have := (t.calOk.2.2 _ (List.mem_of_getElem? (dayGet h0 h1))).2 k hk
      show 0 ≤ k ∧ k < (l.length : Int)
      rw [t.len]
      exact this
    · simp at hd
      subst hd
      trivial
  · obtain ⟨k, hk, rfl⟩ := List.mem_map.mp hd
    exact hk
abbrev RS (c : List Int → List Int) (l z : List Int) (cal : List (List Int)) : Nat → Spot → Prop := RN (nbS cal z) (aft c l z cal.length) (0, [])
theorem spot0_ok {n : Nat} {l : List Int} {cal : List (List Int)} (t : Tiny n l cal) : SpotOk l cal.length (0, []) := ⟨Int.le_refl 0, by have := t.calOk.1; show (0 : Int) < _; omega, isDated_nil l⟩
theorem rs_ok {n : Nat} {l : List Int} {cal : List (List Int)} (t : Tiny n l cal) {c : List Int → List Int} {z : List Int} {j : Nat} {s : Spot} (h : RS c l z cal j s) : SpotOk l cal.length s := by
  induction h with
  | z => exact spot0_ok t
  | s hs hd ih => exact aft_ok t c z ih (deeds_ok t z ih _ hd)
theorem found_streams {n : Nat} {l : List Int} {cal : List (List Int)} (t : Tiny n l cal) (c : List Int → List Int) (z : List Int) : Found (nbS cal z) (aft c l z cal.length) (0, []) (streams c l z cal) := by
  have hB : ∀ j F' R', Lev (nbS cal z) (aft c l z cal.length) (0, []) j F' R' → F'.length ≤ 128 := fun j F' R' h => by
    have := spots_few t h.once fun s hs => by
      obtain ⟨p, hp, rfl⟩ := List.mem_map.mp hs
      exact rs_ok t (h.dist p hp).2.1
    simpa using this
  exact run_found (nbS cal z) (aft c l z cal.length) (0, []) 1000 0 [((0, []), [])] [(0, [])] 128 (lev_zero _ _ _) hB (by decide)
/-! ### raw states -/
def rawGo (l : List Int) (m : Int) (s : Spot) (d : Deed) : Spot := (if dKind d = ("day" : Str) then (s.1 + 1) % m else s.1, beh l s.2 d)
abbrev RR (l z : List Int) (cal : List (List Int)) : Nat → Spot → Prop := RN (nbS cal z) (rawGo l cal.length) (0, [])
theorem rr_ok {n : Nat} {l : List Int} {cal : List (List Int)} (t : Tiny n l cal) {z : List Int} {j : Nat} {s : Spot} (h : RR l z cal j s) : SpotOk l cal.length s := by
  induction h with
  | z => exact spot0_ok t
  | @s _ s d hs hd ih =>
    have hc := t.calOk.1
    refine ⟨?_, ?_, beh_dated t.lv ih.2.2 (deedsZ t ih.1 ih.2.1 hd).ok⟩
    · show 0 ≤ (if dKind d = ("day" : Str) then (s.1 + 1) % (cal.length : Int) else s.1)
      split
      · exact Int.emod_nonneg _ (by omega)
      · exact ih.1
    · show (if dKind d = ("day" : Str) then (s.1 + 1) % (cal.length : Int) else s.1) < _
      split
      · exact Int.emod_lt_of_pos _ (by omega)
      · exact ih.2.1
theorem rs_raw {n : Nat} {l : List Int} {cal : List (List Int)} (t : Tiny n l cal) {rows : List (List Int)} {z : List Int} {j : Nat} {k : Spot} : RS (firsts rows) l z cal j k ↔ ∃ D, RR l z cal j (k.1, D) ∧ k.2 = sky (firsts rows) z D := by
  constructor
  · intro h
    induction h with
    | z => exact ⟨[], .z, rfl⟩
    | @s j s d hs hd ih =>
      obtain ⟨D, hr, e⟩ := ih
      have ok := rr_ok t hr
      refine ⟨beh l D d, RN.s (nb := nbS cal z) (go := rawGo l cal.length) hr hd, ?_⟩
      show sky (firsts rows) z (beh l s.2 d) = _
      rw [e]
      exact sky_beh t.lv ok.2.2 (deedsZ t ok.1 ok.2.1 hd)
  · rintro ⟨D, hr, e⟩
    obtain ⟨i, E⟩ := k
    simp only at hr e
    subst e
    generalize hs : ((i, D) : Spot) = s at hr
    induction hr generalizing i D with
    | z =>
      cases hs
      exact .z
    | @s j s d hs' hd ih =>
      have ok := rr_ok t hs'
      have h1 := ih s.2 s.1 rfl
      have h2 := RN.s (nb := nbS cal z) (go := aft (firsts rows) l z cal.length) h1 hd
      have e2 : aft (firsts rows) l z cal.length (s.1, sky (firsts rows) z s.2) d = (i, sky (firsts rows) z D) := by
        have e3 : rawGo l cal.length s d = (i, D) := hs.symm
        unfold rawGo at e3
        injection e3 with e4 e5
        unfold aft
        refine Prod.ext e4 ?_
        show sky (firsts rows) z (beh l (sky (firsts rows) z s.2) d) = sky (firsts rows) z D
        rw [sky_beh t.lv ok.2.2 (deedsZ t ok.1 ok.2.1 hd), e5]
      rw [← e2]
      exact h2
/-! ### shelves -/
theorem exists_max : ∀ {xs : List Int}, xs ≠ [] → ∃ m, IsMax m xs
  | [], h => absurd rfl h
  | [x], _ => ⟨x, by simp, fun y hy => by simp at hy; omega⟩
  | x :: y :: ys, _ => by
    obtain ⟨m, h1, h2⟩ := exists_max (xs := y :: ys) (by simp)
    rcases Int.le_total x m with g | g
    · refine ⟨m, List.mem_cons_of_mem _ h1, fun z hz => ?_⟩
      rcases List.mem_cons.mp hz with e | hz
      · omega
      · exact h2 z hz
    · refine ⟨x, List.mem_cons_self, fun z hz => ?_⟩
      rcases List.mem_cons.mp hz with e | hz
      · omega
      · have := h2 z hz
        omega
theorem streams_ne {n : Nat} {l : List Int} {cal : List (List Int)} (t : Tiny n l cal) (c : List Int → List Int) (z : List Int) : streams c l z cal ≠ [] := fun e => by
  have := ((found_streams t c z).all (0, [])).mpr ⟨0, .z⟩
  rw [e] at this
  simp at this
theorem shelf_ex {n : Nat} {l : List Int} {cal : List (List Int)} (t : Tiny n l cal) (c : List Int → List Int) (z ws : List Int) : ∃ m, IsMax m (worths (streams c l z cal) ws) := exists_max fun e => streams_ne t c z (List.map_eq_nil_iff.mp e)
/-- the shelf by all spots that are reached -/
theorem shelf_iff {n : Nat} {l : List Int} {cal : List (List Int)} (t : Tiny n l cal) {c : List Int → List Int} {z ws : List Int} {m : Int} : IsMax m (worths (streams c l z cal) ws) ↔ (∃ j s, RS c l z cal j s ∧ worth ws s.2 = m) ∧ ∀ j s, RS c l z cal j s → worth ws s.2 ≤ m := by
  have F := found_streams t c z
  have mem : ∀ s, (∃ x ∈ streams c l z cal, x.1 = s) ↔ ∃ j, RS c l z cal j s := fun s => by
    rw [← F.all s, List.mem_map]
  constructor
  · rintro ⟨h1, h2⟩
    obtain ⟨x, hx, e⟩ := List.mem_map.mp h1
    obtain ⟨j, hj⟩ := (mem x.1).mp ⟨x, hx, rfl⟩
    refine ⟨⟨j, x.1, hj, e⟩, fun j s hs => ?_⟩
    obtain ⟨y, hy, rfl⟩ := (mem s).mpr ⟨j, hs⟩
    exact h2 _ (List.mem_map.mpr ⟨y, hy, rfl⟩)
  · rintro ⟨⟨j, s, hs, e⟩, h2⟩
    obtain ⟨y, hy, rfl⟩ := (mem s).mpr ⟨j, hs⟩
    refine ⟨List.mem_map.mpr ⟨y, hy, e⟩, fun w hw => ?_⟩
    obtain ⟨x, hx, rfl⟩ := List.mem_map.mp hw
    obtain ⟨j, hj⟩ := (mem x.1).mp ⟨x, hx, rfl⟩
    exact h2 j _ hj
theorem shelf_raw {n : Nat} {l : List Int} {cal : List (List Int)} (t : Tiny n l cal) {rows : List (List Int)} {z ws : List Int} {m : Int} (h : IsMax m (worths (streams (firsts rows) l z cal) ws)) : (∃ j s, RR l z cal j s ∧ worth ws (sky (firsts rows) z s.2) = m) ∧ ∀ j s, RR l z cal j s → worth ws (sky (firsts rows) z s.2) ≤ m := by
  obtain ⟨⟨j, s, hs, e⟩, h2⟩ := (shelf_iff t).mp h
  constructor
  · obtain ⟨D, hr, e2⟩ := (rs_raw t).mp hs
    exact ⟨j, _, hr, by rw [← e2]; exact e⟩
  · intro j s hs
    exact h2 j (s.1, sky (firsts rows) z s.2) ((rs_raw t).mpr ⟨s.2, hs, rfl⟩)
theorem eith_firsts (r1 r2 : List (List Int)) : eith (firsts r1) (firsts r2) = firsts (r1 ++ r2) := by
  funext s
  refine asc_ext (asc_lt _) (asc_lt _) fun k => ?_
  show k ∈ asc _ ↔ k ∈ firsts _ _
  rw [mem_asc, mem_firsts, List.mem_append, mem_firsts, mem_firsts]
  constructor
  · rintro (⟨row, h, e⟩ | ⟨row, h, e⟩)
    · exact ⟨row, List.mem_append_left _ h, e⟩
    · exact ⟨row, List.mem_append_right _ h, e⟩
  · rintro ⟨row, h, e⟩
    rcases List.mem_append.mp h with h | h
    · exact .inl ⟨row, h, e⟩
    · exact .inr ⟨row, h, e⟩
theorem oa_nonneg {n : Nat} {ws : List Int} (h : IsWs n ws) (k : Int) : 0 ≤ oa ws k := by
  unfold oa
  rw [List.getD_eq_getElem?_getD]
  cases e : ws[k.toNat]? with
  | none => exact Int.le_refl 0
  | some w => exact h.2 w (List.mem_of_getElem? e)
theorem worth_cons (ws : List Int) (p : Int × Int) (D : Dts) : worth ws (p :: D) = oa ws p.1 + worth ws D := by
  unfold worth
  rw [List.map_cons, List.sum_cons]
theorem worth_or {n : Nat} {ws : List Int} (h : IsWs n ws) (f g : Int × Int → Bool) : ∀ D : Dts, worth ws (D.filter f) ≤ worth ws (D.filter fun p => f p || g p) ∧ worth ws (D.filter g) ≤ worth ws (D.filter fun p => f p || g p) ∧ worth ws (D.filter fun p => f p || g p) ≤ worth ws (D.filter f) + worth ws (D.filter g)
  | [] => by simp [worth]
  | p :: D => by
    obtain ⟨a, b, c⟩ := worth_or h f g D
    have hp := oa_nonneg h p.1
    simp only [List.filter_cons]
    cases hf : f p <;> cases hg : g p <;> simp only [Bool.or_self, Bool.or_true, Bool.true_or, Bool.or_false, Bool.false_or, if_true, if_false, Bool.false_eq_true, worth_cons] <;> omega
theorem sky_eith (c c' : List Int → List Int) (z : List Int) (D : Dts) : sky (eith c c') z D = D.filter fun p => decide (p.1 ∈ c (beside z D p)) || decide (p.1 ∈ c' (beside z D p)) := by
  unfold sky
  refine List.filter_congr fun p _ => ?_
  have : p.1 ∈ eith c c' (beside z D p) ↔ p.1 ∈ c (beside z D p) ∨ p.1 ∈ c' (beside z D p) := by
    unfold eith
    rw [mem_asc, List.mem_append]
  by_cases h1 : p.1 ∈ c (beside z D p) <;> by_cases h2 : p.1 ∈ c' (beside z D p) <;> simp [this, h1, h2]
/-- the shelf by either: no less than each, no more than both -/
theorem shelf_eith {n : Nat} {l : List Int} {cal : List (List Int)} (t : Tiny n l cal) {r1 r2 : List (List Int)} {z ws : List Int} (hw : IsWs n ws) {m1 m2 m3 : Int} (h1 : IsMax m1 (worths (streams (firsts r1) l z cal) ws)) (h2 : IsMax m2 (worths (streams (firsts r2) l z cal) ws)) (h3 : IsMax m3 (worths (streams (eith (firsts r1) (firsts r2)) l z cal) ws)) :
    m1 ≤ m3 ∧ m2 ≤ m3 ∧ m3 ≤ m1 + m2 := by
  rw [eith_firsts] at h3
  obtain ⟨⟨j1, s1, a1, e1⟩, u1⟩ := shelf_raw t h1
  obtain ⟨⟨j2, s2, a2, e2⟩, u2⟩ := shelf_raw t h2
  obtain ⟨⟨j3, s3, a3, e3⟩, u3⟩ := shelf_raw t h3
  have w : ∀ D, worth ws (sky (firsts r1) z D) ≤ worth ws (sky (firsts (r1 ++ r2)) z D) ∧ worth ws (sky (firsts r2) z D) ≤ worth ws (sky (firsts (r1 ++ r2)) z D) ∧ worth ws (sky (firsts (r1 ++ r2)) z D) ≤ worth ws (sky (firsts r1) z D) + worth ws (sky (firsts r2) z D) := fun D => by
    rw [← eith_firsts, sky_eith]
    exact worth_or hw _ _ D
  have b1 := (w s1.2).1
  have b2 := (w s2.2).2.1
  have b3 := (w s3.2).2.2
  have c1 := u3 j1 s1 a1
  have c2 := u3 j2 s2 a2
  have c3 := u1 j3 s3 a3
  have c4 := u2 j3 s3 a3
  omega
/-! ### put together -/
theorem lk_put (ps : Dts) (k m j : Int) : lkP (putP ps k m) j = if j = k then some m else lkP ps j := by
  have h1 := encP_get (putP ps k m) j
  rw [← encP_put, L2.valV_put, encP_get] at h1
  by_cases e : j = k
  · subst e
    rw [if_pos rfl] at h1 ⊢
    cases h : lkP (putP ps j m) j with
    | none => rw [h] at h1; cases h1
    | some v =>
      rw [h] at h1
      have := Option.some.inj h1
      injection this with q
      rw [q]
  · have e' : ¬ ((Sum.inl j : L2.Key) = Sum.inl k) := fun q => e (Sum.inl.inj q)
    rw [if_neg e'] at h1
    rw [if_neg e]
    cases h : lkP (putP ps k m) j <;> cases h' : lkP ps j <;> rw [h, h'] at h1
    · cases h1
    · cases h1
    · have := Option.some.inj h1
      injection this with q
      rw [q]
theorem lk_iff {ps : Dts} (h : KeysOnce ps) {p : Int × Int} : p ∈ ps ↔ lkP ps p.1 = some p.2 := by
  constructor
  · exact lk_once h p
  · intro e
    induction ps with
    | nil => cases e
    | cons q ps ih =>
      unfold lkP at e
      by_cases hq : q.1 = p.1
      · rw [if_pos hq] at e
        have := Option.some.inj e
        have e2 : q = p := Prod.ext hq this
        rw [e2]
        exact List.mem_cons_self
      · rw [if_neg hq] at e
        exact List.mem_cons_of_mem _ (ih (List.nodup_cons.mp (show (q.1 :: ps.map (·.1)).Nodup from h)).2 e)
/-- all of the days are those of f -/
theorem putAll_lk {f : Int → Int} : ∀ (xs : Dts) (ps : Dts), (∀ p ∈ xs, p.2 = f p.1 ∧ 0 ≤ p.2) → (∀ k v, lkP ps k = some v → v = f k) → ∀ k, lkP (putAll ps xs) k = if k ∈ xs.map (·.1) then some (f k) else lkP ps k
  | [], ps, _, _, k => by simp [putAll]
  | x :: xs, ps, hx, hp, k => by
    have h1 := hx x List.mem_cons_self
    have e : mx x.2 ((lkP ps x.1).getD 0) = f x.1 := by
      unfold mx
      cases hl : lkP ps x.1 with
      | none =>
        rw [Option.getD_none, if_neg (by omega)]
        exact h1.1
      | some v =>
        rw [Option.getD_some, hp _ _ hl, ← h1.1, if_neg (by omega)]
    have e2 : putAll ps (x :: xs) = putAll (putP ps x.1 (mx x.2 ((lkP ps x.1).getD 0))) xs := rfl
    rw [e2, e]
    rw [putAll_lk xs _ (fun p hp => hx p (List.mem_cons_of_mem _ hp)) (fun j v hv => by
      rw [lk_put] at hv
      by_cases q : j = x.1
      · rw [if_pos q] at hv
        rw [q]
        exact (Option.some.inj hv).symm
      · rw [if_neg q] at hv
        exact hp j v hv) k]
    rw [lk_put, List.map_cons]
    by_cases q1 : k ∈ xs.map (·.1)
    · rw [if_pos q1, if_pos (List.mem_cons_of_mem _ q1)]
    · rw [if_neg q1]
      by_cases q2 : k = x.1
      · rw [if_pos q2, if_pos (by rw [q2]; exact List.mem_cons_self), q2]
      · rw [if_neg q2, if_neg (fun z => by
          rcases List.mem_cons.mp z with z | z
          · exact q2 z
          · exact q1 z)]
theorem key_once {D : Dts} (h : (D.map (·.1)).Pairwise (· < ·)) {p q : Int × Int} (hp : p ∈ D) (hq : q ∈ D) (e : p.1 = q.1) : p = q := by
  have hon : KeysOnce D := asc_nodup h
  have h1 := lk_once hon p hp
  have h2 := lk_once hon q hq
  rw [e, h2] at h1
  exact Prod.ext e (Option.some.inj h1).symm
theorem puts_sky {l : List Int} {D : Dts} (hD : IsDated l D) (c c' : List Int → List Int) (z : List Int) : sky (eith c c') z D = puts (sky c z D) (sky c' z D) := by
  have hon : KeysOnce D := asc_nodup hD.1
  let f : Int → Int := fun k => (lkP D k).getD 0
  have hf : ∀ p ∈ D, p.2 = f p.1 ∧ 0 ≤ p.2 := fun p hp => ⟨by show p.2 = (lkP D p.1).getD 0; rw [lk_once hon p hp]; rfl, by have := (hD.2 p hp).2.2.1; omega⟩
  have hsub : ∀ p ∈ sky c z D ++ sky c' z D, p ∈ D := fun p hp => by
    rcases List.mem_append.mp hp with h | h
    · exact (mem_sky.mp h).1
    · exact (mem_sky.mp h).1
  have hk := putAll_lk (f := f) (sky c z D ++ sky c' z D) [] (fun p hp => hf p (hsub p hp)) (fun k v h => by cases h)
  have hon2 : KeysOnce (putAll [] (sky c z D ++ sky c' z D)) := putAll_once _ List.nodup_nil
  refine dts_ext (sky_dated hD _ z).1 (sortP_asc hon2) fun p => ?_
  show p ∈ sky (eith c c') z D ↔ p ∈ sortP (putAll [] (sky c z D ++ sky c' z D))
  rw [mem_sortP, lk_iff hon2, hk, sky_eith, List.mem_filter]
  constructor
  · rintro ⟨h1, h2⟩
    have h3 : p ∈ sky c z D ++ sky c' z D := by
      rw [Bool.or_eq_true, decide_eq_true_eq, decide_eq_true_eq] at h2
      rcases h2 with h2 | h2
      · exact List.mem_append_left _ (mem_sky.mpr ⟨h1, h2⟩)
      · exact List.mem_append_right _ (mem_sky.mpr ⟨h1, h2⟩)
    rw [if_pos (List.mem_map.mpr ⟨p, h3, rfl⟩), (hf p h1).1]
  · intro h
    split at h
    · rename_i hm
      obtain ⟨q, hq, e⟩ := List.mem_map.mp hm
      have hqD := hsub q hq
      have e2 : f p.1 = p.2 := Option.some.inj h
      have e3 : q = p := Prod.ext e (by rw [(hf q hqD).1, e]; exact e2)
      rw [e3] at hq hqD
      refine ⟨hqD, ?_⟩
      rw [Bool.or_eq_true, decide_eq_true_eq, decide_eq_true_eq]
      rcases List.mem_append.mp hq with g | g
      · exact .inl (mem_sky.mp g).2
      · exact .inr (mem_sky.mp g).2
    · cases h
/-! ### with nothing, with itself -/
theorem firsts_nil (s : List Int) : firsts [] s = [] := by
  refine asc_ext (asc_lt _) List.Pairwise.nil fun k => ?_
  show k ∈ firsts [] s ↔ _
  rw [mem_firsts]
  simp
theorem sky_cong {c c' : List Int → List Int} {z : List Int} {D : Dts} (h : ∀ p ∈ D, ∀ k, k ∈ c (beside z D p) ↔ k ∈ c' (beside z D p)) : sky c z D = sky c' z D := by
  unfold sky
  refine List.filter_congr fun p hp => ?_
  have := h p hp p.1
  by_cases q : p.1 ∈ c (beside z D p)
  · rw [decide_eq_true q, decide_eq_true (this.mp q)]
  · rw [decide_eq_false q, decide_eq_false fun z => q (this.mpr z)]
theorem sky_bare (z : List Int) (D : Dts) : sky (firsts []) z D = [] := by
  unfold sky
  rw [List.filter_eq_nil_iff]
  intro p _
  rw [firsts_nil]
  simp
theorem sky_turn_bare (c : List Int → List Int) (z : List Int) (D : Dts) : sky (turn2 c (firsts [])) z D = sky c z D := sky_cong fun p _ k => by
  unfold turn2
  rw [firsts_nil, List.append_nil, mem_asc]
theorem sky_eith_self (c : List Int → List Int) (z : List Int) (D : Dts) : sky (eith c c) z D = sky c z D := sky_cong fun p _ k => by
  unfold eith
  rw [mem_asc, List.mem_append]
  exact or_self_iff
/-- what is in a skyline is taken by itself -/
theorem taken_alone {rows : List (List Int)} {z : List Int} {D : Dts} {p : Int × Int} (h : p ∈ sky (firsts rows) z D) : firsts rows [p.1] = [p.1] := by
  obtain ⟨_, row, hr, ht⟩ := mem_skyF.mp h
  refine asc_ext (asc_lt _) (List.pairwise_singleton _ _) fun k => ?_
  show k ∈ firsts rows [p.1] ↔ _
  rw [mem_firsts]
  constructor
  · rintro ⟨row', _, e⟩
    exact first1_mem e
  · intro hk
    simp at hk
    subst hk
    exact ⟨row, hr, first1_iff.mpr ⟨ht.1, by simp, fun x hx hxs => by simp at hxs; rw [hxs]; exact Nat.le_refl _⟩⟩
end K85

/-! M4: leaving out. -/
namespace K85
open PySem PySem.Spec PyProof.Rows L2
def restD (D : Dts) (gone : List Int) : Dts := D.filter fun p => !decide (p.1 ∈ gone)
theorem mem_restD {D : Dts} {gone : List Int} {p : Int × Int} : p ∈ restD D gone ↔ p ∈ D ∧ p.1 ∉ gone := by
  unfold restD
  rw [List.mem_filter]
  simp
theorem mem_rest {s gone : List Int} {k : Int} : k ∈ rest s gone ↔ k ∈ s ∧ k ∉ gone := by
  unfold rest
  rw [List.mem_filter]
  simp
theorem beside_asc {l : List Int} {D : Dts} (h : IsDated l D) (z : List Int) (p : Int × Int) : (beside z D p).Pairwise (· < ·) := h.1.sublist (List.Sublist.map _ List.filter_sublist)
theorem beside_rest {l : List Int} {D : Dts} (h : IsDated l D) (z gone : List Int) (p : Int × Int) : beside z (restD D gone) p = rest (beside z D p) gone := by
  refine asc_ext (beside_asc (h.filter _) z p) ((beside_asc h z p).filter _) fun k => ?_
  show k ∈ beside z (restD D gone) p ↔ k ∈ rest (beside z D p) gone
  rw [mem_rest, mem_beside, mem_beside]
  constructor
  · rintro ⟨q, hq, e, h2⟩
    obtain ⟨h3, h4⟩ := mem_restD.mp hq
    exact ⟨⟨q, h3, e, h2⟩, e ▸ h4⟩
  · rintro ⟨⟨q, hq, e, h2⟩, h4⟩
    exact ⟨q, mem_restD.mpr ⟨hq, e ▸ h4⟩, e, h2⟩
/-- skylines with offers left out -/
theorem sky_leave {n : Nat} (hn : n = 2 ∨ n = 3) {l : List Int} (hl : l.length = n) {c : List Int → List Int} (hc : Good n c) {D : Dts} (h : IsDated l D) (z gone : List Int) : sky (leave c gone) z D = sky c z (restD D gone) := by
  refine sky_ext h (h.filter _) fun p => ?_
  show p ∈ sky (leave c gone) z D ↔ p ∈ sky c z (restD D gone)
  rw [mem_sky, mem_sky, mem_restD, beside_rest h]
  unfold leave
  constructor
  · rintro ⟨h1, h2⟩
    have h3 := (hc _ (rest_mem hn gone (beside_mem hn hl h z p))).2 _ h2
    exact ⟨⟨h1, (mem_rest.mp h3).2⟩, h2⟩
  · rintro ⟨⟨h1, _⟩, h2⟩
    exact ⟨h1, h2⟩
def skip (gone : List Int) : Deed → Bool
  | .come k => decide (k ∈ gone)
  | _ => false
structure Clean (rows : List (List Int)) (l z gone : List Int) (m : Nat) (s : Spot) : Prop where
  ok : SpotOk l m s
  no : ∀ p ∈ s.2, p.1 ∉ gone
  fix : sky (firsts rows) z s.2 = s.2
section
variable {n : Nat} {l z gone : List Int} {cal : List (List Int)} {rows : List (List Int)}
theorem go_same (t : Tiny n l cal) {s : Spot} (hs : Clean rows l z gone cal.length s) {d : Deed} (hd : DeedZ l z d) (hk : skip gone d = false) : aft (leave (firsts rows) gone) l z cal.length s d = aft (firsts rows) l z cal.length s d ∧ Clean rows l z gone cal.length (aft (firsts rows) l z cal.length s d) := by
  have hb := beh_dated t.lv hs.ok.2.2 hd.ok
  have hno : ∀ p ∈ beh l s.2 d, p.1 ∉ gone := fun p hp => by
    cases d with
    | come k =>
      rcases mem_beh_come.mp hp with h | h
      · exact hs.no p h.1
      · rw [h]
        have := of_decide_eq_false hk
        exact this
    | day =>
      have := hs.no _ (mem_beh_day.mp hp).2
      exact this
    | gone k => exact hs.no p (mem_beh_gone.mp hp).1
  have e : restD (beh l s.2 d) gone = beh l s.2 d := List.filter_eq_self.mpr fun p hp => by simp [hno p hp]
  refine ⟨?_, aft_ok t _ z hs.ok hd.ok, fun p hp => hno p (mem_sky.mp hp).1, sky_twice hb⟩
  unfold aft
  rw [sky_leave t.two3 t.len (good_firsts t.two3 rows) hb, e]
theorem go_skip (t : Tiny n l cal) {s : Spot} (hs : Clean rows l z gone cal.length s) {d : Deed} (hd : DeedZ l z d) (hk : skip gone d = true) : aft (leave (firsts rows) gone) l z cal.length s d = s := by
  cases d with
  | day => cases hk
  | gone k => cases hk
  | come k =>
    have hkg : k ∈ gone := of_decide_eq_true hk
    have hb := beh_dated t.lv hs.ok.2.2 (d := .come k) hd.ok
    have e : restD (beh l s.2 (.come k)) gone = s.2 := by
      refine dts_ext (hb.filter _).1 hs.ok.2.2.1 fun p => ?_
      show p ∈ restD _ _ ↔ _
      rw [mem_restD, mem_beh_come]
      constructor
      · rintro ⟨h | h, h2⟩
        · exact h.1
        · rw [h] at h2
          exact absurd hkg h2
      · intro h
        have h2 := hs.no p h
        exact ⟨.inl ⟨h, fun e => h2 (e ▸ hkg)⟩, h2⟩
    have h1 : ¬ dKind (.come k) = ("day" : Str) := kd1 k
    unfold aft
    rw [if_neg h1, sky_leave t.two3 t.len (good_firsts t.two3 rows) hb, e, hs.fix]
abbrev AllClean (rows : List (List Int)) (l z gone : List Int) (m : Nat) (st : St2 Spot Deed) : Prop := (∀ x ∈ st.1, Clean rows l z gone m x.1) ∧ ∀ s ∈ st.2, s ∈ st.1.map (·.1)
theorem fold_clean (t : Tiny n l cal) (s : Spot) : ∀ (ds : List Deed) (st : St2 Spot Deed), AllClean rows l z gone cal.length st → s ∈ st.1.map (·.1) → (∀ d ∈ ds, DeedZ l z d) →
    ds.foldl (stp (aft (leave (firsts rows) gone) l z cal.length) s) st = (ds.filter fun d => !skip gone d).foldl (stp (aft (firsts rows) l z cal.length) s) st ∧
    AllClean rows l z gone cal.length (ds.foldl (stp (aft (leave (firsts rows) gone) l z cal.length) s) st) ∧ ∀ k, k ∈ st.1.map (·.1) → k ∈ (ds.foldl (stp (aft (leave (firsts rows) gone) l z cal.length) s) st).1.map (·.1)
  | [], st, h, _, _ => ⟨rfl, h, fun _ q => q⟩
  | d :: ds, st, h, hs, hd => by
    have hcl : Clean rows l z gone cal.length s := by
      obtain ⟨x, hx, rfl⟩ := List.mem_map.mp hs
      exact h.1 x hx
    have hdz := hd d List.mem_cons_self
    rw [List.filter_cons]
    cases hk : skip gone d with
    | true =>
      have e := go_skip t hcl hdz hk
      have e2 : stp (aft (leave (firsts rows) gone) l z cal.length) s st d = st := by
        unfold stp
        rw [e, if_pos (lk_isSome.mpr hs)]
      rw [List.foldl_cons, e2]
      simp only [Bool.not_true, Bool.false_eq_true, if_false]
      exact fold_clean t s ds st h hs fun x hx => hd x (List.mem_cons_of_mem _ hx)
    | false =>
      obtain ⟨e, hc2⟩ := go_same t hcl hdz hk
      have e2 : stp (aft (leave (firsts rows) gone) l z cal.length) s st d = stp (aft (firsts rows) l z cal.length) s st d := by
        unfold stp
        rw [e]
      have hst : AllClean rows l z gone cal.length (stp (aft (firsts rows) l z cal.length) s st d) := by
        unfold stp
        split
        · exact h
        · refine ⟨fun x hx => ?_, fun k hk' => ?_⟩
          · rcases List.mem_append.mp hx with hx | hx
            · exact h.1 x hx
            · simp at hx
              subst hx
              exact hc2
          · rw [List.map_append]
            rcases List.mem_append.mp hk' with hk' | hk'
            · exact List.mem_append_left _ (h.2 k hk')
            · exact List.mem_append_right _ (by simpa using hk')
      obtain ⟨a, b, c⟩ := fold_clean t s ds _ hst (stp_mono _ hs) fun x hx => hd x (List.mem_cons_of_mem _ hx)
      simp only [Bool.not_false, if_true, List.foldl_cons]
      rw [e2]
      exact ⟨a, b, fun k hk' => c k (stp_mono _ hk')⟩
def calRest (cal : List (List Int)) (gone : List Int) : List (List Int) := cal.map fun day => rest day gone
theorem dayRest {i : Int} : dayOf (calRest cal gone) i = rest (dayOf cal i) gone := by
  unfold dayOf calRest
  rw [List.getD_eq_getElem?_getD, List.getD_eq_getElem?_getD, List.getElem?_map]
  cases cal[i.toNat]? <;> rfl
theorem deedsRest {i : Int} : deedsOf (calRest cal gone) z i = (deedsOf cal z i).filter fun d => !skip gone d := by
  unfold deedsOf
  rw [dayRest, List.filter_append, List.filter_append]
  congr 1
  · congr 1
    unfold rest
    rw [List.filter_map]
    rfl
  · rw [List.filter_eq_self.mpr fun d hd => by
      obtain ⟨k, _, rfl⟩ := List.mem_map.mp hd
      rfl]
theorem lvl_clean (t : Tiny n l cal) : ∀ (R : List Spot) (st : St2 Spot Deed), AllClean rows l z gone cal.length st → (∀ s ∈ R, s ∈ st.1.map (·.1)) →
    R.foldl (row1 (nbS cal z) (aft (leave (firsts rows) gone) l z cal.length)) st = R.foldl (row1 (nbS (calRest cal gone) z) (aft (firsts rows) l z cal.length)) st ∧ AllClean rows l z gone cal.length (R.foldl (row1 (nbS cal z) (aft (leave (firsts rows) gone) l z cal.length)) st)
  | [], st, h, _ => ⟨rfl, h⟩
  | s :: R, st, h, hR => by
    have hs := hR s List.mem_cons_self
    have hcl : Clean rows l z gone cal.length s := by
      obtain ⟨x, hx, rfl⟩ := List.mem_map.mp hs
      exact h.1 x hx
    obtain ⟨a, b, c⟩ := fold_clean t s (nbS cal z s) st h hs fun d hd => deedsZ t hcl.ok.1 hcl.ok.2.1 hd
    have e : row1 (nbS cal z) (aft (leave (firsts rows) gone) l z cal.length) st s = row1 (nbS (calRest cal gone) z) (aft (firsts rows) l z cal.length) st s := by
      show (nbS cal z s).foldl _ st = (nbS (calRest cal gone) z s).foldl _ st
      rw [a]
      show _ = (deedsOf (calRest cal gone) z s.1).foldl _ st
      rw [deedsRest]
      rfl
    have b' : AllClean rows l z gone cal.length (row1 (nbS cal z) (aft (leave (firsts rows) gone) l z cal.length) st s) := b
    obtain ⟨a2, b2⟩ := lvl_clean t R _ b' fun x hx => c x (hR x (List.mem_cons_of_mem _ hx))
    rw [List.foldl_cons, List.foldl_cons, ← e]
    exact ⟨a2, b2⟩
/-- leaving offers out is as if they had not come -/
theorem streams_leave (t : Tiny n l cal) : streams (leave (firsts rows) gone) l z cal = streams (firsts rows) l z (calRest cal gone) := by
  have hlen : (calRest cal gone).length = cal.length := List.length_map ..
  have key : ∀ (k : Nat) (F : Fnd) (R : List Spot), AllClean rows l z gone cal.length (F, R) → runB (nbS cal z) (aft (leave (firsts rows) gone) l z cal.length) k F R = runB (nbS (calRest cal gone) z) (aft (firsts rows) l z cal.length) k F R := by
    intro k
    induction k with
    | zero => intro F R h; rfl
    | succ k ih =>
      intro F R h
      unfold runB
      by_cases hR : R = []
      · rw [if_pos hR, if_pos hR]
      · rw [if_neg hR, if_neg hR]
        obtain ⟨a, b⟩ := lvl_clean t R (F, []) ⟨h.1, fun s hs => by simp at hs⟩ h.2
        have a' : lvl (nbS cal z) (aft (leave (firsts rows) gone) l z cal.length) F R = lvl (nbS (calRest cal gone) z) (aft (firsts rows) l z cal.length) F R := a
        have b' : AllClean rows l z gone cal.length (lvl (nbS cal z) (aft (leave (firsts rows) gone) l z cal.length) F R) := b
        rw [← a']
        exact ih _ _ b'
  unfold streams
  rw [hlen]
  refine key 1000 _ _ ⟨fun x hx => ?_, fun s hs => by simpa using hs⟩
  simp at hx
  subst hx
  exact ⟨spot0_ok t, fun p hp => by simp at hp, rfl⟩
theorem tiny_rest (t : Tiny n l cal) : Tiny n l (calRest cal gone) := ⟨t.two3, t.len, t.lives, ⟨by unfold calRest; rw [List.length_map]; exact t.calOk.1, by unfold calRest; rw [List.length_map]; exact t.calOk.2.1, fun s hs => by
  obtain ⟨day, hd, rfl⟩ := List.mem_map.mp hs
  exact (t.calOk.2.2 day hd).filter _⟩, by unfold calRest; rw [List.length_map]; exact t.two⟩
end
end K85

/-! M5: other names. -/
namespace K85
open PySem PySem.Spec PyProof.Rows L2
theorem idx_get : ∀ {xs : List Int} {i : Nat} (h : xs.Nodup) (hi : i < xs.length), xs.idxOf xs[i] = i
  | [], i, _, hi => by simp at hi
  | x :: xs, 0, _, _ => by simp [List.idxOf_cons]
  | x :: xs, i + 1, h, hi => by
    have h' := List.nodup_cons.mp h
    have hi' : i < xs.length := by simpa using hi
    have hne : x ≠ xs[i] := fun e => h'.1 (e ▸ List.getElem_mem hi')
    rw [List.getElem_cons_succ, List.idxOf_cons, beq_eq_false_iff_ne.mpr hne]
    simp [idx_get h'.2 hi']
theorem sum_perm {xs ys : List Int} (h : xs.Perm ys) : xs.sum = ys.sum := by
  induction h with
  | nil => rfl
  | cons x _ ih => simp [ih]
  | swap x y l => simp; omega
  | trans _ _ a b => exact a.trans b
theorem ord_sur {n : Nat} {os : List Int} (ho : IsOrd n os) {j : Int} (hj : 0 ≤ j ∧ j < n) : j ∈ os := by
  by_cases h : j ∈ os
  · exact h
  · have h1 := nodup_sub_len (xs := j :: os) (ys := rngI n) (List.nodup_cons.mpr ⟨h, ho.2.1⟩) fun x hx => by
      rcases List.mem_cons.mp hx with e | hx
      · exact mem_rngI.mpr (e ▸ hj)
      · exact mem_rngI.mpr (ho.2.2 x hx)
    have e : (rngI n).length = n := by unfold rngI; simp
    rw [List.length_cons, ho.1, e] at h1
    omega
theorem ord_idx {n : Nat} {os : List Int} (ho : IsOrd n os) {k : Int} (hk : 0 ≤ k ∧ k < n) : ((os.idxOf (oa os k) : Nat) : Int) = k := by
  have h := oa_get ho hk
  obtain ⟨h1, h2⟩ := List.getElem?_eq_some_iff.mp h
  rw [← h2, idx_get ho.2.1 h1]
  omega
def back (n : Nat) (os : List Int) : List Int := (rngI n).map fun x => ((os.idxOf x : Nat) : Int)
def moved (n : Nat) (os xs : List Int) : List Int := (back n os).map (oa xs)
def sig (os s : List Int) : List Int := sortI (s.map (oa os))
def tau (os : List Int) (D : Dts) : Dts := sortP (D.map fun p => (oa os p.1, p.2))
def tauS (os : List Int) (s : Spot) : Spot := (s.1, tau os s.2)
def rho (os : List Int) : Deed → Deed
  | .come k => .come (oa os k)
  | .day => .day
  | .gone k => .gone (oa os k)
theorem mem_sig {os s : List Int} {k : Int} : k ∈ sig os s ↔ ∃ j ∈ s, oa os j = k := by
  unfold sig
  rw [mem_sortI, List.mem_map]
theorem mem_tau {os : List Int} {D : Dts} {p : Int × Int} : p ∈ tau os D ↔ ∃ q ∈ D, (oa os q.1, q.2) = p := by
  unfold tau
  rw [mem_sortP, List.mem_map]
section
variable {n : Nat} {os : List Int} (ho : IsOrd n os)
include ho
theorem back_len : (back n os).length = n := by unfold back rngI; simp
theorem moved_len (xs : List Int) : (moved n os xs).length = n := by
  unfold moved
  rw [List.length_map, back_len ho]
theorem moved_at (xs : List Int) {k : Int} (hk : 0 ≤ k ∧ k < n) : oa (moved n os xs) (oa os k) = oa xs k := by
  have hr := oa_rng ho hk
  have h1 : (moved n os xs)[(oa os k).toNat]? = some (oa xs k) := by
    unfold moved back rngI
    rw [List.getElem?_map, List.getElem?_map, List.getElem?_map, List.getElem?_range (by omega)]
    show some (oa xs ((os.idxOf (((oa os k).toNat : Nat) : Int) : Nat) : Int)) = _
    have e : (((oa os k).toNat : Nat) : Int) = oa os k := by omega
    rw [e, ord_idx ho hk]
  show (moved n os xs).getD _ 0 = _
  rw [List.getD_eq_getElem?_getD, h1]
  rfl
theorem sig_mem {s : List Int} (hs : ∀ x ∈ s, 0 ≤ x ∧ x < (n : Int)) {k : Int} (hk : 0 ≤ k ∧ k < n) : oa os k ∈ sig os s ↔ k ∈ s := by
  rw [mem_sig]
  constructor
  · rintro ⟨j, hj, e⟩
    exact oa_inj ho (hs j hj) hk e ▸ hj
  · intro h
    exact ⟨k, h, rfl⟩
theorem sig_set {s : List Int} (hs : IsSet n s) : IsSet n (sig os s) := ⟨asc_of_nodup (nodup_map_oa ho hs), fun x hx => by
  obtain ⟨j, hj, rfl⟩ := mem_sig.mp hx
  exact oa_rng ho (hs.2 j hj)⟩
theorem elder_sig {s : List Int} (hs : IsSet n s) : elder n os (sig os s) = s := by
  refine asc_ext ((rngI_asc n).filter _) hs.1 fun k => ?_
  show k ∈ elder n os (sig os s) ↔ _
  unfold elder
  rw [List.mem_filter, mem_rngI]
  constructor
  · rintro ⟨h1, h2⟩
    exact (sig_mem ho hs.2 h1).mp (of_decide_eq_true h2)
  · intro h
    exact ⟨hs.2 k h, decide_eq_true ((sig_mem ho hs.2 (hs.2 k h)).mpr h)⟩
theorem ren_sig {c : List Int → List Int} {s : List Int} (hs : IsSet n s) : ren n os c (sig os s) = sig os (c s) := by
  unfold ren
  rw [elder_sig ho hs]
  rfl
theorem dated_rng {l : List Int} (hl : l.length = n) {D : Dts} (h : IsDated l D) {p : Int × Int} (hp : p ∈ D) : 0 ≤ p.1 ∧ p.1 < n := by
  have := h.2 p hp
  rw [hl] at this
  exact ⟨this.1, this.2.1⟩
theorem tau_dated {l : List Int} (hl : l.length = n) {D : Dts} (h : IsDated l D) : IsDated (moved n os l) (tau os D) := by
  have hset : IsSet n (D.map (·.1)) := ⟨h.1, fun x hx => by
    obtain ⟨p, hp, rfl⟩ := List.mem_map.mp hx
    exact dated_rng ho hl h hp⟩
  refine ⟨sortP_asc ?_, fun p hp => ?_⟩
  · rw [List.map_map]
    have := nodup_map_oa ho hset
    rw [List.map_map] at this
    exact this
  · obtain ⟨q, hq, rfl⟩ := mem_tau.mp hp
    have hr := dated_rng ho hl h hq
    have h2 := h.2 q hq
    rw [moved_len ho]
    show 0 ≤ oa os q.1 ∧ oa os q.1 < (n : Int) ∧ 1 ≤ q.2 ∧ q.2 ≤ oa (moved n os l) (oa os q.1)
    rw [moved_at ho l hr]
    have := oa_rng ho hr
    exact ⟨this.1, this.2, h2.2.2.1, h2.2.2.2⟩
theorem beside_tau {l : List Int} (hl : l.length = n) {D : Dts} (h : IsDated l D) {z : List Int} (hz : IsSet n z) {p : Int × Int} (hp : p ∈ D) : beside (sig os z) (tau os D) (oa os p.1, p.2) = sig os (beside z D p) := by
  have hb : IsSet n (beside z D p) := ⟨h.1.sublist (List.Sublist.map _ List.filter_sublist), fun x hx => by
    obtain ⟨q, hq, rfl, _⟩ := mem_beside.mp hx
    exact dated_rng ho hl h hq⟩
  have hp1 := dated_rng ho hl h hp
  refine asc_ext ((tau_dated ho hl h).1.sublist (List.Sublist.map _ List.filter_sublist)) (sig_set ho hb).1 fun k => ?_
  show k ∈ beside _ _ _ ↔ _
  rw [mem_beside, mem_sig]
  constructor
  · rintro ⟨q', hq', e, h2⟩
    obtain ⟨q, hq, rfl⟩ := mem_tau.mp hq'
    have hq1 := dated_rng ho hl h hq
    refine ⟨q.1, mem_beside.mpr ⟨q, hq, rfl, ?_⟩, e⟩
    rcases h2 with h2 | ⟨h2, h3⟩
    · exact .inl (oa_inj ho hq1 hp1 h2)
    · exact .inr ⟨h2, fun g => h3 ((sig_mem ho hz.2 hq1).mpr g)⟩
  · rintro ⟨j, hj, e⟩
    obtain ⟨q, hq, rfl, h2⟩ := mem_beside.mp hj
    have hq1 := dated_rng ho hl h hq
    refine ⟨(oa os q.1, q.2), mem_tau.mpr ⟨q, hq, rfl⟩, e, ?_⟩
    rcases h2 with h2 | ⟨h2, h3⟩
    · exact .inl (by show oa os q.1 = oa os p.1; rw [h2])
    · exact .inr ⟨h2, fun g => h3 ((sig_mem ho hz.2 hq1).mp g)⟩
/-- skylines have the names -/
theorem sky_tau (hn : n = 2 ∨ n = 3) {l : List Int} (hl : l.length = n) {c : List Int → List Int} (hc : Good n c) {D : Dts} (h : IsDated l D) {z : List Int} (hz : IsSet n z) : sky (ren n os c) (sig os z) (tau os D) = tau os (sky c z D) := by
  refine dts_ext (sky_dated (tau_dated ho hl h) _ _).1 (tau_dated ho hl (sky_dated h c z)).1 fun p => ?_
  show p ∈ sky _ _ _ ↔ p ∈ tau _ _
  have step : ∀ q ∈ D, (oa os q.1 ∈ ren n os c (beside (sig os z) (tau os D) (oa os q.1, q.2)) ↔ q.1 ∈ c (beside z D q)) := fun q hq => by
    have hb := beside_mem hn hl h z q
    rw [beside_tau ho hl h hz hq, ren_sig ho ((mem_allSets hn).mp hb)]
    exact sig_mem ho (hc _ hb).1.2 (dated_rng ho hl h hq)
  refine Iff.trans mem_sky (Iff.trans ?_ mem_tau.symm)
  constructor
  · rintro ⟨h1, h2⟩
    obtain ⟨q, hq, rfl⟩ := mem_tau.mp h1
    exact ⟨q, mem_sky.mpr ⟨hq, (step q hq).mp h2⟩, rfl⟩
  · rintro ⟨q, hq, rfl⟩
    obtain ⟨h1, h2⟩ := mem_sky.mp hq
    exact ⟨mem_tau.mpr ⟨q, h1, rfl⟩, (step q h1).mpr h2⟩
theorem rho_ok {l : List Int} (hl : l.length = n) {d : Deed} (hd : DeedOk l d) : DeedOk (moved n os l) (rho os d) := by
  cases d with
  | come k =>
    have hd' : 0 ≤ k ∧ k < (l.length : Int) := hd
    rw [hl] at hd'
    have := oa_rng ho hd'
    show 0 ≤ oa os k ∧ oa os k < ((moved n os l).length : Int)
    rw [moved_len ho]
    exact this
  | day => trivial
  | gone k => trivial
theorem moved_lives {l : List Int} (hl : l.length = n) {a b : Int} (h : ∀ x ∈ l, a ≤ x ∧ x ≤ b) : ∀ x ∈ moved n os l, a ≤ x ∧ x ≤ b := fun x hx => by
  unfold moved at hx
  obtain ⟨j, hj, rfl⟩ := List.mem_map.mp hx
  unfold back at hj
  obtain ⟨y, hy, rfl⟩ := List.mem_map.mp hj
  have hy' := mem_rngI.mp hy
  have hlt : os.idxOf y < os.length := List.idxOf_lt_length_of_mem (ord_sur ho hy')
  rw [ho.1] at hlt
  exact h _ (List.mem_of_getElem? (oaGet (l := l) (k := ((os.idxOf y : Nat) : Int)) (by omega) (by rw [hl]; omega)))
/-- what is behind has the names -/
theorem beh_tau {l : List Int} (hl : l.length = n) (hL : Lives l) (hL' : Lives (moved n os l)) {D : Dts} (h : IsDated l D) {d : Deed} (hd : DeedOk l d) (hg : ∀ k, d = .gone k → 0 ≤ k ∧ k < (n : Int)) : beh (moved n os l) (tau os D) (rho os d) = tau os (beh l D d) := by
  refine dts_ext (beh_dated hL' (tau_dated ho hl h) (rho_ok ho hl hd)).1 (tau_dated ho hl (beh_dated hL h hd)).1 fun p => ?_
  show p ∈ beh _ _ _ ↔ p ∈ tau _ _
  cases d with
  | come k =>
    have hd' : 0 ≤ k ∧ k < (n : Int) := by
      have : 0 ≤ k ∧ k < (l.length : Int) := hd
      rw [hl] at this
      exact this
    show p ∈ beh _ _ (.come (oa os k)) ↔ _
    refine Iff.trans mem_beh_come (Iff.trans ?_ mem_tau.symm)
    constructor
    · rintro (⟨h1, h2⟩ | h1)
      · obtain ⟨q, hq, rfl⟩ := mem_tau.mp h1
        exact ⟨q, mem_beh_come.mpr (.inl ⟨hq, fun e => h2 (by show oa os q.1 = _; rw [e])⟩), rfl⟩
      · refine ⟨(k, oa l k), mem_beh_come.mpr (.inr rfl), ?_⟩
        rw [h1, moved_at ho l hd']
    · rintro ⟨q, hq, rfl⟩
      rcases mem_beh_come.mp hq with ⟨h1, h2⟩ | h1
      · exact .inl ⟨mem_tau.mpr ⟨q, h1, rfl⟩, fun e => h2 (oa_inj ho (dated_rng ho hl h h1) hd' e)⟩
      · subst h1
        right
        rw [moved_at ho l hd']
  | day =>
    show p ∈ beh _ _ .day ↔ _
    refine Iff.trans mem_beh_day (Iff.trans ?_ mem_tau.symm)
    constructor
    · rintro ⟨h1, h2⟩
      obtain ⟨q, hq, e⟩ := mem_tau.mp h2
      have e1 : oa os q.1 = p.1 := congrArg Prod.fst e
      have e2 : q.2 = p.2 + 1 := congrArg Prod.snd e
      refine ⟨(q.1, p.2), mem_beh_day.mpr ⟨h1, ?_⟩, Prod.ext e1 rfl⟩
      show (q.1, p.2 + 1) ∈ D
      rw [← e2]
      exact hq
    · rintro ⟨q, hq, rfl⟩
      obtain ⟨h1, h2⟩ := mem_beh_day.mp hq
      exact ⟨h1, mem_tau.mpr ⟨_, h2, rfl⟩⟩
  | gone k =>
    have hk := hg k rfl
    show p ∈ beh _ _ (.gone (oa os k)) ↔ _
    refine Iff.trans mem_beh_gone (Iff.trans ?_ mem_tau.symm)
    constructor
    · rintro ⟨h1, h2⟩
      obtain ⟨q, hq, rfl⟩ := mem_tau.mp h1
      exact ⟨q, mem_beh_gone.mpr ⟨hq, fun e => h2 (by show oa os q.1 = _; rw [e])⟩, rfl⟩
    · rintro ⟨q, hq, rfl⟩
      obtain ⟨h1, h2⟩ := mem_beh_gone.mp hq
      exact ⟨mem_tau.mpr ⟨q, h1, rfl⟩, fun e => h2 (oa_inj ho (dated_rng ho hl h h1) hk e)⟩
theorem tau_inj {l : List Int} (hl : l.length = n) {D E : Dts} (hD : IsDated l D) (hE : IsDated l E) (e : tau os D = tau os E) : D = E := by
  have key : ∀ {D E : Dts}, IsDated l D → IsDated l E → tau os D = tau os E → ∀ p ∈ D, p ∈ E := fun {D E} hD hE e p hp => by
    have h1 : (oa os p.1, p.2) ∈ tau os E := e ▸ mem_tau.mpr ⟨p, hp, rfl⟩
    obtain ⟨q, hq, e2⟩ := mem_tau.mp h1
    have e3 : oa os q.1 = oa os p.1 := (Prod.mk.inj e2).1
    have e4 : q.2 = p.2 := (Prod.mk.inj e2).2
    have e5 : q = p := Prod.ext (oa_inj ho (dated_rng ho hl hE hq) (dated_rng ho hl hD hp) e3) e4
    exact e5 ▸ hq
  exact dts_ext hD.1 hE.1 fun p => ⟨key hD hE e p, key hE hD e.symm p⟩
theorem worth_tau {l : List Int} (hl : l.length = n) (ws : List Int) {D : Dts} (h : IsDated l D) : worth (moved n os ws) (tau os D) = worth ws D := by
  unfold worth tau sortP
  rw [sum_perm ((List.mergeSort_perm _ _).map _), List.map_map]
  congr 1
  exact List.map_congr_left fun p hp => moved_at ho ws (dated_rng ho hl h hp)
end
/-! ### the search with other names -/
def calSig (os : List Int) (cal : List (List Int)) : List (List Int) := cal.map (sig os)
theorem sig_nil (os : List Int) : sig os [] = [] := by unfold sig sortI; simp
theorem daySig {os : List Int} {cal : List (List Int)} {i : Int} : dayOf (calSig os cal) i = sig os (dayOf cal i) := by
  unfold dayOf calSig
  rw [List.getD_eq_getElem?_getD, List.getD_eq_getElem?_getD, List.getElem?_map]
  cases cal[i.toNat]? with
  | none => exact (sig_nil os).symm
  | some x => rfl
theorem mem_deeds {cal : List (List Int)} {z : List Int} {i : Int} {d : Deed} : d ∈ deedsOf cal z i ↔ (∃ k ∈ dayOf cal i, d = .come k) ∨ d = .day ∨ ∃ k ∈ z, d = .gone k := by
  unfold deedsOf
  rw [List.mem_append, List.mem_append, List.mem_map, List.mem_map, List.mem_singleton, or_assoc]
  constructor
  · rintro (⟨k, h, e⟩ | h | ⟨k, h, e⟩)
    · exact .inl ⟨k, h, e.symm⟩
    · exact .inr (.inl h)
    · exact .inr (.inr ⟨k, h, e.symm⟩)
  · rintro (⟨k, h, e⟩ | h | ⟨k, h, e⟩)
    · exact .inl ⟨k, h, e.symm⟩
    · exact .inr (.inl h)
    · exact .inr (.inr ⟨k, h, e.symm⟩)
theorem deedsSig {os : List Int} {cal : List (List Int)} {z : List Int} {i : Int} {d : Deed} : d ∈ deedsOf (calSig os cal) (sig os z) i ↔ ∃ e ∈ deedsOf cal z i, rho os e = d := by
  rw [mem_deeds, daySig]
  constructor
  · rintro (⟨k, h, rfl⟩ | rfl | ⟨k, h, rfl⟩)
    · obtain ⟨j, hj, rfl⟩ := mem_sig.mp h
      exact ⟨.come j, mem_deeds.mpr (.inl ⟨j, hj, rfl⟩), rfl⟩
    · exact ⟨.day, mem_deeds.mpr (.inr (.inl rfl)), rfl⟩
    · obtain ⟨j, hj, rfl⟩ := mem_sig.mp h
      exact ⟨.gone j, mem_deeds.mpr (.inr (.inr ⟨j, hj, rfl⟩)), rfl⟩
  · rintro ⟨e, he, rfl⟩
    rcases mem_deeds.mp he with ⟨k, h, rfl⟩ | rfl | ⟨k, h, rfl⟩
    · exact .inl ⟨_, mem_sig.mpr ⟨k, h, rfl⟩, rfl⟩
    · exact .inr (.inl rfl)
    · exact .inr (.inr ⟨_, mem_sig.mpr ⟨k, h, rfl⟩, rfl⟩)
theorem rho_day (os : List Int) (d : Deed) : dKind (rho os d) = dKind d := by cases d <;> rfl
section
variable {n : Nat} {os l z : List Int} {cal : List (List Int)} {c : List Int → List Int}
theorem tiny_sig (ho : IsOrd n os) (t : Tiny n l cal) : Tiny n (moved n os l) (calSig os cal) := ⟨t.two3, moved_len ho l, moved_lives ho t.len t.lives, ⟨by unfold calSig; rw [List.length_map]; exact t.calOk.1, by unfold calSig; rw [List.length_map]; exact t.calOk.2.1, fun s hs => by
  obtain ⟨day, hd, rfl⟩ := List.mem_map.mp hs
  exact sig_set ho (t.calOk.2.2 day hd)⟩, by unfold calSig; rw [List.length_map]; exact t.two⟩
theorem aft_tau (ho : IsOrd n os) (t : Tiny n l cal) (hc : Good n c) (hz : IsSet n z) {s : Spot} (hs : SpotOk l cal.length s) {d : Deed} (hd : d ∈ nbS cal z s) : aft (ren n os c) (moved n os l) (sig os z) (calSig os cal).length (tauS os s) (rho os d) = tauS os (aft c l z cal.length s d) := by
  have hdz := deedsZ t hs.1 hs.2.1 hd
  have hlen : (calSig os cal).length = cal.length := List.length_map ..
  have hb := beh_dated t.lv hs.2.2 hdz.ok
  unfold aft tauS
  rw [hlen, rho_day, beh_tau ho t.len t.lv (tiny_sig ho t).lv hs.2.2 hdz.ok (fun k e => by subst e; exact hz.2 k hdz), sky_tau ho t.two3 t.len hc hb hz]
theorem tau0 (os : List Int) : tauS os (0, []) = (0, []) := by unfold tauS tau sortP; simp
theorem rs_tau (ho : IsOrd n os) (t : Tiny n l cal) (hc : Good n c) (hz : IsSet n z) {j : Nat} {k : Spot} : RS (ren n os c) (moved n os l) (sig os z) (calSig os cal) j k ↔ ∃ s, RS c l z cal j s ∧ tauS os s = k := by
  constructor
  · intro h
    induction h with
    | z => exact ⟨(0, []), .z, tau0 os⟩
    | s hs hd ih =>
      obtain ⟨s, hs', rfl⟩ := ih
      obtain ⟨d, hd', rfl⟩ := deedsSig.mp hd
      exact ⟨_, RN.s (nb := nbS cal z) (go := aft c l z cal.length) hs' hd', (aft_tau ho t hc hz (rs_ok t hs') hd').symm⟩
  · rintro ⟨s, h, rfl⟩
    induction h with
    | z =>
      rw [tau0]
      exact .z
    | @s j s d hs hd ih =>
      have h2 := RN.s (nb := nbS (calSig os cal) (sig os z)) (go := aft (ren n os c) (moved n os l) (sig os z) (calSig os cal).length) ih (d := rho os d) (deedsSig.mpr ⟨d, hd, rfl⟩)
      rw [aft_tau ho t hc hz (rs_ok t hs) hd] at h2
      exact h2
theorem tauS_inj (ho : IsOrd n os) (t : Tiny n l cal) {s s' : Spot} (h : SpotOk l cal.length s) (h' : SpotOk l cal.length s') (e : tauS os s = tauS os s') : s = s' := by
  have e' : (s.1, tau os s.2) = (s'.1, tau os s'.2) := e
  exact Prod.ext (Prod.mk.inj e').1 (tau_inj ho t.len h.2.2 h'.2.2 (Prod.mk.inj e').2)
abbrev DS (c : List Int → List Int) (l z : List Int) (cal : List (List Int)) : Nat → Spot → Prop := Dist (nbS cal z) (aft c l z cal.length) (0, [])
theorem ds_tau (ho : IsOrd n os) (t : Tiny n l cal) (hc : Good n c) (hz : IsSet n z) {j : Nat} {s : Spot} (h : DS c l z cal j s) : DS (ren n os c) (moved n os l) (sig os z) (calSig os cal) j (tauS os s) := by
  refine ⟨(rs_tau ho t hc hz).mpr ⟨s, h.1, rfl⟩, fun m hm hr => ?_⟩
  obtain ⟨s', hs', e⟩ := (rs_tau ho t hc hz).mp hr
  have := tauS_inj ho t (rs_ok t hs') (rs_ok t h.1) e
  subst this
  exact h.2 m hm hs'
abbrev strR (n : Nat) (os : List Int) (c : List Int → List Int) (l z : List Int) (cal : List (List Int)) : Fnd := streams (ren n os c) (moved n os l) (sig os z) (calSig os cal)
theorem shelf_tau (ho : IsOrd n os) (t : Tiny n l cal) (hc : Good n c) (hz : IsSet n z) {ws : List Int} {m : Int} : IsMax m (worths (strR n os c l z cal) (moved n os ws)) ↔ IsMax m (worths (streams c l z cal) ws) := by
  rw [shelf_iff (tiny_sig ho t), shelf_iff t]
  have w : ∀ j s, RS c l z cal j s → worth (moved n os ws) (tau os s.2) = worth ws s.2 := fun j s hs => worth_tau ho t.len ws (rs_ok t hs).2.2
  constructor
  · rintro ⟨⟨j, k, hk, e⟩, h2⟩
    obtain ⟨s, hs, rfl⟩ := (rs_tau ho t hc hz).mp hk
    refine ⟨⟨j, s, hs, by rw [← w j s hs]; exact e⟩, fun j s hs => ?_⟩
    rw [← w j s hs]
    exact h2 j (tauS os s) ((rs_tau ho t hc hz).mpr ⟨s, hs, rfl⟩)
  · rintro ⟨⟨j, s, hs, e⟩, h2⟩
    refine ⟨⟨j, tauS os s, (rs_tau ho t hc hz).mpr ⟨s, hs, rfl⟩, by rw [← e, ← w j s hs]; rfl⟩, fun j k hk => ?_⟩
    obtain ⟨s, hs, rfl⟩ := (rs_tau ho t hc hz).mp hk
    show worth _ (tau os s.2) ≤ m
    rw [w j s hs]
    exact h2 j s hs
theorem spots_tau (ho : IsOrd n os) (t : Tiny n l cal) (hc : Good n c) (hz : IsSet n z) : (strR n os c l z cal).length = (streams c l z cal).length := by
  have F := found_streams t c z
  have F' := found_streams (tiny_sig ho t) (ren n os c) (sig os z)
  have h1 := nodup_sub_len (ys := ((streams c l z cal).map (·.1)).map (tauS os)) F'.once fun k hk => by
    obtain ⟨j, hj⟩ := (F'.all k).mp hk
    obtain ⟨s, hs, rfl⟩ := (rs_tau ho t hc hz).mp hj
    exact List.mem_map.mpr ⟨s, (F.all s).mpr ⟨j, hs⟩, rfl⟩
  have hnd : (((streams c l z cal).map (·.1)).map (tauS os)).Nodup := by
    have h0 := F.once
    have hall : ∀ s ∈ (streams c l z cal).map (·.1), SpotOk l cal.length s := fun s hs => by
      obtain ⟨j, hj⟩ := (F.all s).mp hs
      exact rs_ok t hj
    generalize (streams c l z cal).map (·.1) = xs at h0 hall
    induction xs with
    | nil => exact List.nodup_nil
    | cons x xs ih =>
      have h0' := List.nodup_cons.mp h0
      rw [List.map_cons]
      refine List.nodup_cons.mpr ⟨fun hm => ?_, ih h0'.2 fun s hs => hall s (List.mem_cons_of_mem _ hs)⟩
      obtain ⟨y, hy, e⟩ := List.mem_map.mp hm
      have := tauS_inj ho t (hall y (List.mem_cons_of_mem _ hy)) (hall x List.mem_cons_self) e
      exact h0'.1 (this ▸ hy)
  have h2 := nodup_sub_len (ys := (strR n os c l z cal).map (·.1)) hnd fun k hk => by
    obtain ⟨s, hs, rfl⟩ := List.mem_map.mp hk
    obtain ⟨j, hj⟩ := (F.all s).mp hs
    exact (F'.all _).mpr ⟨j, (rs_tau ho t hc hz).mpr ⟨s, hj, rfl⟩⟩
  have h1' : (strR n os c l z cal).length ≤ (streams c l z cal).length := by simpa using h1
  have h2' : (streams c l z cal).length ≤ (strR n os c l z cal).length := by simpa using h2
  exact Nat.le_antisymm h1' h2'
theorem first_least {F : Fnd} {ws : List Int} {m : Int} {x : Spot × List Deed} (hmono : (F.map (·.2.length)).Pairwise (· ≤ ·)) (h : firstTo F ws m = some x) : x ∈ F ∧ m ≤ worth ws x.1.2 ∧ ∀ y ∈ F, m ≤ worth ws y.1.2 → x.2.length ≤ y.2.length := by
  induction F with
  | nil => cases h
  | cons a F ih =>
    have hm' := List.pairwise_cons.mp (show (a.2.length :: F.map (·.2.length)).Pairwise (· ≤ ·) from hmono)
    unfold firstTo at h ih
    rw [List.find?_cons] at h
    cases ha : decide (m ≤ worth ws a.1.2) with
    | true =>
      rw [ha] at h
      have e : a = x := Option.some.inj h
      subst e
      refine ⟨List.mem_cons_self, of_decide_eq_true ha, fun y hy _ => ?_⟩
      rcases List.mem_cons.mp hy with rfl | hy
      · exact Nat.le_refl _
      · exact hm'.1 _ (List.mem_map.mpr ⟨y, hy, rfl⟩)
    | false =>
      rw [ha] at h
      obtain ⟨h1, h2, h3⟩ := ih hm'.2 h
      refine ⟨List.mem_cons_of_mem _ h1, h2, fun y hy hw => ?_⟩
      rcases List.mem_cons.mp hy with rfl | hy
      · exact absurd hw (of_decide_eq_false ha)
      · exact h3 y hy hw
theorem first_some {F : Fnd} {ws : List Int} {m : Int} (h : IsMax m (worths F ws)) : ∃ x, firstTo F ws m = some x := by
  obtain ⟨y, hy, e⟩ := List.mem_map.mp h.1
  cases hf : firstTo F ws m with
  | some x => exact ⟨x, rfl⟩
  | none =>
    have := List.find?_eq_none.mp hf y hy
    rw [e] at this
    simp at this
theorem first_tau (ho : IsOrd n os) (t : Tiny n l cal) (hc : Good n c) (hz : IsSet n z) {ws : List Int} {m : Int} {x x' : Spot × List Deed} (h : firstTo (streams c l z cal) ws m = some x) (h' : firstTo (strR n os c l z cal) (moved n os ws) m = some x') : x'.2.length = x.2.length := by
  have F := found_streams t c z
  have F' := found_streams (tiny_sig ho t) (ren n os c) (sig os z)
  obtain ⟨a1, a2, a3⟩ := first_least F.mono h
  obtain ⟨b1, b2, b3⟩ := first_least F'.mono h'
  have w : ∀ j s, RS c l z cal j s → worth (moved n os ws) (tau os s.2) = worth ws s.2 := fun j s hs => worth_tau ho t.len ws (rs_ok t hs).2.2
  have e1 : x'.2.length ≤ x.2.length := by
    have hd := F.dist x a1
    have hd' := ds_tau ho t hc hz hd
    obtain ⟨y, hy, e⟩ := List.mem_map.mp ((F'.all (tauS os x.1)).mpr ⟨_, hd'.1⟩)
    have hy' := F'.dist y hy
    rw [e] at hy'
    have e2 := Dist.uniq _ _ _ hy' hd'
    rw [← e2]
    refine b3 y hy ?_
    rw [e]
    show m ≤ worth _ (tau os x.1.2)
    rw [w _ _ hd.1]
    exact a2
  have e2 : x.2.length ≤ x'.2.length := by
    have hd' := F'.dist x' b1
    obtain ⟨s, hs, e⟩ := (rs_tau ho t hc hz).mp hd'.1
    obtain ⟨j, hj, hds⟩ := exists_dist _ _ _ hs
    have hds' := ds_tau ho t hc hz hds
    rw [e] at hds'
    have ej := Dist.uniq _ _ _ hds' hd'
    obtain ⟨y, hy, ey⟩ := List.mem_map.mp ((F.all s).mpr ⟨_, hs⟩)
    have hyd := F.dist y hy
    rw [ey] at hyd
    have ey2 := Dist.uniq _ _ _ hyd hds
    rw [← ej, ← ey2]
    refine a3 y hy ?_
    rw [ey, ← w _ _ hs]
    have : (tauS os s).2 = x'.1.2 := congrArg Prod.snd e
    show m ≤ worth _ (tauS os s).2
    rw [this]
    exact b2
  omega
end
end K85

/-! W15: _law_names_right. -/
namespace K85
open PySem PySem.Spec PyProof.Rows L2
theorem erase_facts {L : List Int} {j : Nat} {x : Int} (h : L.Nodup) (hx : L[j]? = some x) : (L.eraseIdx j).Nodup ∧ (L.eraseIdx j).length + 1 = L.length ∧ x ∉ L.eraseIdx j ∧ ∀ y ∈ L.eraseIdx j, y ∈ L := by
  obtain ⟨hj, e⟩ := List.getElem?_eq_some_iff.mp hx
  have hs := List.eraseIdx_sublist L j
  refine ⟨h.sublist hs, ?_, fun hm => ?_, fun y hy => hs.subset hy⟩
  · rw [List.length_eraseIdx_of_lt hj]
    omega
  · rw [List.eraseIdx_eq_take_drop_succ] at hm
    have hd : L = L.take j ++ (x :: L.drop (j + 1)) := by rw [← e]; simp
    rw [hd] at h
    obtain ⟨h1, h2, h3⟩ := List.nodup_append.mp h
    rcases List.mem_append.mp hm with q | q
    · exact h3 x q x List.mem_cons_self rfl
    · exact (List.nodup_cons.mp h2).1 q
theorem erase_map {α β : Type} (f : α → β) (xs : List α) (j : Nat) : (xs.map f).eraseIdx j = (xs.eraseIdx j).map f := by
  rw [List.eraseIdx_eq_take_drop_succ, List.eraseIdx_eq_take_drop_succ, List.map_append, List.map_take, List.map_drop]
section
variable {g : Cfg}
def R_names (as : List A) (cost : Nat) (P : A → Prop) : Prop := ∃ (n : Nat) (c : List Int → List Int) (l z : List Int) (cal : List (List Int)) (ws : List Int), as = [.ch n c, .tr l z, .d (dCal cal), aSet ws] ∧ Tiny n l cal ∧ Good n c ∧ IsSet n z ∧ IsWs n ws ∧ cost = 15 ∧ P = fun z => z = .bl true
theorem S_names : FnScope ["_law_deck_here", "_law_chooser", "_law_trade", "_law_calendar", "_law_worths", "_law_offers", "_law_left", "_law_order", "_law_go", "_law_back", "_law_other", "_law_made", "_law_days", "_law_turn", "_law_dated_here", "_law_due", "_law_moved", "_law_x", "_law_day"]
    ["_law_deck_here", "_law_chooser", "_law_trade", "_law_calendar", "_law_worths"] (defScope s_law_names_right) := ⟨rfl, rfl, rfl, by decide +kernel, rfl, by decide +kernel, by decide +kernel⟩
structure Lib (g : Cfg) : Prop where
  draw : DrawIs g
  pick : PickIs g
  lists : Def1 g 3 "_law_lists" (spK g 1 R_lists)
  dated : Def1 g 2 "_law_dated" (spK g 1 R_ddated)
  turned : Def1 g 1 "_law_turned" (spP g 2 R_turned)
  renamed : Def1 g 5 "renamed" (spP g 2 R_ren)
  mkT : MakT g
  lenC : LenC g
  lenT : LenT g
  skyline : Def1 g 5 "skyline" (spP g 3 R_sky)
  shelf : DefK g 6 "shelf" (spP g 5 R_shelf)
  spots : DefK g 5 "spots" (spP g 4 R_spots)
  fg : DefK g 6 "first_greatest" (spP g 5 R_fg)
  either : Def1 g 5 "either_of" (spP g 2 R_either)
  turn2 : Def1 g 5 "in_turn" (spP g 2 R_turn2)
  leave : Def1 g 5 "leaving_out" (spP g 2 R_leave)
  byl : Def1 g 5 "by_lists" (spP g 2 R_by_lists)
  puts : Def1 g 1 "put_together" (spP g 2 R_puts)
  taken : MetT g
  sets : Def1 g 1 "all_sets" (spP g 1 R_all_sets)
theorem tau_map (os : List Int) (D : Dts) : tau os D = sortP (D.map fun p => (oa os p.1, p.2)) := rfl
theorem ok_names (T : Txt g) (F : DefIn g "_law_names_right" s_law_names_right) (L : Lib g) : Def1 g 7 "_law_names_right" (spK g 4 R_names) := by
  obtain ⟨f, fd, F, hm⟩ := F
  refine def_D F hm (F.bindsN (ps := ["_law_deck_here", "_law_chooser", "_law_trade", "_law_calendar", "_law_worths"]) fun _ _ _ _ _ _ us hl => match us, hl with | [_, _, _, _, _], _ => rfl) S_names T rfl fun X c d cl as k cost P hR hl hk σ H Q dk r q => ?_
  obtain ⟨n, ch, l, z, cal, ws, rfl, t, hg, hz, hw, rfl, rfl⟩ := hR
  have c' := c.toCxk
  have hn := t.two3
  have n2 : 2 ≤ n := by omega
  -- offers, left, order
  refine wB_cons ⟨_, ps_asg (pe_tup pa_w) (pg_tup c.calm (pgs_cons (pg_ND (i := 5) c rfl (.inl rfl)) (pgs_cons (pg_ND (i := 6) c rfl (.inl rfl)) (pgs_cons (pg_ND (i := 7) c rfl (.inr rfl)) pgs_nil))) (n := 3)) rfl (by rw [sw_env c']; rfl), ?_⟩
  refine wA_cons (useE r (de_lenA c' L.lenC L.lenT (by decide) (de_var 2 c') (show lenA (.tr l z) = some n from congrArg some t.len) (nIs hn)) fun v1 H1 s1 w1 => wA_cons (useL (r.mono s1) (dl_listRg c' (de_lenA c' L.lenC L.lenT (by decide) (de_var 2 c') (show lenA (.tr l z) = some n from congrArg some t.len) (nIs hn)) (by omega)) fun lp xs H2 h2 s2 e2 w2 => wA_cons (useE (r.mono (s1.trans s2)) (de_tup (ds := []) da_nil) fun v3 H3 s3 w3 => wA_nil ⟨by show 3 ≤ _; decide, fun tp htp => ?_⟩)))
  have s4 : Same H3 (upd H3 tp (.tup [v1, .ref lp, v3])) := Same.newO htp
  refine ⟨tp, _, rfl, .inl (.inl upd_same), rfl, _, _, rfl, _, _, rfl, _, _, rfl, rfl, ?_⟩
  have r4 : Rel g (upd H3 tp (.tup [v1, .ref lp, v3])) _ _ := ((((r.mono ((s1.trans s2).trans (s3.trans s4))).set 5 (w1.mono (s2.trans (s3.trans s4)))).set 6 (.obj (.ref lp))).set 7 (w3.mono s4))
  have sA : Same H (upd H3 tp (.tup [v1, .ref lp, v3])) := (s1.trans s2).trans (s3.trans s4)
  have el4 : (upd H3 tp (.tup [v1, .ref lp, v3])) lp = some (.lst ((rngI n).map V.int)) := by
    rw [← map_nums] at w2
    have ex := (AVs.dvs w2).ints
    rw [ex] at e2
    exact s4 _ _ (s3 _ _ e2)
  have hl0 : H lp = none := s1.free h2
  generalize (upd H3 tp (.tup [v1, .ref lp, v3])) = H4 at *
  have dk4 := dk.same sA
  have dl : d ≠ lp := by
    obtain ⟨o, e, _⟩ := dk.soft.1
    exact ne_of_none e hl0
  have cl' : cl ≠ lp := by
    obtain ⟨o, e, _⟩ := dk.soft.2
    exact ne_of_none e hl0
  let Γ0 : A → List (Option A) := fun o => [some (.obj (.ref d)), some (.ch n ch), some (.tr l z), some (.d (dCal cal)), some (aSet ws), some (aI n), some (.obj (.ref lp)), some o, none, none, none, none, none, none, none, none, none, none, none]
  refine wB_cons (ws_for c r4 (di_range1 c' (de_var 5 c') (by omega)) (pg_ND (i := 8) c rfl (.inl rfl)) fun H5 s5 => ?_)
  have en : ((List.range n).map fun i => aI ((i : Nat) : Int)).length = n := by simp
  refine ⟨fun i σ' H' => But2 d cl H H' ∧ TK H5 H' ∧ DeckAt H' d cl (k - i) ∧ ∃ (Lf row : List Int) (o : A), H' lp = some (.lst (Lf.map V.int)) ∧ Lf.Nodup ∧ Lf.length + i = n ∧ row.length = i ∧ (∀ x ∈ Lf, 0 ≤ x ∧ x < (n : Int)) ∧ (∀ x ∈ row, 0 ≤ x ∧ x < (n : Int)) ∧ row.Nodup ∧ (∀ x ∈ row, x ∉ Lf) ∧
      ((i < n ∧ o = aSet row) ∨ (i = n ∧ ∃ op, o = .ob op (TX op row) ∧ H op = none ∧ op ≠ d ∧ op ≠ cl)) ∧ Rel g H' σ' (Γ0 o),
    ⟨But2.of (sA.trans s5), TK.refl _, by simpa using dk4.same s5, rngI n, [], aSet [], s5 _ _ el4, asc_nodup (rngI_asc n), by rw [rngI_len]; rfl, rfl, fun x hx => mem_rngI.mp hx, fun x hx => by simp at hx, List.nodup_nil, fun x hx => by simp at hx, .inl ⟨by omega, rfl⟩, (r4.mono s5)⟩, fun i σ' H' _ h => h.2.1, ?_, ?_⟩
  · rintro i dd σ6 H6 v6 H7 hd ⟨b6, t6, d6, Lf, row, o, el6, hLn, hLl, hrl, hLr, hrr, hrn, hdis, ho, r6⟩ s7 v6'
    obtain ⟨i', hi', rfl⟩ := map_get hd
    have hin : i < n := by
      have h1 := (List.getElem?_eq_some_iff.mp hi').1
      rw [List.length_range] at h1
      exact h1
    have ho' : o = aSet row := by
      rcases ho with ⟨_, h⟩ | ⟨h, _⟩
      · exact h
      · omega
    subst ho'
    have r7 := (r6.mono s7).set 8 v6'
    have d7 := d6.same s7
    have el7 := s7 _ _ el6
    have rO := r7.toOb 6 rfl el7
    have lpos : 0 < Lf.length := by omega
    -- the popped offer in a tuple of its own
    have popd : ∀ (e : Expr) (pos p1 p2 p3 p4 p5 p6 p7 p8 : Pos) (σ' : L2.St) (H1 : Hp) (Q' : VK) (kk : Nat), True := fun _ _ _ _ _ _ _ _ _ _ _ _ _ _ => trivial
    refine wB_cons ?_
    have core : ∀ {pT pC pA pN pd pl pg pLf pn : Pos} {kk : Nat} {e1 : Expr} (H8 : Hp) (Q' : VK), Same H7 H8 → (∀ (x : Int) (Lf' : List Int) (j : Nat) (b : Addr) (H9 : Hp), Lf[j]? = some x → Lf' = Lf.eraseIdx j → But2 d cl H7 H9 ∨ True → (∀ a o, a ≠ d → a ≠ cl → a ≠ lp → H7 a = some o → H9 a = some o) → DeckAt H9 d cl (k - (i + 1)) → H9 lp = some (.lst (Lf'.map V.int)) → H9 b = some (.tup [V.int x]) → Kp H8 H9 → Q' (.ref b) H9) →
        wE X (.Tuple [.Call (.Attribute (.Name "_law_left" pA) "pop" pN) [.Call (.Name "_law_draw" pd) [.Name "_law_deck_here" pl, .Call (.Name "len" pg) [.Name "_law_left" pLf] [] pn] [] pC] [] pT] kk pT) σ6 H8 Q' → True := fun _ _ _ _ _ => trivial
    -- step
    have sem : ∀ (H8 : Hp) (σ' : L2.St) (Q' : VK), Same H7 H8 → σ' = σ6.set 8 (some v6) → (∀ (x : Int) (j : Nat) (H9 : Hp), Lf[j]? = some x → (∀ a o, a ≠ d → a ≠ cl → a ≠ lp → H8 a = some o → H9 a = some o) → Kp H8 H9 → DeckAt H9 d cl (k - (i + 1)) → H9 lp = some (.lst ((Lf.eraseIdx j).map V.int)) → Q' (.int x) H9) → True := fun _ _ _ _ _ _ => trivial
    by_cases hlast : i + 1 = n
    · -- the last one
      refine wS_of (ps_set c.ndX (c'.at_ (i := 7) rfl) (c'.loc (.inr rfl)) (pe_op op_catX pe_w (pe_tup pa_w)) rfl (.inl (c.fn _))) ?_
      refine useE rO (de_var 7 c') fun v8 H8 s8 w8 => ?_
      obtain ⟨ra, rfl, hra⟩ := w8.setOf
      have rO8 := rO.mono s8
      have d8 := d7.same s8
      refine wA_cons ⟨_, pe_bm PySem.F.plainAttrs_list PySem.F.slot_list_pop PySem.F.type_list_pop mt_popAt pe_w pa_w, useE rO8 (de_var 6 c') fun v9 H9 s9 w9 => ?_⟩
      obtain ⟨rfl, el9⟩ := w9.obAt
      refine ⟨.inl ⟨rfl, _, .inl (.inl el9)⟩, wA_cons (useK (rO8.mono s9) (d8.same s9) (ke_draw (k' := k - (i + 1)) (P := fun z => ∃ m : Int, z = aI m ∧ 0 ≤ m ∧ m < (Lf.length : Int)) c' L.draw (by decide) (de_var 0 c') (DE.is (de_lenOb c' (de_var 6 c')) (by rw [List.length_map])) ⟨by omega, by omega⟩ (by omega) (fun m h0 h1 => ⟨m, rfl, h0, h1⟩)) fun v10 H10 zz ⟨m, ez, hm0, hm1⟩ b10 d10 w10 => wA_nil ?_)⟩
      subst ez
      have e10 := w10.int
      subst e10
      have dks := (d8.same s9).soft
      have el10 : H10 lp = some (.lst (Lf.map V.int)) := b10 _ _ (Ne.symm dl) (Ne.symm cl') el9
      have hmn : m.toNat < Lf.length := by omega
      have hx : Lf[m.toNat]? = some Lf[m.toNat] := List.getElem?_eq_getElem hmn
      obtain ⟨f1, f2, f3, f4⟩ := erase_facts hLn hx
      have hxL := List.getElem_mem hmn
      generalize Lf[m.toNat] = x at *
      have hix : ixN (Lf.map V.int).length m = some m.toNat := by
        unfold ixN
        rw [List.length_map, if_pos hm0, if_pos hm1]
      obtain ⟨hsi, _⟩ := ixN_seq hix
      refine ⟨lp, Lf.map V.int, m, m.toNat, .int x, rfl, rfl, el10, by omega, by omega, hsi, by rw [List.getElem?_map, hx]; rfl, wA_nil ⟨by show 1 ≤ _; decide, fun bp hbp => ?_⟩⟩
      have k9 : Kp H9 H10 := b10.kp dks.1 dks.2
      have bt : But lp H10 (upd H10 lp (.lst ((Lf.map V.int).eraseIdx m.toNat))) := fun a o hne e => by rw [upd_ne hne]; exact e
      have k10 := bt.kp el10 rfl
      have st : Same (upd H10 lp (.lst ((Lf.map V.int).eraseIdx m.toNat))) (upd (upd H10 lp (.lst ((Lf.map V.int).eraseIdx m.toNat))) bp (.tup [V.int x])) := Same.newO hbp
      have kk := ((Kp.of s9).trans k9).trans (k10.trans (Kp.of st))
      have hra2 := kk _ _ hra rfl
      refine ⟨ra, bp, row, [x], rfl, rfl, .inl (.inl hra2), .inl (.inl upd_same), fun h => by subst h; simp at hrl; omega, by simp, by rw [hrl, List.length_singleton]; exact Nat.le_trans (show i + 1 ≤ 3 by omega) (by decide), fun op hop => ?_⟩
      have st2 : Same (upd (upd H10 lp (.lst ((Lf.map V.int).eraseIdx m.toNat))) bp (.tup [V.int x])) (upd (upd (upd H10 lp (.lst ((Lf.map V.int).eraseIdx m.toNat))) bp (.tup [V.int x])) op (TX op (row ++ [x]))) := Same.newO hop
      have ball : But2 d cl H6 H10 := (But2.of ((s7.trans s8).trans s9)).trans b10
      have hopH : H op = none := by
        cases e : H op with
        | none => rfl
        | some o =>
          have hd' : op ≠ d := fun q' => by
            obtain ⟨o', e', _⟩ := d10.soft.1
            rw [q'] at hop
            rw [st _ _ (by rw [upd_ne dl]; exact e')] at hop
            cases hop
          have hc' : op ≠ cl := fun q' => by
            obtain ⟨o', e', _⟩ := d10.soft.2
            rw [q'] at hop
            rw [st _ _ (by rw [upd_ne cl']; exact e')] at hop
            cases hop
          have hlp : op ≠ lp := ne_of_none e hl0
          have := st _ _ (by rw [upd_ne hlp]; exact ball op o hd' hc' (b6 op o hd' hc' e))
          rw [this] at hop
          cases hop
      have hopd : op ≠ d := fun q' => by
        obtain ⟨o', e', _⟩ := d10.soft.1
        rw [q'] at hop
        rw [st _ _ (by rw [upd_ne dl]; exact e')] at hop
        cases hop
      have hopc : op ≠ cl := fun q' => by
        obtain ⟨o', e', _⟩ := d10.soft.2
        rw [q'] at hop
        rw [st _ _ (by rw [upd_ne cl']; exact e')] at hop
        cases hop
      have r8 : Rel g H8 _ (Γ0 (aSet row)) := (r7.mono s8).sub (sub_eq (sub_eq (sub_eq (sub_eq (sub_eq (sub_eq (sub_eq (sub_eq (sub_no (sub_no (sub_no (sub_no (sub_no (sub_no (sub_no (sub_no (sub_no (sub_no (sub_no sub_nil)))))))))))))))))))
      have r9 := ((r8.kp kk rfl).mono st2).set 7 (AV.ob (g := g) upd_same)
      refine wB_nil ⟨?_, ((t6.trans (TK.of (s7.trans s8))).trans kk.tk).trans (TK.of st2), (((d10.but bt dl cl').same st).same st2), Lf.eraseIdx m.toNat, row ++ [x], _, ?_, f1, by omega, by simp [hrl], fun y hy => hLr y (f4 y hy), fun y hy => ?_, ?_, fun y hy hyL => ?_, .inr ⟨hlast, op, rfl, hopH, hopd, hopc⟩, r9⟩
      · intro a o h1 h2 e
        have hal : a ≠ lp := ne_of_none e hl0
        refine st2 _ _ (st _ _ ?_)
        rw [upd_ne hal]
        exact ball a o h1 h2 (b6 a o h1 h2 e)
      · refine st2 _ _ (st _ _ ?_)
        rw [upd_same, erase_map]
      · rcases List.mem_append.mp hy with h | h
        · exact hrr y h
        · simp at h
          subst h
          exact hLr _ hxL
      · refine List.nodup_append.mpr ⟨hrn, by simp, fun a ha b hb => ?_⟩
        simp at hb
        subst hb
        intro q'
        subst q'
        exact hdis _ ha hxL
      · rcases List.mem_append.mp hy with h | h
        · exact hdis y h (f4 y hyL)
        · simp at h
          subst h
          exact f3 hyL
    · -- one in between
      refine wS_of (ps_set c.ndX (c'.at_ (i := 7) rfl) (c'.loc (.inr rfl)) (pe_op (c_cat c') pe_w (pe_tup pa_w)) rfl (.inl (c.fn _))) ?_
      refine useE rO (de_var 7 c') fun v8 H8 s8 w8 => ?_
      have rO8 := rO.mono s8
      have d8 := d7.same s8
      refine wA_cons ⟨_, pe_bm PySem.F.plainAttrs_list PySem.F.slot_list_pop PySem.F.type_list_pop mt_popAt pe_w pa_w, useE rO8 (de_var 6 c') fun v9 H9 s9 w9 => ?_⟩
      obtain ⟨rfl, el9⟩ := w9.obAt
      refine ⟨.inl ⟨rfl, _, .inl (.inl el9)⟩, wA_cons (useK (rO8.mono s9) (d8.same s9) (ke_draw (k' := k - (i + 1)) (P := fun z => ∃ m : Int, z = aI m ∧ 0 ≤ m ∧ m < (Lf.length : Int)) c' L.draw (by decide) (de_var 0 c') (DE.is (de_lenOb c' (de_var 6 c')) (by rw [List.length_map])) ⟨by omega, by omega⟩ (by omega) (fun m h0 h1 => ⟨m, rfl, h0, h1⟩)) fun v10 H10 zz ⟨m, ez, hm0, hm1⟩ b10 d10 w10 => wA_nil ?_)⟩
      subst ez
      have e10 := w10.int
      subst e10
      have dks := (d8.same s9).soft
      have el10 : H10 lp = some (.lst (Lf.map V.int)) := b10 _ _ (Ne.symm dl) (Ne.symm cl') el9
      have hmn : m.toNat < Lf.length := by omega
      have hx : Lf[m.toNat]? = some Lf[m.toNat] := List.getElem?_eq_getElem hmn
      obtain ⟨f1, f2, f3, f4⟩ := erase_facts hLn hx
      have hxL := List.getElem_mem hmn
      generalize Lf[m.toNat] = x at *
      have hix : ixN (Lf.map V.int).length m = some m.toNat := by
        unfold ixN
        rw [List.length_map, if_pos hm0, if_pos hm1]
      obtain ⟨hsi, _⟩ := ixN_seq hix
      refine ⟨lp, Lf.map V.int, m, m.toNat, .int x, rfl, rfl, el10, by omega, by omega, hsi, by rw [List.getElem?_map, hx]; rfl, wA_nil ⟨by show 1 ≤ _; decide, fun bp hbp => ?_⟩⟩
      have k9 : Kp H9 H10 := b10.kp dks.1 dks.2
      have bt : But lp H10 (upd H10 lp (.lst ((Lf.map V.int).eraseIdx m.toNat))) := fun a o hne e => by rw [upd_ne hne]; exact e
      have k10 := bt.kp el10 rfl
      have st : Same (upd H10 lp (.lst ((Lf.map V.int).eraseIdx m.toNat))) (upd (upd H10 lp (.lst ((Lf.map V.int).eraseIdx m.toNat))) bp (.tup [V.int x])) := Same.newO hbp
      have kk := ((Kp.of s9).trans k9).trans (k10.trans (Kp.of st))
      have ball : But2 d cl H6 H10 := (But2.of ((s7.trans s8).trans s9)).trans b10
      have r8 : Rel g H8 _ (Γ0 (aSet row)) := (r7.mono s8).sub (sub_eq (sub_eq (sub_eq (sub_eq (sub_eq (sub_eq (sub_eq (sub_eq (sub_no (sub_no (sub_no (sub_no (sub_no (sub_no (sub_no (sub_no (sub_no (sub_no (sub_no sub_nil)))))))))))))))))))
      refine rd_cat (ds := row.map .num) (es := [.num x]) (by simp; omega) _ _ _ _ (w8.kp kk rfl) (.d (.tup upd_same (.cons (.int x) .nil))) fun w11 H11 s11 v11 => ?_
      have r9 : Rel g H11 _ (Γ0 (aSet (row ++ [x]))) := ((r8.kp kk rfl).mono s11).set 7 (show AV g H11 w11 (aSet (row ++ [x])) by unfold aSet dSet; rw [List.map_append]; exact v11)
      refine wB_nil ⟨?_, ((t6.trans (TK.of (s7.trans s8))).trans kk.tk).trans (TK.of s11), (((d10.but bt dl cl').same st).same s11), Lf.eraseIdx m.toNat, row ++ [x], _, ?_, f1, by omega, by simp [hrl], fun y hy => hLr y (f4 y hy), fun y hy => ?_, ?_, fun y hy hyL => ?_, .inl ⟨by omega, rfl⟩, r9⟩
      · intro a o h1 h2 e
        have hal : a ≠ lp := ne_of_none e hl0
        refine s11 _ _ (st _ _ ?_)
        rw [upd_ne hal]
        exact ball a o h1 h2 (b6 a o h1 h2 e)
      · refine s11 _ _ (st _ _ ?_)
        rw [upd_same, erase_map]
      · rcases List.mem_append.mp hy with h | h
        · exact hrr y h
        · simp at h
          subst h
          exact hLr _ hxL
      · refine List.nodup_append.mpr ⟨hrn, by simp, fun a ha b hb => ?_⟩
        simp at hb
        subst hb
        intro q'
        subst q'
        exact hdis _ ha hxL
      · rcases List.mem_append.mp hy with h | h
        · exact hdis y h (f4 y hyL)
        · simp at h
          subst h
          exact f3 hyL
  · rintro σ6 H6 ⟨b6, t6, d6, Lf, os, o, el6, hLn, hLl, hrl, hLr, hrr, hrn, hdis, ho, r6⟩
    rw [en] at d6 hrl ho
    have hO : IsOrd n os := ⟨hrl, hrn, hrr⟩
    obtain ⟨op, rfl, hop0, hopd, hopc⟩ : ∃ op, o = .ob op (TX op os) ∧ H op = none ∧ op ≠ d ∧ op ≠ cl := by
      rcases ho with ⟨h, _⟩ | ⟨_, h⟩
      · omega
      · exact h
    -- back
    refine wB_cons (ws_asgC 9 c r6 (dc_comp (xs := rngI n) (e := aI) (pr := fun _ => true) (f := fun x => aI ((os.idxOf x : Nat) : Int)) (own := [("_law_x", 17)]) (gt := gName 17) (Γx := fun x => [some (.obj (.ref d)), some (.ch n ch), some (.tr l z), some (.d (dCal cal)), some (aSet ws), some (aI n), none, some (.ob op (TX op os)), none, none, none, none, none, none, none, none, none, some (aI x), none]) c'
      ((di_range1 c' (de_var 5 c') (by omega)).is (show _ = (rngI n).map aI by unfold rngI; rw [List.map_map]; rfl)).same (by decide +kernel) rfl (fun X' d => pg_N d rfl rfl) (fun x hx => (tg_N (by simp)).sub (sub_eq (sub_eq (sub_eq (sub_eq (sub_eq (sub_eq (sub_no (sub_eq (sub_no (sub_no (sub_no (sub_no (sub_no (sub_no (sub_no (sub_no (sub_no (sub_eq (sub_no sub_nil)))))))))))))))))))) (fun x hx X' d => dts_nil) (fun x hx _ X' d => de_idx (de_var 7 d) (de_var 17 d) (ord_sur hO (mem_rngI.mp hx))) (fun _ _ => rfl) (by rw [rngI_len]; omega)) fun bp xs σ7 H7 h7 s7 e7 v7 r7 => ?_)
    rw [List.filter_eq_self.mpr (fun _ _ => rfl)] at v7
    have vb : AVs g H7 xs ((back n os).map aI) := by
      unfold back
      rw [List.map_map]
      exact v7
    have hTX : H7 op = some (TX op os) := by
      obtain ⟨v, _, av⟩ := r6.at_ 7 _ rfl
      exact s7 _ _ av.obAt.2
    have hbp0 : H bp = none := by
      cases e : H bp with
      | none => rfl
      | some o =>
        have hd' : bp ≠ d := fun q' => by
          obtain ⟨o', e', _⟩ := d6.soft.1
          rw [q', e'] at h7
          cases h7
        have hc' : bp ≠ cl := fun q' => by
          obtain ⟨o', e', _⟩ := d6.soft.2
          rw [q', e'] at h7
          cases h7
        have := b6 _ _ hd' hc' e
        rw [this] at h7
        cases h7
    have hbd : bp ≠ d := fun q' => by
      obtain ⟨o', e', _⟩ := d6.soft.1
      rw [q', e'] at h7
      cases h7
    have hbc : bp ≠ cl := fun q' => by
      obtain ⟨o', e', _⟩ := d6.soft.2
      rw [q', e'] at h7
      cases h7
    have hbo : bp ≠ op := fun q' => by
      rw [q'] at e7
      rw [hTX] at e7
      cases e7
    -- the order told of as a tuple
    have b8 : But op H7 (upd H7 op (.tup (os.map V.int))) := fun a o' hne e => by rw [upd_ne hne]; exact e
    have k8 : Kp H7 (upd H7 op (.tup (os.map V.int))) := b8.kp hTX rfl
    refine wB_cons ⟨_, ps_forget ps_w, op, os, hTX, by omega, ?_⟩
    have e8o : (upd H7 op (.tup (os.map V.int))) op = some (.tup (os.map V.int)) := upd_same
    have hopv : AV g (upd H7 op (.tup (os.map V.int))) (.ref op) (aSet os) := .of_set upd_same
    have d8 : DeckAt (upd H7 op (.tup (os.map V.int))) d cl (k - n) := (d6.same s7).but b8 (Ne.symm hopd) (Ne.symm hopc)
    have e8b := b8 _ _ hbo e7
    have vb8 := vb.kp k8 fun a ha => by obtain ⟨_, _, rfl⟩ := List.mem_map.mp ha; rfl
    have r8 : Rel g (upd H7 op (.tup (os.map V.int))) σ7 [some (.obj (.ref d)), some (.ch n ch), some (.tr l z), some (.d (dCal cal)), some (aSet ws), some (aI n), some (.obj (.ref lp)), some (.obj (.ref op)), none, some (.obj (.ref bp)), none, none, none, none, none, none, none, none, none] := ((r7.unOb 7 rfl).kp k8 rfl)
    have b0 : But2 d cl H (upd H7 op (.tup (os.map V.int))) := fun a o' h1 h2 e => by
      have hne : a ≠ op := ne_of_none e hop0
      exact b8 _ _ hne (s7 _ _ (b6 a o' h1 h2 e))
    generalize (upd H7 op (.tup (os.map V.int))) = H8 at *
    have r8' := r8.re 7 rfl hopv
    have exs : xs = (back n os).map V.int := by
      rw [← map_nums] at vb8
      exact (AVs.dvs vb8).ints
    subst exs
    have r8l := r8'.toOb 9 rfl e8b
    have hback : ∀ x ∈ back n os, 0 ≤ x ∧ x < (n : Int) := fun x hx => by
      unfold back at hx
      obtain ⟨y, hy, rfl⟩ := List.mem_map.mp hx
      have := List.idxOf_lt_length_of_mem (ord_sur hO (mem_rngI.mp hy))
      rw [hrl] at this
      omega
    have blen := back_len hO
    have t' := tiny_sig hO t
    have hz' := sig_set hO hz
    have hg' := good_ren hn hO hg
    refine ws_asg 10 c r8l (de_mkT c' L.mkT (by decide) (l := moved n os l) (z := sig os z) (de_tupI c' (DL.is (DC.dl (dc_comp (xs := back n os) (e := aI) (pr := fun _ => true) (f := fun x => aI (oa l x)) (own := [("_law_x", 17)]) (gt := gName 17) (Γx := fun x => [none, none, some (.tr l z), none, none, none, none, none, none, none, none, none, none, none, none, none, none, some (aI x), none]) c'
      (di_ob (de_var 9 c')) (by decide +kernel) rfl (fun X' d => pg_N d rfl rfl) (fun x hx => (tg_N (by simp)).sub (sub_no (sub_no (sub_eq (sub_no (sub_no (sub_no (sub_no (sub_no (sub_no (sub_no (sub_no (sub_no (sub_no (sub_no (sub_no (sub_no (sub_no (sub_eq (sub_no sub_nil)))))))))))))))))))) (fun x hx X' d => dts_nil) (fun x hx _ X' d => de_ix d (de_lives d (de_var 2 d)) (de_var 17 d) (d := .num (oa l x)) (atI_map (atI_get (hback x hx).1 (oaGet (hback x hx).1 (by rw [t.len]; exact (hback x hx).2))))) (fun _ _ => rfl) (by omega)) c') (by rw [List.filter_eq_self.mpr (fun _ _ => rfl)]; unfold moved; rw [List.map_map]; rfl)))
      (de_call c' L.turned (by decide) (da_cons (de_loose c' (de_var 2 c')) (da_cons (de_var 7 c') da_nil)) ⟨z, os, rfl, by have := isSet_len hn hz; omega, fun x hx => by rw [hrl]; exact hz.2 x hx, rfl⟩) t'.lv (by rw [moved_len hO]; exact hz')) fun σ9 H9 s9 r9 => ?_
    -- made, days
    refine wB_cons (ws_par 11 12 c (useE r9 (de_call c' L.renamed (by decide) (da_cons (de_var 1 c') (da_cons (de_var 7 c') da_nil)) ⟨n, ch, os, rfl, hn, hg, hO, rfl⟩) fun v10 H10 s10 w10 => useE (r9.mono s10) (z := .d (dCal (calSig os cal))) (de_tupleL c' (DL.is (DC.dl (dc_comp (xs := cal) (e := fun s => A.d (dSet s)) (pr := fun _ => true) (f := fun s => A.d (dSet (sig os s))) (own := [("_law_day", 18)]) (gt := gName 18) (Γx := fun s => [none, none, none, none, none, none, none, some (aSet os), none, none, none, none, none, none, none, none, none, none, some (aSet s)]) c'
      (di_tupM (enc := dSet) c' (de_var 3 c')).same (by decide +kernel) rfl (fun X' d => pg_N d rfl rfl) (fun x hx => (tg_N (by simp)).sub (sub_no (sub_no (sub_no (sub_no (sub_no (sub_no (sub_no (sub_eq (sub_no (sub_no (sub_no (sub_no (sub_no (sub_no (sub_no (sub_no (sub_no (sub_no (sub_eq sub_nil)))))))))))))))))))) (fun x hx X' d => dts_nil) (fun s hs _ X' d => de_call d L.turned (by decide) (da_cons (de_var 18 d) (da_cons (de_var 7 d) da_nil)) ⟨s, os, rfl, by have := isSet_len hn (t.calOk.2.2 s hs); omega, fun x hx => by rw [hrl]; exact (t.calOk.2.2 s hs).2 x hx, rfl⟩) (fun _ _ => rfl) (by have := t.two; omega)) c') (by rw [List.filter_eq_self.mpr (fun _ _ => rfl)]; unfold calSig; rw [List.map_map, List.map_map]; rfl))) fun v11 H11 s11 w11 => ?_))
    have sB : Same H8 H11 := (s9.trans s10).trans s11
    have e11b := sB _ _ e8b
    have r11 := (((r9.mono (s10.trans s11)).set 11 (w10.mono s11)).set 12 w11).unOb 9 rfl
    have d11 := d8.same sB
    have b11 : But2 d cl H H11 := b0.trans (But2.of sB)
    let ΓB : List (Option A) := [some (.obj (.ref d)), some (.ch n ch), some (.tr l z), some (.d (dCal cal)), some (aSet ws), some (aI n), some (.obj (.ref lp)), some (aSet os), none, some (.obj (.ref bp)), some (.tr (moved n os l) (sig os z)), some (.ch n (ren n os ch)), some (.d (dCal (calSig os cal))), none, none, none, none, none, none]
    have rb : Rel g H11 _ ΓB := r11
    -- four dated sets
    refine wB_cons (ws_for c rb (di_range1 (n := 4) c' de_int (by decide)) (pg_ND (i := 13) c rfl (.inl rfl)) fun H12 s12 => ?_)
    refine ⟨fun i σ' H' => But2 d cl H H' ∧ TK H12 H' ∧ DeckAt H' d cl (k - n - 3 * i) ∧ H' bp = some (.lst ((back n os).map V.int)) ∧ Rel g H' σ' ΓB, ⟨b11.trans (But2.of s12), TK.refl _, by simpa using d11.same s12, s12 _ _ e11b, rb.mono s12⟩, fun i σ' H' _ h => h.2.1, ?_, ?_⟩
    · rintro i dd σ13 H13 v13 H14 hd ⟨b13, t13, d13, e13, r13⟩ s14 v14
      have hi4 : i < 4 := by
        have h1 := (List.getElem?_eq_some_iff.mp hd).1
        simpa using h1
      obtain ⟨i', _, rfl⟩ := map_get hd
      have r14 := (r13.mono s14).set 13 v14
      have d14 := d13.same s14
      refine wB_cons (ws_asgK (k' := k - n - 3 * (i + 1)) 14 c r14 d14 (ke_call c' L.dated (by decide) (de_var 0 c') (da_cons (de_lives c' (de_var 2 c')) da_nil) ⟨l, rfl, by have := t.len; omega, fun x hx => by have := t.lives x hx; omega, rfl, rfl⟩ (by omega) (by omega)) rfl (fun zz σ15 H15 ⟨D, ez, hD⟩ b15 d15 r15 => ?_))
      subst ez
      have k15 := b15.kp d14.soft.1 d14.soft.2
      have hDl := dated_len hn t.len hD
      have hS := sky_dated hD ch z
      have hSl := dated_len hn t.len hS
      have hrg : ∀ {E : Dts}, IsDated l E → ∀ p ∈ E, 0 ≤ p.1 ∧ p.1 < (os.length : Int) := fun {E} hE p hp => by
        rw [hrl]
        exact dated_rng hO t.len hE hp
      refine wB_cons (ws_asg (z := aDat (tau os (sky ch z D))) 15 c r15 (de_tupP c' (dl_sortedP (xs := (sky ch z D).map fun p => (oa os p.1, p.2)) c' (DL.is (DC.dl (dc_comp (xs := sky ch z D) (e := fun (p : Int × Int) => A.d (dPair p)) (pr := fun _ => true) (f := fun (p : Int × Int) => A.d (dPair (oa os p.1, p.2))) (own := [("_law_x", 17), ("_law_left", 6)]) (gt := gPair g 17 6) (Γx := fun p => [none, none, none, none, none, none, some (aI p.2), some (aSet os), none, none, none, none, none, none, none, none, none, some (aI p.1), none]) c'
        (di_dat c' (de_call c' L.skyline (by decide) (da_cons (de_var 1 c') (da_cons (de_var 2 c') (da_cons (de_var 14 c') da_nil))) ⟨n, ch, l, z, D, rfl, hn, t.len, hD, rfl⟩)).same (by decide +kernel) rfl (fun X' d => pg_P d (pg_N d rfl rfl) (pg_N d rfl rfl)) (fun x hx => (tg_P (by simp) (by simp)).sub (sub_no (sub_no (sub_no (sub_no (sub_no (sub_no (sub_eq (sub_eq (sub_no (sub_no (sub_no (sub_no (sub_no (sub_no (sub_no (sub_no (sub_no (sub_eq (sub_no sub_nil)))))))))))))))))))) (fun x hx X' d => dts_nil)
        (fun x hx _ X' d => de_tup (ds := [.num (oa os x.1), .num x.2]) (da_cons (de_ix d (de_var 7 d) (de_var 17 d) (d := .num (oa os x.1)) (atI_map (atI_get (hrg hS x hx).1 (oaGet (hrg hS x hx).1 (hrg hS x hx).2)))) (da_cons (de_var 6 d) da_nil))) (fun _ _ => rfl) (by omega)) c') (by rw [List.filter_eq_self.mpr (fun _ _ => rfl), List.map_map]; rfl)) (by rw [List.length_map]; omega))) fun σ16 H16 s16 r16 => ?_)
      refine wB_cons (ws_skip r16 (DT.is (dt_neD c' (de_call c' L.skyline (by decide) (da_cons (de_var 11 c') (da_cons (de_var 10 c') (da_cons (x := aDat (tau os D)) (de_tupP c' (dl_sortedP (xs := D.map fun p => (oa os p.1, p.2)) c' (DL.is (DC.dl (dc_comp (xs := D) (e := fun (p : Int × Int) => A.d (dPair p)) (pr := fun _ => true) (f := fun (p : Int × Int) => A.d (dPair (oa os p.1, p.2))) (own := [("_law_x", 17), ("_law_left", 6)]) (gt := gPair g 17 6) (Γx := fun p => [none, none, none, none, none, none, some (aI p.2), some (aSet os), none, none, none, none, none, none, none, none, none, some (aI p.1), none]) c'
        (di_dat c' (de_var 14 c')).same (by decide +kernel) rfl (fun X' d => pg_P d (pg_N d rfl rfl) (pg_N d rfl rfl)) (fun x hx => (tg_P (by simp) (by simp)).sub (sub_no (sub_no (sub_no (sub_no (sub_no (sub_no (sub_eq (sub_eq (sub_no (sub_no (sub_no (sub_no (sub_no (sub_no (sub_no (sub_no (sub_no (sub_eq (sub_no sub_nil)))))))))))))))))))) (fun x hx X' d => dts_nil)
        (fun x hx _ X' d => de_tup (ds := [.num (oa os x.1), .num x.2]) (da_cons (de_ix d (de_var 7 d) (de_var 17 d) (d := .num (oa os x.1)) (atI_map (atI_get (hrg hD x hx).1 (oaGet (hrg hD x hx).1 (hrg hD x hx).2)))) (da_cons (de_var 6 d) da_nil))) (fun _ _ => rfl) (by omega)) c') (by rw [List.filter_eq_self.mpr (fun _ _ => rfl), List.map_map]; rfl)) (by rw [List.length_map]; omega))) da_nil))) ⟨n, ren n os ch, moved n os l, sig os z, tau os D, rfl, hn, moved_len hO l, tau_dated hO t.len hD, rfl⟩) (de_var 15 c') (sh_dat _) (sh_dat _)) (by rw [sky_tau hO hn t.len hg hD hz]; simp)) fun H17 s17 r17 => wB_nil ?_)
      have sm := s16.trans s17
      refine ⟨((b13.trans (But2.of s14)).trans b15).trans (But2.of sm), ((t13.trans (TK.of s14)).trans k15.tk).trans (TK.of sm), d15.same sm, sm _ _ (b15 _ _ hbd hbc (s14 _ _ e13)), r17.sub (sub_eq (sub_eq (sub_eq (sub_eq (sub_eq (sub_eq (sub_eq (sub_eq (sub_no (sub_eq (sub_eq (sub_eq (sub_eq (sub_no (sub_no (sub_no (sub_no (sub_no (sub_no sub_nil)))))))))))))))))))⟩
    · rintro σ13 H13 ⟨b13, t13, d13, e13, r13⟩
      have r14 := r13.toOb 9 rfl e13
      have hw' : IsWs n (moved n os ws) := ⟨moved_len hO ws, fun x hx => by
        unfold moved at hx
        obtain ⟨j, _, rfl⟩ := List.mem_map.mp hx
        exact oa_nonneg hw j⟩
      refine wB_cons (ws_asg (z := aSet (moved n os ws)) 16 c r14 (de_tupI c' (DL.is (DC.dl (dc_comp (xs := back n os) (e := aI) (pr := fun _ => true) (f := fun x => aI (oa ws x)) (own := [("_law_x", 17)]) (gt := gName 17) (Γx := fun x => [none, none, none, none, some (aSet ws), none, none, none, none, none, none, none, none, none, none, none, none, some (aI x), none]) c'
        (di_ob (de_var 9 c')) (by decide +kernel) rfl (fun X' d => pg_N d rfl rfl) (fun x hx => (tg_N (by simp)).sub (sub_no (sub_no (sub_no (sub_no (sub_eq (sub_no (sub_no (sub_no (sub_no (sub_no (sub_no (sub_no (sub_no (sub_no (sub_no (sub_no (sub_no (sub_eq (sub_no sub_nil)))))))))))))))))))) (fun x hx X' d => dts_nil) (fun x hx _ X' d => de_ix d (de_var 4 d) (de_var 17 d) (d := .num (oa ws x)) (atI_map (atI_get (hback x hx).1 (oaGet (hback x hx).1 (by rw [hw.1]; exact (hback x hx).2))))) (fun _ _ => rfl) (by omega)) c') (by rw [List.filter_eq_self.mpr (fun _ _ => rfl)]; unfold moved; rw [List.map_map]; rfl))) fun σ15 H15 s15 r15 => ?_)
      obtain ⟨m, hmx⟩ := shelf_ex t ch z ws
      have hmx' := (shelf_tau hO t hg hz).mpr hmx
      obtain ⟨x, hx⟩ := first_some hmx
      obtain ⟨x', hx'⟩ := first_some hmx'
      have elen := first_tau hO t hg hz hx hx'
      have espots := spots_tau hO t hg hz
      have callS : ∀ {Γ : List (Option A)} {e1 e2 e3 e4 : Expr} {pos p : Pos} {n' : Nat} {c1 : List Int → List Int}, True := fun {_ _ _ _ _ _ _ _ _} => trivial
      refine wB_cons (ws_skip r15 (DT.is (dt_neI (de_callK c' L.shelf (by decide) (da_cons (de_var 11 c') (da_cons (de_var 10 c') (da_cons (de_var 12 c') (da_cons (de_var 16 c') da_nil)))) ⟨n, ren n os ch, moved n os l, sig os z, calSig os cal, moved n os ws, m, rfl, t', hz', hw', hmx', rfl⟩)
        (de_callK c' L.shelf (by decide) (da_cons (de_var 1 c') (da_cons (de_var 2 c') (da_cons (de_var 3 c') (da_cons (de_var 4 c') da_nil)))) ⟨n, ch, l, z, cal, ws, m, rfl, t, hz, hw, hmx, rfl⟩)) (by simp)) fun H16 s16 r16 => ?_)
      refine wB_cons (ws_skip r16 (DT.is (dt_neI (de_lenT c' (de_callK c' L.spots (by decide) (da_cons (de_var 11 c') (da_cons (de_var 10 c') (da_cons (de_var 12 c') da_nil))) ⟨n, ren n os ch, moved n os l, sig os z, calSig os cal, rfl, t', hz', rfl⟩))
        (de_lenT c' (de_callK c' L.spots (by decide) (da_cons (de_var 1 c') (da_cons (de_var 2 c') (da_cons (de_var 3 c') da_nil))) ⟨n, ch, l, z, cal, rfl, t, hz, rfl⟩))) (by unfold spotsOf sortD; rw [List.length_mergeSort, List.length_mergeSort, List.length_map, List.length_map, espots]; simp)) fun H17 s17 r17 => ?_)
      refine wB_cons (ws_ret r17 (de_eqI (de_lenT (ds := x'.2.map dDeed) c' (de_callK c' L.fg (by decide) (da_cons (de_var 11 c') (da_cons (de_var 10 c') (da_cons (de_var 12 c') (da_cons (de_var 16 c') da_nil)))) ⟨n, ren n os ch, moved n os l, sig os z, calSig os cal, moved n os ws, m, x', rfl, t', hz', hw', hmx', hx', rfl⟩))
        (de_lenT (ds := x.2.map dDeed) c' (de_callK c' L.fg (by decide) (da_cons (de_var 1 c') (da_cons (de_var 2 c') (da_cons (de_var 3 c') (da_cons (de_var 4 c') da_nil)))) ⟨n, ch, l, z, cal, ws, m, x, rfl, t, hz, hw, hmx, hx, rfl⟩))) fun v18 H18 s18 v18' => ?_)
      have sm := ((s15.trans s16).trans s17).trans s18
      refine q v18 H18 _ ?_ (b13.trans (But2.of sm)) ((d13.same sm).less (by simp; omega)) v18'
      rw [List.length_map, List.length_map, elen]
      simp
end
end K85

/-! W16: _law_either_right, _law_without_right. -/
namespace K85
open PySem PySem.Spec PyProof.Rows L2
section
variable {g : Cfg} {N : List Str} {sc : Scope} {X : Cx} {j k : Nat} {Γ : List (Option A)} {e a b c o tg iter : Expr} {es : List Expr} {pos p : Pos}
/-- over a written tuple of anything -/
theorem di_tupA {as : List A} {x1} (ct : Cxk g N sc j X) (h : DA g X es Γ as) (hl : as.length ≤ 1000 := by simp) : DI g X tg (.Tuple es x1 pos) Γ Same as := fun σ H R r q =>
  ⟨_, pi_tup (pe_tup pa_w), h σ H _ r fun vs H1 s1 v1 => ⟨by rw [v1.length]; exact Nat.le_trans hl (by decide), fun l hl' => by
    have s2 : Same H1 (upd H1 l (.tup vs)) := Same.newO hl'
    refine ⟨l, rfl, ⟨vs, .inl (.inl upd_same)⟩, q _ (upd H1 l (.tup vs)) (fun H' => H' l = some (.tup vs) ∧ AVs g H' vs as) (s1.trans s2) (fun H' st => ⟨st _ _ upd_same, (v1.mono s2).mono st⟩) ?_⟩
    rw [← v1.length]
    refine walk_tup.mono (fun H' w => .inl (.inl w.1)) fun i H' x H'' hi w y => ?_
    obtain ⟨rfl, y⟩ := y
    exact ⟨Same.refl _, di_ls.avs_at w.2 y⟩⟩⟩
/-- max(xs[:2]) of three numbers -/
theorem de_max_cut {x y z m : Int} {p1 p2 p3 : Pos} {k0 : Nat} (ct : Cxk g N sc j X) (h : DE g X a Γ (.ls [aI x, aI y, aI z])) (hm : IsMax m [x, y]) (hg : GlS sc "max" := by rfl)
    (h1 : starEach [.Subscript a (.Slice none (some (.Constant (.int 2) k0 p1)) none p2) p3] X.env = (false, eval (.Subscript a (.Slice none (some (.Constant (.int 2) k0 p1)) none p2) p3) X.env) :: starEach [] X.env := by rfl) :
    DE g X (.Call (.Name "max" p) [.Subscript a (.Slice none (some (.Constant (.int 2) k0 p1)) none p2) p3] [] pos) Γ (aI m) :=
  de_maxL (xs := [x, y]) ct (fun σ H Q r q => ⟨_, pe_slice sl_list pe_w po_none (po_some pe_int), h σ H _ r fun v H1 s1 v1 => by
    cases v1 with
    | @ls l ws _ hl t =>
      have e : ws = [V.int x, V.int y, V.int z] := by
        have t' : AVs g H1 ws ([x, y, z].map aI) := t
        rw [← map_nums] at t'
        exact (AVs.dvs t').ints
      subst e
      refine ⟨2, rfl, l, _, rfl, .inl (.inl hl), fun p hp => ?_⟩
      have s2 : Same H1 (upd H1 p (.lst (cutV [V.int x, V.int y, V.int z] none (some 2)))) := Same.newO hp
      refine q _ _ (s1.trans s2) (.ls upd_same ?_)
      exact .cons (.d (.int x)) (.cons (.d (.int y)) .nil)⟩) hm hg h1
/-- a <= b <= c as a value -/
theorem de_lele {x y z : Int} (ha : DE g X a Γ (aI x)) (hb : DE g X b Γ (aI y)) (hc : DE g X c Γ (aI z)) (hm : lastMarks [.LtE, .LtE] [b, c] = false := by with_unfolding_all rfl) : DE g X (.Compare a [.LtE, .LtE] [b, c] pos) Γ (.bl (decide (x ≤ y) && decide (y ≤ z))) := fun σ H Q rl q =>
  ⟨_, pe_chain op_le op_le pe_w pe_w pe_w hm, ha σ H _ rl fun v H1 s1 v1 => hb σ H1 _ (rl.mono s1) fun u H2 s2 u2 => rd_B0 H2 v u _ (v1.mono s2) u2 fun w H3 s3 w3 => ⟨decide (x ≤ y), w3.bool, by
    cases hxy : decide (x ≤ y) with
    | false =>
      show Q (.bl false) H3
      rw [hxy] at q
      exact q _ H3 ((s1.trans s2).trans s3) (.bl _)
    | true =>
      show wE X c σ H3 _
      refine hc σ H3 _ (rl.mono ((s1.trans s2).trans s3)) fun w' H4 s4 w4 => rd_B0 H4 u w' _ (u2.mono (s3.trans s4)) w4 fun w5 H5 s5 w6 => ?_
      have e := w6.bool
      subst e
      rw [hxy] at q
      exact q _ H5 ((((s1.trans s2).trans s3).trans s4).trans s5) (.bl _)⟩⟩
end
section
variable {g : Cfg}
theorem dated_rng' {n : Nat} (hn : n = 2 ∨ n = 3) {l : List Int} (hl : l.length = n) {D : Dts} (h : IsDated l D) {p : Int × Int} (hp : p ∈ D) : 0 ≤ p.1 ∧ p.1 < (n : Int) := by
  have := h.2 p hp
  rw [hl] at this
  exact ⟨this.1, this.2.1⟩
def R_erRight (as : List A) (cost : Nat) (P : A → Prop) : Prop := ∃ (n : Nat) (r1 r2 : List (List Int)) (l z : List Int) (cal : List (List Int)) (ws : List Int), as = [.ch n (firsts r1), .ch n (firsts r2), .tr l z, .d (dCal cal), aSet ws] ∧ Tiny n l cal ∧ IsSet n z ∧ IsWs n ws ∧ cost = 12 ∧ P = fun z => z = .bl true
theorem S_er : FnScope ["_law_deck_here", "_law_one", "_law_other", "_law_trade", "_law_calendar", "_law_worths", "_law_both", "_law_bare", "_law_turn", "_law_dated_here", "_law_near", "_law_far", "_law_some", "_law_x", "_law_days", "_law_chooser"]
    ["_law_deck_here", "_law_one", "_law_other", "_law_trade", "_law_calendar", "_law_worths"] (defScope s_law_either_right) := ⟨rfl, rfl, rfl, by decide +kernel, rfl, by decide +kernel, by decide +kernel⟩
theorem ok_er (T : Txt g) (F : DefIn g "_law_either_right" s_law_either_right) (L : Lib g) : Def1 g 7 "_law_either_right" (spK g 5 R_erRight) := by
  obtain ⟨f, fd, F, hm⟩ := F
  refine def_D F hm (F.bindsN (ps := ["_law_deck_here", "_law_one", "_law_other", "_law_trade", "_law_calendar", "_law_worths"]) fun _ _ _ _ _ _ us hl => match us, hl with | [_, _, _, _, _, _], _ => rfl) S_er T rfl fun X c d cl as k cost P hR hl hk σ H Q dk r q => ?_
  obtain ⟨n, r1, r2, l, z, cal, ws, rfl, t, hz, hw, rfl, rfl⟩ := hR
  have c' := c.toCxk
  have hn := t.two3
  have g1 := good_firsts hn r1
  have g2 := good_firsts hn r2
  have g0 := good_firsts hn []
  refine wB_cons (ws_par 6 7 c (useE r (de_call c' L.either (by decide) (da_cons (de_var 1 c') (da_cons (de_var 2 c') da_nil)) ⟨n, _, _, rfl, hn, g1, g2, rfl⟩) fun v1 H1 s1 w1 => useE (r.mono s1) (de_call c' L.byl (by decide) (da_cons (de_lenA (z := .tr l z) c' L.lenC L.lenT (by decide) (de_var 3 c') (show lenA (.tr l z) = some n from congrArg some t.len) (nIs hn)) (da_cons (de_tup (ds := ([] : List (List Int)).map dSet) da_nil) da_nil)) ⟨n, [], rfl, hn, fun row h => by simp at h, by decide, rfl⟩) fun v2 H2 s2 w2 => ?_))
  let ΓB : List (Option A) := [some (.obj (.ref d)), some (.ch n (firsts r1)), some (.ch n (firsts r2)), some (.tr l z), some (.d (dCal cal)), some (aSet ws), some (.ch n (eith (firsts r1) (firsts r2))), some (.ch n (firsts [])), none, none, none, none, none, none, none, none]
  have rb : Rel g H2 _ ΓB := ((r.mono (s1.trans s2)).set 6 (w1.mono s2)).set 7 w2
  have d2 := dk.same (s1.trans s2)
  refine wB_cons (ws_for c rb (di_range1 (n := 4) c' de_int (by decide)) (pg_ND (i := 8) c rfl (.inl rfl)) fun H3 s3 => ?_)
  refine ⟨fun i σ' H' => But2 d cl H H' ∧ TK H3 H' ∧ DeckAt H' d cl (k - 3 * i) ∧ Rel g H' σ' ΓB, ⟨But2.of ((s1.trans s2).trans s3), TK.refl _, by simpa using d2.same s3, rb.mono s3⟩, fun i σ' H' _ h => h.2.1, ?_, ?_⟩
  · rintro i dd σ4 H4 v4 H5 hd ⟨b4, t4, d4, r4⟩ s5 v5
    have hi4 : i < 4 := by
      have h1 := (List.getElem?_eq_some_iff.mp hd).1
      simpa using h1
    obtain ⟨i', _, rfl⟩ := map_get hd
    have r5 := (r4.mono s5).set 8 v5
    have d5 := d4.same s5
    refine wB_cons (ws_asgK (k' := k - 3 * (i + 1)) 9 c r5 d5 (ke_call c' L.dated (by decide) (de_var 0 c') (da_cons (de_lives c' (de_var 3 c')) da_nil) ⟨l, rfl, by have := t.len; omega, fun x hx => by have := t.lives x hx; omega, rfl, rfl⟩ (by omega) (by omega)) rfl (fun zz σ6 H6 ⟨D, ez, hD⟩ b6 d6 r6 => ?_))
    subst ez
    have k6 := b6.kp d5.soft.1 d5.soft.2
    have hDl := dated_len hn t.len hD
    have hS1 := sky_dated hD (firsts r1) z
    have hS2 := sky_dated hD (firsts r2) z
    have l1 := dated_len hn t.len hS1
    have l2 := dated_len hn t.len hS2
    refine wB_cons (ws_par 10 11 c (useE r6 (de_call c' L.skyline (by decide) (da_cons (de_var 1 c') (da_cons (de_var 3 c') (da_cons (de_var 9 c') da_nil))) ⟨n, firsts r1, l, z, D, rfl, hn, t.len, hD, rfl⟩) fun v7 H7 s7 w7 => useE (r6.mono s7) (de_call c' L.skyline (by decide) (da_cons (de_var 2 c') (da_cons (de_var 3 c') (da_cons (de_var 9 c') da_nil))) ⟨n, firsts r2, l, z, D, rfl, hn, t.len, hD, rfl⟩) fun v8 H8 s8 w8 => ?_))
    have r8 : Rel g H8 _ _ := ((r6.mono (s7.trans s8)).set 10 (w7.mono s8)).set 11 w8
    refine wB_cons (ws_skip r8 (DT.is (dt_neD c' (de_call c' L.skyline (by decide) (da_cons (de_var 6 c') (da_cons (de_var 3 c') (da_cons (de_var 9 c') da_nil))) ⟨n, _, l, z, D, rfl, hn, t.len, hD, rfl⟩) (de_call c' L.puts (by decide) (da_cons (de_var 10 c') (da_cons (de_var 11 c') da_nil)) ⟨_, _, rfl, by omega, by omega, rfl⟩) (sh_dat _) (sh_dat _)) (by rw [puts_sky hD]; simp)) fun H9 s9 r9 => ?_)
    refine wB_cons (ws_skip r9 (DT.is (dt_or2 (dt_neD c' (de_call c' L.skyline (by decide) (da_cons (de_call c' L.turn2 (by decide) (da_cons (de_var 1 c') (da_cons (de_var 7 c') da_nil)) ⟨n, _, _, rfl, hn, g1, g0, rfl⟩) (da_cons (de_var 3 c') (da_cons (de_var 9 c') da_nil))) ⟨n, _, l, z, D, rfl, hn, t.len, hD, rfl⟩) (de_var 10 c') (sh_dat _) (sh_dat _)) fun _ =>
      dt_neD c' (de_call c' L.skyline (by decide) (da_cons (de_call c' L.either (by decide) (da_cons (de_var 1 c') (da_cons (de_var 1 c') da_nil)) ⟨n, _, _, rfl, hn, g1, g1, rfl⟩) (da_cons (de_var 3 c') (da_cons (de_var 9 c') da_nil))) ⟨n, _, l, z, D, rfl, hn, t.len, hD, rfl⟩) (de_var 10 c') (sh_dat _) (sh_dat _)) (by rw [sky_turn_bare, sky_eith_self]; simp)) fun H10 s10 r10 => ?_)
    refine wB_cons (ws_skip r10 (DT.is (dt_or2 (dt_neD c' (de_call c' L.skyline (by decide) (da_cons (de_var 7 c') (da_cons (de_var 3 c') (da_cons (de_var 9 c') da_nil))) ⟨n, _, l, z, D, rfl, hn, t.len, hD, rfl⟩) (de_tup (ds := []) da_nil) (sh_dat _) (sh_dat [])) fun _ =>
      dt_cmp (c_neD c') (DL.de (DL.is (a := ((sky (firsts r1) z D).filter fun p => !decide (dSet (firsts r1 [p.1]) = dSet [p.1])).map fun p => aI p.1) (b := (([] : List Dt).map .d)) (DC.dl (dc_comp (xs := sky (firsts r1) z D) (e := fun (p : Int × Int) => A.d (dPair p)) (pr := fun p => !decide (dSet (firsts r1 [p.1]) = dSet [p.1])) (f := fun (p : Int × Int) => aI p.1) (own := [("_law_x", 13), ("_law_days", 14)]) (gt := gPair g 13 14) (Γx := fun p => [none, some (.ch n (firsts r1)), none, none, none, none, none, none, none, none, none, none, none, some (aI p.1), some (aI p.2), none]) c'
        (di_dat c' (de_var 10 c')).same (by decide +kernel) rfl (fun X' d => pg_P d (pg_N d rfl rfl) (pg_N d rfl rfl)) (fun x hx => (tg_P (by simp) (by simp)).sub (sub_no (sub_eq (sub_no (sub_no (sub_no (sub_no (sub_no (sub_no (sub_no (sub_no (sub_no (sub_no (sub_no (sub_eq (sub_eq (sub_no sub_nil)))))))))))))))))
        (fun x hx X' d => dts_one (dt_neD d (de_taken d L.taken (by decide) (de_var 1 d) (de_tup (ds := [.num x.1]) (da_cons (de_var 13 d) da_nil)) ((mem_allSets hn).mpr ?_) ?_) (de_tup (ds := [.num x.1]) (da_cons (de_var 13 d) da_nil)) (sh_set _) (sh_set [x.1]))) (fun x hx _ X' d => de_var 13 d) (fun _ _ => rfl) (by omega)) c') ?_)) (dl_lst da_nil).de (rd_neL (ds := []) (fun d hd => by simp at hd)) (nomark _)) ?_) fun H11 s11 r11 => wB_nil ?_)
    · have := dated_rng' hn t.len hS1 hx
      exact ⟨List.pairwise_singleton _ _, fun y hy => by simp at hy; subst hy; exact this⟩
    · have := dated_rng' hn t.len hS1 hx
      exact ⟨List.pairwise_singleton _ _, fun y hy => by simp at hy; subst hy; exact this⟩
    · rw [List.map_nil, List.map_eq_nil_iff, List.filter_eq_nil_iff]
      intro p hp
      rw [taken_alone hp]
      simp
    · rw [sky_bare]
      simp [dDat]
    · have sm := (((s7.trans s8).trans s9).trans s10).trans s11
      exact ⟨((b4.trans (But2.of s5)).trans b6).trans (But2.of sm), ((t4.trans (TK.of s5)).trans k6.tk).trans (TK.of sm), d6.same sm, r11.sub (sub_eq (sub_eq (sub_eq (sub_eq (sub_eq (sub_eq (sub_eq (sub_eq (sub_no (sub_no (sub_no (sub_no (sub_no (sub_no (sub_no (sub_no sub_nil))))))))))))))))⟩
  · rintro σ4 H4 ⟨b4, t4, d4, r4⟩
    obtain ⟨m1, h1⟩ := shelf_ex t (firsts r1) z ws
    obtain ⟨m2, h2⟩ := shelf_ex t (firsts r2) z ws
    obtain ⟨m3, h3⟩ := shelf_ex t (eith (firsts r1) (firsts r2)) z ws
    obtain ⟨u1, u2, u3⟩ := shelf_eith t hw h1 h2 h3
    let trip : List ((List Int → List Int) × Int) := [(firsts r1, m1), (firsts r2, m2), (eith (firsts r1) (firsts r2), m3)]
    have htrip : ∀ x ∈ trip, IsMax x.2 (worths (streams x.1 l z cal) ws) := fun x hx => by
      simp only [trip, List.mem_cons, List.not_mem_nil, or_false] at hx
      rcases hx with rfl | rfl | rfl <;> assumption
    refine wB_cons (ws_asgC 12 c r4 (dc_comp (xs := trip) (e := fun x => A.ch n x.1) (pr := fun _ => true) (f := fun x => aI x.2) (own := [("_law_chooser", 15)]) (gt := gName 15) (Γx := fun x => [none, none, none, some (.tr l z), some (.d (dCal cal)), some (aSet ws), none, none, none, none, none, none, none, none, none, some (.ch n x.1)]) c'
      (di_tupA c' (da_cons (de_var 1 c') (da_cons (de_var 2 c') (da_cons (de_var 6 c') da_nil))) (by show 3 ≤ 1000; decide)) (by decide +kernel) rfl (fun X' d => pg_N d rfl rfl) (fun x hx => (tg_N (by simp)).sub (sub_no (sub_no (sub_no (sub_eq (sub_eq (sub_eq (sub_no (sub_no (sub_no (sub_no (sub_no (sub_no (sub_no (sub_no (sub_no (sub_eq sub_nil))))))))))))))))) (fun x hx X' d => dts_nil)
      (fun x hx _ X' d => de_callK d L.shelf (by decide) (da_cons (de_var 15 d) (da_cons (de_var 3 d) (da_cons (de_var 4 d) (da_cons (de_var 5 d) da_nil)))) ⟨n, x.1, l, z, cal, ws, x.2, rfl, t, hz, hw, htrip x hx, rfl⟩) (fun _ _ => rfl) (by show 3 ≤ 100000; decide)) fun sp xs σ5 H5 h5 s5 e5 v5 r5 => ?_)
    rw [List.filter_eq_self.mpr (fun _ _ => rfl)] at v5
    have r6 := r5.toLs 12 rfl e5 v5
    have hmax : ∃ m, IsMax m [m1, m2] := exists_max (by simp)
    obtain ⟨m, hmx⟩ := hmax
    have hm3 : m ≤ m3 := by
      have := hmx.1
      simp at this
      rcases this with e | e <;> omega
    refine wB_cons (ws_ret r6 (de_lele (de_max_cut c' (de_var 12 c') hmx) (de_ixL c' (de_var 12 c') de_int (show atI [aI m1, aI m2, aI m3] 2 = some (aI m3) from rfl)) (de_add (de_ixL c' (de_var 12 c') de_int (show atI [aI m1, aI m2, aI m3] 0 = some (aI m1) from rfl)) (de_ixL c' (de_var 12 c') de_int (show atI [aI m1, aI m2, aI m3] 1 = some (aI m2) from rfl)))) fun v7 H7 s7 v7' => ?_)
    rw [decide_eq_true hm3, decide_eq_true u3] at v7'
    exact q v7 H7 (.bl true) rfl (b4.trans (But2.of (s5.trans s7))) ((d4.same (s5.trans s7)).less (by simp <;> omega)) v7'
def R_wr (as : List A) (cost : Nat) (P : A → Prop) : Prop := ∃ (n : Nat) (r1 : List (List Int)) (l z : List Int) (cal : List (List Int)) (ws : List Int), as = [.ch n (firsts r1), .tr l z, .d (dCal cal), aSet ws] ∧ Tiny n l cal ∧ IsSet n z ∧ IsWs n ws ∧ cost = 13 ∧ P = fun z => z = .bl true
theorem S_wr : FnScope ["_law_deck_here", "_law_chooser", "_law_trade", "_law_calendar", "_law_worths", "_law_gone", "_law_made", "_law_turn", "_law_dated_here", "_law_rest", "_law_days", "_law_pair", "_law_day", "_law_x"]
    ["_law_deck_here", "_law_chooser", "_law_trade", "_law_calendar", "_law_worths"] (defScope s_law_without_right) := ⟨rfl, rfl, rfl, by decide +kernel, rfl, by decide +kernel, by decide +kernel⟩
theorem spots_shn (c : List Int → List Int) (l z : List Int) (cal : List (List Int)) : Sh (.tup (spotsOf c l z cal)) := (shn_tup (n := 3) (sortD_shn fun d hd => by
  obtain ⟨x, _, rfl⟩ := List.mem_map.mp hd
  exact dSpot_shn _)).up (by decide)
theorem ok_wr (T : Txt g) (F : DefIn g "_law_without_right" s_law_without_right) (L : Lib g) : Def1 g 7 "_law_without_right" (spK g 4 R_wr) := by
  obtain ⟨f, fd, F, hm⟩ := F
  refine def_D F hm (F.bindsN (ps := ["_law_deck_here", "_law_chooser", "_law_trade", "_law_calendar", "_law_worths"]) fun _ _ _ _ _ _ us hl => match us, hl with | [_, _, _, _, _], _ => rfl) S_wr T rfl fun X c d cl as k cost P hR hl hk σ H Q dk r q => ?_
  obtain ⟨n, r1, l, z, cal, ws, rfl, t, hz, hw, rfl, rfl⟩ := hR
  have c' := c.toCxk
  have hn := t.two3
  have g1 := good_firsts hn r1
  have hsl := allSets_len hn
  have hne : (allSets n).map dSet ≠ [] := by
    rcases hn with rfl | rfl <;> simp [allSets]
  refine wB_cons (ws_asgK (k' := k - 1) (P := fun zz => ∃ s ∈ allSets n, zz = aSet s) 5 c r dk (ke_pick c' L.pick (by decide) (de_var 0 c') (de_call c' L.sets (by decide) (da_cons (de_lenA (z := .tr l z) c' L.lenC L.lenT (by decide) (de_var 2 c') (show lenA (.tr l z) = some n from congrArg some t.len) (nIs hn)) da_nil) ⟨n, hn, rfl, rfl⟩) hne (by rw [List.length_map]; omega) (by omega) fun y hy => by
    obtain ⟨s, hs, rfl⟩ := List.mem_map.mp hy
    exact ⟨s, hs, rfl⟩) rfl (fun zz σ1 H1 ⟨gone, hgm, ez⟩ b1 d1 r1' => ?_))
  subst ez
  have hgs := (mem_allSets hn).mp hgm
  refine wB_cons (ws_asg 6 c r1' (de_call c' L.leave (by decide) (da_cons (de_var 1 c') (da_cons (de_var 5 c') da_nil)) ⟨n, _, gone, rfl, hn, g1, hgs, rfl⟩) fun σ2 H2 s2 r2 => ?_)
  let ΓB : List (Option A) := [some (.obj (.ref d)), some (.ch n (firsts r1)), some (.tr l z), some (.d (dCal cal)), some (aSet ws), some (aSet gone), some (.ch n (leave (firsts r1) gone)), none, none, none, none, none, none, none]
  have rb : Rel g H2 σ2 ΓB := r2
  have d2 := d1.same s2
  refine wB_cons (ws_for c rb (di_range1 (n := 4) c' de_int (by decide)) (pg_ND (i := 7) c rfl (.inl rfl)) fun H3 s3 => ?_)
  refine ⟨fun i σ' H' => But2 d cl H H' ∧ TK H3 H' ∧ DeckAt H' d cl (k - 1 - 3 * i) ∧ Rel g H' σ' ΓB, ⟨b1.trans (But2.of (s2.trans s3)), TK.refl _, by simpa using d2.same s3, rb.mono s3⟩, fun i σ' H' _ h => h.2.1, ?_, ?_⟩
  · rintro i dd σ4 H4 v4 H5 hd ⟨b4, t4, d4, r4⟩ s5 v5
    have hi4 : i < 4 := by
      have h1 := (List.getElem?_eq_some_iff.mp hd).1
      simpa using h1
    obtain ⟨i', _, rfl⟩ := map_get hd
    have r5 := (r4.mono s5).set 7 v5
    have d5 := d4.same s5
    refine wB_cons (ws_asgK (k' := k - 1 - 3 * (i + 1)) 8 c r5 d5 (ke_call c' L.dated (by decide) (de_var 0 c') (da_cons (de_lives c' (de_var 2 c')) da_nil) ⟨l, rfl, by have := t.len; omega, fun x hx => by have := t.lives x hx; omega, rfl, rfl⟩ (by omega) (by omega)) rfl (fun zz σ6 H6 ⟨D, ez, hD⟩ b6 d6 r6 => ?_))
    subst ez
    have k6 := b6.kp d5.soft.1 d5.soft.2
    have hDl := dated_len hn t.len hD
    refine wB_cons (ws_asg (z := aDat (restD D gone)) 9 c r6 (de_tupP c' (DL.is (DC.dl (dc_comp (xs := D) (e := fun (p : Int × Int) => A.d (dPair p)) (pr := fun p => !decide (p.1 ∈ gone)) (f := fun (p : Int × Int) => A.d (dPair p)) (own := [("_law_pair", 11)]) (gt := gName 11) (Γx := fun p => [none, none, none, none, none, some (aSet gone), none, none, none, none, none, some (.d (dPair p)), none, none]) c'
      (di_dat c' (de_var 8 c')).same (by decide +kernel) rfl (fun X' d => pg_N d rfl rfl) (fun x hx => (tg_N (by simp)).sub (sub_no (sub_no (sub_no (sub_no (sub_no (sub_eq (sub_no (sub_no (sub_no (sub_no (sub_no (sub_eq (sub_no (sub_no sub_nil)))))))))))))))
      (fun x hx X' d => dts_one (dt_notInI d (de_ix d (de_var 11 d) de_int (d := .num x.1) rfl) (de_var 5 d))) (fun x hx _ X' d => de_var 11 d) (fun _ _ => rfl) (by omega)) c') rfl)) fun σ7 H7 s7 r7 => ?_)
    refine wB_cons (ws_skip r7 (DT.is (dt_neD c' (de_call c' L.skyline (by decide) (da_cons (de_var 6 c') (da_cons (de_var 2 c') (da_cons (de_var 8 c') da_nil))) ⟨n, _, l, z, D, rfl, hn, t.len, hD, rfl⟩) (de_call c' L.skyline (by decide) (da_cons (de_var 1 c') (da_cons (de_var 2 c') (da_cons (de_var 9 c') da_nil))) ⟨n, _, l, z, restD D gone, rfl, hn, t.len, hD.filter _, rfl⟩) (sh_dat _) (sh_dat _)) (by rw [sky_leave hn t.len g1 hD]; simp)) fun H8 s8 r8 => wB_nil ?_)
    have sm := s7.trans s8
    exact ⟨((b4.trans (But2.of s5)).trans b6).trans (But2.of sm), ((t4.trans (TK.of s5)).trans k6.tk).trans (TK.of sm), d6.same sm, r8.sub (sub_eq (sub_eq (sub_eq (sub_eq (sub_eq (sub_eq (sub_eq (sub_no (sub_no (sub_no (sub_no (sub_no (sub_no (sub_no sub_nil))))))))))))))⟩
  · rintro σ4 H4 ⟨b4, t4, d4, r4⟩
    have htwo := t.two
    refine wB_cons (ws_asg (z := .d (dCal (calRest cal gone))) 10 c r4 (de_tupleL c' (DL.is (DC.dl (dc_comp (xs := cal) (e := fun s => A.d (dSet s)) (pr := fun _ => true) (f := fun s => aSet (rest s gone)) (own := [("_law_day", 12)]) (gt := gName 12) (Γx := fun s => [none, none, none, none, none, some (aSet gone), none, none, none, none, none, none, some (aSet s), none]) c'
      (di_tupM (enc := dSet) c' (de_var 3 c')).same (by decide +kernel) rfl (fun X' d => pg_N d rfl rfl) (fun x hx => (tg_N (by simp)).sub (sub_no (sub_no (sub_no (sub_no (sub_no (sub_eq (sub_no (sub_no (sub_no (sub_no (sub_no (sub_no (sub_eq (sub_no sub_nil))))))))))))))) (fun x hx X' d => dts_nil)
      (fun s hs _ X' d => de_tupI d (DL.is (DC.dl (dc_comp (xs := s) (e := aI) (pr := fun x => !decide (x ∈ gone)) (f := aI) (own := [("_law_x", 13)]) (gt := gName 13) (Γx := fun x => [none, none, none, none, none, some (aSet gone), none, none, none, none, none, none, none, some (aI x)]) d
        (di_set d (de_var 12 d)).same (by decide +kernel) rfl (fun X'' d' => pg_N d' rfl rfl) (fun x hx => (tg_N (by simp)).sub (sub_no (sub_no (sub_no (sub_no (sub_no (sub_eq (sub_no (sub_no (sub_no (sub_no (sub_no (sub_no (sub_no (sub_eq sub_nil)))))))))))))))
        (fun x hx X'' d' => dts_one (dt_notInI d' (de_var 13 d') (de_var 5 d'))) (fun x hx _ X'' d' => de_var 13 d') (fun _ _ => rfl) (by have := isSet_len hn (t.calOk.2.2 s hs); omega)) d) rfl)) (fun _ _ => rfl) (by omega)) c') (by rw [List.filter_eq_self.mpr (fun _ _ => rfl)]; unfold calRest; rw [List.map_map, List.map_map]; rfl))) fun σ5 H5 s5 r5 => ?_)
    have t2 : Tiny n l (calRest cal gone) := tiny_rest t
    have es := streams_leave (rows := r1) (z := z) (gone := gone) t
    obtain ⟨m, hmx⟩ := shelf_ex t2 (firsts r1) z ws
    refine wB_cons (ws_skip r5 (DT.is (dt_neD c' (de_callK c' L.spots (by decide) (da_cons (de_var 6 c') (da_cons (de_var 2 c') (da_cons (de_var 3 c') da_nil))) ⟨n, _, l, z, cal, rfl, t, hz, rfl⟩) (de_callK c' L.spots (by decide) (da_cons (de_var 1 c') (da_cons (de_var 2 c') (da_cons (de_var 10 c') da_nil))) ⟨n, _, l, z, calRest cal gone, rfl, t2, hz, rfl⟩) (spots_shn _ _ _ _) (spots_shn _ _ _ _)) (by unfold spotsOf; rw [es]; simp)) fun H6 s6 r6 => ?_)
    refine wB_cons (ws_ret r6 (de_eqI (de_callK c' L.shelf (by decide) (da_cons (de_var 6 c') (da_cons (de_var 2 c') (da_cons (de_var 3 c') (da_cons (de_var 4 c') da_nil)))) ⟨n, _, l, z, cal, ws, m, rfl, t, hz, hw, by rw [es]; exact hmx, rfl⟩) (de_callK c' L.shelf (by decide) (da_cons (de_var 1 c') (da_cons (de_var 2 c') (da_cons (de_var 10 c') (da_cons (de_var 4 c') da_nil)))) ⟨n, _, l, z, calRest cal gone, ws, m, rfl, t2, hz, hw, hmx, rfl⟩)) fun v7 H7 s7 v7' => ?_)
    have sm := (s5.trans s6).trans s7
    rw [decide_eq_true rfl] at v7'
    exact q v7 H7 (.bl true) rfl (b4.trans (But2.of sm)) ((d4.same sm).less (by simp <;> omega)) v7'
end
end K85

/-! W17: the law. -/
namespace K85
open PySem PySem.Spec PyProof.Rows L2
section
variable {g : Cfg} {N : List Str} {sc : Scope} {X : Cx} {j k k' : Nat} {Γ : List (Option A)} {e a b o tg iter : Expr} {es : List Expr} {pos p px tp : Pos} {d c : Addr} {P : A → Prop} {D : Ends} {σ : L2.St} {H : Hp}
/-- Trade(a, b), b drawn -/
theorem ke_mkT {l : List Int} {P1 : A → Prop} (ct : Cxk g N sc j X) (M : MakT g) (hj : 4 ≤ j) (ha : DE g X a Γ (aSet l)) (hb : KE g X b Γ d c k k' P1) (hL : Lives l) (hr : ∀ w, P1 w → ∃ z, w = aSet z ∧ IsSet l.length z ∧ P (.tr l z)) (hg : GlS sc "Trade" := by rfl)
    (h1 : starEach [a, b] X.env = (false, eval a X.env) :: starEach [b] X.env := by rfl) (h2 : starEach [b] X.env = (false, eval b X.env) :: starEach [] X.env := by rfl) (hpl : (backTo pos (starEach [b] X.env)).any (·.1) = false := by rfl) :
    KE g X (.Call (.Name "Trade" p) [a, b] [] pos) Γ d c k k' P := fun σ H Q rl dk q => by
  have M' : C8.Mak X.prog X.w X.K X.mg X.base 3 "Trade" g.T (spInitT g) [] := by
    rw [ct.P, ct.w, ct.K, ct.mg, ct.base]
    exact M
  refine ⟨_, C8.pe_mk M' ct.room hj (ct.gl hg) pa_w (by decide) h1 hpl, wA_cons (ha σ H _ rl fun v H1 s1 v1 => wA_cons (hb σ H1 _ (rl.mono s1) (dk.same s1) fun u H2 w hP b2 d2 u2 => wA_nil fun x dx hx hdx hne => ?_) h2) h1⟩
  obtain ⟨z, rfl, hz, hp⟩ := hr w hP
  have dk1 := (dk.same s1).soft
  have v2 := v1.kp (b2.kp dk1.1 dk1.2) rfl
  rw [List.append_nil]
  have sm : Same H2 (upd (upd H2 dx (.own x)) x (.ins g.T dx [])) := (Same.newO hdx).trans (Same.newO (by rw [upd_ne (Ne.symm hne)]; exact hx))
  refine ⟨x, dx, v, u, l, z, rfl, upd_same, v2.dv.mono (TK.of sm), u2.dv.mono (TK.of sm), hL, hz, fun H' bb h => ⟨rfl, ?_⟩⟩
  have s3 : Same H2 H' := bb.same sm hx
  exact q _ H' _ hp (((But2.of s1).trans b2).trans (But2.of s3)) (d2.same s3) (.tr h)
/-- t + (e,), e drawn -/
theorem ke_snoc {ds : List Dt} {P1 : A → Prop} {x1} (ct : Cxk g N sc j X) (ha : DE g X a Γ (.d (.tup ds))) (hb : KE g X b Γ d c k k' P1) (hlen : ds.length ≤ 1000) (hr : ∀ w, P1 w → ∃ y, w = .d y ∧ P (.d (.tup (ds ++ [y])))) (h1 : starEach [b] X.env = (false, eval b X.env) :: starEach [] X.env := by rfl) :
    KE g X (.BinOp a .Add (.Tuple [b] x1 tp) pos) Γ d c k k' P := fun σ H Q rl dk q =>
  ⟨_, pe_op (c_cat ct) pe_w (pe_tup pa_w), ha σ H _ rl fun v H1 s1 v1 => wA_cons (hb σ H1 _ (rl.mono s1) (dk.same s1) fun u H2 w hP b2 d2 u2 => wA_nil ⟨by show 1 ≤ _; decide, fun bp hbp => by
    obtain ⟨y, rfl, hp⟩ := hr w hP
    have dk1 := (dk.same s1).soft
    have s3 : Same H2 (upd H2 bp (.tup [u])) := Same.newO hbp
    exact rd_cat (ds := ds) (es := [y]) (by simp; omega) _ _ _ _ ((v1.kp (b2.kp dk1.1 dk1.2) rfl).mono s3) (.d (.tup upd_same (.cons (u2.dv.mono (TK.of s3)) .nil))) fun w4 H4 s4 v4 => q w4 H4 _ hp (((But2.of s1).trans b2).trans (But2.of (s3.trans s4))) (d2.same (s3.trans s4)) v4⟩) h1⟩
/-- if not e: ..; e draws and is true -/
theorem ws_skipK {bt : List Stmt} {p2 : Pos} (ct : Dtx g N sc j X) (r : Rel g H σ Γ) (dk : DeckAt H d c k) (h : KE g X e Γ d c k k' fun z => z = .bl true) (hΓ : Γ.all noLsO = true) (q : ∀ H1, But2 d c H H1 → DeckAt H1 d c k' → Rel g H1 σ Γ → D.nx σ H1)
    (he : ∀ whole, isTrue e X.env whole = (do let v ← whole; standAt e.pos; holding [v] (truthy v)) := by intro _; rfl) : wS X (.If (.UnaryOp .Not e p2) bt [] pos) D σ H :=
  ⟨_, ps_if (pt_not (pt_val pe_w he)) pb_w pb_w, h σ H _ r dk fun v H1 z hz b1 d1 v1 => by
    subst hz
    refine ⟨true, v1.bool, ?_⟩
    show wB X [] D σ H1
    exact wB_nil (q H1 b1 d1 (r.kp (b1.kp dk.soft.1 dk.soft.2) hΓ))⟩
end
theorem sqL_same {K : PySem.W.Frag} {H H' : Hp} {a : Addr} {xs : List V} (s : Same H H') (h : SqL K H a xs) : SqL K H' a xs := by
  rcases h with h | h
  · rcases h with h | ⟨o, h⟩
    · exact .inl (.inl (s _ _ h))
    · exact .inl (.inr ⟨o, s _ _ h⟩)
  · exact .inr h
theorem sub_snoc {xs ks : List Int} {i : Nat} {x : Int} (hx : xs[i]? = some x) (h : ks.Sublist (xs.take i)) : (ks ++ [x]).Sublist (xs.take (i + 1)) := by
  rw [take_snoc hx]
  exact h.append (List.Sublist.refl _)
theorem sub_less {xs ks : List Int} {i : Nat} {x : Int} (hx : xs[i]? = some x) (h : ks.Sublist (xs.take i)) : ks.Sublist (xs.take (i + 1)) := by
  rw [take_snoc hx]
  exact h.trans (List.sublist_append_left _ _)
theorem sub_set {n : Nat} {ks : List Int} (h : ks.Sublist (rngI n)) : IsSet n ks := ⟨(rngI_asc n).sublist h, fun x hx => mem_rngI.mp (h.subset hx)⟩
section
variable {g : Cfg}
def spLaw (g : Cfg) : Sp := fun vs H Q _ => ∃ (a : Addr) (ns : List Int), vs = [.ref a] ∧ SqL g.K H a (ns.map V.int) ∧ ns.length ≤ 63 ∧ ∀ H', Q (.bl true) H'
theorem S_law : FnScope ["_law_script", "_law_deck_here", "_law_offers", "_law_one", "_law_other", "_law_lives", "_law_trade", "_law_calendar", "_law_turn", "_law_worths", "_law_x"] ["_law_script"] (defScope s_law) := ⟨rfl, rfl, rfl, by decide +kernel, rfl, by decide +kernel, by decide +kernel⟩
abbrev nsI (P : Int → Prop) (i : Nat) (zs : List A) : Prop := ∃ ns : List Int, zs = ns.map aI ∧ ns.length = i ∧ ∀ x ∈ ns, P x
abbrev subI (n : Nat) (i : Nat) (zs : List A) : Prop := ∃ ks : List Int, zs = ks.map aI ∧ ks.Sublist ((rngI n).take i)
theorem nsI_len {P : Int → Prop} (i : Nat) (zs : List A) (h : nsI P i zs) : zs.length ≤ i ∧ ∀ z ∈ zs, noLs z = true := by
  obtain ⟨ns, rfl, hl, _⟩ := h
  refine ⟨by rw [List.length_map, hl]; exact Nat.le_refl _, fun z hz => ?_⟩
  obtain ⟨x, _, rfl⟩ := List.mem_map.mp hz
  rfl
theorem subI_len {n : Nat} (i : Nat) (zs : List A) (h : subI n i zs) : zs.length ≤ i ∧ ∀ z ∈ zs, noLs z = true := by
  obtain ⟨ks, rfl, hs⟩ := h
  refine ⟨?_, fun z hz => ?_⟩
  · rw [List.length_map]
    have := hs.length_le
    rw [List.length_take] at this
    omega
  · obtain ⟨x, _, rfl⟩ := List.mem_map.mp hz
    rfl
theorem nsI_step {P : Int → Prop} {xs : List Int} (i : Nat) (x : Int) (zs : List A) (z : A) (hx : xs[i]? = some x) (h : nsI P i zs) (hb : True) (hz : ∃ m : Int, z = aI m ∧ P m) : nsI P (i + 1) (zs ++ [z]) := by
  obtain ⟨ns, rfl, hl, hp⟩ := h
  obtain ⟨m, rfl, hm⟩ := hz
  refine ⟨ns ++ [m], by simp, by simp [hl], fun y hy => ?_⟩
  rcases List.mem_append.mp hy with q | q
  · exact hp y q
  · simp at q
    subst q
    exact hm
theorem subI_step {n : Nat} (i : Nat) (x : Int) (zs : List A) (z : A) (hx : (rngI n)[i]? = some x) (h : subI n i zs) (hz : z = aI x) : subI n (i + 1) (zs ++ [z]) := by
  obtain ⟨ks, rfl, hs⟩ := h
  subst hz
  exact ⟨ks ++ [x], by simp, sub_snoc hx hs⟩
theorem subI_skip {n : Nat} (i : Nat) (x : Int) (zs : List A) (hx : (rngI n)[i]? = some x) (h : subI n i zs) : subI n (i + 1) zs := by
  obtain ⟨ks, rfl, hs⟩ := h
  exact ⟨ks, rfl, sub_less hx hs⟩
theorem ok_law (T : Txt g) {f : Addr} {fd : FuncData} (F : FunD g.K "law" "law" (defArgs s_law) (defBody s_law) (defScope s_law) [] [] f fd) (L : Lib g) (WD : Def1 g 1 "_law_deck" (spDeck g)) (WN : Def1 g 7 "_law_names_right" (spK g 4 R_names)) (WE : Def1 g 7 "_law_either_right" (spK g 5 R_erRight)) (WW : Def1 g 7 "_law_without_right" (spK g 4 R_wr)) :
    FnOk g.P g.w g.K g.mg g.base CX0 8 f fd ["_law_script"] (spLaw g) := by
  refine def_ok F S_law T (fun vs H Q E h => by obtain ⟨a, ns, rfl, _⟩ := h; rfl) fun X c vs H Q E hsp => ?_
  obtain ⟨a, ns, rfl, hS, hlen, q⟩ := hsp
  have c' := c.toCxk
  have r : Rel g H (start ["_law_script", "_law_deck_here", "_law_offers", "_law_one", "_law_other", "_law_lives", "_law_trade", "_law_calendar", "_law_turn", "_law_worths", "_law_x"] [.ref a]) [some (.obj (.ref a)), none, none, none, none, none, none, none, none, none, none] :=
    rel_cons (.obj _) (rel_no (rel_no (rel_no (rel_no (rel_no (rel_no (rel_no (rel_no (rel_no (rel_no rel_nil))))))))))
  -- the deck
  refine wB_cons (wS_of (ps_set c.ndX (c'.at_ (i := 1) rfl) (c'.loc (.inr rfl)) (C8.pe_c (c'.cal WD) c.room (by decide) (c'.gl rfl) pa_w (by decide) rfl rfl) rfl (.inl (c.fn _))) (wA_cons (useE r (de_var 0 c') fun v1 H1 s1 w1 => wA_nil ?_)))
  have ev := w1.is
  subst ev
  refine ⟨a, ns, rfl, sqL_same s1 hS, hlen, fun d cl H2 s2 dk => ?_⟩
  have r2 : Rel g H2 _ _ := (r.mono (s1.trans s2)).set 1 (.obj (.ref d))
  -- offers
  refine wB_cons (ws_asgK (k' := 999) (P := fun z => ∃ n : Nat, (n = 2 ∨ n = 3) ∧ z = aI n) 2 c r2 dk (ke_add de_int (ke_draw c' L.draw (by decide) (de_var 1 c') de_int ⟨by decide, by decide⟩ rfl fun i h0 h1 => ⟨i, rfl, (2 + i).toNat, by omega, by rw [show (((2 + i).toNat : Nat) : Int) = 2 + i by omega]⟩)) rfl (fun zz σ3 H3 ⟨n, hn, ez⟩ b3 d3 r3 => ?_))
  subst ez
  -- two choosers
  have lists : ∀ {k k' : Nat} {Γ : List (Option A)} {p1 p2 p3 p4 p5 p6 : Pos}, DE g X (.Name "_law_deck_here" p1) Γ (.obj (.ref d)) → DE g X (.Name "_law_offers" p2) Γ (aI n) → DE g X (.Name "_law_offers" p6) Γ (aI n) → k' + 9 = k →
      KE g X (.Call (.Name "by_lists" p3) [.Name "_law_offers" p6, .Call (.Name "_law_lists" p4) [.Name "_law_deck_here" p1, .Name "_law_offers" p2] [] p5] [] p3) Γ d cl k k' (fun z => ∃ rows, z = .ch n (firsts rows)) → True := fun _ _ _ _ _ => trivial
  refine wB_cons (ws_par 3 4 c (useK (k' := 990) (P := fun z => ∃ rows, z = .ch n (firsts rows)) r3 d3 (ke_call2 c' L.byl (by decide) (de_var 2 c') (ke_call (k' := 990) c' L.lists (by decide) (de_var 1 c') (da_cons (de_var 2 c') da_nil) ⟨n, hn, rfl, rfl, rfl⟩ (by decide) rfl) rfl fun z ⟨rows, ez, hl, hr⟩ => ⟨.ch n (firsts rows), ⟨n, rows, by rw [ez], hn, hr, by omega, rfl⟩, rows, rfl⟩) fun v4 H4 z4 ⟨rows1, ez4⟩ b4 d4 w4 =>
    useK (k' := 981) (P := fun z => ∃ rows, z = .ch n (firsts rows)) (r3.kp (b4.kp d3.soft.1 d3.soft.2) rfl) d4 (ke_call2 c' L.byl (by decide) (de_var 2 c') (ke_call (k' := 981) c' L.lists (by decide) (de_var 1 c') (da_cons (de_var 2 c') da_nil) ⟨n, hn, rfl, rfl, rfl⟩ (by decide) rfl) rfl fun z ⟨rows, ez, hl, hr⟩ => ⟨.ch n (firsts rows), ⟨n, rows, by rw [ez], hn, hr, by omega, rfl⟩, rows, rfl⟩) fun v5 H5 z5 ⟨rows2, ez5⟩ b5 d5 w5 => ?_))
  subst ez4 ez5
  have k4 := b4.kp d3.soft.1 d3.soft.2
  have k5 := b5.kp d4.soft.1 d4.soft.2
  have r5 : Rel g H5 _ [some (.obj (.ref a)), some (.obj (.ref d)), some (aI n), some (.ch n (firsts rows1)), some (.ch n (firsts rows2)), none, none, none, none, none, none] := (((r3.kp k4 rfl).kp k5 rfl).set 3 (w4.kp k5 rfl)).set 4 w5
  have rlen : (rngI n).length ≤ 3 := by rw [rngI_len]; omega
  -- lives
  refine wB_cons (ws_asgK (k' := 978) (P := fun zz => ∃ l : List Int, zz = aSet l ∧ l.length = n ∧ ∀ x ∈ l, 1 ≤ x ∧ x ≤ 3) 5 c r5 d5 (ke_tuple c' (kc_comp (k' := 978) (xs := rngI n) (e := aI) (own := [("_law_x", 10)]) (gt := gName 10) (w1 := 0) (w2 := 1) (B := fun b => b = true) (P := fun _ z => ∃ m : Int, z = aI m ∧ (1 ≤ m ∧ m ≤ 3)) (Γx := fun x => [none, some (.obj (.ref d)), some (aI n), none, none, none, none, none, none, none, some (aI x)]) (nsI fun x => 1 ≤ x ∧ x ≤ 3) c'
    ((di_range1 c' (de_var 2 c') (by omega)).is (show _ = (rngI n).map aI by unfold rngI; rw [List.map_map]; rfl)) (by decide +kernel) rfl rfl (fun _ _ => rfl) (fun X' dd => pg_N dd rfl rfl) (fun x hx => (tg_N (by simp)).sub (sub_no (sub_eq (sub_eq (sub_no (sub_no (sub_no (sub_no (sub_no (sub_no (sub_no (sub_eq sub_nil)))))))))))) (fun x hx X' kk dd hk => kts_nil)
    (fun x hx X' kk dd hk => ke_add de_int (ke_draw (b := if (n : Int) = 2 then 3 else 2) dd L.draw (by decide) (de_var 1 dd) (de_ifE (t := decide ((n : Int) = 2)) (dt_eqI (de_var 2 dd) de_int) (fun ht => DE.is de_int (by rw [if_pos (of_decide_eq_true ht)])) fun hf => DE.is de_int (by rw [if_neg (of_decide_eq_false hf)])) (by split <;> exact ⟨by decide, by decide⟩) (by omega) fun i h0 h1 => ⟨i, rfl, 1 + i, rfl, by omega, by split at h1 <;> omega⟩))
    (fun x z ⟨m, ez, _⟩ => ez ▸ rfl) ⟨[], rfl, rfl, fun x hx => by simp at hx⟩ (fun i x zs z hx h _ hz => nsI_step i x zs z hx h trivial hz) (fun i x zs hx h hb => by cases hb) (fun i zs h => nsI_len i zs h) (by omega) (by omega)) fun zs ⟨ns', ez, hl, hp⟩ => ⟨ns', ez, ns', rfl, by rw [hl, rngI_len], hp⟩) rfl (fun zz σ6 H6 ⟨l, ez, hll, hlv⟩ b6 d6 r6 => ?_))
  subst ez
  have hL : Lives l := ⟨by omega, by omega, fun x hx => by have := hlv x hx; omega⟩
  -- the trade
  refine wB_cons (ws_asgK (k' := 975) (P := fun zz => ∃ z : List Int, zz = .tr l z ∧ IsSet n z) 6 c r6 d6 (ke_mkT c' L.mkT (by decide) (de_var 5 c') (ke_tuple (P := fun w => ∃ z : List Int, w = aSet z ∧ IsSet n z) c' (kc_comp (k' := 975) (xs := rngI n) (e := aI) (own := [("_law_x", 10)]) (gt := gName 10) (w1 := 1) (w2 := 0) (B := fun _ => True) (P := fun x z => z = aI x) (Γx := fun x => [none, some (.obj (.ref d)), none, none, none, none, none, none, none, none, some (aI x)]) (subI n) c'
    ((di_range1 c' (de_var 2 c') (by omega)).is (show _ = (rngI n).map aI by unfold rngI; rw [List.map_map]; rfl)) (by decide +kernel) rfl rfl (fun _ _ => rfl) (fun X' dd => pg_N dd rfl rfl) (fun x hx => (tg_N (by simp)).sub (sub_no (sub_eq (sub_no (sub_no (sub_no (sub_no (sub_no (sub_no (sub_no (sub_no (sub_eq sub_nil))))))))))))
    (fun x hx X' kk dd hk => kts_one (kt_eq (ke_draw (b := 3) (k' := kk - 1) dd L.draw (by decide) (de_var 1 dd) de_int ⟨by decide, by decide⟩ (by omega) fun i h0 h1 => ⟨i, rfl⟩) de_int rfl)) (fun x hx X' kk dd hk => ke_of (de_var 10 dd)) (fun x z ez => ez ▸ rfl) ⟨[], rfl, List.nil_sublist _⟩ (fun i x zs z hx h _ hz => subI_step i x zs z hx h hz) (fun i x zs hx h _ => subI_skip i x zs hx h) (fun i zs h => subI_len i zs h) (by omega) (by omega)) fun zs ⟨ks, ez, hs⟩ => ⟨ks, ez, ks, rfl, sub_set (by rw [List.take_length] at hs; exact hs)⟩) hL fun w ⟨z, ez, hz⟩ => ⟨z, ez, by rw [hll]; exact hz, z, rfl, hz⟩) rfl (fun zz σ7 H7 ⟨z, ez, hz⟩ b7 d7 r7 => ?_))
  subst ez
  -- the calendar
  refine wB_cons (ws_asg 7 c r7 (z := .d (dCal [])) (de_tup (ds := []) da_nil) fun σ8 H8 s8 r8 => ?_)
  have d8 := d7.same s8
  refine wB_cons (ws_forK (k' := 974) (P := fun z => ∃ m : Nat, z = aI m ∧ 1 ≤ m ∧ m ≤ 2) c r8 d8 (ke_add de_int (ke_draw (k' := 974) c' L.draw (by decide) (de_var 1 c') de_int ⟨by decide, by decide⟩ rfl fun i h0 h1 => ⟨i, rfl, (1 + i).toNat, by rw [show (((1 + i).toNat : Nat) : Int) = 1 + i by omega], by omega, (1 + i).toNat, by rw [show (((1 + i).toNat : Nat) : Int) = 1 + i by omega], by omega, by omega⟩)) (pg_ND (i := 8) c rfl (.inl rfl)) fun m H9 ⟨m', em, hm1, hm2⟩ b9 d9 => ?_)
  have em' : m = m' := by
    have : (m : Int) = (m' : Int) := by
      injection em with e1
      injection e1
    omega
  subst em'
  have r9 := r8.kp (b9.kp d8.soft.1 d8.soft.2) rfl
  refine ⟨fun i σ' H' => DeckAt H' d cl (974 - 3 * i) ∧ ∃ cal : List (List Int), cal.length = i ∧ (∀ s ∈ cal, IsSet n s) ∧ Rel g H' σ' [some (.obj (.ref a)), some (.obj (.ref d)), some (aI n), some (.ch n (firsts rows1)), some (.ch n (firsts rows2)), some (aSet l), some (.tr l z), some (.d (dCal cal)), none, none, none], ⟨d9, [], rfl, fun s hs => by simp at hs, r9⟩, ?_, ?_⟩
  · rintro i σ10 H10 v10 hi ⟨d10, cal, hcl, hcs, r10⟩ v10'
    have r11 := r10.set 8 v10'
    refine wB_cons (ws_asgK (k' := 974 - 3 * (i + 1)) (P := fun zz => ∃ s : List Int, zz = .d (dCal (cal ++ [s])) ∧ IsSet n s) 7 c r11 d10 (ke_snoc (ds := cal.map dSet) c' (de_var 7 c') (ke_tuple (P := fun w => ∃ z : List Int, w = aSet z ∧ IsSet n z) c' (kc_comp (k' := 974 - 3 * (i + 1)) (xs := rngI n) (e := aI) (own := [("_law_x", 10)]) (gt := gName 10) (w1 := 1) (w2 := 0) (B := fun _ => True) (P := fun x z => z = aI x) (Γx := fun x => [none, some (.obj (.ref d)), none, none, none, none, none, none, none, none, some (aI x)]) (subI n) c'
      ((di_range1 c' (de_var 2 c') (by omega)).is (show _ = (rngI n).map aI by unfold rngI; rw [List.map_map]; rfl)) (by decide +kernel) rfl rfl (fun _ _ => rfl) (fun X' dd => pg_N dd rfl rfl) (fun x hx => (tg_N (by simp)).sub (sub_no (sub_eq (sub_no (sub_no (sub_no (sub_no (sub_no (sub_no (sub_no (sub_no (sub_eq sub_nil))))))))))))
      (fun x hx X' kk dd hk => kts_one (kt_gt (ke_draw (b := 3) (k' := kk - 1) dd L.draw (by decide) (de_var 1 dd) de_int ⟨by decide, by decide⟩ (by omega) fun i h0 h1 => ⟨i, rfl⟩) de_int rfl)) (fun x hx X' kk dd hk => ke_of (de_var 10 dd)) (fun x z ez => ez ▸ rfl) ⟨[], rfl, List.nil_sublist _⟩ (fun i x zs z hx h _ hz => subI_step i x zs z hx h hz) (fun i x zs hx h _ => subI_skip i x zs hx h) (fun i zs h => subI_len i zs h) (by omega) (by omega)) fun zs ⟨ks, ez, hs⟩ => ⟨ks, ez, ks, rfl, sub_set (by rw [List.take_length] at hs; exact hs)⟩) (by rw [List.length_map]; omega) fun w ⟨s, ez, hs⟩ => ⟨dSet s, ez, s, by unfold dCal; rw [List.map_append]; rfl, hs⟩) rfl (fun zz σ12 H12 ⟨s, ez, hs⟩ b12 d12 r12 => wB_nil ?_))
    subst ez
    refine ⟨d12, cal ++ [s], by simp [hcl], fun y hy => ?_, r12.sub (sub_eq (sub_eq (sub_eq (sub_eq (sub_eq (sub_eq (sub_eq (sub_eq (sub_no (sub_no (sub_no sub_nil)))))))))))⟩
    rcases List.mem_append.mp hy with h | h
    · exact hcs y h
    · simp at h
      subst h
      exact hs
  · rintro σ10 H10 ⟨d10, cal, hcl, hcs, r10⟩
    have d10' : DeckAt H10 d cl 968 := d10.less (by omega)
    have t : Tiny n l cal := ⟨hn, hll, hlv, ⟨by omega, by omega, hcs⟩, by omega⟩
    -- worths
    refine wB_cons (ws_asgK (k' := 965) (P := fun zz => ∃ ws : List Int, zz = aSet ws ∧ IsWs n ws) 9 c r10 d10' (ke_tuple c' (kc_comp (k' := 965) (xs := rngI n) (e := aI) (own := [("_law_x", 10)]) (gt := gName 10) (w1 := 0) (w2 := 1) (B := fun b => b = true) (P := fun _ z => ∃ m : Int, z = aI m ∧ 0 ≤ m) (Γx := fun x => [none, some (.obj (.ref d)), none, none, none, none, none, none, none, none, some (aI x)]) (nsI fun x => 0 ≤ x) c'
      ((di_range1 c' (de_var 2 c') (by omega)).is (show _ = (rngI n).map aI by unfold rngI; rw [List.map_map]; rfl)) (by decide +kernel) rfl rfl (fun _ _ => rfl) (fun X' dd => pg_N dd rfl rfl) (fun x hx => (tg_N (by simp)).sub (sub_no (sub_eq (sub_no (sub_no (sub_no (sub_no (sub_no (sub_no (sub_no (sub_no (sub_eq sub_nil)))))))))))) (fun x hx X' kk dd hk => kts_nil)
      (fun x hx X' kk dd hk => ke_draw (b := 10) dd L.draw (by decide) (de_var 1 dd) de_int ⟨by decide, by decide⟩ (by omega) fun i h0 h1 => ⟨i, rfl, h0⟩)
      (fun x z ⟨m, ez, _⟩ => ez ▸ rfl) ⟨[], rfl, rfl, fun x hx => by simp at hx⟩ (fun i x zs z hx h _ hz => nsI_step i x zs z hx h trivial hz) (fun i x zs hx h hb => by cases hb) (fun i zs h => nsI_len i zs h) (by omega) (by omega)) fun zs ⟨ns', ez, hl, hp⟩ => ⟨ns', ez, ns', rfl, by rw [hl, rngI_len], hp⟩) rfl (fun zz σ11 H11 ⟨ws, ez, hw⟩ b11 d11 r11 => ?_))
    subst ez
    have g1 := good_firsts hn rows1
    refine wB_cons (ws_skipK (k' := 950) c r11 d11 (ke_call c' WN (by decide) (de_var 1 c') (da_cons (de_var 3 c') (da_cons (de_var 6 c') (da_cons (de_var 7 c') (da_cons (de_var 9 c') da_nil)))) ⟨n, firsts rows1, l, z, cal, ws, rfl, t, g1, hz, hw, rfl, rfl⟩ (by decide) rfl) rfl fun H12 b12 d12 r12 => ?_)
    refine wB_cons (ws_skipK (k' := 938) c r12 d12 (ke_call c' WE (by decide) (de_var 1 c') (da_cons (de_var 3 c') (da_cons (de_var 4 c') (da_cons (de_var 6 c') (da_cons (de_var 7 c') (da_cons (de_var 9 c') da_nil))))) ⟨n, rows1, rows2, l, z, cal, ws, rfl, t, hz, hw, rfl, rfl⟩ (by decide) rfl) rfl fun H13 b13 d13 r13 => ?_)
    refine wB_cons (ws_retK (k' := 925) r13 d13 (ke_call c' WW (by decide) (de_var 1 c') (da_cons (de_var 4 c') (da_cons (de_var 6 c') (da_cons (de_var 7 c') (da_cons (de_var 9 c') da_nil)))) ⟨n, rows2, l, z, cal, ws, rfl, t, hz, hw, rfl, rfl⟩ (by decide) rfl) fun v14 H14 z14 ez _ _ v14' => ?_)
    subst ez
    have ev := v14'.bool
    subst ev
    exact q H14
end
end K85

/-! W18: the defs behind the head, and the law. -/
namespace K85
open PySem PySem.Spec PyProof.Rows L2
def spLawK (K : PySem.W.Frag) : Sp := fun vs H Q _ => ∃ (a : Addr) (ns : List Int), vs = [.ref a] ∧ SqL K H a (ns.map V.int) ∧ ns.length ≤ 63 ∧ ∀ H', Q (.bl true) H'
theorem facts {P : Program} {w : World} {K : PySem.W.Frag} {h : Heap} {mg : Str → Option Value} {f : Addr} (X : K.In h) (G : h.Ns mainGlobals mg) (hfa : mg ("law" : Str) = some (.ref f)) (c : He.SaysD fa fn K) :
    ∃ fd : FuncData, (∀ (s : Shared) (v : Value), BindsTo s fd ⟨[v], []⟩ [("_law_script", v)]) ∧ ∀ base : Heap, K.In base → base.Ns mainGlobals mg → FnOk P w K mg base CX0 8 f fd ["_law_script"] (spLawK K) := by
  obtain ⟨fd, F⟩ := c.def_ 43 (d := d_law) rfl
  have e := hfa.symm.trans (He.glo_ok X G (c.fact 43 (f := .glo "law") rfl))
  cases e
  have b := FunD.bindsA (ps := ["_law_script"]) F fun _ _ _ _ _ _ us hl => match us, hl with | [_], _ => rfl
  refine ⟨fd, fun s v => b s [v] rfl, fun base _ _ => ?_⟩
  let g : Cfg := ⟨P, w, K, mg, base, He.ga K "Chooser", He.ga K "Trade"⟩
  have T : Txt g := ⟨He.free_ok X G (c.fact 62 (f := .free "isinstance") rfl), He.free_ok X G (c.fact 63 (f := .free "int") rfl), He.free_ok X G (c.fact 64 (f := .free "bool") rfl), He.free_ok X G (c.fact 65 (f := .free "tuple") rfl), He.free_ok X G (c.fact 66 (f := .free "range") rfl), He.free_ok X G (c.fact 67 (f := .free "sorted") rfl), He.free_ok X G (c.fact 68 (f := .free "set") rfl), He.free_ok X G (c.fact 69 (f := .free "len") rfl), He.free_ok X G (c.fact 70 (f := .free "enumerate") rfl), He.free_ok X G (c.fact 71 (f := .free "max") rfl), He.free_ok X G (c.fact 72 (f := .free "sum") rfl), He.free_ok X G (c.fact 73 (f := .free "list") rfl), He.cls_ok (c.fact 46 (f := .cls "Chooser") rfl), He.cls_ok (c.fact 47 (f := .cls "Trade") rfl), He.noat_ok (c.fact 48 (f := .noat "Chooser" "offers") rfl), He.noat_ok (c.fact 49 (f := .noat "Chooser" "picks") rfl), He.noat_ok (c.fact 50 (f := .noat "Chooser" "table") rfl), He.noat_ok (c.fact 51 (f := .noat "Chooser" "places") rfl), He.noat_ok (c.fact 52 (f := .noat "Trade" "lives") rfl), He.noat_ok (c.fact 53 (f := .noat "Trade" "loose") rfl)⟩
  have D_is_whole : DefIn g "is_whole" s_is_whole := by
    obtain ⟨fd, F⟩ := c.def_ 0 (d := d_is_whole) rfl
    exact ⟨_, fd, F, He.glo_ok X G (c.fact 0 (f := .glo "is_whole") rfl)⟩
  have D_is_set : DefIn g "is_set" s_is_set := by
    obtain ⟨fd, F⟩ := c.def_ 1 (d := d_is_set) rfl
    exact ⟨_, fd, F, He.glo_ok X G (c.fact 1 (f := .glo "is_set") rfl)⟩
  have D_all_sets : DefIn g "all_sets" s_all_sets := by
    obtain ⟨fd, F⟩ := c.def_ 2 (d := d_all_sets) rfl
    exact ⟨_, fd, F, He.glo_ok X G (c.fact 2 (f := .glo "all_sets") rfl)⟩
  have D_together : DefIn g "together" s_together := by
    obtain ⟨fd, F⟩ := c.def_ 3 (d := d_together) rfl
    exact ⟨_, fd, F, He.glo_ok X G (c.fact 3 (f := .glo "together") rfl)⟩
  have D_same_offers : DefIn g "same_offers" s_same_offers := by
    obtain ⟨fd, F⟩ := c.def_ 4 (d := d_same_offers) rfl
    exact ⟨_, fd, F, He.glo_ok X G (c.fact 4 (f := .glo "same_offers") rfl)⟩
  have D_chooser_is_part : DefIn g "chooser_is_part" s_chooser_is_part := by
    obtain ⟨fd, F⟩ := c.def_ 5 (d := d_chooser_is_part) rfl
    exact ⟨_, fd, F, He.glo_ok X G (c.fact 5 (f := .glo "chooser_is_part") rfl)⟩
  have D_either_of : DefIn g "either_of" s_either_of := by
    obtain ⟨fd, F⟩ := c.def_ 6 (d := d_either_of) rfl
    exact ⟨_, fd, F, He.glo_ok X G (c.fact 6 (f := .glo "either_of") rfl)⟩
  have D_made_rest : DefIn g "made_rest" s_made_rest := by
    obtain ⟨fd, F⟩ := c.def_ 7 (d := d_made_rest) rfl
    exact ⟨_, fd, F, He.glo_ok X G (c.fact 7 (f := .glo "made_rest") rfl)⟩
  have D_in_turn : DefIn g "in_turn" s_in_turn := by
    obtain ⟨fd, F⟩ := c.def_ 8 (d := d_in_turn) rfl
    exact ⟨_, fd, F, He.glo_ok X G (c.fact 8 (f := .glo "in_turn") rfl)⟩
  have D_leaving_out : DefIn g "leaving_out" s_leaving_out := by
    obtain ⟨fd, F⟩ := c.def_ 9 (d := d_leaving_out) rfl
    exact ⟨_, fd, F, He.glo_ok X G (c.fact 9 (f := .glo "leaving_out") rfl)⟩
  have D_renamed : DefIn g "renamed" s_renamed := by
    obtain ⟨fd, F⟩ := c.def_ 10 (d := d_renamed) rfl
    exact ⟨_, fd, F, He.glo_ok X G (c.fact 10 (f := .glo "renamed") rfl)⟩
  have D_is_list : DefIn g "is_list" s_is_list := by
    obtain ⟨fd, F⟩ := c.def_ 11 (d := d_is_list) rfl
    exact ⟨_, fd, F, He.glo_ok X G (c.fact 11 (f := .glo "is_list") rfl)⟩
  have D_list_first : DefIn g "list_first" s_list_first := by
    obtain ⟨fd, F⟩ := c.def_ 12 (d := d_list_first) rfl
    exact ⟨_, fd, F, He.glo_ok X G (c.fact 12 (f := .glo "list_first") rfl)⟩
  have D_firsts : DefIn g "firsts" s_firsts := by
    obtain ⟨fd, F⟩ := c.def_ 13 (d := d_firsts) rfl
    exact ⟨_, fd, F, He.glo_ok X G (c.fact 13 (f := .glo "firsts") rfl)⟩
  have D_by_lists : DefIn g "by_lists" s_by_lists := by
    obtain ⟨fd, F⟩ := c.def_ 14 (d := d_by_lists) rfl
    exact ⟨_, fd, F, He.glo_ok X G (c.fact 14 (f := .glo "by_lists") rfl)⟩
  have D_trade_lives_fit : DefIn g "trade_lives_fit" s_trade_lives_fit := by
    obtain ⟨fd, F⟩ := c.def_ 15 (d := d_trade_lives_fit) rfl
    exact ⟨_, fd, F, He.glo_ok X G (c.fact 15 (f := .glo "trade_lives_fit") rfl)⟩
  have D_is_dated_of : DefIn g "is_dated_of" s_is_dated_of := by
    obtain ⟨fd, F⟩ := c.def_ 16 (d := d_is_dated_of) rfl
    exact ⟨_, fd, F, He.glo_ok X G (c.fact 16 (f := .glo "is_dated_of") rfl)⟩
  have D_put_together : DefIn g "put_together" s_put_together := by
    obtain ⟨fd, F⟩ := c.def_ 17 (d := d_put_together) rfl
    exact ⟨_, fd, F, He.glo_ok X G (c.fact 17 (f := .glo "put_together") rfl)⟩
  have D_behind : DefIn g "behind" s_behind := by
    obtain ⟨fd, F⟩ := c.def_ 18 (d := d_behind) rfl
    exact ⟨_, fd, F, He.glo_ok X G (c.fact 18 (f := .glo "behind") rfl)⟩
  have D_skyline_of : DefIn g "skyline_of" s_skyline_of := by
    obtain ⟨fd, F⟩ := c.def_ 19 (d := d_skyline_of) rfl
    exact ⟨_, fd, F, He.glo_ok X G (c.fact 19 (f := .glo "skyline_of") rfl)⟩
  have D_skyline_check : DefIn g "skyline_check" s_skyline_check := by
    obtain ⟨fd, F⟩ := c.def_ 20 (d := d_skyline_check) rfl
    exact ⟨_, fd, F, He.glo_ok X G (c.fact 20 (f := .glo "skyline_check") rfl)⟩
  have D_skyline : DefIn g "skyline" s_skyline := by
    obtain ⟨fd, F⟩ := c.def_ 21 (d := d_skyline) rfl
    exact ⟨_, fd, F, He.glo_ok X G (c.fact 21 (f := .glo "skyline") rfl)⟩
  have D_is_calendar : DefIn g "is_calendar" s_is_calendar := by
    obtain ⟨fd, F⟩ := c.def_ 22 (d := d_is_calendar) rfl
    exact ⟨_, fd, F, He.glo_ok X G (c.fact 22 (f := .glo "is_calendar") rfl)⟩
  have D_shelf_are_worths : DefIn g "shelf_are_worths" s_shelf_are_worths := by
    obtain ⟨fd, F⟩ := c.def_ 23 (d := d_shelf_are_worths) rfl
    exact ⟨_, fd, F, He.glo_ok X G (c.fact 23 (f := .glo "shelf_are_worths") rfl)⟩
  have D_shelf_check : DefIn g "shelf_check" s_shelf_check := by
    obtain ⟨fd, F⟩ := c.def_ 24 (d := d_shelf_check) rfl
    exact ⟨_, fd, F, He.glo_ok X G (c.fact 24 (f := .glo "shelf_check") rfl)⟩
  have D_shelf_check_worths : DefIn g "shelf_check_worths" s_shelf_check_worths := by
    obtain ⟨fd, F⟩ := c.def_ 25 (d := d_shelf_check_worths) rfl
    exact ⟨_, fd, F, He.glo_ok X G (c.fact 25 (f := .glo "shelf_check_worths") rfl)⟩
  have D_shelf_deeds : DefIn g "shelf_deeds" s_shelf_deeds := by
    obtain ⟨fd, F⟩ := c.def_ 26 (d := d_shelf_deeds) rfl
    exact ⟨_, fd, F, He.glo_ok X G (c.fact 26 (f := .glo "shelf_deeds") rfl)⟩
  have D_shelf_after : DefIn g "shelf_after" s_shelf_after := by
    obtain ⟨fd, F⟩ := c.def_ 27 (d := d_shelf_after) rfl
    exact ⟨_, fd, F, He.glo_ok X G (c.fact 27 (f := .glo "shelf_after") rfl)⟩
  have D_shelf_streams : DefIn g "shelf_streams" s_shelf_streams := by
    obtain ⟨fd, F⟩ := c.def_ 28 (d := d_shelf_streams) rfl
    exact ⟨_, fd, F, He.glo_ok X G (c.fact 28 (f := .glo "shelf_streams") rfl)⟩
  have D_shelf_worth : DefIn g "shelf_worth" s_shelf_worth := by
    obtain ⟨fd, F⟩ := c.def_ 29 (d := d_shelf_worth) rfl
    exact ⟨_, fd, F, He.glo_ok X G (c.fact 29 (f := .glo "shelf_worth") rfl)⟩
  have D_shelf_first : DefIn g "shelf_first" s_shelf_first := by
    obtain ⟨fd, F⟩ := c.def_ 30 (d := d_shelf_first) rfl
    exact ⟨_, fd, F, He.glo_ok X G (c.fact 30 (f := .glo "shelf_first") rfl)⟩
  have D_spots : DefKw g "spots" s_spots := by
    obtain ⟨fd, F⟩ := c.def_ 31 (d := d_spots) rfl
    exact ⟨_, fd, F, He.glo_ok X G (c.fact 31 (f := .glo "spots") rfl)⟩
  have D_shelf : DefKw g "shelf" s_shelf := by
    obtain ⟨fd, F⟩ := c.def_ 32 (d := d_shelf) rfl
    exact ⟨_, fd, F, He.glo_ok X G (c.fact 32 (f := .glo "shelf") rfl)⟩
  have D_first_greatest : DefKw g "first_greatest" s_first_greatest := by
    obtain ⟨fd, F⟩ := c.def_ 33 (d := d_first_greatest) rfl
    exact ⟨_, fd, F, He.glo_ok X G (c.fact 33 (f := .glo "first_greatest") rfl)⟩
  have D_law_deck : DefIn g "_law_deck" s_law_deck := by
    obtain ⟨fd, F⟩ := c.def_ 34 (d := d_law_deck) rfl
    exact ⟨_, fd, F, He.glo_ok X G (c.fact 34 (f := .glo "_law_deck") rfl)⟩
  have D_law_draw : DefIn g "_law_draw" s_law_draw := by
    obtain ⟨fd, F⟩ := c.def_ 35 (d := d_law_draw) rfl
    exact ⟨_, fd, F, He.glo_ok X G (c.fact 35 (f := .glo "_law_draw") rfl)⟩
  have D_law_pick : DefIn g "_law_pick" s_law_pick := by
    obtain ⟨fd, F⟩ := c.def_ 36 (d := d_law_pick) rfl
    exact ⟨_, fd, F, He.glo_ok X G (c.fact 36 (f := .glo "_law_pick") rfl)⟩
  have D_law_lists : DefIn g "_law_lists" s_law_lists := by
    obtain ⟨fd, F⟩ := c.def_ 37 (d := d_law_lists) rfl
    exact ⟨_, fd, F, He.glo_ok X G (c.fact 37 (f := .glo "_law_lists") rfl)⟩
  have D_law_dated : DefIn g "_law_dated" s_law_dated := by
    obtain ⟨fd, F⟩ := c.def_ 38 (d := d_law_dated) rfl
    exact ⟨_, fd, F, He.glo_ok X G (c.fact 38 (f := .glo "_law_dated") rfl)⟩
  have D_law_turned : DefIn g "_law_turned" s_law_turned := by
    obtain ⟨fd, F⟩ := c.def_ 39 (d := d_law_turned) rfl
    exact ⟨_, fd, F, He.glo_ok X G (c.fact 39 (f := .glo "_law_turned") rfl)⟩
  have D_law_names_right : DefIn g "_law_names_right" s_law_names_right := by
    obtain ⟨fd, F⟩ := c.def_ 40 (d := d_law_names_right) rfl
    exact ⟨_, fd, F, He.glo_ok X G (c.fact 40 (f := .glo "_law_names_right") rfl)⟩
  have D_law_either_right : DefIn g "_law_either_right" s_law_either_right := by
    obtain ⟨fd, F⟩ := c.def_ 41 (d := d_law_either_right) rfl
    exact ⟨_, fd, F, He.glo_ok X G (c.fact 41 (f := .glo "_law_either_right") rfl)⟩
  have D_law_without_right : DefIn g "_law_without_right" s_law_without_right := by
    obtain ⟨fd, F⟩ := c.def_ 42 (d := d_law_without_right) rfl
    exact ⟨_, fd, F, He.glo_ok X G (c.fact 42 (f := .glo "_law_without_right") rfl)⟩
  have D_initC : MakeIn g "Chooser" "Chooser.__init__" g.C s_Chooser_init := by
    obtain ⟨fd, F⟩ := c.def_ 44 (d := d_Chooser_init) rfl
    exact ⟨_, fd, F, He.cls_ok (c.fact 46 (f := .cls "Chooser") rfl), He.mkr_ok (c.fact 57 (f := .mkr "Chooser") rfl), He.glo_ok X G (c.fact 44 (f := .glo "Chooser") rfl)⟩
  have D_lenC : MethIn g g.C "__len__" "Chooser.__len__" s_Chooser_len := by
    obtain ⟨fd, F⟩ := c.def_ 45 (d := d_Chooser_len) rfl
    exact ⟨_, fd, F, He.cls_ok (c.fact 46 (f := .cls "Chooser") rfl), He.meth_ok (c.fact 54 (f := .meth "Chooser" "__len__") rfl)⟩
  have D_taken : MethIn g g.C "taken" "Chooser.taken" s_Chooser_taken := by
    obtain ⟨fd, F⟩ := c.def_ 46 (d := d_Chooser_taken) rfl
    exact ⟨_, fd, F, He.cls_ok (c.fact 46 (f := .cls "Chooser") rfl), He.meth_ok (c.fact 55 (f := .meth "Chooser" "taken") rfl)⟩
  have D_initT : MakeIn g "Trade" "Trade.__init__" g.T s_Trade_init := by
    obtain ⟨fd, F⟩ := c.def_ 47 (d := d_Trade_init) rfl
    exact ⟨_, fd, F, He.cls_ok (c.fact 47 (f := .cls "Trade") rfl), He.mkr_ok (c.fact 58 (f := .mkr "Trade") rfl), He.glo_ok X G (c.fact 45 (f := .glo "Trade") rfl)⟩
  have D_lenT : MethIn g g.T "__len__" "Trade.__len__" s_Trade_len := by
    obtain ⟨fd, F⟩ := c.def_ 48 (d := d_Trade_len) rfl
    exact ⟨_, fd, F, He.cls_ok (c.fact 47 (f := .cls "Trade") rfl), He.meth_ok (c.fact 56 (f := .meth "Trade" "__len__") rfl)⟩
  have i6 : ∃ t, g.mg "CHOOSER_MOST" = some (.int 6 t) := He.int_ok X G (c.fact 59 (f := .int "CHOOSER_MOST" 6) rfl)
  have i9 : ∃ t, g.mg "TRADE_MOST_OFFERS" = some (.int 9 t) := He.int_ok X G (c.fact 60 (f := .int "TRADE_MOST_OFFERS" 9) rfl)
  have i99 : ∃ t, g.mg "TRADE_MOST_LIFE" = some (.int 99 t) := He.int_ok X G (c.fact 61 (f := .int "TRADE_MOST_LIFE" 99) rfl)
  have w_whole := ok_is_whole T D_is_whole
  have w_set := ok_is_set T D_is_set w_whole
  have w_part := ok_part T D_chooser_is_part
  have w_first1 := ok_first1 T D_list_first
  have w_rest := ok_made_rest T D_made_rest
  have w_lenC : LenC g := ok_lenC T D_lenC
  have w_lenT : LenT g := ok_lenT T D_lenT
  have w_tog := ok_together T D_together
  have w_firsts := ok_firsts T D_firsts w_first1
  have w_same := ok_same T D_same_offers w_lenC w_lenT
  have w_sets := ok_all_sets T D_all_sets
  have w_mkC := ok_initC T D_initC i6 w_whole w_sets w_set w_part
  have w_islist := ok_is_list T D_is_list w_whole
  have w_byl := ok_by_lists T D_by_lists w_islist w_sets w_firsts w_mkC
  have w_either := ok_either T D_either_of w_same w_lenC w_lenT w_sets w_tog w_mkC
  have w_leave := ok_leave T D_leaving_out w_set w_lenC w_lenT w_sets w_rest w_mkC
  have w_turn := ok_turn2 T D_in_turn w_same w_lenC w_lenT w_sets w_tog w_rest w_mkC
  have w_ren := ok_ren T D_renamed w_lenC w_lenT w_sets w_mkC
  have w_taken := ok_taken T D_taken w_set
  have w_fit := ok_fit T D_trade_lives_fit i9 i99 w_whole
  have w_mkT := ok_initT T D_initT w_fit w_set
  have w_dated := ok_dated T D_is_dated_of w_whole
  have w_puts := ok_puts T D_put_together
  have w_beh := ok_beh T D_behind
  have w_sky := ok_sky T D_skyline_of
  have w_skyc := ok_skyc T D_skyline_check w_same w_dated
  have w_skyl := ok_skyl T D_skyline w_skyc w_sky
  have w_cal := ok_cal T D_is_calendar w_set
  have w_areW := ok_areW T D_shelf_are_worths w_whole
  have w_chk := ok_chk T D_shelf_check w_same w_cal
  have w_chkw := ok_chkw T D_shelf_check_worths w_chk w_areW
  have w_deeds := ok_deeds T D_shelf_deeds
  have w_aft := ok_aft T D_shelf_after w_beh w_sky
  have w_streams := ok_streams T D_shelf_streams w_deeds w_aft
  have w_worth := ok_worth T D_shelf_worth
  have w_sfirst := ok_first T D_shelf_first w_worth
  have w_spots := ok_spots T D_spots w_chk w_streams
  have w_shelf := ok_shelf T D_shelf w_chkw w_streams w_worth
  have w_fg := ok_fg T D_first_greatest w_chkw w_streams w_worth w_sfirst
  have w_deck := ok_deck T D_law_deck
  have w_draw := ok_draw T D_law_draw
  have w_pick := ok_pick T D_law_pick w_draw
  have w_lists := ok_lists T D_law_lists w_draw w_pick
  have w_ddated := ok_ddated T D_law_dated w_draw
  have w_turned := ok_turned T D_law_turned
  have L : Lib g := ⟨w_draw, w_pick, w_lists, w_ddated, w_turned, w_ren, w_mkT, w_lenC, w_lenT, w_skyl, w_shelf, w_spots, w_fg, w_either, w_turn, w_leave, w_byl, w_puts, w_taken, w_sets⟩
  exact ok_law (g := g) T F L w_deck (ok_names T D_law_names_right L) (ok_er T D_law_either_right L) (ok_wr T D_law_without_right L)
end K85
open PySem PySem.W PySem.Calls PyProof.Rows
theorem PySem.Challenge.cw_offerstands_k85_whole_made_choosers_and_holds : PySem.Challenge.rw_offerstands_k85_whole_made_choosers_and.Holds := by
  w_on; o_law
  refine HandSHeadRun.head_any (r := OpenLaw.row PySem.Challenge.rw_offerstands_k85_whole_made_choosers_and) (q := view (OpenLaw.row PySem.Challenge.rw_offerstands_k85_whole_made_choosers_and).prog [75]) (H := K85.hk) (ob := K85.ob) (M := 6000) (loose := K85.loose) (d := HandSHeadRun.topDef (OpenLaw.row PySem.Challenge.rw_offerstands_k85_whole_made_choosers_and).prog 75) (kwd := []) K85.ob_eq
    (by kernel_rfl) (fun s => by kernel_rfl) K85.run (by kernel_rfl) (by kernel_rfl) (by kernel_rfl) (by rfl) (by first | assumption | decide +kernel) (by decide +kernel) ⟨rfl, rfl, rfl, rfl, rfl, by decide +kernel⟩ ?hw ?hc
  case hw => w_witness2
  case hc =>
    refine L2.walk_ofE (l := PySem.Challenge.rw_offerstands_k85_whole_made_choosers_and) (n := 63) (k := 8) (x := "_law_script") (CX := L2.CX0) rfl (by decide) (by kernel_rfl) ⟨rfl, by decide, by decide⟩ ?F (fun _ _ _ _ z => z)
    intro w mg fa h Y G hmg0
    obtain ⟨K, KX, c⟩ := Y
    have hmg : mg ("law" : PySem.Str) = some (.ref fa) := by
      have e : (HandSHeadRun.topDef (OpenLaw.row PySem.Challenge.rw_offerstands_k85_whole_made_choosers_and).prog 75).name = ("law" : PySem.Str) := by kernel_rfl
      rw [← e]
      exact hmg0
    obtain ⟨fd, hb, hF⟩ := K85.facts (P := (PySem.Challenge.rw_offerstands_k85_whole_made_choosers_and).prog) (w := w) KX G hmg c
    exact ⟨K, fd, K85.spLawK K, KX, hb, fun H a ns hl _ hS => ⟨a, ns, rfl, hS, hl, fun _ => rfl⟩, hF⟩
