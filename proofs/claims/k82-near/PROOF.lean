import PyProof.Rows.All
import Wide.All
import OpenK.AllK
import Wide.FinOn
import KE.KOpsOwn
import KE.KSuper
import KE.KOwnIter
import HandS.ForMost
import HandS.ForExc
import HandS.More
import HandS.Defaults
import HandS.Gcd
import HandS.Wide
import HandS.WideBits
import HandS.Property
import HandS.MakeKwOnly
import HandS.ClsMeth
import HandS.IsInst
import HandS.ExcIs
import HandS.OwnIter
import HandS.IterNext
import HandS.IterVal
import HandS.Conv
import HandS.Star
import HandS.SlotsOwn
import HandS.ExcField
import HandS.Head3
import HandS.HeadEnd
import HandS.HeadHook2
import HandS.Evl
import HandS.Walk
import PySem.Challenge.RW_whosefork_k82_whole_purses_near
set_option Elab.async false
set_option linter.all false
set_option maxRecDepth 100000
set_option maxHeartbeats 0

namespace Wf
open PySem PySem.Spec PyProof.Rows L2
/-! ### the text -/
def top (i : Nat) : Stmt := PySem.Challenge.pw_whosefork_k82_whole_purses_near.main.body.getD i (.Pass ⟨0, 0, 0, 0⟩)
/-! ### a def as a datum: where it stands, what it is -/
structure Df where
  ad : Addr
  name : Str
  qual : Str
  params : Arguments
  body : List Stmt
  scope : Scope
  clo : List (Str × Addr)
  dfl : List V
  kwd : List (Str × V)
abbrev DfV : Type := Option (Str × Str × Arguments × FuncBody × Scope × Addr × List (Str × Addr) × Addr)
def Df.obs (K : PySem.W.Frag) (d : Df) : DfV := match K.lookup d.ad with
  | some ⟨_, _, .func fd, _⟩ => some (fd.name, fd.qualname, fd.params, fd.body, fd.scope, fd.globals, fd.closure, fd.builtins)
  | _ => none
def Df.val (d : Df) : DfV := some (d.name, d.qual, d.params, .stmts d.body, d.scope, mainGlobals, d.clo, builtinsNs)
def Df.ok (K : PySem.W.Frag) (d : Df) : Bool := PySem.W.keepIn K (.ref d.ad) && match K.lookup d.ad with
  | some ⟨_, _, .func fd, _⟩ => PySem.W.codeIn K fd.code d.qual && (He.dflB K fd.defaults d.dfl && He.kwdB K fd.kwdefaults d.kwd)
  | _ => false
theorem Df.look {K : PySem.W.Frag} {d : Df} (e : d.obs K = d.val) (c : d.ok K = true) : ∃ oc od dV kV doc pm an cdv ct osl, K.lookup d.ad = some ⟨oc, od, .func (PySem.W.fnX d.name d.qual d.params d.body d.scope d.clo dV kV doc pm an cdv ct), osl⟩ ∧
    PySem.W.codeIn K cdv d.qual = true ∧ DflV K dV d.dfl ∧ KwdV K kV d.kwd ∧ PySem.W.keepIn K (.ref d.ad) = true := by
  obtain ⟨kp, c⟩ := He.ba c
  unfold Df.obs Df.val at e
  split at e
  · rename_i oc od fd osl q
    rw [q] at c
    obtain ⟨k1, k2⟩ := He.ba c
    obtain ⟨k3, k4⟩ := He.ba k2
    cases fd
    simp only [Option.some.injEq, Prod.mk.injEq] at e
    obtain ⟨h1, h2, h3, h4, h5, h6, h7, h8⟩ := e
    subst h6 h8
    rw [q, ← h1, ← h2, ← h3, ← h5, ← h7]
    rw [← h2] at k1
    exact ⟨_, _, _, _, _, _, _, _, _, _, by rw [h4], k1, He.dflB_ok k3, He.kwdB_ok k4, kp⟩
  · cases e
theorem Df.fund {K : PySem.W.Frag} {d : Df} (e : d.obs K = d.val) (c : d.ok K = true) (h : d.clo = []) : ∃ fd, FunD K d.name d.qual d.params d.body d.scope d.dfl d.kwd d.ad fd := by
  obtain ⟨oc, od, dV, kV, doc, pm, an, cdv, ct, osl, lk, k1, k2, k3, kp⟩ := Df.look e c
  rw [h] at lk
  exact ⟨_, ⟨oc, od, dV, kV, doc, pm, an, cdv, ct, osl, rfl, lk, k1, k2, k3⟩, kp⟩
abbrev st_check_hands : Stmt := top 25
abbrev st_check_number : Stmt := top 26
abbrev st_check_length : Stmt := top 27
abbrev st_check_hand : Stmt := top 28
abbrev st_mask_of : Stmt := top 30
abbrev st_tuple_of : Stmt := top 31
abbrev st_has_hand : Stmt := top 32
abbrev st_with_hand : Stmt := top 33
abbrev st_rest_mask : Stmt := top 34
abbrev st_exact : Stmt := top 38
abbrev st_is_fraction : Stmt := top 39
abbrev st_top_and_bottom : Stmt := top 40
abbrev st_is_less : Stmt := top 41
abbrev st_taken : Stmt := top 42
abbrev st_check_stand : Stmt := top 49
abbrev st_check_side : Stmt := top 50
abbrev st_free_hands : Stmt := top 51
abbrev st_check_some_free : Stmt := top 52
abbrev st_check_free_hand : Stmt := top 53
abbrev st_deals_of : Stmt := top 57
abbrev st_least_share : Stmt := top 59
abbrev st_purse_lead : Stmt := top 60
abbrev st_told_bid : Stmt := top 61
abbrev st_deal_numbers : Stmt := top 62
abbrev st_many_below : Stmt := top 63
abbrev st_check_opposite : Stmt := top 66
abbrev st_check_rising : Stmt := top 67
abbrev st__law_digit : Stmt := top 73
abbrev st__law_same : Stmt := top 74
abbrev st__law_push : Stmt := top 75
abbrev st__law_pushed : Stmt := top 76
abbrev st__law_reduced : Stmt := top 77
abbrev st__law_deals : Stmt := top 78
abbrev st__law_below : Stmt := top 79
abbrev st__law_bid_due : Stmt := top 80
abbrev st__law_pair : Stmt := top 81
abbrev st__law_no_more : Stmt := top 82
abbrev st__law_sum : Stmt := top 83
abbrev st__law_value : Stmt := top 84
abbrev st__law_all_of : Stmt := top 85
abbrev st__law_any_bid : Stmt := top 86
abbrev st__law_state_right : Stmt := top 87
abbrev st__law_wished : Stmt := top 88
abbrev st__law_share : Stmt := top 89
abbrev st__law_told_right : Stmt := top 90
abbrev st__law_ended : Stmt := top 91
abbrev st__law_round_right : Stmt := top 92
abbrev st_law : Stmt := top 93
abbrev st_Ratio___init__ : Stmt := inClass (top 37) 1
abbrev st_Ratio___add__ : Stmt := inClass (top 37) 2
abbrev st_Ratio___sub__ : Stmt := inClass (top 37) 4
abbrev st_Ratio___rsub__ : Stmt := inClass (top 37) 5
abbrev st_Ratio___neg__ : Stmt := inClass (top 37) 8
abbrev st_Ratio_below : Stmt := inClass (top 37) 13
abbrev st_Undoable___init__ : Stmt := inClass (top 44) 0
abbrev st_Undoable_deeds : Stmt := inClass (top 44) 1
abbrev st_Undoable__deed : Stmt := inClass (top 44) 5
abbrev st_Auction___init__ : Stmt := inClass (top 55) 0
abbrev st_Auction_near : Stmt := inClass (top 55) 1
abbrev st_Auction_far : Stmt := inClass (top 55) 2
abbrev st_Auction_free : Stmt := inClass (top 55) 3
abbrev st_Auction_purse : Stmt := inClass (top 55) 4
abbrev st_Auction_result : Stmt := inClass (top 55) 5
abbrev st_Auction_bidding : Stmt := inClass (top 55) 6
abbrev st_Scale___init__ : Stmt := inClass (top 65) 1
abbrev st_Scale___getitem__ : Stmt := inClass (top 65) 4
abbrev st_Scale___iter__ : Stmt := inClass (top 65) 5
def d_check_hands : Df := ⟨348, "check_hands", "check_hands", defArgs st_check_hands, defBody st_check_hands, defScope st_check_hands, [], [], []⟩
def d_check_number : Df := ⟨355, "check_number", "check_number", defArgs st_check_number, defBody st_check_number, defScope st_check_number, [], [], []⟩
def d_check_length : Df := ⟨362, "check_length", "check_length", defArgs st_check_length, defBody st_check_length, defScope st_check_length, [], [], []⟩
def d_check_hand : Df := ⟨369, "check_hand", "check_hand", defArgs st_check_hand, defBody st_check_hand, defScope st_check_hand, [], [], []⟩
def d_mask_of : Df := ⟨383, "mask_of", "mask_of", defArgs st_mask_of, defBody st_mask_of, defScope st_mask_of, [], [], []⟩
def d_tuple_of : Df := ⟨388, "tuple_of", "tuple_of", defArgs st_tuple_of, defBody st_tuple_of, defScope st_tuple_of, [], [], []⟩
def d_has_hand : Df := ⟨395, "has_hand", "has_hand", defArgs st_has_hand, defBody st_has_hand, defScope st_has_hand, [], [], []⟩
def d_with_hand : Df := ⟨402, "with_hand", "with_hand", defArgs st_with_hand, defBody st_with_hand, defScope st_with_hand, [], [], []⟩
def d_rest_mask : Df := ⟨409, "rest_mask", "rest_mask", defArgs st_rest_mask, defBody st_rest_mask, defScope st_rest_mask, [], [], []⟩
def d_exact : Df := ⟨530, "exact", "exact", defArgs st_exact, defBody st_exact, defScope st_exact, [], [], []⟩
def d_is_fraction : Df := ⟨537, "is_fraction", "is_fraction", defArgs st_is_fraction, defBody st_is_fraction, defScope st_is_fraction, [], [], []⟩
def d_top_and_bottom : Df := ⟨544, "top_and_bottom", "top_and_bottom", defArgs st_top_and_bottom, defBody st_top_and_bottom, defScope st_top_and_bottom, [], [], []⟩
def d_is_less : Df := ⟨551, "is_less", "is_less", defArgs st_is_less, defBody st_is_less, defScope st_is_less, [], [], []⟩
def d_taken : Df := ⟨558, "taken", "taken", defArgs st_taken, defBody st_taken, defScope st_taken, [], [], []⟩
def d_check_stand : Df := ⟨622, "check_stand", "check_stand", defArgs st_check_stand, defBody st_check_stand, defScope st_check_stand, [], [], []⟩
def d_check_side : Df := ⟨629, "check_side", "check_side", defArgs st_check_side, defBody st_check_side, defScope st_check_side, [], [], []⟩
def d_free_hands : Df := ⟨636, "free_hands", "free_hands", defArgs st_free_hands, defBody st_free_hands, defScope st_free_hands, [], [], []⟩
def d_check_some_free : Df := ⟨643, "check_some_free", "check_some_free", defArgs st_check_some_free, defBody st_check_some_free, defScope st_check_some_free, [], [], []⟩
def d_check_free_hand : Df := ⟨650, "check_free_hand", "check_free_hand", defArgs st_check_free_hand, defBody st_check_free_hand, defScope st_check_free_hand, [], [], []⟩
def d_deals_of : Df := ⟨723, "deals_of", "deals_of", defArgs st_deals_of, defBody st_deals_of, defScope st_deals_of, [], [], []⟩
def d_least_share : Df := ⟨730, "least_share", "least_share", defArgs st_least_share, defBody st_least_share, defScope st_least_share, [], [], []⟩
def d_purse_lead : Df := ⟨735, "purse_lead", "purse_lead", defArgs st_purse_lead, defBody st_purse_lead, defScope st_purse_lead, [], [], []⟩
def d_told_bid : Df := ⟨740, "told_bid", "told_bid", defArgs st_told_bid, defBody st_told_bid, defScope st_told_bid, [], [], []⟩
def d_deal_numbers : Df := ⟨745, "deal_numbers", "deal_numbers", defArgs st_deal_numbers, defBody st_deal_numbers, defScope st_deal_numbers, [], [], []⟩
def d_many_below : Df := ⟨750, "many_below", "many_below", defArgs st_many_below, defBody st_many_below, defScope st_many_below, [], [], []⟩
def d_check_opposite : Df := ⟨858, "check_opposite", "check_opposite", defArgs st_check_opposite, defBody st_check_opposite, defScope st_check_opposite, [], [], []⟩
def d_check_rising : Df := ⟨865, "check_rising", "check_rising", defArgs st_check_rising, defBody st_check_rising, defScope st_check_rising, [], [], []⟩
def d__law_digit : Df := ⟨900, "_law_digit", "_law_digit", defArgs st__law_digit, defBody st__law_digit, defScope st__law_digit, [], [], []⟩
def d__law_same : Df := ⟨905, "_law_same", "_law_same", defArgs st__law_same, defBody st__law_same, defScope st__law_same, [], [], []⟩
def d__law_push : Df := ⟨912, "_law_push", "_law_push", defArgs st__law_push, defBody st__law_push, defScope st__law_push, [], [], []⟩
def d__law_pushed : Df := ⟨919, "_law_pushed", "_law_pushed", defArgs st__law_pushed, defBody st__law_pushed, defScope st__law_pushed, [], [], []⟩
def d__law_reduced : Df := ⟨926, "_law_reduced", "_law_reduced", defArgs st__law_reduced, defBody st__law_reduced, defScope st__law_reduced, [], [], []⟩
def d__law_deals : Df := ⟨931, "_law_deals", "_law_deals", defArgs st__law_deals, defBody st__law_deals, defScope st__law_deals, [], [], []⟩
def d__law_below : Df := ⟨936, "_law_below", "_law_below", defArgs st__law_below, defBody st__law_below, defScope st__law_below, [], [], []⟩
def d__law_bid_due : Df := ⟨941, "_law_bid_due", "_law_bid_due", defArgs st__law_bid_due, defBody st__law_bid_due, defScope st__law_bid_due, [], [], []⟩
def d__law_pair : Df := ⟨948, "_law_pair", "_law_pair", defArgs st__law_pair, defBody st__law_pair, defScope st__law_pair, [], [], []⟩
def d__law_no_more : Df := ⟨955, "_law_no_more", "_law_no_more", defArgs st__law_no_more, defBody st__law_no_more, defScope st__law_no_more, [], [], []⟩
def d__law_sum : Df := ⟨962, "_law_sum", "_law_sum", defArgs st__law_sum, defBody st__law_sum, defScope st__law_sum, [], [], []⟩
def d__law_value : Df := ⟨969, "_law_value", "_law_value", defArgs st__law_value, defBody st__law_value, defScope st__law_value, [], [], []⟩
def d__law_all_of : Df := ⟨976, "_law_all_of", "_law_all_of", defArgs st__law_all_of, defBody st__law_all_of, defScope st__law_all_of, [], [], []⟩
def d__law_any_bid : Df := ⟨983, "_law_any_bid", "_law_any_bid", defArgs st__law_any_bid, defBody st__law_any_bid, defScope st__law_any_bid, [], [], []⟩
def d__law_state_right : Df := ⟨988, "_law_state_right", "_law_state_right", defArgs st__law_state_right, defBody st__law_state_right, defScope st__law_state_right, [], [], []⟩
def d__law_wished : Df := ⟨995, "_law_wished", "_law_wished", defArgs st__law_wished, defBody st__law_wished, defScope st__law_wished, [], [], []⟩
def d__law_share : Df := ⟨1002, "_law_share", "_law_share", defArgs st__law_share, defBody st__law_share, defScope st__law_share, [], [], []⟩
def d__law_told_right : Df := ⟨1009, "_law_told_right", "_law_told_right", defArgs st__law_told_right, defBody st__law_told_right, defScope st__law_told_right, [], [], []⟩
def d__law_ended : Df := ⟨1016, "_law_ended", "_law_ended", defArgs st__law_ended, defBody st__law_ended, defScope st__law_ended, [], [], []⟩
def d__law_round_right : Df := ⟨1021, "_law_round_right", "_law_round_right", defArgs st__law_round_right, defBody st__law_round_right, defScope st__law_round_right, [], [], []⟩
def d_law : Df := ⟨1026, "law", "law", defArgs st_law, defBody st_law, defScope st_law, [], [], []⟩
def d_Ratio___init__ : Df := ⟨425, "__init__", "Ratio.__init__", defArgs st_Ratio___init__, defBody st_Ratio___init__, defScope st_Ratio___init__, [], [.int 1], [("_bounded", .bl true)]⟩
def d_Ratio___add__ : Df := ⟨432, "__add__", "Ratio.__add__", defArgs st_Ratio___add__, defBody st_Ratio___add__, defScope st_Ratio___add__, [], [], []⟩
def d_Ratio___sub__ : Df := ⟨446, "__sub__", "Ratio.__sub__", defArgs st_Ratio___sub__, defBody st_Ratio___sub__, defScope st_Ratio___sub__, [], [], []⟩
def d_Ratio___rsub__ : Df := ⟨453, "__rsub__", "Ratio.__rsub__", defArgs st_Ratio___rsub__, defBody st_Ratio___rsub__, defScope st_Ratio___rsub__, [], [], []⟩
def d_Ratio___neg__ : Df := ⟨474, "__neg__", "Ratio.__neg__", defArgs st_Ratio___neg__, defBody st_Ratio___neg__, defScope st_Ratio___neg__, [], [], []⟩
def d_Ratio_below : Df := ⟨509, "below", "Ratio.below", defArgs st_Ratio_below, defBody st_Ratio_below, defScope st_Ratio_below, [], [], []⟩
def d_Undoable___init__ : Df := ⟨572, "__init__", "Undoable.__init__", defArgs st_Undoable___init__, defBody st_Undoable___init__, defScope st_Undoable___init__, [], [], []⟩
def d_Undoable_deeds : Df := ⟨579, "deeds", "Undoable.deeds", defArgs st_Undoable_deeds, defBody st_Undoable_deeds, defScope st_Undoable_deeds, [], [], []⟩
def d_Undoable__deed : Df := ⟨608, "_deed", "Undoable._deed", defArgs st_Undoable__deed, defBody st_Undoable__deed, defScope st_Undoable__deed, [], [], []⟩
def d_Auction___init__ : Df := ⟨666, "__init__", "Auction.__init__", defArgs st_Auction___init__, defBody st_Auction___init__, defScope st_Auction___init__, [("__class__", 654)], [], []⟩
def d_Auction_near : Df := ⟨673, "near", "Auction.near", defArgs st_Auction_near, defBody st_Auction_near, defScope st_Auction_near, [], [], []⟩
def d_Auction_far : Df := ⟨681, "far", "Auction.far", defArgs st_Auction_far, defBody st_Auction_far, defScope st_Auction_far, [], [], []⟩
def d_Auction_free : Df := ⟨689, "free", "Auction.free", defArgs st_Auction_free, defBody st_Auction_free, defScope st_Auction_free, [], [], []⟩
def d_Auction_purse : Df := ⟨697, "purse", "Auction.purse", defArgs st_Auction_purse, defBody st_Auction_purse, defScope st_Auction_purse, [], [], []⟩
def d_Auction_result : Df := ⟨705, "result", "Auction.result", defArgs st_Auction_result, defBody st_Auction_result, defScope st_Auction_result, [], [], []⟩
def d_Auction_bidding : Df := ⟨713, "bidding", "Auction.bidding", defArgs st_Auction_bidding, defBody st_Auction_bidding, defScope st_Auction_bidding, [], [], []⟩
def d_Scale___init__ : Df := ⟨764, "__init__", "Scale.__init__", defArgs st_Scale___init__, defBody st_Scale___init__, defScope st_Scale___init__, [], [], []⟩
def d_Scale___getitem__ : Df := ⟨791, "__getitem__", "Scale.__getitem__", defArgs st_Scale___getitem__, defBody st_Scale___getitem__, defScope st_Scale___getitem__, [], [], []⟩
def d_Scale___iter__ : Df := ⟨798, "__iter__", "Scale.__iter__", defArgs st_Scale___iter__, defBody st_Scale___iter__, defScope st_Scale___iter__, [], [], []⟩
def fn : List Df := [d_check_hands, d_check_number, d_check_length, d_check_hand, d_mask_of, d_tuple_of, d_has_hand, d_with_hand, d_rest_mask, d_exact, d_is_fraction, d_top_and_bottom, d_is_less, d_taken, d_check_stand, d_check_side, d_free_hands, d_check_some_free, d_check_free_hand, d_deals_of, d_least_share, d_purse_lead, d_told_bid, d_deal_numbers, d_many_below, d_check_opposite, d_check_rising, d__law_digit, d__law_same, d__law_push, d__law_pushed, d__law_reduced, d__law_deals, d__law_below, d__law_bid_due, d__law_pair, d__law_no_more, d__law_sum, d__law_value, d__law_all_of, d__law_any_bid, d__law_state_right, d__law_wished, d__law_share, d__law_told_right, d__law_ended, d__law_round_right, d_law, d_Ratio___init__, d_Ratio___add__, d_Ratio___sub__, d_Ratio___rsub__, d_Ratio___neg__, d_Ratio_below, d_Undoable___init__, d_Undoable_deeds, d_Undoable__deed, d_Auction___init__, d_Auction_near, d_Auction_far, d_Auction_free, d_Auction_purse, d_Auction_result, d_Auction_bidding, d_Scale___init__, d_Scale___getitem__, d_Scale___iter__]
def as1 : List Addr := [3, 2, 519, 847, 611, 716, 339, 327, 59, 518, 846, 610, 715, 338, 326, 58, 348, 355, 362, 369, 383, 388, 395, 402, 409, 425, 432, 446, 453, 474, 509, 530, 537, 544, 551, 558, 572, 579, 608, 622, 629, 636, 643, 650, 666, 673, 681, 689, 697, 705, 713, 723, 730, 735, 740, 745, 750, 764, 791, 798]
def as2 : List Addr := [858, 865, 900, 905, 912, 919, 926, 931, 936, 941, 948, 955, 962, 969, 976, 983, 988, 995, 1002, 1009, 1016, 1021, 1026, 439, 347, 354, 361, 368, 382, 387, 394, 401, 408, 424, 431, 445, 452, 473, 508, 529, 536, 543, 550, 557, 571, 578, 607, 621, 628, 635, 642, 649, 665, 672, 680, 688, 696, 704, 712, 722]
def as3 : List Addr := [729, 734, 739, 744, 749, 763, 790, 797, 857, 864, 899, 904, 911, 918, 925, 930, 935, 940, 947, 954, 961, 968, 975, 982, 987, 994, 1001, 1008, 1015, 1020, 1025, 580, 674, 682, 690, 698, 706, 417, 418, 654]
def as : List Addr := as1 ++ (as2 ++ as3)
abbrev cR : Addr := 519
abbrev cS : Addr := 847
abbrev cU : Addr := 611
abbrev cA : Addr := 716
abbrev cE : Addr := 339
abbrev cN : Addr := 327
abbrev cW : Addr := 59
/-! ### facts of the written part -/
def eqV3 (a b : Option (Option Value)) : Bool := decide (a = b)
inductive Fq where
  | glo (x : Str) (a : Addr)
  | free (x : Str)
  | gint (x : Str) (i : Int)
  | gstr (x z : Str)
  | gblt (x : Str) (id : String)
  | find (C : Addr) (f : Str) (r : Option Value)
  | cls (C : Addr)
  | fn (f : Addr)
  | made (C : Addr)
  | prop (p g : Addr)
  | more (b : PySem.W.Frag → Bool)
def Fq.ok (K : PySem.W.Frag) : Fq → Bool
  | .glo x a => eqV3 (PySem.W.nsIn K mainGlobals x) (some (some (.ref a)))
  | .free x => eqV3 (PySem.W.nsIn K mainGlobals x) (some none)
  | .gint x i => (match PySem.W.nsIn K mainGlobals x with
    | some (some (.int j _)) => decide (j = i)
    | _ => false)
  | .gstr x z => (match PySem.W.nsIn K mainGlobals x with
    | some (some (.str y _)) => decide (y = z)
    | _ => false)
  | .gblt x id => eqV3 (PySem.W.nsIn K mainGlobals x) (some (some (.builtin id)))
  | .find C f r => eqV3 (PySem.W.findIn K (.ref C) f) (some r)
  | .cls C => PySem.W.plainGet K C Str.empty && (PySem.W.hasDictIn K C && PySem.W.plainOver K C)
  | .fn f => PySem.W.isFn K (.ref f) && (PySem.W.keepIn K (.ref f) && PySem.W.fnIn K f)
  | .made C => PySem.W.makesIn K C && PySem.W.keepIn K (.ref C)
  | .prop p g => eqV3 (PySem.W.specialIn K (.ref p) "__get__") (some (some (.builtin "property.__get__"))) && (decide (PySem.W.takesIn K (.ref p) = some true) && match PySem.W.recIn K p "property" with
    | some (v :: _) => decide (v = .ref g)
    | _ => false)
  | .more b => b K
/-- what is looked at besides -/
def isClassAttr (K : PySem.W.Frag) (C : Addr) : Bool := eqV3 (PySem.W.findIn K (.ref C) "__class__") (some (some (.builtin "object.__class__"))) && decide (PySem.W.mroIn K C (.type "object") = some true)
def fileIs (K : PySem.W.Frag) (c : Addr) : Bool := match K.lookup c with
  | some ⟨_, _, .fields vs, _⟩ => (match vs.toList[2]? with
    | some (Value.str file _) => decide (file = ("/claim/cut.py" : Str))
    | _ => false)
  | _ => false
def codeOf (K : PySem.W.Frag) (f c : Addr) : Bool := match K.lookup f with
  | some ⟨_, _, .func fd, _⟩ => decide (fd.code = .ref c)
  | _ => false
def cellIs (K : PySem.W.Frag) (c C : Addr) : Bool := match K.lookup c with
  | some ⟨_, _, .cell (some v), _⟩ => decide (v = .ref C)
  | _ => false
def fa : List Fq := [
  .glo "Ratio" cR, .glo "Scale" cS, .glo "Auction" cA, .glo "WhoseforkError" cW, .glo "Ended" cE, .glo "NoneFree" cN,
  .gint "MOST_HANDS" 7, .gint "MOST_NUMBER" 1000000000, .gint "MOST_PART" (10 ^ 60), .gint "MOST_HIRED" 6, .gstr "NEAR" "near", .gstr "FAR" "far", .gblt "gcd" "math.gcd",
  .free "len", .free "abs", .free "sum", .free "max", .free "min", .free "all", .free "sorted", .free "isinstance", .free "iter", .free "int", .free "list", .free "tuple", .free "range", .free "bool", .free "str", .free "super",
  .cls cR, .cls cS, .cls cA, .find cR "__setattr__" (some (.builtin "object.__setattr__")), .find cS "__setattr__" (some (.builtin "object.__setattr__")), .find cA "__setattr__" (some (.builtin "object.__setattr__")),
  .find cR "top" none, .find cR "bottom" none, .find cS "hands" none, .find cS "_numbers" none, .find cA "_state" none, .find cA "_past" none, .find cA "_future" none, .find cA "_scale" none,
  .find cR "below" (some (.ref 509)), .find cA "_deed" (some (.ref 608)), .find cA "bidding" (some (.ref 713)),
  .find cA "near" (some (.ref 674)), .find cA "far" (some (.ref 682)), .find cA "free" (some (.ref 690)), .find cA "purse" (some (.ref 698)), .find cA "result" (some (.ref 706)), .find cA "deeds" (some (.ref 580)),
  .prop 674 673, .prop 682 681, .prop 690 689, .prop 698 697, .prop 706 705, .prop 580 579,
  .made cR, .made cS, .made cA, .find cR "__init__" (some (.ref 425)), .find cS "__init__" (some (.ref 764)), .find cA "__init__" (some (.ref 666)),
  .find cR "__add__" (some (.ref 432)), .find cR "__radd__" (some (.ref 439)), .find cR "__sub__" (some (.ref 446)), .find cR "__rsub__" (some (.ref 453)), .find cR "__neg__" (some (.ref 474)),
  .find cS "__getitem__" (some (.ref 791)), .find cS "__iter__" (some (.ref 798)), .find cS "__len__" none, .find cS "__length_hint__" none,
  .fn 509, .fn 608, .fn 713, .fn 425, .fn 764, .fn 666, .fn 432, .fn 446, .fn 453, .fn 474, .fn 791, .fn 798, .fn 572,
  .more fun K => PySem.W.selfFirst K cR,
  .more fun K => (PySem.W.findIn K (.type "int") "__add__").isSome && (PySem.W.findIn K (.type "int") "__radd__").isSome,
  .more fun K => decide (PySem.W.subIn K (.type "int") (.ref cR) = some false) && decide (PySem.W.subIn K (.ref cR) (.type "int") = some false),
  .more fun K => PySem.W.readsIn K cR (.type "type") && PySem.W.readsIn K cS (.type "type"),
  .more fun K => eqV3 (PySem.W.specialIn K (.ref cR) "__getattribute__") (some (some (.builtin "type.__getattribute__"))) && eqV3 (PySem.W.specialIn K (.ref cS) "__getattribute__") (some (some (.builtin "type.__getattribute__"))),
  .more fun K => (match PySem.W.findCls K (.ref cR) (.type "type") "BOTTOM" with | some (.val (.int i _)) => decide (i = 1000000) | _ => false),
  .more fun K => (match PySem.W.findCls K (.ref cS) (.type "type") "MOST" with | some (.val (.int i _)) => decide (i = 1000000000) | _ => false),
  .more fun K => isClassAttr K cR && isClassAttr K cE,
  .more fun K => eqV3 (PySem.W.specialIn K (.builtin "object.__class__") "__get__") (some (some (.builtin "getset_descriptor.__get__"))) && decide (PySem.W.takesIn K (.builtin "object.__class__") = some true),
  .more fun K => decide (PySem.W.kitOne K (.ref cR) (.ref cR) = some true) && decide (PySem.W.kitOne K (.type "int") (.ref cR) = some false),
  .more fun K => PySem.W.excIn K cE [.type "ValueError", .type "Exception", .type "BaseException", .type "object"] "ValueError.__new__" && PySem.W.keepIn K (.ref cE),
  .more fun K => decide (PySem.W.subIn K (.ref cE) (.type "BaseException") = some true) && decide (PySem.W.typeIn K (.ref cE) = some (.type "type")),
  .more fun K => decide (PySem.W.exmOne K (.ref cE) (.ref cW) = some true),
  .find cE "__getattribute__" (some (.builtin "BaseException.__getattribute__")), .find cE "__getattr__" none,
  .more fun K => PySem.W.hasDictIn K cE,
  .more fun K => decide (PySem.W.kitOne K (.ref cE) (.ref cE) = some true) && decide (PySem.W.kitOne K (.ref cE) (.ref cN) = some false),
  .more fun K => fileIs K 665 && codeOf K 666 665,
  .more fun K => cellIs K 654 cA,
  .more fun K => (PySem.W.clsIn K cA).isSome && decide (PySem.W.mroIn K cA (.ref cA) = some true),
  .more fun K => eqV3 (PySem.W.nsIn K cStatics "thirdparty.any") (some none) && eqV3 (PySem.W.ks_superIn K cA cA "__init__") (some (some (.ref 572))),
  .more fun K => decide (PySem.W.typeIn K (.ref 572) = some (.type "function"))]
def fb : List Fq := [
  .glo "check_hands" 348,
  .glo "check_number" 355,
  .glo "check_length" 362,
  .glo "check_hand" 369,
  .glo "mask_of" 383,
  .glo "tuple_of" 388,
  .glo "has_hand" 395,
  .glo "with_hand" 402,
  .glo "rest_mask" 409,
  .glo "exact" 530,
  .glo "is_fraction" 537,
  .glo "top_and_bottom" 544,
  .glo "is_less" 551,
  .glo "taken" 558,
  .glo "check_stand" 622,
  .glo "check_side" 629,
  .glo "free_hands" 636,
  .glo "check_some_free" 643,
  .glo "check_free_hand" 650,
  .glo "deals_of" 723,
  .glo "least_share" 730,
  .glo "purse_lead" 735,
  .glo "told_bid" 740,
  .glo "deal_numbers" 745,
  .glo "many_below" 750,
  .glo "check_opposite" 858,
  .glo "check_rising" 865,
  .glo "_law_digit" 900,
  .glo "_law_same" 905,
  .glo "_law_push" 912,
  .glo "_law_pushed" 919,
  .glo "_law_reduced" 926,
  .glo "_law_deals" 931,
  .glo "_law_below" 936,
  .glo "_law_bid_due" 941,
  .glo "_law_pair" 948,
  .glo "_law_no_more" 955,
  .glo "_law_sum" 962,
  .glo "_law_value" 969,
  .glo "_law_all_of" 976,
  .glo "_law_any_bid" 983,
  .glo "_law_state_right" 988,
  .glo "_law_wished" 995,
  .glo "_law_share" 1002,
  .glo "_law_told_right" 1009,
  .glo "_law_ended" 1016,
  .glo "_law_round_right" 1021,
  .glo "law" 1026]
end Wf

namespace Wf
open PySem PySem.Spec PyProof.Rows L2
/-! ### the head -/
abbrev AlW : Type := Bool × List DfV
def obsW (K : PySem.W.Frag) : AlW := ((fa.all fun f => f.ok K) && ((fb.all fun f => f.ok K) && fn.all fun d => d.ok K), fn.map fun d => d.obs K)
def valW : AlW := (true, fn.map Df.val)
def SaysW (K : PySem.W.Frag) : Prop := obsW K = valW
def hookW : PySem.W.Hook where
  α := AlW
  obs := fun s => obsW (He.frG s.heap.get? as)
  val := fun _ => valW
  says := fun _ h => ∃ K : PySem.W.Frag, K.In h ∧ SaysW K
  of := fun _ _ e => ⟨_, He.frG_in, e⟩
  keeps := fun _ _ _ ⟨K, hK, c⟩ k => ⟨K, PySem.W.Frag.In.keeps hK k, c⟩
abbrev RW : PySem.W.OpenRow := PySem.W.OpenLaw.row PySem.Challenge.rw_whosefork_k82_whole_purses_near
def obT (s : PySem.W.SharedT) : AlW := obsW (He.frG (HandSHeadRun.getT s) as)
theorem obT_eq (s : PySem.W.SharedT) : obT s = hookW.obs s.abs := by
  have e : HandSHeadRun.getT s = s.abs.heap.get? := funext (HandSHeadRun.getT_eq s)
  unfold obT
  rw [e]
  rfl
def names1 : List PySem.Str := ["_wall", "WhoseforkError", "HandError", "UnknownHand", "RepeatedHand", "TakenHand", "LotError", "NotOpposite", "NotRising", "Clash", "BadHands", "BadLength", "BadNumber", "BadSide", "BadFraction", "ZeroBottom", "HandsDiffer", "TooGreat", "NoneFree", "Ended", "MOST_HANDS", "MOST_NUMBER", "check_hands", "check_number", "check_length", "check_hand", "check_same_hands", "mask_of", "tuple_of", "has_hand"]
def names2 : List PySem.Str := ["with_hand", "rest_mask", "MOST_PART", "Ratio", "exact", "is_fraction", "top_and_bottom", "is_less", "taken", "Undoable", "MOST_HIRED", "NEAR", "FAR", "check_stand", "check_side", "free_hands", "check_some_free", "check_free_hand", "Auction", "deals_of", "least_share", "purse_lead", "told_bid", "deal_numbers", "many_below", "Scale", "check_opposite", "check_rising", "check_no_clash", "nearer"]
def names3 : List PySem.Str := ["farther", "scale_result", "_law_digit", "_law_same", "_law_push", "_law_pushed", "_law_reduced", "_law_deals", "_law_below", "_law_bid_due", "_law_pair", "_law_no_more", "_law_sum", "_law_value", "_law_all_of", "_law_any_bid", "_law_state_right", "_law_wished", "_law_share", "_law_told_right", "_law_ended", "_law_round_right"]
def names : List PySem.Str := names1 ++ (names2 ++ names3)
theorem run (w : World) : HandSHeadRun.RunEqI RW (PySem.W.view RW.prog [0, 93]) hookW obT 12000 names w := by
  show _ = _
  kernel_rfl
end Wf

namespace Wf
open PySem PySem.Spec PyProof.Rows L2

/-! ### a def by its promise -/
structure Cal (P : Program) (w : World) (K : PySem.W.Frag) (mg : Str → Option Value) (base : Heap) (CX : CXT) (k : Nat) (x : Str) (sp : Sp) : Prop where
  go : ∃ f fd ps, FnOk P w K mg base CX k f fd ps sp ∧ mg x = some (.ref f) ∧ PySem.W.keepIn K (.ref f) = true ∧ Binds K fd ps []
structure MCal (P : Program) (w : World) (K : PySem.W.Frag) (mg : Str → Option Value) (base : Heap) (CX : CXT) (k : Nat) (C : Addr) (m : Str) (sp : Sp) : Prop where
  go : ∃ f fd ps, FnOk P w K mg base CX k f fd ps sp ∧ Cls K C ∧ Meth K C m f ∧ Binds K fd ps []
structure PCal (P : Program) (w : World) (K : PySem.W.Frag) (mg : Str → Option Value) (base : Heap) (CX : CXT) (k : Nat) (C : Addr) (m : Str) (sp : Sp) : Prop where
  go : ∃ f p fd ps, FnOk P w K mg base CX k f fd ps sp ∧ Cls K C ∧ PropOf K C m p f ∧ Binds K fd ps []
theorem fnR_of {P : Program} {w : World} {K : PySem.W.Frag} {mg : Str → Option Value} {base : Heap} {CX : CXT} {k : Nat} {f : Addr} {fd : FuncData} {ps : List Str} {sp : Sp} (F : FnOk P w K mg base CX k f fd ps sp)
    (hb : Binds K fd ps []) : FnR P w K mg base CX k f sp := (F.raw hb (dvs := []) .nil).imp fun vs H Q E h => by rw [List.append_nil]; exact h
section
variable {X : Cx} {CX : CXT} {k : Nat} {C : Addr} {sp : Sp} {E : XK} {x m f : Str} {p pos apos : Pos} {e o : Expr} {es : List Expr} {ta : TE} {t : TA}
theorem pe_calX (c : Cal X.prog X.w X.K X.mg X.base CX k x sp) (hx : Passes CX X E) (hr : Room k X.A) (ha : PA X (e :: es) t) (hg : Gl X x := by rfl) (hdb : (x == ("__debug__" : Str)) = false := by decide)
    (he : starEach (e :: es) X.env = (false, eval e X.env) :: starEach es X.env := by rfl) (hpl : (backTo pos (starEach es X.env)).any (·.1) = false := by rfl) :
    PE X (.Call (.Name x p) (e :: es) [] pos) (tCall sp [] E t) := by
  obtain ⟨f, fd, ps, F, hm, hk, hb⟩ := c.go
  exact pe_call F hr hg hm hk hb .nil hx ha hdb he hpl
theorem pe_cal (c : Cal X.prog X.w X.K X.mg X.base CX0 k x sp) (hr : Room k X.A) (ha : PA X (e :: es) t) (hg : Gl X x := by rfl) (hdb : (x == ("__debug__" : Str)) = false := by decide)
    (he : starEach (e :: es) X.env = (false, eval e X.env) :: starEach es X.env := by rfl) (hpl : (backTo pos (starEach es X.env)).any (·.1) = false := by rfl) :
    PE X (.Call (.Name x p) (e :: es) [] pos) (tCall sp [] E0 t) := pe_calX c pass0 hr ha hg hdb he hpl
theorem pe_mcalX {pl : Sem Bool} (c : MCal X.prog X.w X.K X.mg X.base CX k C m sp) (hx : Passes CX X E) (ho : PE X o ta) (hr : Room k X.A) (ha : PA X (e :: es) t)
    (hst : starEach (e :: es) X.env = (false, eval e X.env) :: starEach es X.env := by rfl) (hpl : (backTo pos (starEach es X.env)).any (·.1) = false := by rfl)
    (ht : eval (.Call (.Attribute o m apos) (e :: es) [] pos) X.env = (do
      let ov ← eval o X.env
      standAt apos.atName
      let (f, first) ← holding [ov] (getMethod ov m pl)
      callWith pos f first (backTo pos (starEach (e :: es) X.env)) (backToKw pos (keywordEach [] X.env))) := by rfl) :
    PE X (.Call (.Attribute o m apos) (e :: es) [] pos) (tMeth C m sp [] E ta t) := by
  obtain ⟨f, fd, ps, F, cl, hm, hb⟩ := c.go
  exact pe_meth ho cl hm F hr hb .nil hx ha hst hpl ht
theorem pe_mcal {pl : Sem Bool} (c : MCal X.prog X.w X.K X.mg X.base CX0 k C m sp) (ho : PE X o ta) (hr : Room k X.A) (ha : PA X (e :: es) t)
    (hst : starEach (e :: es) X.env = (false, eval e X.env) :: starEach es X.env := by rfl) (hpl : (backTo pos (starEach es X.env)).any (·.1) = false := by rfl)
    (ht : eval (.Call (.Attribute o m apos) (e :: es) [] pos) X.env = (do
      let ov ← eval o X.env
      standAt apos.atName
      let (f, first) ← holding [ov] (getMethod ov m pl)
      callWith pos f first (backTo pos (starEach (e :: es) X.env)) (backToKw pos (keywordEach [] X.env))) := by rfl) :
    PE X (.Call (.Attribute o m apos) (e :: es) [] pos) (tMeth C m sp [] E0 ta t) := pe_mcalX c pass0 ho hr ha hst hpl ht
/-- a property's getter -/
theorem pe_pr (ho : PE X o ta) (hr : Room (k + 1) X.A) (c : PCal X.prog X.w X.K X.mg X.base CX0 k C f sp) (hab : attributeBase o f X.env (eval o X.env) = eval o X.env := by rfl) : PE X (.Attribute o f pos) (tProp C sp [] E0 ta) := by
  obtain ⟨g, p, fd, ps, F, cl, hp, hb⟩ := c.go
  exact pe_prop ho cl hp F hr hb .nil pass0 hab
end

/-! ### one of two ways -/
section
variable {X : Cx}
theorem pi_or {tg it : Expr} {w1 w2 : TI} (h1 : PI X tg it w1) (h2 : PI X tg it w2) : PI X tg it (fun σ H R => w1 σ H R ∨ w2 σ H R) :=
  ⟨fun pins s σ H R I h => h.elim (h1.run pins s σ H R I) (h2.run pins s σ H R I)⟩
theorem pe_or2 {e : Expr} {t1 t2 : TE} (h1 : PE X e t1) (h2 : PE X e t2) : PE X e (fun σ H Q => t1 σ H Q ∨ t2 σ H Q) :=
  ⟨fun pins s σ H Q I h => h.elim (h1.run pins s σ H Q I) (h2.run pins s σ H Q I)⟩

/-! ### globals whose token is open -/
theorem pe_gint {x : Str} {i : Int} {pos : Pos} (hm : ∃ t, X.mg x = some (.int i t)) (hg : Gl X x := by rfl) (hd : (x == ("__debug__" : Str)) = false := by decide) : PE X (.Name x pos) (tC (.int i)) := by
  obtain ⟨t, hm⟩ := hm
  exact pe_glob hg hm ⟨t, rfl⟩ hd
theorem pe_gstr {x z : Str} {pos : Pos} (hm : ∃ t, X.mg x = some (.str z t)) (hg : Gl X x := by rfl) (hd : (x == ("__debug__" : Str)) = false := by decide) : PE X (.Name x pos) (tC (.str z)) := by
  obtain ⟨t, hm⟩ := hm
  exact pe_glob hg hm ⟨t, rfl⟩ hd
theorem pe_gref {x : Str} {a : Addr} {pos : Pos} (hm : X.mg x = some (.ref a)) (hg : Gl X x := by rfl) (hd : (x == ("__debug__" : Str)) = false := by decide) : PE X (.Name x pos) (tC (.ref a)) := pe_glob hg hm rfl hd
theorem pe_bty {x : Str} {n : String} {pos : Pos} (hm : X.mg x = none) (hv : bootBuiltins x = some (.type n) := by decide +kernel) (hg : Gl X x := by rfl) (hn : x ≠ "__name__" := by decide) (hd : (x == ("__debug__" : Str)) = false := by decide) :
    PE X (.Name x pos) (tC (.ty n)) := pe_bltn hg hm hv rfl hn hd

/-! ### operators of one's own -/
/-- what an operator's def of the class at C asks -/
structure OpC (K : PySem.W.Frag) (C : Addr) (nm : String) (f : Addr) : Prop where
  first : PySem.W.selfFirst K C = true
  at_ : PySem.W.findIn K (.ref C) (PySem.dunder nm) = some (some (.ref f))
  fn : PySem.W.isFn K (.ref f) = true
/-- .. beside an int -/
structure OpI (K : PySem.W.Frag) (C : Addr) (nm : String) : Prop where
  refl : ∃ rc, PySem.W.findIn K (.ref C) (dunderR nm) = some rc ∧ (rc = none ∨ ∃ g : Addr, rc = some (.ref g))
  h1 : ∃ fo, PySem.W.findIn K (.type "int") (PySem.dunder nm) = some fo
  h2 : ∃ ro, PySem.W.findIn K (.type "int") (dunderR nm) = some ro
  sub : PySem.W.subIn K (.type "int") (.ref C) = some false
variable {CX : CXT} {C f : Addr} {k : Nat} {sp : Sp}
theorem own_fin {pins : List (Addr × Obj)} {σ : L2.St} {Q : VK} {v : Value} {s' : Shared} (h : EP X pins σ Q v s') : PySem.W.CmpBack (EP X pins σ Q) v s' := by
  obtain ⟨z, H', I', rz, qz⟩ := h
  exact SlX.cmpback rz ⟨z, H', I', rz, qz⟩
/-- x op y, both of the class at C -/
def rOwn2 (C : Addr) (sp : Sp) : R2 := fun x y H Q => ∃ a dx fs b dy gs, x = .ref a ∧ y = .ref b ∧ H a = some (.ins C dx fs) ∧ H b = some (.ins C dy gs) ∧ sp [x, y] H Q E0
theorem op_own2 {op : Operator} (c : OpC X.K C op.info.2 f) (F : FnR X.prog X.w X.K X.mg X.base CX0 k f sp) (hr : Room k X.A) : OpR X (binaryOp op) (rOwn2 C sp) := by
  intro pins s σ H x y v u Q I rx ry h
  obtain ⟨a, dx, fs, b, dy, gs, rfl, rfl, ha, hb, q⟩ := h
  cases (show v = Value.ref a from rx)
  cases (show u = Value.ref b from ry)
  obtain ⟨mA, O, _⟩ := ins_get I.hok ha
  obtain ⟨od, J, _⟩ := O.look
  obtain ⟨mB, O', _⟩ := ins_get I.hok hb
  obtain ⟨od', J', _⟩ := O'.look
  obtain ⟨m, hF⟩ := I.fr
  refine PySem.W.binop_K hF I.ok.mod.kin J J'.type c.first c.at_ c.fn ?_
  exact wpAny_mono (wpAny_call (run_fnR (us := [.ref a, .ref b]) (vs := [.ref a, .ref b]) F hr pass0 I (.cons rfl (.cons rfl .nil)) q)) (fun w s' z => own_fin z) fun _ _ x => x
/-- x op n, n an int -/
def rOwnI (C : Addr) (sp : Sp) : R2 := fun x y H Q => ∃ a dx fs n, x = .ref a ∧ y = .int n ∧ H a = some (.ins C dx fs) ∧ sp [x, y] H Q E0
theorem op_ownI {op : Operator} (c : OpC X.K C op.info.2 f) (ci : OpI X.K C op.info.2) (F : FnR X.prog X.w X.K X.mg X.base CX0 k f sp) (hr : Room k X.A) : OpR X (binaryOp op) (rOwnI C sp) := by
  intro pins s σ H x y v u Q I rx ry h
  obtain ⟨a, dx, fs, n, rfl, rfl, ha, q⟩ := h
  cases (show v = Value.ref a from rx)
  obtain ⟨t, eu⟩ := ry
  cases eu
  obtain ⟨mA, O, _⟩ := ins_get I.hok ha
  obtain ⟨od, J, _⟩ := O.look
  obtain ⟨m, hF⟩ := I.fr
  obtain ⟨rc, hr1, hp⟩ := ci.refl
  obtain ⟨fo, h1⟩ := ci.h1
  obtain ⟨ro, h2⟩ := ci.h2
  refine PySem.W.ksp_binT (T := "int") hF I.ok.mod.kin J rfl c.first c.at_ c.fn hr1 hp h1 h2 ci.sub ?_
  exact wpAny_mono (wpAny_call (run_fnR (us := [.ref a, .int n t]) (vs := [.ref a, .int n]) F hr pass0 I (.cons rfl (.cons ⟨t, rfl⟩ .nil)) q)) (fun w s' z => own_fin z) fun _ _ x => x
/-- -x -/
def rNegO (C : Addr) (sp : Sp) : V → Hp → VK → Prop := fun x H Q => ∃ a dx fs, x = .ref a ∧ H a = some (.ins C dx fs) ∧ sp [x] H Q E0
theorem un_own (hs : PySem.W.findIn X.K (.ref C) "__neg__" = some (some (.ref f))) (hf : PySem.W.isFn X.K (.ref f) = true) (F : FnR X.prog X.w X.K X.mg X.base CX0 k f sp) (hr : Room k X.A) : UnR X (unaryOp .USub) (rNegO C sp) := by
  intro pins s σ H x v Q I rx h
  obtain ⟨a, dx, fs, rfl, ha, q⟩ := h
  cases (show v = Value.ref a from rx)
  obtain ⟨mA, O, _⟩ := ins_get I.hok ha
  obtain ⟨od, J, _⟩ := O.look
  obtain ⟨m, hF⟩ := I.fr
  refine PySem.W.ksp_neg hF I.ok.mod.kin J hs hf ?_
  exact wpAny_call (run_fnR (us := [.ref a]) (vs := [.ref a]) F hr pass0 I (.cons rfl .nil) q)
end
end Wf

namespace Wf
open PySem PySem.Spec PyProof.Rows L2
/-! ### n - x, n an int, x of the class at C: the int's own def knows nothing of it, __rsub__ is asked -/
theorem int_sub_ref {b C d : Addr} {n : Int} {t : Tok} {M : Model} {A : Around} {E : Value → Shared → Prop} {s : Shared} {Q : Fin → Shared → Prop} (hb : s.heap.get? b = some (PySem.W.instObj C d)) (h : Q (.done (.ret .notImplemented)) s) :
    wpAny M A (Builtin.«int.__sub__» ⟨[.int n t, .ref b], []⟩) Q E s := by
  obtain ⟨hp, g, dr, tk, os⟩ := s
  unfold PySem.W.instObj at hb
  wp_walk
  exact h
theorem call_int_sub_ref {prog : Program} {w : World} {b C d : Addr} {n : Int} {t : Tok} {A : Around} {E : Value → Shared → Prop} {s : Shared} {Q : Value → Shared → Prop} (hb : s.heap.get? b = some (PySem.W.instObj C d)) (h : Q .notImplemented s) :
    wpAny (model prog w) A (call (.builtin "int.__sub__") [.int n t, .ref b]) Q E s :=
  wpAny_call_entry F.slot_int_sub (typeIs_int s n t) F.entry_int_sub (int_sub_ref hb ⟨_, rfl, h⟩) (F.args_int_sub_2 _ _)
open PySem.W in
theorem sub_int_own {prog : Program} {w : World} {A : Around} {E : Value → Shared → Prop} {s : Shared} {K : Frag} {x C L f g d : Addr} {h₀ : Heap} {m : Str → Option Value} {od : Option Obj} {i : Int} {t : Tok} {Q : Value → Shared → Prop}
    (F0 : Fr h₀ L s.heap m) (X₀ : K.In h₀) (I : InstAt s.heap x (instObj C d) C od) (hc : selfFirst K C = true)
    (hs : findIn K (.ref C) "__sub__" = some (some (.ref f))) (hr : findIn K (.ref C) "__rsub__" = some (some (.ref g))) (hg : isFn K (.ref g) = true) (hsub : subIn K (.ref C) (.type "int") = some false)
    (h : wpAny (model prog w) A (call (.ref g) [.ref x, .int i t]) (PySem.W.CmpBack Q) E s) : wpAny (model prog w) A (binaryOp .Sub (.int i t) (.ref x)) Q E s := by
  have X := X₀.keeps F0.keep
  obtain ⟨cd, rest, hcd, hm⟩ := ksp_first hc
  have one := ksp_try X I hr hg h
  have hx := I.at_
  obtain ⟨hh, gs, dd, tt, os⟩ := s
  have L1 : Looks (model prog w) hh (typeOf (.ref x)) (.ref C) := I.type
  have L2 : Looks (model prog w) hh (typeOf (.int i t)) (.type "int") := Looks.of_pure rfl
  have L3 : Looks (model prog w) hh (fillsNumberSlot (.ref C) "sub") true := fills_K X hcd hm hs
  have L4 : Looks (model prog w) hh (fillsNumberSlot (.type "int") "sub") true := Looks.of_pure F.fills_int_sub
  have L5 : Looks (model prog w) hh (isSubtype (.ref C) (.type "int")) false := looks_subIn X hsub
  have L7 : Looks (model prog w) hh (numberSlotInPython (.type "int") "sub") false := Looks.of_pure rfl
  have hne : (Value.type "int" == Value.ref C) = false := Bool.eq_false_iff.mpr fun q => by cases beq_iff_eq.mp q
  simp only [binaryOp, Operator.info]
  refine wpAny_holding (wpAny_bind ?_)
  unfold binaryOp1
  refine wpAny_bind (L2.at (wpAny_bind (L1.at (wpAny_bind (L4.at ?_)))))
  simp only [hne, Bool.false_eq_true, if_false]
  refine wpAny_bind (L3.at ?_)
  simp only [Bool.and_self, if_true]
  refine wpAny_bind (L5.at ?_)
  simp only [Bool.false_eq_true, if_false, Bool.not_false, Bool.and_self, if_true]
  ksp_lk
  have go : ∀ {Q' : Option Value → Shared → Prop}, Q' none ⟨hh, gs, dd, tt, os⟩ → wpAny (model prog w) A (tryMethod (.int i t) (PySem.dunder "sub") (.ref x)) Q' E ⟨hh, gs, dd, tt, os⟩ := fun {Q'} hq => by
    unfold tryMethod
    exact wpAny_bind (wpAny_callSpecial?_slot (typeIs_int _ i t) F.slot_int_sub (call_int_sub_ref hx (wpAny_pure hq)))
  refine go ?_
  show wpAny (model prog w) A (tryMethod (.ref x) (dunderR "sub") (.int i t) >>= _) _ _ _
  refine wpAny_bind (wpAny_mono one (fun r s' hr' => ?_) fun _ _ e => e)
  obtain ⟨v, rfl, hq⟩ := hr'
  ksp_lk
  exact hq
/-- n - x -/
def rIOwn (C : Addr) (sp : Sp) : R2 := fun x y H Q => ∃ b dy gs n, x = .int n ∧ y = .ref b ∧ H b = some (.ins C dy gs) ∧ sp [y, x] H Q E0
section
variable {X : Cx} {C f g : Addr} {k : Nat} {sp : Sp}
theorem op_Iown (c : OpC X.K C "sub" f) (hr1 : PySem.W.findIn X.K (.ref C) "__rsub__" = some (some (.ref g))) (hg : PySem.W.isFn X.K (.ref g) = true) (hsub : PySem.W.subIn X.K (.ref C) (.type "int") = some false)
    (F : FnR X.prog X.w X.K X.mg X.base CX0 k g sp) (hr : Room k X.A) : OpR X (binaryOp .Sub) (rIOwn C sp) := by
  intro pins s σ H x y v u Q I rx ry h
  obtain ⟨b, dy, gs, n, rfl, rfl, hb, q⟩ := h
  cases (show u = Value.ref b from ry)
  obtain ⟨t, eu⟩ := rx
  cases eu
  obtain ⟨mA, O, _⟩ := ins_get I.hok hb
  obtain ⟨od, J, _⟩ := O.look
  obtain ⟨m, hF⟩ := I.fr
  refine sub_int_own hF I.ok.mod.kin J c.first c.at_ hr1 hg hsub ?_
  exact wpAny_mono (wpAny_call (run_fnR (us := [.ref b, .int n t]) (vs := [.ref b, .int n]) F hr pass0 I (.cons rfl (.cons ⟨t, rfl⟩ .nil)) q)) (fun w s' z => own_fin z) fun _ _ x => x

/-! ### x[e], x of the class at C -/
def tGetI (C : Addr) (sp : Sp) (ta tb : TE) : TE := fun σ H Q => ta σ H fun x H1 => tb σ H1 fun y H2 => ∃ a dx fs, x = .ref a ∧ H2 a = some (.ins C dx fs) ∧ sp [x, y] H2 Q E0
theorem pe_getitem {o i : Expr} {ta tb : TE} {pos : Pos} (hs : PySem.W.findIn X.K (.ref C) "__getitem__" = some (some (.ref f))) (hfi : PySem.W.fnIn X.K f = true) (hf : PySem.W.isFn X.K (.ref f) = true)
    (F : FnR X.prog X.w X.K X.mg X.base CX0 k f sp) (hr : Room (k + 1) X.A) (ho : PE X o ta) (hi : PE X i tb)
    (hsl : ∀ (x : Addr) (v : Value), subscripted i true (.ref x) v = runValue (.builtin "lifetime.subscript" ⟨[.ref x, v], []⟩) := by intro _ _; rfl) : PE X (.Subscript o i pos) (tGetI C sp ta tb) := by
  refine ⟨fun pins s σ H Q I h => ?_⟩
  refine Subscript_ (thn (ho.run pins s σ H _ I h) fun u s1 ⟨x, H1, I1, rx, h1⟩ => thn (hi.run pins s1 σ H1 _ I1 h1) fun v s2 ⟨y, H2, I2, ry, a, dx, fs, ex, ea, q⟩ => ?_)
  subst ex
  obtain rfl : u = Value.ref a := rx
  obtain ⟨mA, O, _⟩ := ins_get I2.hok ea
  obtain ⟨od, J, _⟩ := O.look
  obtain ⟨m, hF⟩ := I2.fr
  exact PySem.W.sub_K hF I2.ok.mod.kin J hs hfi hf (wpAny_call (SlX.run_at (us := [.ref a, v]) (ws := [.ref a, y]) F hr.in1 I2.env0.in1 pass0 I2 (.cons rfl (.cons ry .nil)) q)) (hsl _ _)
end

/-! ### iter(t), t a tuple -/
/-- at it the iterator of the tuple at l, i items told -/
def TtO (l it : Addr) (i : Nat) : HO := .ext fun h => h.IsTupleIter it l i
theorem ttO_ok {P : Program} {w : World} {H : Hp} {h : Heap} {l it : Addr} {i : Nat} (e : h.IsTupleIter it l i) : ObjOk P w H h it (TtO l it i) :=
  ⟨e, let ⟨o, ho, _⟩ := e; ⟨o, ho⟩, fun _ _ q k => q.at k⟩
def rIterT (K : PySem.W.Frag) : List V → Hp → VK → Prop := fun xs H Q => ∃ (l : Addr) (zs : List V), xs = [.ref l] ∧ SqT K H l zs ∧ ∀ it, H it = none → (∀ b o, H b = some o → b < it) → Q (.ref it) (upd H it (TtO l it 0))
section
variable {X : Cx}
theorem call_iterT : CallR X (.builtin "iter") (rIterT X.K) := by
  intro pins s σ H xs us Q I r h
  obtain ⟨l, zs, rfl, hq, q⟩ := h
  obtain rfl := Vals.ref1 r
  obtain ⟨its, rv, pt, hz⟩ := I.tuple hq
  have it : s.heap.IsTuple l its.toArray := pt
  refine Calls.call_function_entry (by decide +kernel) (by decide +kernel) PySem.W.kdk_entry_iter (PySem.W.kdk_args_iter _) ?_
  unfold Builtin.«iter»
  refine wpAny_bind (m := someArgs "iter" 1 2 _) (wpAny_of_eq (a := [Value.ref l]) (by first | rfl | kernel_rfl!) ?_)
  show wpAny _ _ (pyIter (.ref l) >>= fun v => ret v) _ _ _
  refine wpAny_bind (wpAny_pyIter_tuple it ?_)
  refine wpAny_pure ⟨_, rfl, .ref s.heap.objs.size, _, I.laid (t' := s.toks) (fun b u e => Heap.get?_push_of_some _ e) (Nat.le_refl _) (ttO_ok ⟨_, Heap.get?_push_size _ rfl, rfl, rfl⟩), rfl, q _ (I.hok.fresh (Nat.le_refl _)) (fun b o e => I.hok.lt e)⟩
end
end Wf

namespace Wf
open PySem PySem.Spec PyProof.Rows L2
/-! ### list(o), o of a class whose __iter__ hands back a tuple's iterator -/
/-- what __iter__ promises -/
def spIt (C : Addr) (fld : Str) (K : PySem.W.Frag) : Sp := fun vs H Q _ => ∃ a dx fs l zs, vs = [.ref a] ∧ H a = some (.ins C dx fs) ∧ fs.lookup fld = some (.ref l) ∧ SqT K H l zs ∧ ∀ it, H it = none → (∀ b o, H b = some o → b < it) → Q (.ref it) (upd H it (TtO l it 0))
structure ItT (K : PySem.W.Frag) (C f : Addr) : Prop where
  it : PySem.W.findIn K (.ref C) "__iter__" = some (some (.ref f))
  fn : PySem.W.isFn K (.ref f) = true
  nolen : PySem.W.findIn K (.ref C) "__len__" = some none
  nohint : PySem.W.findIn K (.ref C) "__length_hint__" = some none
section
variable {X : Cx} {pins : List (Addr × Obj)} {σ : L2.St} {H : Hp} {s : Shared} {l it q : Addr} {zs : List V} {A1 : Around}
theorem tt_get (I : Inv X pins σ H s) {i : Nat} (e : H it = some (TtO l it i)) : s.heap.IsTupleIter it l i := (I.hok it _ e).1
theorem SqT.upd_of {K : PySem.W.Frag} {o u : HO} {p : Addr} (h : SqT K H l zs) (hp : H p = some u) (hn : ∀ xs, u ≠ .tup xs) (hf : ∀ b xs, u ≠ .frz b xs) : SqT K (upd H p o) l zs := by
  have go : ∀ v, H l = some v → (∃ xs, v = .tup xs) ∨ (∃ b xs, v = .frz b xs) → l ≠ p := fun v e d z => by
    rw [z, hp] at e
    rcases d with ⟨xs, d⟩ | ⟨b, xs, d⟩
    · exact hn xs ((Option.some.inj e).trans d)
    · exact hf b xs ((Option.some.inj e).trans d)
  rcases h with (h | ⟨b, h⟩) | h
  · exact .inl (.inl (by rw [upd_ne (go _ h (.inl ⟨_, rfl⟩))]; exact h))
  · exact .inl (.inr ⟨b, by rw [upd_ne (go _ h (.inr ⟨_, _, rfl⟩))]; exact h⟩)
  · exact .inr h
theorem tt_loop {Rs : Result → Shared → Prop} (hit : X.s_0.heap.objs.size ≤ it) (hA : A1.in1.handled = none) (hne : q ≠ it) (hz : zs.length < sizeLine)
    (hdone : ∀ H' s', Inv X pins σ H' s' → (∀ b o, b ≠ q → b ≠ it → H b = some o → H' b = some o) → H' q = some (.lst zs) → Rs (.ok (.ret .none)) s') :
    ∀ (m i : Nat) (H' : Hp) (s : Shared), m + i = zs.length → Inv X pins σ H' s → (∀ b o, b ≠ q → b ≠ it → H b = some o → H' b = some o) → SqT X.K H' l zs → H' it = some (TtO l it i) → H' q = some (.lst (zs.take i)) →
      codeAny (model X.prog X.w) A1 (.builtin "list.extend.loop" ⟨[.ref q, .ref it, .none], []⟩) Rs s := by
  intro m
  induction m with
  | zero =>
    intro i H' s hm I kp ht hi hq
    have ei : i = zs.length := by omega
    subst ei
    refine codeAny_builtin PySem.F.entry_extend_loop ?_
    rw [Around.under_plainId PySem.F.plain_extend_loop _]
    show wpAny _ A1.in1 (pyNext (.ref it) >>= _) _ _ s
    obtain ⟨its, rv, pt, _⟩ := I.tuple ht
    have hl := rv.length
    refine wpAny_bind (wpAny_pyNext_tuple_end hA (tt_get I hi) (show s.heap.IsTuple l its.toArray from pt) (by simp; omega) fun h' eb => ?_)
    have I1 : Inv X pins σ (ItX.dropH H' it) { s with heap := h' } := by
      have I0 := ItX.inv_drop (φ := fun h => h.IsTupleIter it l zs.length) I hi
      obtain ⟨f1, f2, f3, f4, f5, f6⟩ := ItX.inv_fp I hi hit
      exact I0.turned (t' := s.toks) (fun b o hb e => eb b o hb e) f1 f2 f4 f5 f6
    refine wpAny_pure (hdone _ _ I1 (fun b o h1 h2 e => ?_) ?_)
    · rw [ItX.dropH_ne h2]
      exact kp b o h1 h2 e
    · rw [ItX.dropH_ne hne, hq, List.take_length]
  | succ m ih =>
    intro i H' s hm I kp ht hi hq
    refine codeAny_builtin PySem.F.entry_extend_loop ?_
    rw [Around.under_plainId PySem.F.plain_extend_loop _]
    show wpAny _ A1.in1 (pyNext (.ref it) >>= _) _ _ s
    obtain ⟨its, rv, pt, _⟩ := I.tuple ht
    have hlt : i < zs.length := by omega
    obtain ⟨u, hu, ru⟩ := rv.get (List.getElem?_eq_getElem hlt)
    refine wpAny_bind (wpAny_pyNext_tuple_item (tt_get I hi) (show s.heap.IsTuple l its.toArray from pt) (x := u) (by simpa using hu) fun h' st sb => ?_)
    have mu : Mut (H' it) := by rw [hi]; exact True.intro
    have I1 : Inv X pins σ (upd H' it (TtO l it (i + 1))) { s with heap := h' } := I.write (x := it) (e := it) (t' := s.toks) mu (.inl rfl) (fun b o nb z => (sb.2 b nb).trans z) (let ⟨o, ho, _⟩ := st; ⟨o, ho⟩) (ttO_ok st)
    have hq1 : upd H' it (TtO l it (i + 1)) q = some (.lst (zs.take i)) := by rw [upd_ne hne]; exact hq
    show wpAny _ A1.in1 (updateSeq q (·.push u) >>= _) _ _ _
    obtain ⟨z, its2, k, r2, hl2, e2⟩ := I1.lstM hq1
    have hlen : (zs.take i).length = i := by rw [List.length_take]; omega
    have hl3 := r2.length
    refine wpAny_bind (wpAny_updateSeq e2 rfl (wpAny_pure ⟨plainId_quiet PySem.F.plain_extend_loop _, ?_⟩) (by rw [List.size_toArray]; omega) (by show (its2.toArray.push u).size ≤ sizeLine + 1; rw [Array.size_push, List.size_toArray]; omega))
    have I2 := I1.lset (f := (·.push u)) (its := its2) (its' := its2 ++ [u]) (ys := zs.take i ++ [zs[i]]) (t' := s.toks) hq1 e2 (by simp) (r2.append (.cons ru .nil)) (by rw [List.length_append, List.length_singleton]; omega)
    refine ih (i + 1) _ _ (by omega) I2 (fun b o h1 h2 e => ?_) ?_ ?_ ?_
    · rw [upd_ne h1, upd_ne h2]
      exact kp b o h1 h2 e
    · exact SqT.upd_of (SqT.upd_of ht hi (fun _ z => by cases z) (fun _ _ z => by cases z)) hq1 (fun _ z => by cases z) (fun _ _ z => by cases z)
    · rw [upd_ne hne.symm, upd_same]
    · rw [upd_same, List.take_add_one, List.getElem?_eq_getElem hlt]
      rfl

theorem hint_T {M : Model} {A : Around} {E : Value → Shared → Prop} {Q : Bool → Shared → Prop} {K : PySem.W.Frag} {C f a : Addr} {ox : Obj} {od : Option Obj} {s : Shared} (hc : ItT K C f) (hK : K.In s.heap) (J : PySem.W.InstAt s.heap a ox C od) (h : Q true s) :
    wpAny M A (Builtin.List.listLengthHint (.ref a)) Q E s := by
  have look : ∀ {nm : Str} {R : Option Value → Shared → Prop}, PySem.W.findIn K (.ref C) nm = some none → R none s → wpAny M A (specialOf (.ref a) nm) R E s := fun e q =>
    wpAny_bind (J.type.here ((PySem.W.looks_findIn hK e).here q))
  unfold Builtin.List.listLengthHint
  refine wpAny_bind (look hc.nolen ?_)
  refine PySem.W.KFB.if_not rfl (PySem.W.KFB.if_not rfl ?_)
  exact wpAny_bind (look hc.nohint (wpAny_pure h))
end
end Wf

namespace Wf
open PySem PySem.Spec PyProof.Rows L2
def rListI (C : Addr) (fld : Str) (K : PySem.W.Frag) : List V → Hp → VK → Prop := fun xs H Q => ∃ a dx fs l zs, xs = [.ref a] ∧ H a = some (.ins C dx fs) ∧ fs.lookup fld = some (.ref l) ∧ SqT K H l zs ∧ zs.length < sizeLine ∧
  ∀ q H', H q = none → (∀ b o, H b = some o → H' b = some o) → H' q = some (.lst zs) → Q (.ref q) H'
section
variable {X : Cx} {C f : Addr} {fld : Str} {n : Nat}
theorem extend_I {pins : List (Addr × Obj)} {σ : L2.St} {H : Hp} {s : Shared} {A1 : Around} {Rs : Result → Shared → Prop} {a dx l q : Addr} {fs : List (Str × V)} {zs : List V} (hc : ItT X.K C f) (F : FnR X.prog X.w X.K X.mg X.base CX0 n f (spIt C fld X.K))
    (hr : Room n A1.in1) (hfr : A1.in1.frames = X.A.frames) (I : Inv X pins σ H s) (ha : H a = some (.ins C dx fs)) (hl : fs.lookup fld = some (.ref l)) (ht : SqT X.K H l zs) (hz : zs.length < sizeLine) (hq : H q = some (.lst [])) (hq0 : X.s_0.heap.objs.size ≤ q)
    (hdone : ∀ H' s', Inv X pins σ H' s' → (∀ b o, b ≠ q → H b = some o → H' b = some o) → H' q = some (.lst zs) → Rs (.ok (.ret .none)) s') :
    wpAny (model X.prog X.w) A1.in1 (Builtin.List.listExtendWith (.ref q) (.ref a) .none)
      (fun fin s' => match fin with | .done f => Rs (.ok f) s' | .again c' => c'.quiet = true ∧ codeAny (model X.prog X.w) A1 c' Rs s') (fun e s' => Rs (.error e) s') s := by
  have nqa : q ≠ a := ne_of hq ha (fun z => nomatch z)
  obtain ⟨mA, O, _⟩ := ins_get I.hok ha
  obtain ⟨od, J, _⟩ := O.look
  obtain ⟨m0, hF⟩ := I.fr
  unfold Builtin.List.listExtendWith
  refine wpAny_bind (J.type.here ?_)
  have h1 : Builtin.List.listSameRef (.ref q) (.ref a) = false := by simp [Builtin.List.listSameRef, nqa]
  have h2 : (Value.ref C == Value.type "list") = false := rfl
  have h3 : (Value.ref C == Value.type "tuple") = false := rfl
  simp only [h1, h2, h3, Bool.or_false, Bool.false_eq_true, if_false]
  refine wpAny_bind (PySem.W.owit_iter hF I.ok.mod.kin J hc.it hc.fn ?_)
  have e0 : Env0 X.prog X.w X.K X.mg X.base A1.in1 X.stack s H := ⟨hfr.trans I.env0.frames, I.env0.mod, I.env0.bs, I.env0.bsz, I.env0.funs, I.env0.frf, I.env0.hok, I.env0.bare⟩
  refine wpAny_call (codeAny_mono (F A1.in1 X.stack s H [.ref a] [.ref a] (fun v H' => ∃ it, v = .ref it ∧ H it = none ∧ (∀ b o, H b = some o → b < it) ∧ H' = upd H it (TtO l it 0)) E0 hr e0 (.cons rfl .nil)
    ⟨a, dx, fs, l, zs, rfl, ha, hl, ht, fun it h1 h2 => ⟨it, rfl, h1, h2, rfl⟩⟩) fun r s' hq' => ?_)
  cases r with
  | error e => exact False.elim hq'
  | ok fl =>
    cases fl with
    | next => exact False.elim hq'
    | brk => exact False.elim hq'
    | cont => exact False.elim hq'
    | ret u =>
      obtain ⟨v, H', I', rv, it, ev, hn, hab, eH⟩ := I.after hq'
      subst ev
      subst eH
      cases rv
      have nqi : q ≠ it := ne_of_none hq hn
      have nai : a ≠ it := ne_of_none ha hn
      have hi : upd H it (TtO l it 0) it = some (TtO l it 0) := upd_same
      have hqi : upd H it (TtO l it 0) q = some (.lst []) := by rw [upd_ne nqi]; exact hq
      have hai : upd H it (TtO l it 0) a = some (.ins C dx fs) := by rw [upd_ne nai]; exact ha
      obtain ⟨oi, hoi, hci, _⟩ := tt_get I' hi
      unfold PySem.W.OwitIt
      refine wpAny_specialOf (T := "tuple_iterator") ⟨oi, hoi, hci⟩ PySem.F.slot_tuple_iterator_next.lookup ?_
      obtain ⟨mA', O', _⟩ := ins_get I'.hok hai
      obtain ⟨od', J', _⟩ := O'.look
      refine wpAny_bind (wpAny_holding (hint_T hc I'.kIn J' ?_))
      have fin : ∀ {s3 : Shared}, Inv X pins σ (upd H it (TtO l it 0)) s3 → codeAny (model X.prog X.w) A1 (.builtin "list.extend.loop" ⟨[.ref q, .ref it, .none], []⟩) Rs s3 := fun {s3} I3 => by
        refine tt_loop (l := l) (zs := zs) (H := upd H it (TtO l it 0)) (Nat.le_trans hq0 (Nat.le_of_lt (hab q _ hq))) hr.hd nqi hz (fun H4 s4 I4 k4 q4 => hdone H4 s4 I4 (fun b o hb e => ?_) q4) zs.length 0 _ s3 (by omega) I3 (fun b o _ _ e => e) ?_ hi hqi
        · have nbi : b ≠ it := ne_of_none e hn
          exact k4 b o hb nbi (by rw [upd_ne nbi]; exact e)
        · rcases ht with (h | ⟨b, h⟩) | h
          · exact .inl (.inl (by rw [upd_ne (ne_of_none h hn)]; exact h))
          · exact .inl (.inr ⟨b, by rw [upd_ne (ne_of_none h hn)]; exact h⟩)
          · exact .inr h
      obtain ⟨z, its, k, r3, hl3, e3⟩ := I'.lstM hqi
      cases r3
      refine wpAny_ite_split (fun _ => ?_) (fun _ => wpAny_pure ⟨plainId_quiet PySem.F.plain_extend_loop _, fin I'⟩)
      refine wpAny_bind (wpAny_rule (wpAny_bind ?_))
      show wpAny _ _ (updateSeq q (·.push .none) >>= fun _ => updateSeq q (·.pop)) _ _ _
      refine wpAny_bind (wpAny_updateSeq e3 rfl ?_)
      have I2 := I'.lset (f := (·.push Value.none)) (its' := [Value.none]) (ys := [.non]) (t' := s'.toks) hqi e3 (by simp) (.cons rfl .nil) (by rw [List.length_singleton, sizeLine_eq]; decide)
      obtain ⟨z4, its4, k4, r4, hl4, e4⟩ := I2.lstM upd_same
      obtain ⟨u4, rfl, ru4⟩ := r4.one
      refine wpAny_updateSeq e4 rfl (wpAny_pure ⟨plainId_quiet PySem.F.plain_extend_loop _, fin ?_⟩) (by show 1 ≤ sizeLine; rw [sizeLine_eq]; decide) (by show 0 ≤ sizeLine + 1; exact Nat.zero_le _)
      have I3 := I2.lset (f := (·.pop)) (its := [u4]) (its' := []) (ys := []) (t' := s'.toks) upd_same e4 (by rfl) .nil (Nat.zero_le _)
      rw [upd_upd] at I3
      have hH : upd (upd H it (TtO l it 0)) q (.lst []) = upd H it (TtO l it 0) := by
        funext b
        by_cases hb : b = q
        · rw [hb, upd_same, hqi]
        · rw [upd_ne hb]
      rw [hH] at I3
      exact I3
theorem call_listI (hc : ItT X.K C f) (F : FnR X.prog X.w X.K X.mg X.base CX0 n f (spIt C fld X.K)) (hr : Room (n + 2) X.A) : CallR X (.type "list") (rListI C fld X.K) := by
  intro pins s σ H xs us Q I rv h
  obtain ⟨a, dx, fs, l, zs, rfl, ha, hl, ht, hz, hQ⟩ := h
  obtain ⟨u, rfl, ru⟩ := rv.one
  cases ru
  refine callType_codes (Q₁ := fun obj s₁ => obj = .ref s.heap.objs.size ∧ s₁ = { s with heap := s.heap.push { cls := .type "list", data := .seq #[] } }) PySem.F.called_list (PySem.F.typeCall_list_1 _) PySem.F.entry_list_init
    (code_list_new _ ⟨rfl, rfl⟩) fun obj s₁ h₁ => ?_
  obtain ⟨rfl, rfl⟩ := h₁
  have hS : (s.heap.push { cls := .type "list", data := .seq #[] }).get? s.heap.objs.size = some { cls := .type "list", data := .seq #[] } := Heap.get?_push_size _ rfl
  refine ⟨⟨_, hS, rfl⟩, PySem.F.args_list_init_2 _ _, ?_⟩
  have fr : H s.heap.objs.size = none := I.hok.fresh (Nat.le_refl _)
  have I1 : Inv X pins σ (upd H s.heap.objs.size (.lst [])) { s with heap := s.heap.push { cls := .type "list", data := .seq #[] } } := I.lnew (its := []) (t' := s.toks) .nil (Nat.zero_le _)
  show wpAny _ _ (do let old ← Builtin.List.listItems (.ref s.heap.objs.size); Builtin.List.listUpdate (.ref s.heap.objs.size) (fun _ => #[]); letGo old.toList.reverse; Builtin.List.listExtendWith (.ref s.heap.objs.size) (.ref a) .none) _ _ _
  unfold Builtin.List.listItems
  refine wpAny_bind (wpAny_bind (wpAny_seqItems hS rfl (wpAny_pure ?_)))
  show wpAny _ _ (updateSeq s.heap.objs.size (fun _ => #[]) >>= fun _ => letGo (#[] : Array Value).toList.reverse >>= fun _ => Builtin.List.listExtendWith (.ref s.heap.objs.size) (.ref a) .none) _ _ _
  have I2 := I1.lset (f := fun _ => #[]) (its := []) (its' := []) (ys := []) (t' := s.toks) upd_same hS rfl .nil (Nat.zero_le _)
  rw [upd_upd] at I2
  refine wpAny_bind (wpAny_updateSeq hS rfl (wpAny_bind (wpAny_letGo ?_)))
  have up : ∀ b o, H b = some o → upd H s.heap.objs.size (.lst []) b = some o := fun b o e => by rw [upd_ne (ne_of_none e fr)]; exact e
  have ht2 : SqT X.K (upd H s.heap.objs.size (.lst [])) l zs := by
    rcases ht with (h | ⟨b, h⟩) | h
    · exact .inl (.inl (up _ _ h))
    · exact .inl (.inr ⟨b, up _ _ h⟩)
    · exact .inr h
  refine extend_I (A1 := X.A.in1) (Rs := wants (fun r s₂ => r = .none ∧ EP X pins σ Q (.ref s.heap.objs.size) s₂) X.xe) hc F (Room.in1 (Room.in1 hr)) rfl I2 (up _ _ ha) hl ht2 hz upd_same I.sz
    fun H' s' I' k q => ⟨rfl, .ref s.heap.objs.size, H', I', rfl, hQ _ _ fr (fun b o e => k b o (ne_of_none e fr) (up b o e)) q⟩
end
end Wf

namespace Wf
open PySem PySem.Spec PyProof.Rows L2
/-! ### a def that says super().m(e) (its class in a cell), and otherwise plain statements -/
abbrev supEnv (qual : Str) (scope : Scope) (L f : Addr) (cd : Value) (cc : Addr) : Env := PySem.W.envX qual scope L f cd [("__class__", cc)]
abbrev cxS (P : Program) (w : World) (K : PySem.W.Frag) (mg : Str → Option Value) (base : Heap) (N : List Str) (qual : Str) (scope : Scope) (f : Addr) (cd : Value) (cc : Addr) (A : Around) (outer : List Env) (s : Shared) (H : Hp) : Cx where
  prog := P
  w := w
  K := K
  mg := mg
  base := base
  A := A.deeper (supEnv qual scope s.heap.objs.size f cd cc)
  N := N
  s_0 := s
  H_0 := H
  env := supEnv qual scope s.heap.objs.size f cd cc
  outer := outer
  stack := supEnv qual scope s.heap.objs.size f cd cc :: outer
  ex := []
  calm := true
  fn := fun _ => false
  pn := []
  xe := fun _ _ => False
structure SupScope (N ps : List Str) (sc : Scope) : Prop where
  kind : sc.kind = .function
  co : sc.isCoroutine = false
  gen : sc.isGenerator = false
  nd : N.Nodup
  pre : N.take ps.length = ps
  par : ∀ x ∈ ps, sc.names.lookup x = some .local
  nocell : ∀ y ∈ sc.names, y.2 ≠ .cell
  free : ∀ y ∈ sc.names, y.2 = .free → y.1 = ("__class__" : Str)
theorem lookup_rev {ps : List Str} {us : List Value} (nd : ps.Nodup) {i : Nat} {x : Str} {u : Value} (h1 : ps[i]? = some x) (h2 : us[i]? = some u) : ((ps.zip us).reverse).lookup x = some u := by
  have key : ∀ {l : List (Str × Value)}, (x, u) ∈ l → (∀ v, (x, v) ∈ l → v = u) → l.lookup x = some u := by
    intro l
    induction l with
    | nil => intro h; cases h
    | cons p r ih =>
      intro h hu
      obtain ⟨y, v⟩ := p
      rw [List.lookup_cons]
      by_cases e : x = y
      · subst e
        rw [beq_self_eq_true]
        exact congrArg some (hu v List.mem_cons_self)
      · rw [show (x == y) = false by simpa using e]
        refine ih ?_ fun w hw => hu w (List.mem_cons_of_mem _ hw)
        rcases List.mem_cons.mp h with z | z
        · cases z; exact absurd rfl e
        · exact z
  refine key ?_ fun v hv => ?_
  · rw [List.mem_reverse]
    have e : (ps.zip us)[i]? = some (x, u) := by rw [List.getElem?_zip_eq_some]; exact ⟨h1, h2⟩
    exact List.mem_of_getElem? e
  · rw [List.mem_reverse] at hv
    obtain ⟨j, hj⟩ := List.getElem?_of_mem hv
    rw [List.getElem?_zip_eq_some] at hj
    have eij : j = i := by
      obtain ⟨a1, b1⟩ := List.getElem?_eq_some_iff.mp hj.1
      obtain ⟨a2, b2⟩ := List.getElem?_eq_some_iff.mp h1
      exact (List.getElem_inj nd).mp (b1.trans b2.symm)
    rw [eij, h2] at hj
    exact (Option.some.inj hj.2).symm
theorem inv_sup {P : Program} {w : World} {K : PySem.W.Frag} {mg : Str → Option Value} {base : Heap} {N ps : List Str} {qual : Str} {scope : Scope} {f cc : Addr} {cd : Value} {A : Around} {outer : List Env} {s : Shared} {h1 : Heap} {tk : Nat} {H : Hp} {us : List Value} {vs : List V} {vc : Value} {oc : Obj}
    (S : SupScope N ps scope) (hd : A.handled = none) (e0 : Env0 P w K mg base A outer s H) (hl : vs.length = ps.length) (r : Vals vs us) (hcc : K.lookup cc = some oc) (hoc : oc.data = .cell (some vc))
    (hns : h1.Ns s.heap.objs.size (fun x => (ps.zip us).reverse.lookup x)) (hk : ∀ b o, s.heap.get? b = some o → h1.get? b = some o) :
    Inv (cxS P w K mg base N qual scope f cd cc A outer s H) [] (L2.start N vs) H { s with heap := h1, toks := tk } := by
  have hpl : ps.length ≤ N.length := by have := congrArg List.length S.pre; rw [List.length_take] at this; omega
  have noA : ∀ b : Addr, b ∉ (cxS P w K mg base N qual scope f cd cc A outer s H).ex := fun b z => absurd (show b ∈ ([] : List Addr) from z) (by simp)
  have one : ∀ x c, ([(("__class__" : Str), cc)] : List (Str × Addr)).lookup x = some c → x = "__class__" ∧ c = cc := fun x c h => by
    rw [List.lookup_cons] at h
    by_cases e : x = ("__class__" : Str)
    · rw [e, beq_self_eq_true] at h
      exact ⟨e, (Option.some.inj h).symm⟩
    · rw [show (x == ("__class__" : Str)) = false by simpa using e] at h
      cases h
  have kcc : base.get? cc = some oc := e0.mod.kin _ _ hcc
  refine ⟨⟨e0.mod, S.kind, rfl, rfl, Nat.le_refl _, fun y z c h1 h2 => ?_, fun y hy => ?_, fun y c h _ => (by cases h), fun _ => hd, Around.frames_deeper e0.frames, .inr ⟨rfl, rfl⟩, fun b z => absurd z (noA b), e0.bs, e0.bsz, fun b _ _ => noA b, fun b z => absurd z (noA b), e0.funs, e0.frf⟩,
    rfl, e0.bare, Un.kept hk, ⟨_, hns, fun i y v h1 h2 h3 => ?_⟩, fun y c h => ?_, e0.hok.fresh (Nat.le_refl _), fun y c h => ?_, fun p hp => absurd (show p ∈ ([] : List (Addr × Obj)) from hp) (by simp), e0.hok.kept hk, ?_⟩
  · rw [(one y c h1).1, (one z c h2).1]
  · have hy : scope.names.lookup y = some .cell ∨ scope.names.lookup y = some .free := hy
    rcases hy with hy | hy
    · exact absurd rfl (S.nocell _ (PySem.mem_of_lookup hy))
    · have e := S.free _ (PySem.mem_of_lookup hy) rfl
      exact ⟨cc, by rw [show y = ("__class__" : Str) from e]; rfl⟩
  · have hi : i < vs.length := by
      unfold L2.start at h2
      by_cases hi : i < vs.length
      · exact hi
      · rw [List.getElem?_append_right (by simpa using hi), List.getElem?_replicate] at h2
        split at h2 <;> cases h2
    have ha : vs[i]? = some v := by
      unfold L2.start at h2
      rw [List.getElem?_append_left (by simpa using hi), List.getElem?_map] at h2
      cases e : vs[i]? with
      | none => rw [e] at h2; cases h2
      | some a => rw [e] at h2; cases h2; rfl
    obtain ⟨u, hu, rv⟩ := r.get ha
    have hp : ps[i]? = some y := by
      rw [← S.pre, List.getElem?_take_of_lt (by omega)]; exact h1
    have ndP : ps.Nodup := by rw [← S.pre]; exact S.nd.sublist (List.take_sublist _ _)
    exact ⟨u, rv, .inl ⟨S.par y (List.mem_of_getElem? hp), lookup_rev ndP hp hu⟩⟩
  · obtain ⟨_, e⟩ := one y c h
    rw [e]
    exact ⟨some vc, oc, hk _ _ (e0.bs _ _ kcc).1, hoc⟩
  · obtain ⟨_, e⟩ := one y c h
    rw [e]
    exact (e0.bs _ _ kcc).2
  · unfold L2.start
    show _ = N.length
    rw [List.length_append, List.length_map, List.length_replicate]
    omega
end Wf

namespace Wf
open PySem PySem.Spec PyProof.Rows L2
abbrev onlyNx (N : L2.St → Hp → Prop) : Ends := { nx := N, rt := fun _ _ => False }
theorem at_cons {X : Cx} {c : Code} {st : Stmt} {rest : List Stmt} {t : TS} {N : L2.St → Hp → Prop} {σ : L2.St} {H : Hp} {s : Shared} {Q : Flow → Shared → Prop} (p : PS X st t) (hx : X.xe = fun _ _ => False) (I : Inv X [] σ H s) (h : t (onlyNx N) σ H)
    (k : ∀ σ' H' s', Inv X [] σ' H' s' → N σ' H' → PySem.wpAt (model X.prog X.w) X.A c (execs rest X.env) Q (fun _ _ => False) s') : PySem.wpAt (model X.prog X.w) X.A c (execs (st :: rest) X.env) Q (fun _ _ => False) s := by
  refine ks_wpAt_execs_cons (wpAt_of_wpAny (wpAny_mono (p.run [] s σ H (onlyNx N) I h) (fun f s' hs => ?_) fun e s' z => ?_))
  · cases f with
    | next => obtain ⟨σ', H', I', n⟩ := hs; exact k σ' H' s' I' n
    | ret u => obtain ⟨_, _, _, _, _, z⟩ := hs; exact z.elim
    | brk => obtain ⟨_, _, _, z⟩ := hs; exact z.elim
    | cont => obtain ⟨_, _, _, z⟩ := hs; exact z.elim
  · rw [hx] at z
    exact z
theorem at_nil {M : Model} {A : Around} {c : Code} {env : Env} {Q : Flow → Shared → Prop} {E : Value → Shared → Prop} {s : Shared} (h : Q .next s) : PySem.wpAt M A c (execs [] env) Q E s := wpAt_of_wpAny (wpAny_execs_nil h)
abbrev supS (m : Str) (arg : Expr) (p0 p1 apos cpos epos : Pos) : Stmt := .Expr (.Call (.Attribute (.Call (.Name "super" p0) [] [] p1) m apos) [arg] [] cpos) epos
/-- the written facts that super() asks -/
structure SupTxt (P : Program) (K : PySem.W.Frag) (mg : Str → Option Value) (scope : Scope) (params : Arguments) (cdv : Value) (cc C f2 : Addr) (m : Str) : Prop where
  code : ∃ cda o vs file tf, cdv = .ref cda ∧ K.lookup cda = some o ∧ o.data = .fields vs ∧ vs[2]? = some (.str file tf) ∧ ((P.main.file : Str) == file) = true
  cell : ∃ o, K.lookup cc = some o ∧ o.data = .cell (some (.ref C))
  cls : ∃ cd, PySem.W.clsIn K C = some cd
  sub : PySem.W.mroIn K C (.ref C) = some true
  sup : mg "super" = none
  par : ∃ ar, (params.posonlyargs ++ params.args).head? = some ar ∧ ar.arg = ("self" : Str)
  ks : scope.names.lookup ("super" : Str) = some .globalImplicit
  kc : scope.names.lookup ("__class__" : Str) = some .free
  ka : scope.names.lookup ("self" : Str) = some .local
  top : (P.main.scope.names.lookup ("super" : Str)).isSome = false
  third : PySem.W.nsIn K cStatics "thirdparty.any" = some none
  at_ : PySem.W.ks_superIn K C C m = some (some (.ref f2))
  ty2 : PySem.W.typeIn K (.ref f2) = some (.type "function")
  fn2 : PySem.W.fnIn K f2 = true
  ncl : (m == ("__class__" : Str)) = false
open PySem.W in
theorem at_sup {P : Program} {w : World} {K : Frag} {mg : Str → Option Value} {base : Heap} {N : List Str} {qual : Str} {scope : Scope} {f cc C f2 : Addr} {cdv : Value} {A : Around} {outer : List Env} {s0 : Shared} {H0 : Hp} {params : Arguments} {fd : FuncData} {fo : Obj}
    {m : Str} {arg : Expr} {p0 p1 apos cpos epos : Pos} {body : List Stmt} {k : Nat} {spU : Sp} {ta : TA} {σ : L2.St} {H : Hp} {s : Shared} {Q : Flow → Shared → Prop} {Nx : Hp → Prop} {pl : Sem Bool}
    (T : SupTxt P K mg scope params cdv cc C f2 m) (hk : scope.kind = .function) (hN : N[0]? = some ("self" : Str)) (lk : K.lookup f = some fo) (hfd : fo.data = .func fd) (hpr : fd.params = params)
    (F2 : FnR P w K mg base CX0 k f2 spU) (hr : Room k (A.deeper (supEnv qual scope s0.heap.objs.size f cdv cc)))
    (pa : PA (cxS P w K mg base N qual scope f cdv cc A outer s0 H0) [arg] ta) (I : Inv (cxS P w K mg base N qual scope f cdv cc A outer s0 H0) [] σ H s)
    (h : ∃ x dx fs, σ[0]? = some (some (.ref x)) ∧ H x = some (.ins C dx fs) ∧ ta σ H fun ws H3 => spU (.ref x :: ws) H3 (fun _ H4 => Nx H4) E0)
    (kont : ∀ H' s', Inv (cxS P w K mg base N qual scope f cdv cc A outer s0 H0) [] σ H' s' → Nx H' → Q .next s')
    (hs : swapsWith (.Call (.Attribute (.Call (.Name "super" p0) [] [] p1) m apos) [arg] [] cpos) none epos.line (supEnv qual scope s0.heap.objs.size f cdv cc) = pure false)
    (he : eval (.Call (.Attribute (.Call (.Name "super" p0) [] [] p1) m apos) [arg] [] cpos) (supEnv qual scope s0.heap.objs.size f cdv cc) = (do
      let ov ← attributeBase (.Call (.Name "super" p0) [] [] p1) m (supEnv qual scope s0.heap.objs.size f cdv cc) (eval (.Call (.Name "super" p0) [] [] p1) (supEnv qual scope s0.heap.objs.size f cdv cc))
      standAt apos.atName
      let (g, first) ← holding [ov] (getMethod ov m pl)
      callWith cpos g first (backTo cpos (starEach [arg] (supEnv qual scope s0.heap.objs.size f cdv cc))) []))
    (hst : starEach [arg] (supEnv qual scope s0.heap.objs.size f cdv cc) = (false, eval arg (supEnv qual scope s0.heap.objs.size f cdv cc)) :: starEach [] (supEnv qual scope s0.heap.objs.size f cdv cc)) :
    PySem.wpAt (model P w) (A.deeper (supEnv qual scope s0.heap.objs.size f cdv cc)) (.func body (supEnv qual scope s0.heap.objs.size f cdv cc)) (exec (supS m arg p0 p1 apos cpos epos) (supEnv qual scope s0.heap.objs.size f cdv cc)) Q (fun _ _ => False) s := by
  obtain ⟨x, dx, fs, hx0, hx, hta⟩ := h
  obtain ⟨cda, co, cvs, file, tf, rfl, hcda, hcd, hvs, hfile⟩ := T.code
  obtain ⟨oc, hcc, hoc⟩ := T.cell
  obtain ⟨cdC, hC⟩ := T.cls
  obtain ⟨ar, hpar, har⟩ := T.par
  refine ks_wpAt_Expr_any (ks_wpAt_MethodCall (pl := pl) ?_ he) (by simp [interactive, hk]) hs
  obtain ⟨ml, hns, hl⟩ := I.loc
  obtain ⟨u, ru, lu⟩ := hl 0 _ _ hN hx0 (.inl T.ka)
  obtain rfl : u = Value.ref x := ru
  have hself : ml ("self" : Str) = some (.ref x) := by
    rcases lu with ⟨_, e⟩ | ⟨e, _⟩
    · exact e
    · have e2 : scope.names.lookup ("self" : Str) = some .cell ∨ scope.names.lookup ("self" : Str) = some .free := e
      rw [T.ka] at e2
      rcases e2 with e2 | e2 <;> cases e2
  have KX := I.kIn
  obtain ⟨mb, hb1, hb2⟩ := I.mod.blt
  obtain ⟨hh, g, d, t, os⟩ := s
  obtain ⟨mA, O, _⟩ := ins_get I.hok hx
  obtain ⟨od, J, _⟩ := O.look
  obtain ⟨oC, hC1, hC2⟩ : ∃ oC, hh.get? C = some oC ∧ oC.data = .cls cdC := by
    unfold clsIn at hC
    split at hC
    · rename_i c d cd' sl ho
      cases hC
      exact ⟨_, KX _ _ ho, rfl⟩
    · cases hC
  refine ks_wpAt_super_base (env := supEnv qual scope s0.heap.objs.size f (.ref cda) cc) T.ks T.kc T.ncl rfl (KX _ _ lk) hfd (by rw [hpr]; exact hpar) rfl (KX _ _ hcda) hcd hvs hfile T.top ?_
  refine ks_loadName_global hk T.ks (Calls.loadGlobal_builtin (env := supEnv qual scope s0.heap.objs.size f (.ref cda) cc) (I.mod.glob.keeps I.bk) T.sup (hb1.keeps I.bk) ((hb2 _ (by decide)).trans (by decide +kernel)) ⟨rfl, ?_⟩)
  refine wpAny_loadName_free hk T.kc rfl ⟨_, KX _ _ hcc, hoc⟩ ?_
  rw [har]
  refine wpAny_loadName_local hk T.ka hns hself ?_
  refine ks_wpAny_isType_cls hC1 hC2 ⟨rfl, ?_⟩
  refine ks_wpAny_call_super hC1 hC2 J.at_ J.cls (fun c e => by have z := J.no; unfold notCls at z; rw [e] at z; exact Bool.noConfusion z) (looks_mroIn KX T.sub) (fun h' e kp => ?_)
  have I1 : Inv (cxS P w K mg base N qual scope f (.ref cda) cc A outer s0 H0) [] σ H ⟨h', g, d, t, os⟩ := I.kept (h' := h') (t' := t) kp
  obtain ⟨mA1, O1, _⟩ := ins_get I1.hok hx
  obtain ⟨od1, J1, _⟩ := O1.look
  have hm := T.at_
  unfold ks_superIn at hm
  rw [hC] at hm
  obtain ⟨of, hof, hofc⟩ : ∃ of, h'.get? f2 = some of ∧ of.cls = .type "function" := by
    have z : (K.lookup f2).map (·.cls) = some (.type "function") := T.ty2
    cases q : K.lookup f2 with
    | none => rw [q] at z; cases z
    | some of => rw [q] at z; exact ⟨of, I1.kIn _ _ q, Option.some.inj z⟩
  refine ks_wpAny_getMethod_super e (looks_opaque I1.kIn T.third) (l₀ := cdC.mro) (fun A Q E s k q => wpAny_bind ((looks_clsIn I1.kIn hC) A _ E s k (wpAny_pure q))) rfl I1.kIn hm hof hofc (ks_ne I1.kIn J1 hC) T.ncl ?_
  have I2 := ClX.met_new (g := f2) (C := x) I1
  have hb : base.get? h'.objs.size = none := ClX.base_none (X := cxS P w K mg base N qual scope f (.ref cda) cc A outer s0 H0) I1 (Nat.le_refl _)
  refine ClX.callwith_cm (g := f2) (C := x) (X := cxS P w K mg base N qual scope f (.ref cda) cc A outer s0 H0) I2 hb T.fn2 ?_ hst (by rfl)
  refine thn (pa.run cpos _ _ σ H _ I2 hta) fun us s3 ⟨ws, H3, I3, rw3, q3⟩ => ⟨⟨ClX.pin_at I3, I3.kIn⟩, ?_⟩
  refine thn (ClX.run_cm (C := x) F2 hr pass0 I3 rw3 q3) fun v s4 ⟨vv, H4, I4, _, q4⟩ => kont H4 s4 I4 q4
theorem fn_super {P : Program} {w : World} {K : PySem.W.Frag} {mg : Str → Option Value} {base : Heap} {N ps : List Str} {name qual : Str} {scope : Scope} {f cc C f2 : Addr} {dV kV doc pm cdv ct oc : Value} {an od : Option Addr} {osl : Array (Option Value)} {params : Arguments}
    {m : Str} {arg : Expr} {p0 p1 apos cpos epos : Pos} {s1 s2 s4 : Stmt} {k : Nat} {sp spU : Sp}
    (lk : K.lookup f = some ⟨oc, od, .func (PySem.W.ksFn name qual params [s1, s2, supS m arg p0 p1 apos cpos epos, s4] scope dV kV doc pm an cdv ct cc), osl⟩) (hcd : PySem.W.codeIn K cdv qual = true)
    (T : SupTxt P K mg scope params cdv cc C f2 m) (S : SupScope N ps scope) (hN : N[0]? = some ("self" : Str)) (len : ∀ vs H Q E, sp vs H Q E → vs.length = ps.length) (F2 : FnR P w K mg base CX0 k f2 spU)
    (hs : ∀ L cd, swapsWith (.Call (.Attribute (.Call (.Name "super" p0) [] [] p1) m apos) [arg] [] cpos) none epos.line (supEnv qual scope L f cd cc) = pure false)
    (pl : Sem Bool) (he : ∀ L cd, eval (.Call (.Attribute (.Call (.Name "super" p0) [] [] p1) m apos) [arg] [] cpos) (supEnv qual scope L f cd cc) = (do
      let ov ← attributeBase (.Call (.Name "super" p0) [] [] p1) m (supEnv qual scope L f cd cc) (eval (.Call (.Name "super" p0) [] [] p1) (supEnv qual scope L f cd cc))
      standAt apos.atName
      let (g, first) ← holding [ov] (getMethod ov m pl)
      callWith cpos g first (backTo cpos (starEach [arg] (supEnv qual scope L f cd cc))) []))
    (hst : ∀ L cd, starEach [arg] (supEnv qual scope L f cd cc) = (false, eval arg (supEnv qual scope L f cd cc)) :: starEach [] (supEnv qual scope L f cd cc))
    (hbody : ∀ (A : Around) (outer : List Env) (s : Shared) (H : Hp) (vs : List V) (Q : VK) (E : XK), Room k (A.deeper (supEnv qual scope s.heap.objs.size f cdv cc)) → sp vs H Q E →
      ∃ t1 t2 ta t4, PS (cxS P w K mg base N qual scope f cdv cc A outer s H) s1 t1 ∧ PS (cxS P w K mg base N qual scope f cdv cc A outer s H) s2 t2 ∧ PA (cxS P w K mg base N qual scope f cdv cc A outer s H) [arg] ta ∧
        PS (cxS P w K mg base N qual scope f cdv cc A outer s H) s4 t4 ∧ t1 (onlyNx fun σ1 H1 => t2 (onlyNx fun σ2 H2 => ∃ x dx fs, σ2[0]? = some (some (.ref x)) ∧ H2 x = some (.ins C dx fs) ∧
          ta σ2 H2 fun ws H3 => spU (.ref x :: ws) H3 (fun _ H4 => t4 (onlyNx fun _ H5 => Q .non H5) σ2 H4) E0) σ1 H1) (L2.start N vs) H) :
    FnOk P w K mg base CX0 (k + 1) f (PySem.W.ksFn name qual params [s1, s2, supS m arg p0 p1 apos cpos epos, s4] scope dV kV doc pm an cdv ct cc) ps sp := by
  refine ⟨len, fun A outer s H args us vs Q E hr e0 hb r hsp => ?_⟩
  have hl := len _ _ _ _ hsp
  have KX : K.In s.heap := e0.mod.kin.keeps fun b o e => (e0.bs b o e).1
  have lim : s.heap.NoLimit := e0.mod.nolimit.keeps fun b o e => (e0.bs b o e).1
  obtain ⟨oc, hcc, hoc⟩ := T.cell
  refine ks_codeAny_call_defAt (binds := ps.zip us) hr.depth (KX _ _ lk) rfl lim (PySem.W.codeRec_of KX hcd) rfl hb S.nocell (fun y hy => S.par y.1 (List.of_mem_zip hy).1) (fun h₀ hns hk => ?_) S.co S.gen S.kind
  obtain ⟨t1, t2, ta, t4, p1, p2, pa, p4, hq⟩ := hbody A outer s H vs Q E (hr.deeper _) hsp
  have I := inv_sup (N := N) (qual := qual) (f := f) (cd := cdv) (tk := s.toks + (ps.zip us).length) S hr.hd e0 hl r hcc hoc hns hk
  refine ks_wpAt_mono (Q := fun fl s' => fl = .next ∧ CE outer P w H s Q .none s') (E := fun _ _ => False) ?_ (fun fl s' hs => ?_) (fun _ _ z => z.elim)
  · refine at_cons (X := cxS P w K mg base N qual scope f cdv cc A outer s H) p1 rfl I hq fun σ1 H1 s1 I1 q1 => ?_
    refine at_cons (X := cxS P w K mg base N qual scope f cdv cc A outer s H) p2 rfl I1 q1 fun σ2 H2 s2 I2 q2 => ?_
    refine ks_wpAt_execs_cons (at_sup (pl := pl) T S.kind hN lk rfl rfl F2 (hr.deeper _) pa I2 q2 (fun H3 s3 I3 q3 => ?_) (hs _ _) (he _ _) (hst _ _))
    refine at_cons (X := cxS P w K mg base N qual scope f cdv cc A outer s H) p4 rfl I3 q3 fun σ4 H4 s4 I4 q4 => at_nil ⟨rfl, ?_⟩
    exact ⟨.non, H4, I4.os, I4.bare, I4.base, I4.hok, rfl, q4⟩
  · obtain ⟨rfl, hq⟩ := hs
    exact hq
end Wf

namespace Wf
open PySem PySem.Spec PyProof.Rows L2
/-! ### the facts by name -/
structure Txt (K : PySem.W.Frag) (mg : Str → Option Value) : Prop where
  st : ∃ h : Heap, K.In h ∧ h.Ns mainGlobals mg
  says : SaysW K
section
variable {K : PySem.W.Frag} {mg : Str → Option Value}
theorem Txt.alls (T : Txt K mg) : (∀ f ∈ fa, f.ok K = true) ∧ (∀ f ∈ fb, f.ok K = true) ∧ ∀ d ∈ fn, d.ok K = true := by
  obtain ⟨h1, h2⟩ := He.ba (congrArg (fun z : AlW => z.1) T.says)
  obtain ⟨h2, h3⟩ := He.ba h2
  exact ⟨List.all_eq_true.mp h1, List.all_eq_true.mp h2, List.all_eq_true.mp h3⟩
theorem Txt.fq (T : Txt K mg) (i : Nat) {f : Fq} (h : fa[i]? = some f := by rfl) : f.ok K = true := T.alls.1 f (List.mem_of_getElem? h)
theorem Txt.fbq (T : Txt K mg) (i : Nat) {f : Fq} (h : fb[i]? = some f := by rfl) : f.ok K = true := T.alls.2.1 f (List.mem_of_getElem? h)
theorem Txt.dat (T : Txt K mg) (i : Nat) {d : Df} (h : fn[i]? = some d) : d.obs K = d.val ∧ d.ok K = true := by
  refine ⟨?_, T.alls.2.2 d (List.mem_of_getElem? h)⟩
  have e : fn.map (fun d => d.obs K) = fn.map Df.val := congrArg (fun z : AlW => z.2) T.says
  have e2 : (fn.map fun d => d.obs K)[i]? = (fn.map Df.val)[i]? := by rw [e]
  rw [List.getElem?_map, List.getElem?_map, h] at e2
  exact Option.some.inj e2
theorem Txt.glo (T : Txt K mg) {x : Str} {a : Addr} (c : (Fq.glo x a).ok K = true) : mg x = some (.ref a) := by
  obtain ⟨h, X, G⟩ := T.st
  exact PySem.W.mg_of X G (of_decide_eq_true c)
theorem Txt.free (T : Txt K mg) {x : Str} (c : (Fq.free x).ok K = true) : mg x = none := by
  obtain ⟨h, X, G⟩ := T.st
  exact PySem.W.mg_none_of X G (of_decide_eq_true c)
theorem Txt.gblt (T : Txt K mg) {x : Str} {id : String} (c : (Fq.gblt x id).ok K = true) : mg x = some (.builtin id) := by
  obtain ⟨h, X, G⟩ := T.st
  exact PySem.W.mg_of X G (of_decide_eq_true c)
theorem Txt.gint (T : Txt K mg) {x : Str} {i : Int} (c : (Fq.gint x i).ok K = true) : ∃ t, mg x = some (.int i t) := by
  obtain ⟨h, X, G⟩ := T.st
  unfold Fq.ok at c
  dsimp only at c
  split at c
  · rename_i j t e
    have ej : j = i := of_decide_eq_true c
    rw [ej] at e
    exact ⟨t, PySem.W.mg_of X G e⟩
  · cases c
theorem Txt.gstr (T : Txt K mg) {x z : Str} (c : (Fq.gstr x z).ok K = true) : ∃ t, mg x = some (.str z t) := by
  obtain ⟨h, X, G⟩ := T.st
  unfold Fq.ok at c
  dsimp only at c
  split at c
  · rename_i j t e
    have ej : j = z := of_decide_eq_true c
    rw [ej] at e
    exact ⟨t, PySem.W.mg_of X G e⟩
  · cases c
theorem Txt.find (_ : Txt K mg) {C : Addr} {f : Str} {r : Option Value} (c : (Fq.find C f r).ok K = true) : PySem.W.findIn K (.ref C) f = some r := of_decide_eq_true c
theorem Txt.isf (_ : Txt K mg) {f : Addr} (c : (Fq.fn f).ok K = true) : PySem.W.isFn K (.ref f) = true ∧ PySem.W.keepIn K (.ref f) = true ∧ PySem.W.fnIn K f = true := by
  obtain ⟨c1, c2⟩ := He.ba c
  obtain ⟨c2, c3⟩ := He.ba c2
  exact ⟨c1, c2, c3⟩
theorem Txt.cls (T : Txt K mg) {C : Addr} (c : (Fq.cls C).ok K = true) (s : (Fq.find C "__setattr__" (some (.builtin "object.__setattr__"))).ok K = true) : Cls K C := by
  obtain ⟨c1, c2⟩ := He.ba c
  obtain ⟨c2, c3⟩ := He.ba c2
  exact ⟨c1, c2, c3, T.find s⟩
theorem Txt.meth (T : Txt K mg) {C f : Addr} {m : Str} (c : (Fq.find C m (some (.ref f))).ok K = true) (d : (Fq.fn f).ok K = true) : Meth K C m f := ⟨T.find c, (T.isf d).1, (T.isf d).2.1⟩
theorem Txt.prop (T : Txt K mg) {C p g : Addr} {m : Str} (c : (Fq.find C m (some (.ref p))).ok K = true) (d : (Fq.prop p g).ok K = true) : PropOf K C m p g := by
  obtain ⟨d1, d2⟩ := He.ba d
  obtain ⟨d2, d3⟩ := He.ba d2
  refine ⟨T.find c, of_decide_eq_true d1, of_decide_eq_true d2, ?_⟩
  split at d3
  · rename_i v r e
    have ev : v = .ref g := of_decide_eq_true d3
    exact ⟨r, by rw [e, ev]⟩
  · cases d3
theorem Txt.mkC (T : Txt K mg) {C f : Addr} (c : (Fq.made C).ok K = true) (d : (Fq.find C "__init__" (some (.ref f))).ok K = true) (e : (Fq.fn f).ok K = true) : Mk K C f := by
  obtain ⟨c1, c2⟩ := He.ba c
  exact ⟨c1, T.find d, (T.isf e).1, c2⟩
theorem Txt.more (T : Txt K mg) (i : Nat) {b : PySem.W.Frag → Bool} (h : fa[i]? = some (.more b)) : b K = true := T.alls.1 _ (List.mem_of_getElem? h)
theorem Txt.def_ (T : Txt K mg) (i : Nat) {d : Df} (h : fn[i]? = some d) (hc : d.clo = [] := by rfl) : ∃ fd, FunD K d.name d.qual d.params d.body d.scope d.dfl d.kwd d.ad fd := Df.fund (T.dat i h).1 (T.dat i h).2 hc
theorem Txt.m_Ratio (T : Txt K mg) : mg "Ratio" = some (.ref cR) := T.glo (T.fq 0)
theorem Txt.m_Scale (T : Txt K mg) : mg "Scale" = some (.ref cS) := T.glo (T.fq 1)
theorem Txt.m_Auction (T : Txt K mg) : mg "Auction" = some (.ref cA) := T.glo (T.fq 2)
theorem Txt.m_WhoseforkError (T : Txt K mg) : mg "WhoseforkError" = some (.ref cW) := T.glo (T.fq 3)
theorem Txt.m_Ended (T : Txt K mg) : mg "Ended" = some (.ref cE) := T.glo (T.fq 4)
theorem Txt.m_NoneFree (T : Txt K mg) : mg "NoneFree" = some (.ref cN) := T.glo (T.fq 5)
theorem Txt.m_MOST_HANDS (T : Txt K mg) : ∃ t, mg "MOST_HANDS" = some (.int 7 t) := T.gint (T.fq 6)
theorem Txt.m_MOST_NUMBER (T : Txt K mg) : ∃ t, mg "MOST_NUMBER" = some (.int 1000000000 t) := T.gint (T.fq 7)
theorem Txt.m_MOST_PART (T : Txt K mg) : ∃ t, mg "MOST_PART" = some (.int (10 ^ 60) t) := T.gint (T.fq 8)
theorem Txt.m_MOST_HIRED (T : Txt K mg) : ∃ t, mg "MOST_HIRED" = some (.int 6 t) := T.gint (T.fq 9)
theorem Txt.m_NEAR (T : Txt K mg) : ∃ t, mg "NEAR" = some (.str "near" t) := T.gstr (T.fq 10)
theorem Txt.m_FAR (T : Txt K mg) : ∃ t, mg "FAR" = some (.str "far" t) := T.gstr (T.fq 11)
theorem Txt.m_gcd (T : Txt K mg) : mg "gcd" = some (.builtin "math.gcd") := T.gblt (T.fq 12)
theorem Txt.n_len (T : Txt K mg) : mg "len" = none := T.free (T.fq 13)
theorem Txt.n_abs (T : Txt K mg) : mg "abs" = none := T.free (T.fq 14)
theorem Txt.n_sum (T : Txt K mg) : mg "sum" = none := T.free (T.fq 15)
theorem Txt.n_max (T : Txt K mg) : mg "max" = none := T.free (T.fq 16)
theorem Txt.n_min (T : Txt K mg) : mg "min" = none := T.free (T.fq 17)
theorem Txt.n_all (T : Txt K mg) : mg "all" = none := T.free (T.fq 18)
theorem Txt.n_sorted (T : Txt K mg) : mg "sorted" = none := T.free (T.fq 19)
theorem Txt.n_isinstance (T : Txt K mg) : mg "isinstance" = none := T.free (T.fq 20)
theorem Txt.n_iter (T : Txt K mg) : mg "iter" = none := T.free (T.fq 21)
theorem Txt.n_int (T : Txt K mg) : mg "int" = none := T.free (T.fq 22)
theorem Txt.n_list (T : Txt K mg) : mg "list" = none := T.free (T.fq 23)
theorem Txt.n_tuple (T : Txt K mg) : mg "tuple" = none := T.free (T.fq 24)
theorem Txt.n_range (T : Txt K mg) : mg "range" = none := T.free (T.fq 25)
theorem Txt.n_bool (T : Txt K mg) : mg "bool" = none := T.free (T.fq 26)
theorem Txt.n_str (T : Txt K mg) : mg "str" = none := T.free (T.fq 27)
theorem Txt.n_super (T : Txt K mg) : mg "super" = none := T.free (T.fq 28)
theorem Txt.clR (T : Txt K mg) : Cls K cR := T.cls (T.fq 29) (T.fq 32)
theorem Txt.clS (T : Txt K mg) : Cls K cS := T.cls (T.fq 30) (T.fq 33)
theorem Txt.clA (T : Txt K mg) : Cls K cA := T.cls (T.fq 31) (T.fq 34)
theorem Txt.R_top (T : Txt K mg) : NoAttr K cR "top" := T.find (T.fq 35)
theorem Txt.R_bottom (T : Txt K mg) : NoAttr K cR "bottom" := T.find (T.fq 36)
theorem Txt.S_hands (T : Txt K mg) : NoAttr K cS "hands" := T.find (T.fq 37)
theorem Txt.S__numbers (T : Txt K mg) : NoAttr K cS "_numbers" := T.find (T.fq 38)
theorem Txt.A__state (T : Txt K mg) : NoAttr K cA "_state" := T.find (T.fq 39)
theorem Txt.A__past (T : Txt K mg) : NoAttr K cA "_past" := T.find (T.fq 40)
theorem Txt.A__future (T : Txt K mg) : NoAttr K cA "_future" := T.find (T.fq 41)
theorem Txt.A__scale (T : Txt K mg) : NoAttr K cA "_scale" := T.find (T.fq 42)
theorem Txt.mt_below (T : Txt K mg) : Meth K cR "below" 509 := T.meth (T.fq 43) (T.fq 73)
theorem Txt.mt__deed (T : Txt K mg) : Meth K cA "_deed" 608 := T.meth (T.fq 44) (T.fq 74)
theorem Txt.mt_bidding (T : Txt K mg) : Meth K cA "bidding" 713 := T.meth (T.fq 45) (T.fq 75)
theorem Txt.pr_near (T : Txt K mg) : PropOf K cA "near" 674 673 := T.prop (T.fq 46) (T.fq 52)
theorem Txt.pr_far (T : Txt K mg) : PropOf K cA "far" 682 681 := T.prop (T.fq 47) (T.fq 53)
theorem Txt.pr_free (T : Txt K mg) : PropOf K cA "free" 690 689 := T.prop (T.fq 48) (T.fq 54)
theorem Txt.pr_purse (T : Txt K mg) : PropOf K cA "purse" 698 697 := T.prop (T.fq 49) (T.fq 55)
theorem Txt.pr_result (T : Txt K mg) : PropOf K cA "result" 706 705 := T.prop (T.fq 50) (T.fq 56)
theorem Txt.pr_deeds (T : Txt K mg) : PropOf K cA "deeds" 580 579 := T.prop (T.fq 51) (T.fq 57)
theorem Txt.mkR (T : Txt K mg) : Mk K cR 425 := T.mkC (T.fq 58) (T.fq 61) (T.fq 76)
theorem Txt.mkS (T : Txt K mg) : Mk K cS 764 := T.mkC (T.fq 59) (T.fq 62) (T.fq 77)
theorem Txt.mkA (T : Txt K mg) : Mk K cA 666 := T.mkC (T.fq 60) (T.fq 63) (T.fq 78)
theorem Txt.op_add (T : Txt K mg) : OpC K cR "add" 432 := ⟨(show PySem.W.selfFirst K cR = true from T.more 86 rfl), T.find (T.fq 64), (T.isf (T.fq 79)).1⟩
theorem Txt.op_sub (T : Txt K mg) : OpC K cR "sub" 446 := ⟨(show PySem.W.selfFirst K cR = true from T.more 86 rfl), T.find (T.fq 66), (T.isf (T.fq 80)).1⟩
theorem Txt.sp_rsub (T : Txt K mg) : PySem.W.findIn K (.ref cR) "__rsub__" = some (some (.ref 453)) ∧ PySem.W.isFn K (.ref 453) = true ∧ PySem.W.fnIn K 453 = true := ⟨T.find (T.fq 67), (T.isf (T.fq 81)).1, (T.isf (T.fq 81)).2.2⟩
theorem Txt.sp_neg (T : Txt K mg) : PySem.W.findIn K (.ref cR) "__neg__" = some (some (.ref 474)) ∧ PySem.W.isFn K (.ref 474) = true ∧ PySem.W.fnIn K 474 = true := ⟨T.find (T.fq 68), (T.isf (T.fq 82)).1, (T.isf (T.fq 82)).2.2⟩
theorem Txt.sp_getitem (T : Txt K mg) : PySem.W.findIn K (.ref cS) "__getitem__" = some (some (.ref 791)) ∧ PySem.W.isFn K (.ref 791) = true ∧ PySem.W.fnIn K 791 = true := ⟨T.find (T.fq 69), (T.isf (T.fq 83)).1, (T.isf (T.fq 83)).2.2⟩
theorem Txt.itS (T : Txt K mg) : ItT K cS 798 := ⟨T.find (T.fq 70), (T.isf (T.fq 84)).1, T.find (T.fq 71), T.find (T.fq 72)⟩
theorem Txt.radd (T : Txt K mg) : PySem.W.findIn K (.ref cR) "__radd__" = some (some (.ref 439)) := T.find (T.fq 65)
theorem Txt.d_check_hands (T : Txt K mg) : ∃ fd, FunD K "check_hands" "check_hands" (defArgs st_check_hands) (defBody st_check_hands) (defScope st_check_hands) [] [] 348 fd := T.def_ 0 rfl
theorem Txt.d_check_number (T : Txt K mg) : ∃ fd, FunD K "check_number" "check_number" (defArgs st_check_number) (defBody st_check_number) (defScope st_check_number) [] [] 355 fd := T.def_ 1 rfl
theorem Txt.d_check_length (T : Txt K mg) : ∃ fd, FunD K "check_length" "check_length" (defArgs st_check_length) (defBody st_check_length) (defScope st_check_length) [] [] 362 fd := T.def_ 2 rfl
theorem Txt.d_check_hand (T : Txt K mg) : ∃ fd, FunD K "check_hand" "check_hand" (defArgs st_check_hand) (defBody st_check_hand) (defScope st_check_hand) [] [] 369 fd := T.def_ 3 rfl
theorem Txt.d_mask_of (T : Txt K mg) : ∃ fd, FunD K "mask_of" "mask_of" (defArgs st_mask_of) (defBody st_mask_of) (defScope st_mask_of) [] [] 383 fd := T.def_ 4 rfl
theorem Txt.d_tuple_of (T : Txt K mg) : ∃ fd, FunD K "tuple_of" "tuple_of" (defArgs st_tuple_of) (defBody st_tuple_of) (defScope st_tuple_of) [] [] 388 fd := T.def_ 5 rfl
theorem Txt.d_has_hand (T : Txt K mg) : ∃ fd, FunD K "has_hand" "has_hand" (defArgs st_has_hand) (defBody st_has_hand) (defScope st_has_hand) [] [] 395 fd := T.def_ 6 rfl
theorem Txt.d_with_hand (T : Txt K mg) : ∃ fd, FunD K "with_hand" "with_hand" (defArgs st_with_hand) (defBody st_with_hand) (defScope st_with_hand) [] [] 402 fd := T.def_ 7 rfl
theorem Txt.d_rest_mask (T : Txt K mg) : ∃ fd, FunD K "rest_mask" "rest_mask" (defArgs st_rest_mask) (defBody st_rest_mask) (defScope st_rest_mask) [] [] 409 fd := T.def_ 8 rfl
theorem Txt.d_exact (T : Txt K mg) : ∃ fd, FunD K "exact" "exact" (defArgs st_exact) (defBody st_exact) (defScope st_exact) [] [] 530 fd := T.def_ 9 rfl
theorem Txt.d_is_fraction (T : Txt K mg) : ∃ fd, FunD K "is_fraction" "is_fraction" (defArgs st_is_fraction) (defBody st_is_fraction) (defScope st_is_fraction) [] [] 537 fd := T.def_ 10 rfl
theorem Txt.d_top_and_bottom (T : Txt K mg) : ∃ fd, FunD K "top_and_bottom" "top_and_bottom" (defArgs st_top_and_bottom) (defBody st_top_and_bottom) (defScope st_top_and_bottom) [] [] 544 fd := T.def_ 11 rfl
theorem Txt.d_is_less (T : Txt K mg) : ∃ fd, FunD K "is_less" "is_less" (defArgs st_is_less) (defBody st_is_less) (defScope st_is_less) [] [] 551 fd := T.def_ 12 rfl
theorem Txt.d_taken (T : Txt K mg) : ∃ fd, FunD K "taken" "taken" (defArgs st_taken) (defBody st_taken) (defScope st_taken) [] [] 558 fd := T.def_ 13 rfl
theorem Txt.d_check_stand (T : Txt K mg) : ∃ fd, FunD K "check_stand" "check_stand" (defArgs st_check_stand) (defBody st_check_stand) (defScope st_check_stand) [] [] 622 fd := T.def_ 14 rfl
theorem Txt.d_check_side (T : Txt K mg) : ∃ fd, FunD K "check_side" "check_side" (defArgs st_check_side) (defBody st_check_side) (defScope st_check_side) [] [] 629 fd := T.def_ 15 rfl
theorem Txt.d_free_hands (T : Txt K mg) : ∃ fd, FunD K "free_hands" "free_hands" (defArgs st_free_hands) (defBody st_free_hands) (defScope st_free_hands) [] [] 636 fd := T.def_ 16 rfl
theorem Txt.d_check_some_free (T : Txt K mg) : ∃ fd, FunD K "check_some_free" "check_some_free" (defArgs st_check_some_free) (defBody st_check_some_free) (defScope st_check_some_free) [] [] 643 fd := T.def_ 17 rfl
theorem Txt.d_check_free_hand (T : Txt K mg) : ∃ fd, FunD K "check_free_hand" "check_free_hand" (defArgs st_check_free_hand) (defBody st_check_free_hand) (defScope st_check_free_hand) [] [] 650 fd := T.def_ 18 rfl
theorem Txt.d_deals_of (T : Txt K mg) : ∃ fd, FunD K "deals_of" "deals_of" (defArgs st_deals_of) (defBody st_deals_of) (defScope st_deals_of) [] [] 723 fd := T.def_ 19 rfl
theorem Txt.d_least_share (T : Txt K mg) : ∃ fd, FunD K "least_share" "least_share" (defArgs st_least_share) (defBody st_least_share) (defScope st_least_share) [] [] 730 fd := T.def_ 20 rfl
theorem Txt.d_purse_lead (T : Txt K mg) : ∃ fd, FunD K "purse_lead" "purse_lead" (defArgs st_purse_lead) (defBody st_purse_lead) (defScope st_purse_lead) [] [] 735 fd := T.def_ 21 rfl
theorem Txt.d_told_bid (T : Txt K mg) : ∃ fd, FunD K "told_bid" "told_bid" (defArgs st_told_bid) (defBody st_told_bid) (defScope st_told_bid) [] [] 740 fd := T.def_ 22 rfl
theorem Txt.d_deal_numbers (T : Txt K mg) : ∃ fd, FunD K "deal_numbers" "deal_numbers" (defArgs st_deal_numbers) (defBody st_deal_numbers) (defScope st_deal_numbers) [] [] 745 fd := T.def_ 23 rfl
theorem Txt.d_many_below (T : Txt K mg) : ∃ fd, FunD K "many_below" "many_below" (defArgs st_many_below) (defBody st_many_below) (defScope st_many_below) [] [] 750 fd := T.def_ 24 rfl
theorem Txt.d_check_opposite (T : Txt K mg) : ∃ fd, FunD K "check_opposite" "check_opposite" (defArgs st_check_opposite) (defBody st_check_opposite) (defScope st_check_opposite) [] [] 858 fd := T.def_ 25 rfl
theorem Txt.d_check_rising (T : Txt K mg) : ∃ fd, FunD K "check_rising" "check_rising" (defArgs st_check_rising) (defBody st_check_rising) (defScope st_check_rising) [] [] 865 fd := T.def_ 26 rfl
theorem Txt.d__law_digit (T : Txt K mg) : ∃ fd, FunD K "_law_digit" "_law_digit" (defArgs st__law_digit) (defBody st__law_digit) (defScope st__law_digit) [] [] 900 fd := T.def_ 27 rfl
theorem Txt.d__law_same (T : Txt K mg) : ∃ fd, FunD K "_law_same" "_law_same" (defArgs st__law_same) (defBody st__law_same) (defScope st__law_same) [] [] 905 fd := T.def_ 28 rfl
theorem Txt.d__law_push (T : Txt K mg) : ∃ fd, FunD K "_law_push" "_law_push" (defArgs st__law_push) (defBody st__law_push) (defScope st__law_push) [] [] 912 fd := T.def_ 29 rfl
theorem Txt.d__law_pushed (T : Txt K mg) : ∃ fd, FunD K "_law_pushed" "_law_pushed" (defArgs st__law_pushed) (defBody st__law_pushed) (defScope st__law_pushed) [] [] 919 fd := T.def_ 30 rfl
theorem Txt.d__law_reduced (T : Txt K mg) : ∃ fd, FunD K "_law_reduced" "_law_reduced" (defArgs st__law_reduced) (defBody st__law_reduced) (defScope st__law_reduced) [] [] 926 fd := T.def_ 31 rfl
theorem Txt.d__law_deals (T : Txt K mg) : ∃ fd, FunD K "_law_deals" "_law_deals" (defArgs st__law_deals) (defBody st__law_deals) (defScope st__law_deals) [] [] 931 fd := T.def_ 32 rfl
theorem Txt.d__law_below (T : Txt K mg) : ∃ fd, FunD K "_law_below" "_law_below" (defArgs st__law_below) (defBody st__law_below) (defScope st__law_below) [] [] 936 fd := T.def_ 33 rfl
theorem Txt.d__law_bid_due (T : Txt K mg) : ∃ fd, FunD K "_law_bid_due" "_law_bid_due" (defArgs st__law_bid_due) (defBody st__law_bid_due) (defScope st__law_bid_due) [] [] 941 fd := T.def_ 34 rfl
theorem Txt.d__law_pair (T : Txt K mg) : ∃ fd, FunD K "_law_pair" "_law_pair" (defArgs st__law_pair) (defBody st__law_pair) (defScope st__law_pair) [] [] 948 fd := T.def_ 35 rfl
theorem Txt.d__law_no_more (T : Txt K mg) : ∃ fd, FunD K "_law_no_more" "_law_no_more" (defArgs st__law_no_more) (defBody st__law_no_more) (defScope st__law_no_more) [] [] 955 fd := T.def_ 36 rfl
theorem Txt.d__law_sum (T : Txt K mg) : ∃ fd, FunD K "_law_sum" "_law_sum" (defArgs st__law_sum) (defBody st__law_sum) (defScope st__law_sum) [] [] 962 fd := T.def_ 37 rfl
theorem Txt.d__law_value (T : Txt K mg) : ∃ fd, FunD K "_law_value" "_law_value" (defArgs st__law_value) (defBody st__law_value) (defScope st__law_value) [] [] 969 fd := T.def_ 38 rfl
theorem Txt.d__law_all_of (T : Txt K mg) : ∃ fd, FunD K "_law_all_of" "_law_all_of" (defArgs st__law_all_of) (defBody st__law_all_of) (defScope st__law_all_of) [] [] 976 fd := T.def_ 39 rfl
theorem Txt.d__law_any_bid (T : Txt K mg) : ∃ fd, FunD K "_law_any_bid" "_law_any_bid" (defArgs st__law_any_bid) (defBody st__law_any_bid) (defScope st__law_any_bid) [] [] 983 fd := T.def_ 40 rfl
theorem Txt.d__law_state_right (T : Txt K mg) : ∃ fd, FunD K "_law_state_right" "_law_state_right" (defArgs st__law_state_right) (defBody st__law_state_right) (defScope st__law_state_right) [] [] 988 fd := T.def_ 41 rfl
theorem Txt.d__law_wished (T : Txt K mg) : ∃ fd, FunD K "_law_wished" "_law_wished" (defArgs st__law_wished) (defBody st__law_wished) (defScope st__law_wished) [] [] 995 fd := T.def_ 42 rfl
theorem Txt.d__law_share (T : Txt K mg) : ∃ fd, FunD K "_law_share" "_law_share" (defArgs st__law_share) (defBody st__law_share) (defScope st__law_share) [] [] 1002 fd := T.def_ 43 rfl
theorem Txt.d__law_told_right (T : Txt K mg) : ∃ fd, FunD K "_law_told_right" "_law_told_right" (defArgs st__law_told_right) (defBody st__law_told_right) (defScope st__law_told_right) [] [] 1009 fd := T.def_ 44 rfl
theorem Txt.d__law_ended (T : Txt K mg) : ∃ fd, FunD K "_law_ended" "_law_ended" (defArgs st__law_ended) (defBody st__law_ended) (defScope st__law_ended) [] [] 1016 fd := T.def_ 45 rfl
theorem Txt.d__law_round_right (T : Txt K mg) : ∃ fd, FunD K "_law_round_right" "_law_round_right" (defArgs st__law_round_right) (defBody st__law_round_right) (defScope st__law_round_right) [] [] 1021 fd := T.def_ 46 rfl
theorem Txt.d_law (T : Txt K mg) : ∃ fd, FunD K "law" "law" (defArgs st_law) (defBody st_law) (defScope st_law) [] [] 1026 fd := T.def_ 47 rfl
theorem Txt.d_Ratio___add__ (T : Txt K mg) : ∃ fd, FunD K "__add__" "Ratio.__add__" (defArgs st_Ratio___add__) (defBody st_Ratio___add__) (defScope st_Ratio___add__) [] [] 432 fd := T.def_ 49 rfl
theorem Txt.d_Ratio___sub__ (T : Txt K mg) : ∃ fd, FunD K "__sub__" "Ratio.__sub__" (defArgs st_Ratio___sub__) (defBody st_Ratio___sub__) (defScope st_Ratio___sub__) [] [] 446 fd := T.def_ 50 rfl
theorem Txt.d_Ratio___rsub__ (T : Txt K mg) : ∃ fd, FunD K "__rsub__" "Ratio.__rsub__" (defArgs st_Ratio___rsub__) (defBody st_Ratio___rsub__) (defScope st_Ratio___rsub__) [] [] 453 fd := T.def_ 51 rfl
theorem Txt.d_Ratio___neg__ (T : Txt K mg) : ∃ fd, FunD K "__neg__" "Ratio.__neg__" (defArgs st_Ratio___neg__) (defBody st_Ratio___neg__) (defScope st_Ratio___neg__) [] [] 474 fd := T.def_ 52 rfl
theorem Txt.d_Ratio_below (T : Txt K mg) : ∃ fd, FunD K "below" "Ratio.below" (defArgs st_Ratio_below) (defBody st_Ratio_below) (defScope st_Ratio_below) [] [] 509 fd := T.def_ 53 rfl
theorem Txt.d_Undoable___init__ (T : Txt K mg) : ∃ fd, FunD K "__init__" "Undoable.__init__" (defArgs st_Undoable___init__) (defBody st_Undoable___init__) (defScope st_Undoable___init__) [] [] 572 fd := T.def_ 54 rfl
theorem Txt.d_Undoable_deeds (T : Txt K mg) : ∃ fd, FunD K "deeds" "Undoable.deeds" (defArgs st_Undoable_deeds) (defBody st_Undoable_deeds) (defScope st_Undoable_deeds) [] [] 579 fd := T.def_ 55 rfl
theorem Txt.d_Undoable__deed (T : Txt K mg) : ∃ fd, FunD K "_deed" "Undoable._deed" (defArgs st_Undoable__deed) (defBody st_Undoable__deed) (defScope st_Undoable__deed) [] [] 608 fd := T.def_ 56 rfl
theorem Txt.d_Auction_near (T : Txt K mg) : ∃ fd, FunD K "near" "Auction.near" (defArgs st_Auction_near) (defBody st_Auction_near) (defScope st_Auction_near) [] [] 673 fd := T.def_ 58 rfl
theorem Txt.d_Auction_far (T : Txt K mg) : ∃ fd, FunD K "far" "Auction.far" (defArgs st_Auction_far) (defBody st_Auction_far) (defScope st_Auction_far) [] [] 681 fd := T.def_ 59 rfl
theorem Txt.d_Auction_free (T : Txt K mg) : ∃ fd, FunD K "free" "Auction.free" (defArgs st_Auction_free) (defBody st_Auction_free) (defScope st_Auction_free) [] [] 689 fd := T.def_ 60 rfl
theorem Txt.d_Auction_purse (T : Txt K mg) : ∃ fd, FunD K "purse" "Auction.purse" (defArgs st_Auction_purse) (defBody st_Auction_purse) (defScope st_Auction_purse) [] [] 697 fd := T.def_ 61 rfl
theorem Txt.d_Auction_result (T : Txt K mg) : ∃ fd, FunD K "result" "Auction.result" (defArgs st_Auction_result) (defBody st_Auction_result) (defScope st_Auction_result) [] [] 705 fd := T.def_ 62 rfl
theorem Txt.d_Auction_bidding (T : Txt K mg) : ∃ fd, FunD K "bidding" "Auction.bidding" (defArgs st_Auction_bidding) (defBody st_Auction_bidding) (defScope st_Auction_bidding) [] [] 713 fd := T.def_ 63 rfl
theorem Txt.d_Scale___init__ (T : Txt K mg) : ∃ fd, FunD K "__init__" "Scale.__init__" (defArgs st_Scale___init__) (defBody st_Scale___init__) (defScope st_Scale___init__) [] [] 764 fd := T.def_ 64 rfl
theorem Txt.d_Scale___getitem__ (T : Txt K mg) : ∃ fd, FunD K "__getitem__" "Scale.__getitem__" (defArgs st_Scale___getitem__) (defBody st_Scale___getitem__) (defScope st_Scale___getitem__) [] [] 791 fd := T.def_ 65 rfl
theorem Txt.d_Scale___iter__ (T : Txt K mg) : ∃ fd, FunD K "__iter__" "Scale.__iter__" (defArgs st_Scale___iter__) (defBody st_Scale___iter__) (defScope st_Scale___iter__) [] [] 798 fd := T.def_ 66 rfl
theorem Txt.g_check_hands (T : Txt K mg) : mg "check_hands" = some (.ref 348) := T.glo (T.fbq 0)
theorem Txt.g_check_number (T : Txt K mg) : mg "check_number" = some (.ref 355) := T.glo (T.fbq 1)
theorem Txt.g_check_length (T : Txt K mg) : mg "check_length" = some (.ref 362) := T.glo (T.fbq 2)
theorem Txt.g_check_hand (T : Txt K mg) : mg "check_hand" = some (.ref 369) := T.glo (T.fbq 3)
theorem Txt.g_mask_of (T : Txt K mg) : mg "mask_of" = some (.ref 383) := T.glo (T.fbq 4)
theorem Txt.g_tuple_of (T : Txt K mg) : mg "tuple_of" = some (.ref 388) := T.glo (T.fbq 5)
theorem Txt.g_has_hand (T : Txt K mg) : mg "has_hand" = some (.ref 395) := T.glo (T.fbq 6)
theorem Txt.g_with_hand (T : Txt K mg) : mg "with_hand" = some (.ref 402) := T.glo (T.fbq 7)
theorem Txt.g_rest_mask (T : Txt K mg) : mg "rest_mask" = some (.ref 409) := T.glo (T.fbq 8)
theorem Txt.g_exact (T : Txt K mg) : mg "exact" = some (.ref 530) := T.glo (T.fbq 9)
theorem Txt.g_is_fraction (T : Txt K mg) : mg "is_fraction" = some (.ref 537) := T.glo (T.fbq 10)
theorem Txt.g_top_and_bottom (T : Txt K mg) : mg "top_and_bottom" = some (.ref 544) := T.glo (T.fbq 11)
theorem Txt.g_is_less (T : Txt K mg) : mg "is_less" = some (.ref 551) := T.glo (T.fbq 12)
theorem Txt.g_taken (T : Txt K mg) : mg "taken" = some (.ref 558) := T.glo (T.fbq 13)
theorem Txt.g_check_stand (T : Txt K mg) : mg "check_stand" = some (.ref 622) := T.glo (T.fbq 14)
theorem Txt.g_check_side (T : Txt K mg) : mg "check_side" = some (.ref 629) := T.glo (T.fbq 15)
theorem Txt.g_free_hands (T : Txt K mg) : mg "free_hands" = some (.ref 636) := T.glo (T.fbq 16)
theorem Txt.g_check_some_free (T : Txt K mg) : mg "check_some_free" = some (.ref 643) := T.glo (T.fbq 17)
theorem Txt.g_check_free_hand (T : Txt K mg) : mg "check_free_hand" = some (.ref 650) := T.glo (T.fbq 18)
theorem Txt.g_deals_of (T : Txt K mg) : mg "deals_of" = some (.ref 723) := T.glo (T.fbq 19)
theorem Txt.g_least_share (T : Txt K mg) : mg "least_share" = some (.ref 730) := T.glo (T.fbq 20)
theorem Txt.g_purse_lead (T : Txt K mg) : mg "purse_lead" = some (.ref 735) := T.glo (T.fbq 21)
theorem Txt.g_told_bid (T : Txt K mg) : mg "told_bid" = some (.ref 740) := T.glo (T.fbq 22)
theorem Txt.g_deal_numbers (T : Txt K mg) : mg "deal_numbers" = some (.ref 745) := T.glo (T.fbq 23)
theorem Txt.g_many_below (T : Txt K mg) : mg "many_below" = some (.ref 750) := T.glo (T.fbq 24)
theorem Txt.g_check_opposite (T : Txt K mg) : mg "check_opposite" = some (.ref 858) := T.glo (T.fbq 25)
theorem Txt.g_check_rising (T : Txt K mg) : mg "check_rising" = some (.ref 865) := T.glo (T.fbq 26)
theorem Txt.g__law_digit (T : Txt K mg) : mg "_law_digit" = some (.ref 900) := T.glo (T.fbq 27)
theorem Txt.g__law_same (T : Txt K mg) : mg "_law_same" = some (.ref 905) := T.glo (T.fbq 28)
theorem Txt.g__law_push (T : Txt K mg) : mg "_law_push" = some (.ref 912) := T.glo (T.fbq 29)
theorem Txt.g__law_pushed (T : Txt K mg) : mg "_law_pushed" = some (.ref 919) := T.glo (T.fbq 30)
theorem Txt.g__law_reduced (T : Txt K mg) : mg "_law_reduced" = some (.ref 926) := T.glo (T.fbq 31)
theorem Txt.g__law_deals (T : Txt K mg) : mg "_law_deals" = some (.ref 931) := T.glo (T.fbq 32)
theorem Txt.g__law_below (T : Txt K mg) : mg "_law_below" = some (.ref 936) := T.glo (T.fbq 33)
theorem Txt.g__law_bid_due (T : Txt K mg) : mg "_law_bid_due" = some (.ref 941) := T.glo (T.fbq 34)
theorem Txt.g__law_pair (T : Txt K mg) : mg "_law_pair" = some (.ref 948) := T.glo (T.fbq 35)
theorem Txt.g__law_no_more (T : Txt K mg) : mg "_law_no_more" = some (.ref 955) := T.glo (T.fbq 36)
theorem Txt.g__law_sum (T : Txt K mg) : mg "_law_sum" = some (.ref 962) := T.glo (T.fbq 37)
theorem Txt.g__law_value (T : Txt K mg) : mg "_law_value" = some (.ref 969) := T.glo (T.fbq 38)
theorem Txt.g__law_all_of (T : Txt K mg) : mg "_law_all_of" = some (.ref 976) := T.glo (T.fbq 39)
theorem Txt.g__law_any_bid (T : Txt K mg) : mg "_law_any_bid" = some (.ref 983) := T.glo (T.fbq 40)
theorem Txt.g__law_state_right (T : Txt K mg) : mg "_law_state_right" = some (.ref 988) := T.glo (T.fbq 41)
theorem Txt.g__law_wished (T : Txt K mg) : mg "_law_wished" = some (.ref 995) := T.glo (T.fbq 42)
theorem Txt.g__law_share (T : Txt K mg) : mg "_law_share" = some (.ref 1002) := T.glo (T.fbq 43)
theorem Txt.g__law_told_right (T : Txt K mg) : mg "_law_told_right" = some (.ref 1009) := T.glo (T.fbq 44)
theorem Txt.g__law_ended (T : Txt K mg) : mg "_law_ended" = some (.ref 1016) := T.glo (T.fbq 45)
theorem Txt.g__law_round_right (T : Txt K mg) : mg "_law_round_right" = some (.ref 1021) := T.glo (T.fbq 46)
theorem Txt.g_law (T : Txt K mg) : mg "law" = some (.ref 1026) := T.glo (T.fbq 47)
theorem Txt.opI (T : Txt K mg) : OpI K cR "add" := by
  obtain ⟨c1, c2⟩ := He.ba (T.more 87 rfl)
  obtain ⟨d1, d2⟩ := He.ba (T.more 88 rfl)
  exact ⟨⟨_, T.radd, .inr ⟨439, rfl⟩⟩, Option.isSome_iff_exists.mp c1, Option.isSome_iff_exists.mp c2, of_decide_eq_true d1⟩
theorem Txt.subRI (T : Txt K mg) : PySem.W.subIn K (.ref cR) (.type "int") = some false := of_decide_eq_true (He.ba (T.more 88 rfl)).2
theorem Txt.crR (T : Txt K mg) : ClX.CRead K cR (.type "type") := ⟨(He.ba (T.more 89 rfl)).1, of_decide_eq_true (He.ba (T.more 90 rfl)).1⟩
theorem Txt.crS (T : Txt K mg) : ClX.CRead K cS (.type "type") := ⟨(He.ba (T.more 89 rfl)).2, of_decide_eq_true (He.ba (T.more 90 rfl)).2⟩
theorem Txt.cvR (T : Txt K mg) : ∃ u, ClX.CVal K cR (.type "type") "BOTTOM" (.int 1000000) u := by
  have c := T.more 91 rfl
  split at c
  · rename_i i t e
    have ei : i = 1000000 := of_decide_eq_true c
    rw [ei] at e
    exact ⟨_, e, t, rfl⟩
  · cases c
theorem Txt.cvS (T : Txt K mg) : ∃ u, ClX.CVal K cS (.type "type") "MOST" (.int 1000000000) u := by
  have c := T.more 92 rfl
  split at c
  · rename_i i t e
    have ei : i = 1000000000 := of_decide_eq_true c
    rw [ei] at e
    exact ⟨_, e, t, rfl⟩
  · cases c
theorem Txt.tyR (T : Txt K mg) {H : Hp} {a dx : Addr} {fs : List (Str × V)} (h : H a = some (.ins cR dx fs)) : TyX K H (.ref a) (.ref cR) := by
  obtain ⟨c1, c2⟩ := He.ba (T.more 93 rfl)
  obtain ⟨c3, c4⟩ := He.ba c1
  obtain ⟨d1, d2⟩ := He.ba (T.more 94 rfl)
  exact .base (.ins h T.clR (of_decide_eq_true c3) (of_decide_eq_true d1) (of_decide_eq_true d2) (of_decide_eq_true c4))
theorem Txt.kRR (T : Txt K mg) : PySem.W.kitOne K (.ref cR) (.ref cR) = some true := of_decide_eq_true (He.ba (T.more 95 rfl)).1
theorem Txt.kIR (T : Txt K mg) : PySem.W.kitOne K (.type "int") (.ref cR) = some false := of_decide_eq_true (He.ba (T.more 95 rfl)).2
theorem Txt.exE (T : Txt K mg) : PySem.W.excIn K cE [.type "ValueError", .type "Exception", .type "BaseException", .type "object"] "ValueError.__new__" = true ∧ PySem.W.keepIn K (.ref cE) = true := He.ba (T.more 96 rfl)
theorem Txt.exB (T : Txt K mg) : PySem.W.subIn K (.ref cE) (.type "BaseException") = some true ∧ PySem.W.typeIn K (.ref cE) = some (.type "type") :=
  ⟨of_decide_eq_true (He.ba (T.more 97 rfl)).1, of_decide_eq_true (He.ba (T.more 97 rfl)).2⟩
theorem Txt.exM (T : Txt K mg) : PySem.W.exmOne K (.ref cE) (.ref cW) = some true := of_decide_eq_true (show decide (PySem.W.exmOne K (.ref cE) (.ref cW) = some true) = true from T.more 98 rfl)
theorem Txt.exC (T : Txt K mg) : ExcC K cE := by
  obtain ⟨c1, c2⟩ := He.ba (T.more 93 rfl)
  obtain ⟨c3, c4⟩ := He.ba c2
  obtain ⟨d1, d2⟩ := He.ba (T.more 94 rfl)
  exact ⟨T.find (T.fq 99), T.find (T.fq 100), T.exB.1, T.more 101 rfl, of_decide_eq_true c3, of_decide_eq_true d1, of_decide_eq_true d2, of_decide_eq_true c4⟩
theorem Txt.kEE (T : Txt K mg) : PySem.W.kitOne K (.ref cE) (.ref cE) = some true := of_decide_eq_true (He.ba (T.more 102 rfl)).1
theorem Txt.kEN (T : Txt K mg) : PySem.W.kitOne K (.ref cE) (.ref cN) = some false := of_decide_eq_true (He.ba (T.more 102 rfl)).2
end
end Wf

namespace Wf
/-! ## The mathematics, no program in sight: codes of lots, deals, counts -/
/-- the hands of a lot, ascending (houses of at most six hands) -/
def hOf (m : Nat) : List Nat := (List.range 6).filter fun h => m.testBit h
/-- the code of a list of hands -/
def mOf (l : List Nat) : Nat := l.foldl (fun m h => m ||| 2 ^ h) 0
/-- the deals of a stand -/
def dOf (n near far : Nat) : List Nat := (List.range (2 ^ n)).filter fun m => (m &&& near == near) && (m &&& far == 0)
def fOf (n near far : Nat) : List Nat := hOf (2 ^ n - 1 - (near + far))
def num (ns : List Int) (m : Nat) : Int := ns.getD m 0
/-- how many deals are below -/
def bel (ns : List Int) (n near far : Nat) (least : Int) : Nat := ((dOf n near far).filter fun m => decide (num ns m < least)).length
/-- the law's own way to the deals -/
def dLaw (near : Nat) (free : List Nat) : List Nat := free.foldl (fun l h => l ++ l.map fun c => c + 2 ^ h) [near]
structure Stand (n near far : Nat) : Prop where
  n6 : n ≤ 6
  nn : near < 2 ^ n
  ff : far < 2 ^ n
  ap : near &&& far = 0
/-! ### what is looked at stand by stand -/
def lookD (n near far : Nat) (fr D : List Nat) : Bool :=
  D.length == 2 ^ fr.length && D == dLaw near fr && (near + far < 2 ^ n) && mOf (hOf near) == near && mOf (hOf near).reverse == near && mOf (hOf far) == far && mOf (hOf far).reverse == far &&
  (hOf near).length + (hOf far).length + fr.length == n && (D.all fun m => decide (m < 2 ^ n)) && ((hOf near).all fun h => decide (h < n) && !far.testBit h) && ((hOf far).all fun h => decide (h < n) && !near.testBit h) &&
  fr.all fun h => decide (h < n) && !near.testBit h && !far.testBit h && !(near + far).testBit h && (near ||| 2 ^ h == near + 2 ^ h) && (near ||| 2 ^ h < 2 ^ n) && (far ||| 2 ^ h < 2 ^ n) && ((near ||| 2 ^ h) &&& far == 0) && (near &&& (far ||| 2 ^ h) == 0) &&
    (fOf n (near ||| 2 ^ h) far == fr.filter fun x => x != h) && (fOf n near (far ||| 2 ^ h) == fr.filter fun x => x != h) &&
    (dOf n (near ||| 2 ^ h) far == D.filter fun m => m.testBit h) && (dOf n near (far ||| 2 ^ h) == D.filter fun m => !m.testBit h) && (dOf n (near ||| 2 ^ h) far == (dOf n near (far ||| 2 ^ h)).map fun m => m ||| 2 ^ h) &&
    (hOf (near ||| 2 ^ h) == ((hOf near).filter fun x => decide (x < h)) ++ h :: ((hOf near).filter fun x => decide (h < x))) && (hOf (far ||| 2 ^ h) == ((hOf far).filter fun x => decide (x < h)) ++ h :: ((hOf far).filter fun x => decide (h < x)))
def look (n near far : Nat) : Bool := lookD n near far (fOf n near far) (dOf n near far)
def lookAll (n : Nat) : Bool := (List.range (2 ^ n)).all fun near => (List.range (2 ^ n)).all fun far => if near &&& far == 0 then look n near far else true
theorem look0 : lookAll 0 = true := by decide +kernel
theorem look1 : lookAll 1 = true := by decide +kernel
theorem look2 : lookAll 2 = true := by decide +kernel
theorem look3 : lookAll 3 = true := by decide +kernel
theorem look4 : lookAll 4 = true := by decide +kernel
theorem look5 : lookAll 5 = true := by decide +kernel
theorem look6 : lookAll 6 = true := by decide +kernel
end Wf

namespace Wf
theorem lookAll_of {n : Nat} (h : n ≤ 6) : lookAll n = true := by
  match n, h with
  | 0, _ => exact look0
  | 1, _ => exact look1
  | 2, _ => exact look2
  | 3, _ => exact look3
  | 4, _ => exact look4
  | 5, _ => exact look5
  | 6, _ => exact look6
  | k + 7, h => omega
theorem Stand.look {n near far : Nat} (S : Stand n near far) : look n near far = true := by
  have h := lookAll_of S.n6
  unfold lookAll at h
  have h1 := List.all_eq_true.mp (List.all_eq_true.mp h near (List.mem_range.mpr S.nn)) far (List.mem_range.mpr S.ff)
  rw [S.ap] at h1
  simpa using h1
/-- what holds of a stand -/
structure SFacts (n near far : Nat) : Prop where
  len : (dOf n near far).length = 2 ^ (fOf n near far).length
  law : dOf n near far = dLaw near (fOf n near far)
  sum : near + far < 2 ^ n
  mN : mOf (hOf near) = near
  mNr : mOf (hOf near).reverse = near
  mF : mOf (hOf far) = far
  mFr : mOf (hOf far).reverse = far
  cnt : (hOf near).length + (hOf far).length + (fOf n near far).length = n
  dlt : ∀ m ∈ dOf n near far, m < 2 ^ n
  hN : ∀ h ∈ hOf near, h < n ∧ far.testBit h = false
  hF : ∀ h ∈ hOf far, h < n ∧ near.testBit h = false
structure HFacts (n near far h : Nat) : Prop where
  lt : h < n
  nb : near.testBit h = false
  fb : far.testBit h = false
  sb : (near + far).testBit h = false
  add : near ||| 2 ^ h = near + 2 ^ h
  S1 : Stand n (near ||| 2 ^ h) far
  S2 : Stand n near (far ||| 2 ^ h)
  f1 : fOf n (near ||| 2 ^ h) far = (fOf n near far).filter fun x => x != h
  f2 : fOf n near (far ||| 2 ^ h) = (fOf n near far).filter fun x => x != h
  d1 : dOf n (near ||| 2 ^ h) far = (dOf n near far).filter fun m => m.testBit h
  d2 : dOf n near (far ||| 2 ^ h) = (dOf n near far).filter fun m => !m.testBit h
  d3 : dOf n (near ||| 2 ^ h) far = (dOf n near (far ||| 2 ^ h)).map fun m => m ||| 2 ^ h
  o1 : hOf (near ||| 2 ^ h) = ((hOf near).filter fun x => decide (x < h)) ++ h :: ((hOf near).filter fun x => decide (h < x))
  o2 : hOf (far ||| 2 ^ h) = ((hOf far).filter fun x => decide (x < h)) ++ h :: ((hOf far).filter fun x => decide (h < x))
theorem Stand.facts {n near far : Nat} (S : Stand n near far) : SFacts n near far ∧ ∀ h ∈ fOf n near far, HFacts n near far h := by
  have e := S.look
  unfold Wf.look lookD at e
  simp only [Bool.and_eq_true, beq_iff_eq, decide_eq_true_eq, List.all_eq_true, Bool.not_eq_true'] at e
  obtain ⟨⟨⟨⟨⟨⟨⟨⟨⟨⟨⟨e1, e2⟩, e3⟩, e4⟩, e5⟩, e6⟩, e7⟩, e8⟩, e9⟩, e10⟩, e11⟩, e12⟩ := e
  refine ⟨⟨e1, e2, e3, e4, e5, e6, e7, e8, e9, e10, e11⟩, fun h hh => ?_⟩
  obtain ⟨⟨⟨⟨⟨⟨⟨⟨⟨⟨⟨⟨⟨⟨⟨a1, a2⟩, a3⟩, a4⟩, a5⟩, a6⟩, a7⟩, a8⟩, a9⟩, a10⟩, a11⟩, a12⟩, a13⟩, a14⟩, a15⟩, a16⟩ := e12 h hh
  exact ⟨a1, a2, a3, a4, a5, ⟨S.n6, a6, S.ff, a8⟩, ⟨S.n6, S.nn, a7, a9⟩, a10, a11, a12, a13, a14, a15, a16⟩
theorem filter_two {α : Type} (p q : α → Bool) : ∀ l : List α, (l.filter p).length = ((l.filter q).filter p).length + ((l.filter fun x => !q x).filter p).length
  | [] => rfl
  | a :: r => by
    have ih := filter_two p q r
    by_cases hq : q a = true
    · by_cases hp : p a = true
      · simp [hq, hp, ih]; omega
      · simp [hq, hp, ih]
    · by_cases hp : p a = true
      · simp [hq, hp, ih]; omega
      · simp [hq, hp, ih]
theorem bel_split {ns : List Int} {n near far h : Nat} {least : Int} (S : Stand n near far) (hh : h ∈ fOf n near far) : bel ns n near far least = bel ns n (near ||| 2 ^ h) far least + bel ns n near (far ||| 2 ^ h) least := by
  have F := S.facts.2 h hh
  unfold bel
  rw [F.d1, F.d2]
  exact filter_two _ _ _
/-- a scale's numbers -/
structure Good (n : Nat) (ns : List Int) (B : Int) : Prop where
  len : ns.length = 2 ^ n
  opp : ∀ m, m < 2 ^ n → num ns m = -num ns (2 ^ n - 1 - m)
  ris : ∀ m h, m < 2 ^ n → h < n → num ns m ≤ num ns (m ||| 2 ^ h)
  lo : ∀ m, m < 2 ^ n → -B ≤ num ns m ∧ num ns m ≤ B
theorem filter_map_le {p q : Nat → Bool} {f : Nat → Nat} : ∀ {l : List Nat}, (∀ x ∈ l, p (f x) = true → q x = true) → ((l.map f).filter p).length ≤ (l.filter q).length
  | [], _ => Nat.le_refl _
  | a :: r, h => by
    have ih := filter_map_le (l := r) fun x hx => h x (List.mem_cons_of_mem _ hx)
    by_cases hp : p (f a) = true
    · have hq := h a List.mem_cons_self hp
      simp [hp, hq]; exact ih
    · by_cases hq : q a = true
      · simp [hp, hq]; omega
      · simp [hp, hq]; exact ih
theorem bel_mono {ns : List Int} {n near far h : Nat} {least B : Int} (G : Good n ns B) (S : Stand n near far) (hh : h ∈ fOf n near far) : bel ns n (near ||| 2 ^ h) far least ≤ bel ns n near (far ||| 2 ^ h) least := by
  have F := S.facts.2 h hh
  unfold bel
  rw [F.d3]
  refine filter_map_le fun m hm hp => ?_
  have lt := F.S2.facts.1.dlt m hm
  have r := G.ris m h lt F.lt
  have hp := of_decide_eq_true hp
  exact decide_eq_true (by omega)
theorem bel_le {ns : List Int} {n near far : Nat} {least : Int} (S : Stand n near far) : bel ns n near far least ≤ 2 ^ (fOf n near far).length := by
  rw [← S.facts.1.len]
  exact List.length_filter_le _ _
/-! ### greatest, least, first place -/
def maxL (l : List Nat) : Nat := l.foldl max 0
def minL : List Nat → Nat
  | [] => 0
  | a :: r => r.foldl min a
theorem foldl_max_le (l : List Nat) (a : Nat) : a ≤ l.foldl max a ∧ (∀ x ∈ l, x ≤ l.foldl max a) ∧ (l.foldl max a = a ∨ l.foldl max a ∈ l) := by
  induction l generalizing a with
  | nil => exact ⟨Nat.le_refl _, (fun x h => nomatch h), .inl rfl⟩
  | cons b r ih =>
    obtain ⟨h1, h2, h3⟩ := ih (max a b)
    refine ⟨by rw [List.foldl_cons]; omega, fun x hx => ?_, ?_⟩
    · rw [List.foldl_cons]
      rcases List.mem_cons.mp hx with rfl | hx
      · omega
      · exact h2 x hx
    · rw [List.foldl_cons]
      rcases h3 with h3 | h3
      · rw [h3]
        by_cases c : a ≤ b
        · exact .inr (by rw [Nat.max_eq_right c]; exact List.mem_cons_self)
        · exact .inl (by omega)
      · exact .inr (List.mem_cons_of_mem _ h3)
theorem foldl_min_le (l : List Nat) (a : Nat) : l.foldl min a ≤ a ∧ (∀ x ∈ l, l.foldl min a ≤ x) ∧ (l.foldl min a = a ∨ l.foldl min a ∈ l) := by
  induction l generalizing a with
  | nil => exact ⟨Nat.le_refl _, (fun x h => nomatch h), .inl rfl⟩
  | cons b r ih =>
    obtain ⟨h1, h2, h3⟩ := ih (min a b)
    refine ⟨by rw [List.foldl_cons]; omega, fun x hx => ?_, ?_⟩
    · rw [List.foldl_cons]
      rcases List.mem_cons.mp hx with rfl | hx
      · omega
      · exact h2 x hx
    · rw [List.foldl_cons]
      rcases h3 with h3 | h3
      · rw [h3]
        by_cases c : a ≤ b
        · exact .inl (by omega)
        · exact .inr (by rw [Nat.min_eq_right (by omega)]; exact List.mem_cons_self)
      · exact .inr (List.mem_cons_of_mem _ h3)
theorem maxL_ge {l : List Nat} {x : Nat} (h : x ∈ l) : x ≤ maxL l := (foldl_max_le l 0).2.1 x h
theorem maxL_mem {l : List Nat} (h : l ≠ []) : maxL l ∈ l := by
  rcases (foldl_max_le l 0).2.2 with e | e
  · cases l with
    | nil => exact absurd rfl h
    | cons a r =>
      have h1 := maxL_ge (l := a :: r) List.mem_cons_self
      have h2 : maxL (a :: r) = 0 := e
      have : a = 0 := by omega
      rw [h2, this]
      exact List.mem_cons_self
  · exact e
theorem minL_le {l : List Nat} {x : Nat} (h : x ∈ l) : minL l ≤ x := by
  cases l with
  | nil => cases h
  | cons a r =>
    rcases List.mem_cons.mp h with rfl | h
    · exact (foldl_min_le r _).1
    · exact (foldl_min_le r a).2.1 x h
theorem minL_mem {l : List Nat} (h : l ≠ []) : minL l ∈ l := by
  cases l with
  | nil => exact absurd rfl h
  | cons a r =>
    rcases (foldl_min_le r a).2.2 with e | e
    · show r.foldl min a ∈ a :: r
      rw [e]
      exact List.mem_cons_self
    · exact List.mem_cons_of_mem _ e
theorem maxL_eq {l : List Nat} {m : Nat} (h : m ∈ l) (hm : ∀ x ∈ l, x ≤ m) : m = maxL l := Nat.le_antisymm (maxL_ge h) (hm _ (maxL_mem (List.ne_nil_of_mem h)))
theorem minL_eq {l : List Nat} {m : Nat} (h : m ∈ l) (hm : ∀ x ∈ l, m ≤ x) : m = minL l := Nat.le_antisymm (hm _ (minL_mem (List.ne_nil_of_mem h))) (minL_le h)
/-! ### the bids -/
def hired (ns : List Int) (n near far : Nat) (least : Int) : List Nat := (fOf n near far).map fun h => bel ns n (near ||| 2 ^ h) far least
def lost (ns : List Int) (n near far : Nat) (least : Int) : List Nat := (fOf n near far).map fun h => bel ns n near (far ||| 2 ^ h) least
def pickN (ns : List Int) (n near far : Nat) (least : Int) : Nat := (fOf n near far).getD ((hired ns n near far least).idxOf (minL (hired ns n near far least))) 0
def pickF (ns : List Int) (n near far : Nat) (least : Int) : Nat := (fOf n near far).getD ((lost ns n near far least).idxOf (maxL (lost ns n near far least))) 0
theorem pick_at {f : Nat → Nat} {fr : List Nat} {m : Nat} (h : m ∈ fr.map f) : (fr.map f).idxOf m < fr.length ∧ fr.getD ((fr.map f).idxOf m) 0 ∈ fr ∧ f (fr.getD ((fr.map f).idxOf m) 0) = m := by
  have h1 : (fr.map f).idxOf m < (fr.map f).length := List.idxOf_lt_length_of_mem h
  have h2 : (fr.map f).idxOf m < fr.length := by simpa using h1
  have h3 : (fr.map f)[(fr.map f).idxOf m] = m := List.getElem_idxOf h1
  rw [List.getD_eq_getElem?_getD, List.getElem?_eq_getElem h2]
  refine ⟨h2, List.getElem_mem h2, ?_⟩
  rw [List.getElem_map] at h3
  exact h3
theorem picks {ns : List Int} {n near far : Nat} {least B : Int} (G : Good n ns B) (S : Stand n near far) (hf : fOf n near far ≠ []) :
    pickN ns n near far least ∈ fOf n near far ∧ bel ns n (near ||| 2 ^ pickN ns n near far least) far least = minL (hired ns n near far least) ∧ pickF ns n near far least ∈ fOf n near far ∧
    minL (hired ns n near far least) + maxL (lost ns n near far least) = bel ns n near far least ∧ minL (hired ns n near far least) ≤ maxL (lost ns n near far least) ∧
    ∀ h ∈ fOf n near far, bel ns n near (far ||| 2 ^ h) least ≤ maxL (lost ns n near far least) := by
  have n1 : hired ns n near far least ≠ [] := by unfold hired; simpa using hf
  have n2 : lost ns n near far least ≠ [] := by unfold lost; simpa using hf
  have m1 := minL_mem n1
  have m2 := maxL_mem n2
  obtain ⟨_, a1, a2⟩ := pick_at m1
  obtain ⟨_, b1, b2⟩ := pick_at m2
  have ex1 := m1
  have ex2 := m2
  unfold hired at ex1
  unfold lost at ex2
  obtain ⟨h1, hh1, e1⟩ := List.mem_map.mp ex1
  obtain ⟨h2, hh2, e2⟩ := List.mem_map.mp ex2
  have s1 := bel_split (ns := ns) (least := least) S hh1
  have s2 := bel_split (ns := ns) (least := least) S hh2
  have l1 : bel ns n near (far ||| 2 ^ h1) least ≤ maxL (lost ns n near far least) := maxL_ge (List.mem_map_of_mem hh1)
  have l2 : minL (hired ns n near far least) ≤ bel ns n (near ||| 2 ^ h2) far least := minL_le (List.mem_map_of_mem hh2)
  have mo := bel_mono (least := least) G S hh1
  refine ⟨a1, a2, b1, ?_, ?_, fun h hh => maxL_ge (List.mem_map_of_mem hh)⟩
  · unfold hired lost at *
    omega
  · unfold hired lost at *
    omega
end Wf

namespace Wf
/-! ## Fractions in lowest terms -/
def gI (t b : Int) : Int := ((Nat.gcd t.natAbs b.natAbs : Nat) : Int)
def exT (t b : Int) : Int := t / gI t b
def exB (t b : Int) : Int := b / gI t b
structure Low (t b : Int) : Prop where
  pos : 0 < b
  cop : Nat.gcd t.natAbs b.natAbs = 1
theorem gI_pos {t b : Int} (h : 0 < b) : 0 < gI t b := by
  unfold gI
  have : 0 < Nat.gcd t.natAbs b.natAbs := Nat.gcd_pos_of_pos_right _ (by omega)
  omega
theorem gI_t (t b : Int) : gI t b ∣ t := Int.ofNat_dvd_left.mpr (Nat.gcd_dvd_left _ _)
theorem gI_b (t b : Int) : gI t b ∣ b := Int.ofNat_dvd_left.mpr (Nat.gcd_dvd_right _ _)
theorem ex_t (t b : Int) : exT t b * gI t b = t := Int.ediv_mul_cancel (gI_t t b)
theorem ex_b (t b : Int) : exB t b * gI t b = b := Int.ediv_mul_cancel (gI_b t b)
theorem exB_pos {t b : Int} (h : 0 < b) : 0 < exB t b := by
  have g := gI_pos (t := t) h
  have e := ex_b t b
  by_cases c : 0 < exB t b
  · exact c
  · have : exB t b * gI t b ≤ 0 := Int.mul_nonpos_of_nonpos_of_nonneg (by omega) (by omega)
    omega
theorem ex_low {t b : Int} (h : 0 < b) : Low (exT t b) (exB t b) := by
  refine ⟨exB_pos h, ?_⟩
  have g : 0 < Nat.gcd t.natAbs b.natAbs := Nat.gcd_pos_of_pos_right _ (by omega)
  have e : (gI t b).natAbs = Nat.gcd t.natAbs b.natAbs := by unfold gI; simp
  have e1 : (exT t b).natAbs * Nat.gcd t.natAbs b.natAbs = t.natAbs := by rw [← e, ← Int.natAbs_mul, ex_t]
  have e2 : (exB t b).natAbs * Nat.gcd t.natAbs b.natAbs = b.natAbs := by rw [← e, ← Int.natAbs_mul, ex_b]
  rw [Nat.eq_div_of_mul_eq_left (by omega) e1, Nat.eq_div_of_mul_eq_left (by omega) e2]
  exact Nat.coprime_div_gcd_div_gcd g
theorem Low.ex {t b : Int} (h : Low t b) : exT t b = t ∧ exB t b = b := by
  unfold exT exB gI
  rw [h.cop]
  exact ⟨Int.ediv_one _, Int.ediv_one _⟩
/-- lowest terms are one -/
theorem low_uniq {t1 b1 t2 b2 : Int} (h1 : Low t1 b1) (h2 : Low t2 b2) (e : t1 * b2 = t2 * b1) : t1 = t2 ∧ b1 = b2 := by
  have hp1 := h1.pos
  have hp2 := h2.pos
  have d1 : b1.natAbs ∣ b2.natAbs := by
    have : b1.natAbs ∣ t1.natAbs * b2.natAbs := by rw [← Int.natAbs_mul, e, Int.natAbs_mul]; exact Nat.dvd_mul_left _ _
    exact (Nat.Coprime.symm h1.cop).dvd_of_dvd_mul_left this
  have d2 : b2.natAbs ∣ b1.natAbs := by
    have : b2.natAbs ∣ t2.natAbs * b1.natAbs := by rw [← Int.natAbs_mul, ← e, Int.natAbs_mul]; exact Nat.dvd_mul_left _ _
    exact (Nat.Coprime.symm h2.cop).dvd_of_dvd_mul_left this
  have eb : b1 = b2 := by have := Nat.dvd_antisymm d1 d2; omega
  subst eb
  exact ⟨Int.eq_of_mul_eq_mul_right (by omega) e, rfl⟩
theorem ex_cross {t b : Int} (h : 0 < b) : exT t b * b = t * exB t b := by
  have h1 := ex_t t b
  have h2 := ex_b t b
  have : exT t b * (exB t b * gI t b) = exT t b * gI t b * exB t b := by rw [Int.mul_assoc, Int.mul_comm (gI t b)]
  rw [h1, h2] at this
  exact this
theorem ex_eq {t1 b1 t2 b2 : Int} (p1 : 0 < b1) (p2 : 0 < b2) (e : t1 * b2 = t2 * b1) : exT t1 b1 = exT t2 b2 ∧ exB t1 b1 = exB t2 b2 := by
  refine low_uniq (ex_low p1) (ex_low p2) ?_
  have c1 := ex_cross (t := t1) p1
  have c2 := ex_cross (t := t2) p2
  have h : exT t1 b1 * exB t2 b2 * (b1 * b2) = exT t2 b2 * exB t1 b1 * (b1 * b2) := by
    calc exT t1 b1 * exB t2 b2 * (b1 * b2) = (exT t1 b1 * b1) * (exB t2 b2 * b2) := by rw [Int.mul_assoc, Int.mul_left_comm (exB t2 b2), ← Int.mul_assoc]
      _ = (t1 * exB t1 b1) * (exB t2 b2 * b2) := by rw [c1]
      _ = (t1 * b2) * (exB t1 b1 * exB t2 b2) := by simp only [Int.mul_assoc, Int.mul_comm, Int.mul_left_comm]
      _ = (t2 * b1) * (exB t1 b1 * exB t2 b2) := by rw [e]
      _ = (t2 * exB t2 b2) * (exB t1 b1 * b1) := by simp only [Int.mul_assoc, Int.mul_comm, Int.mul_left_comm]
      _ = (exT t2 b2 * b2) * (exB t1 b1 * b1) := by rw [c2]
      _ = exT t2 b2 * exB t1 b1 * (b1 * b2) := by simp only [Int.mul_assoc, Int.mul_comm, Int.mul_left_comm]
  exact Int.eq_of_mul_eq_mul_right (by have := Int.mul_pos p1 p2; omega) h
theorem Low.of_cross {t b x y : Int} (h : Low t b) (hy : 0 < y) (e : x * b = t * y) : exT x y = t ∧ exB x y = b := by
  have := ex_eq hy h.pos e
  rw [h.ex.1, h.ex.2] at this
  exact this
/-- an order survives -/
theorem ex_le {t b x y : Int} (h : 0 < b) : exT t b * y ≤ x * exB t b ↔ t * y ≤ x * b := by
  have g := gI_pos (t := t) h
  have e1 := ex_t t b
  have e2 := ex_b t b
  have i1 : exT t b * y * gI t b = t * y := by rw [Int.mul_right_comm, e1]
  have i2 : x * exB t b * gI t b = x * b := by rw [Int.mul_assoc, e2]
  rw [← i1, ← i2]
  exact ⟨fun q => Int.mul_le_mul_of_nonneg_right q (by omega), fun q => Int.le_of_mul_le_mul_right q g⟩
theorem le_ex {t b x y : Int} (h : 0 < b) : x * exB t b ≤ exT t b * y ↔ x * b ≤ t * y := by
  have g := gI_pos (t := t) h
  have e1 := ex_t t b
  have e2 := ex_b t b
  have i1 : exT t b * y * gI t b = t * y := by rw [Int.mul_right_comm, e1]
  have i2 : x * exB t b * gI t b = x * b := by rw [Int.mul_assoc, e2]
  rw [← i1, ← i2]
  exact ⟨fun q => Int.mul_le_mul_of_nonneg_right q (by omega), fun q => Int.le_of_mul_le_mul_right q g⟩
/-- the bottom divides whatever the fraction may be told with -/
theorem exB_dvd {t b z D : Int} (h : 0 < b) (e : t * D = z * b) : exB t b ∣ D := by
  have L := ex_low (t := t) h
  have c := ex_cross (t := t) h
  have e2 : exT t b * D * b = z * exB t b * b := by
    calc exT t b * D * b = (exT t b * b) * D := by rw [Int.mul_right_comm]
      _ = (t * exB t b) * D := by rw [c]
      _ = (t * D) * exB t b := by rw [Int.mul_right_comm]
      _ = z * b * exB t b := by rw [e]
      _ = z * exB t b * b := by rw [Int.mul_right_comm]
  have e3 : exT t b * D = z * exB t b := Int.eq_of_mul_eq_mul_right (by omega) e2
  have : (exB t b).natAbs ∣ (exT t b).natAbs * D.natAbs := by rw [← Int.natAbs_mul, e3, Int.natAbs_mul]; exact Nat.dvd_mul_left _ _
  exact Int.natAbs_dvd_natAbs.mp ((Nat.Coprime.symm L.cop).dvd_of_dvd_mul_left this)
theorem exB_dvd_b {t b : Int} : exB t b ∣ b := ⟨gI t b, (ex_b t b).symm⟩
theorem exB_le {t b : Int} (h : 0 < b) : exB t b ≤ b := Int.le_of_dvd h exB_dvd_b
theorem exT_nonneg {t b : Int} (h : 0 < b) (ht : 0 ≤ t) : 0 ≤ exT t b := Int.ediv_nonneg ht (Int.le_of_lt (gI_pos h))
/-- a sum's bottom -/
theorem sum_dvd {t1 b1 t2 b2 s D : Int} (h1 : 0 < b1) (h2 : 0 < b2) (d1 : b1 ∣ D) (d2 : b2 ∣ D) : exB (t1 * b2 + s * t2 * b1) (b1 * b2) ∣ D := by
  obtain ⟨c1, rfl⟩ := d1
  obtain ⟨c2, e⟩ := d2
  refine exB_dvd (z := t1 * c1 + s * t2 * c2) (Int.mul_pos h1 h2) ?_
  have e1 : t1 * b2 * (b1 * c1) = t1 * c1 * (b1 * b2) := by simp only [Int.mul_assoc, Int.mul_comm, Int.mul_left_comm]
  have e2 : s * t2 * b1 * (b1 * c1) = s * t2 * c2 * (b1 * b2) := by
    rw [e]
    simp only [Int.mul_assoc, Int.mul_comm, Int.mul_left_comm]
  rw [Int.add_mul, Int.add_mul, e1, e2]
/-! ### Euclid's loop -/
def stE (p : Nat × Nat) : Nat × Nat := if 0 < p.2 then (p.2, p.1 % p.2) else p
def itE (p : Nat × Nat) : Nat → Nat × Nat
  | 0 => p
  | k + 1 => stE (itE p k)
theorem stE_gcd (p : Nat × Nat) : Nat.gcd (stE p).1 (stE p).2 = Nat.gcd p.1 p.2 := by
  unfold stE
  split
  · rw [Nat.gcd_comm p.1 p.2, Nat.gcd_rec p.2 p.1, Nat.gcd_comm]
  · rfl
theorem itE_gcd (p : Nat × Nat) : ∀ k, Nat.gcd (itE p k).1 (itE p k).2 = Nat.gcd p.1 p.2
  | 0 => rfl
  | k + 1 => (stE_gcd _).trans (itE_gcd p k)
theorem stE_half (p : Nat × Nat) : 2 * (stE (stE p)).2 ≤ p.2 := by
  unfold stE
  by_cases h : 0 < p.2
  · rw [if_pos h]
    by_cases h2 : 0 < p.1 % p.2
    · rw [if_pos h2]
      show 2 * (p.2 % (p.1 % p.2)) ≤ p.2
      have lt := Nat.mod_lt p.1 h
      have l2 := Nat.mod_lt p.2 h2
      have e := Nat.div_add_mod p.2 (p.1 % p.2)
      have q : 1 ≤ p.2 / (p.1 % p.2) := Nat.div_pos (Nat.le_of_lt lt) h2
      have m : (p.1 % p.2) * 1 ≤ (p.1 % p.2) * (p.2 / (p.1 % p.2)) := Nat.mul_le_mul_left _ q
      omega
    · rw [if_neg h2]
      show 2 * (p.1 % p.2) ≤ p.2
      omega
  · rw [if_neg h, if_neg h]
    omega
theorem itE_half (p : Nat × Nat) : ∀ j, 2 ^ j * (itE p (2 * j)).2 ≤ p.2
  | 0 => by simp [itE]
  | j + 1 => by
    have ih := itE_half p j
    have h := stE_half (itE p (2 * j))
    have e : itE p (2 * (j + 1)) = stE (stE (itE p (2 * j))) := rfl
    rw [e, Nat.pow_succ, Nat.mul_assoc]
    exact Nat.le_trans (Nat.mul_le_mul_left _ h) ih
theorem itE_end {b a : Nat} (h : a < 2 ^ 100) : itE (b, a) 200 = (Nat.gcd b a, 0) := by
  have h1 := itE_half (b, a) 100
  have h2 : (itE (b, a) 200).2 = 0 := by
    have : 2 ^ 100 * (itE (b, a) 200).2 ≤ a := h1
    by_cases c : (itE (b, a) 200).2 = 0
    · exact c
    · have : 2 ^ 100 * 1 ≤ 2 ^ 100 * (itE (b, a) 200).2 := Nat.mul_le_mul_left _ (by omega)
      omega
  have h3 := itE_gcd (b, a) 200
  rw [h2, Nat.gcd_zero_right] at h3
  exact Prod.ext h3 h2
end Wf

namespace Wf
/-! ## A push keeps a scale a scale -/
theorem cmp_mask : ∀ n < 7, ∀ S < 2 ^ n, ∀ m < 2 ^ n, ((2 ^ n - 1 - S) &&& m == m) = (S &&& m == 0) := by decide +kernel
theorem cmp_mask2 {n S m : Nat} (hn : n ≤ 6) (hS : S < 2 ^ n) (hm : m < 2 ^ n) : ((2 ^ n - 1 - S) &&& m == 0) = (S &&& m == m) := by
  have h := cmp_mask n (by omega) (2 ^ n - 1 - S) (by omega) m hm
  rw [← h]
  have e : 2 ^ n - 1 - (2 ^ n - 1 - S) = S := by omega
  rw [e]
theorem up_mask {S h m : Nat} (e : S &&& m = m) : (S ||| 2 ^ h) &&& m = m := by
  refine Nat.eq_of_testBit_eq fun i => ?_
  have z := congrArg (fun x => x.testBit i) e
  simp only [Nat.testBit_and, Nat.testBit_or] at z ⊢
  cases hm : m.testBit i <;> simp_all
theorem dn_mask {S h m : Nat} (e : (S ||| 2 ^ h) &&& m = 0) : S &&& m = 0 := by
  refine Nat.eq_of_testBit_eq fun i => ?_
  have z := congrArg (fun x => x.testBit i) e
  simp only [Nat.testBit_and, Nat.testBit_or, Nat.zero_testBit] at z ⊢
  cases hm : m.testBit i <;> simp_all
/-- the numbers after i turns -/
def gP (ns : List Int) (n m : Nat) (v : Int) (i S : Nat) : Int := if S &&& m = m ∧ S < i then max (num ns S) v else if S &&& m = 0 ∧ 2 ^ n - 1 - S < i then min (num ns S) (-v) else num ns S
theorem num_set {ns : List Int} {a : Nat} {v : Int} (h : a < ns.length) (x : Nat) : num (ns.set a v) x = if x = a then v else num ns x := by
  unfold num
  rw [List.getD_eq_getElem?_getD, List.getD_eq_getElem?_getD]
  by_cases e : x = a
  · subst e; rw [if_pos rfl, List.getElem?_set_self h]; rfl
  · rw [if_neg e, List.getElem?_set_ne (fun z => e z.symm)]
section
variable {ns : List Int} {n m i S : Nat} {v : Int}
theorem gP_in (e : S &&& m = m) (h : S < i) : gP ns n m v i S = max (num ns S) v := if_pos ⟨e, h⟩
theorem gP_in' (m0 : 0 < m) (e : S &&& m = m) (h : ¬ S < i) : gP ns n m v i S = num ns S := by
  unfold gP
  rw [if_neg (c := S &&& m = m ∧ _) (fun z => h z.2), if_neg (c := S &&& m = 0 ∧ _) (fun z => by have := z.1; omega)]
theorem gP_out (m0 : 0 < m) (e : S &&& m = 0) (h : 2 ^ n - 1 - S < i) : gP ns n m v i S = min (num ns S) (-v) := by
  unfold gP
  rw [if_neg (c := S &&& m = m ∧ _) (fun z => by have := z.1; omega), if_pos ⟨e, h⟩]
theorem gP_out' (m0 : 0 < m) (e : S &&& m = 0) (h : ¬ 2 ^ n - 1 - S < i) : gP ns n m v i S = num ns S := by
  unfold gP
  rw [if_neg (c := S &&& m = m ∧ _) (fun z => by have := z.1; omega), if_neg (c := S &&& m = 0 ∧ _) (fun z => h z.2)]
theorem gP_no (e : ¬ S &&& m = m) (e0 : ¬ S &&& m = 0) : gP ns n m v i S = num ns S := by
  unfold gP
  rw [if_neg (c := S &&& m = m ∧ _) (fun z => e z.1), if_neg (c := S &&& m = 0 ∧ _) (fun z => e0 z.1)]
/-- where S's turn is past -/
theorem gP_same {j : Nat} (m0 : 0 < m) (h1 : S &&& m = m → (S < i ↔ S < j)) (h2 : S &&& m = 0 → (2 ^ n - 1 - S < i ↔ 2 ^ n - 1 - S < j)) : gP ns n m v i S = gP ns n m v j S := by
  by_cases a : S &&& m = m
  · by_cases b : S < i
    · rw [gP_in a b, gP_in a ((h1 a).mp b)]
    · rw [gP_in' m0 a b, gP_in' m0 a fun z => b ((h1 a).mpr z)]
  · by_cases a0 : S &&& m = 0
    · by_cases b : 2 ^ n - 1 - S < i
      · rw [gP_out m0 a0 b, gP_out m0 a0 ((h2 a0).mp b)]
      · rw [gP_out' m0 a0 b, gP_out' m0 a0 fun z => b ((h2 a0).mpr z)]
    · rw [gP_no a a0, gP_no a a0]
end
theorem gP_step {ns arr : List Int} {n m i : Nat} {v B : Int} (G : Good n ns B) (hn : n ≤ 6) (m0 : 0 < m) (hm : m < 2 ^ n) (hi : i < 2 ^ n) (hl : arr.length = 2 ^ n) (ha : ∀ S, S < 2 ^ n → num arr S = gP ns n m v i S) :
    (¬(i &&& m = m ∧ num arr i < v) → ∀ S, S < 2 ^ n → num arr S = gP ns n m v (i + 1) S) ∧
    (i &&& m = m ∧ num arr i < v → ∀ S, S < 2 ^ n → num ((arr.set i v).set (2 ^ n - 1 - i) (-v)) S = gP ns n m v (i + 1) S) := by
  have at_i : i &&& m = m → num arr i = num ns i := fun e => by rw [ha i hi, gP_in' m0 e (by omega)]
  have cm := cmp_mask n (by omega) i hi m hm
  have cm2 := cmp_mask2 hn hi hm
  refine ⟨fun hc S hS => ?_, fun hc S hS => ?_⟩
  · rw [ha S hS]
    have oS := G.opp S hS
    by_cases e2 : S = i ∧ S &&& m = m
    · obtain ⟨rfl, e1⟩ := e2
      have h1 := at_i e1
      have : ¬ num arr S < v := fun z => hc ⟨e1, z⟩
      rw [gP_in' m0 e1 (by omega), gP_in e1 (by omega)]
      omega
    · by_cases e3 : 2 ^ n - 1 - S = i ∧ S &&& m = 0
      · obtain ⟨e4, e5⟩ := e3
        have h2 := cmp_mask n (by omega) S hS m hm
        rw [e4, e5] at h2
        have h3 : i &&& m = m := by simpa using h2
        have h1 := at_i h3
        have nv : ¬ num arr i < v := fun z => hc ⟨h3, z⟩
        rw [e4] at oS
        rw [gP_out' m0 e5 (by omega), gP_out m0 e5 (by omega)]
        omega
      · refine gP_same m0 (fun a => ?_) fun a => ?_
        · have : S ≠ i := fun z => e2 ⟨z, a⟩
          omega
        · have : 2 ^ n - 1 - S ≠ i := fun z => e3 ⟨z, a⟩
          omega
  · obtain ⟨c1, c2⟩ := hc
    have h1 := at_i c1
    have i0 : ¬ i &&& m = 0 := by omega
    have c1b : (i &&& m == m) = true := by simpa using c1
    have z0 : (2 ^ n - 1 - i) &&& m = 0 := by rw [c1b] at cm2; simpa using cm2
    have cne : 2 ^ n - 1 - i ≠ i := fun z => i0 (by rw [z] at z0; exact z0)
    rw [num_set (by rw [List.length_set]; omega), num_set (by omega)]
    by_cases e1 : S = 2 ^ n - 1 - i
    · rw [if_pos e1]
      have s0 : S &&& m = 0 := by rw [e1]; exact z0
      have e2 : 2 ^ n - 1 - S = i := by omega
      have oS := G.opp S hS
      rw [e2] at oS
      rw [gP_out m0 s0 (by omega)]
      omega
    · rw [if_neg e1]
      by_cases e2 : S = i
      · subst e2
        rw [if_pos rfl, gP_in c1 (by omega)]
        omega
      · rw [if_neg e2, ha S hS]
        exact gP_same m0 (fun _ => by omega) fun _ => by omega
theorem gP_good {ns arr : List Int} {n m : Nat} {v B C : Int} (G : Good n ns B) (hn : n ≤ 6) (m0 : 0 < m) (hm : m < 2 ^ n) (hl : arr.length = 2 ^ n) (ha : ∀ S, S < 2 ^ n → num arr S = gP ns n m v (2 ^ n) S) (h1 : B ≤ C) (h2 : -C ≤ v) (h3 : v ≤ C) : Good n arr C := by
  refine ⟨hl, fun S hS => ?_, fun S h hS hh => ?_, fun S hS => ?_⟩
  · have hS' : 2 ^ n - 1 - S < 2 ^ n := by omega
    rw [ha S hS, ha _ hS']
    have o := G.opp S hS
    have cm := cmp_mask n (by omega) S hS m hm
    have cm2 := cmp_mask2 hn hS hm
    by_cases a1 : S &&& m = m
    · have b0 : (2 ^ n - 1 - S) &&& m = 0 := by rw [a1] at cm2; simpa using cm2
      rw [gP_in a1 hS, gP_out m0 b0 (by omega)]
      omega
    · by_cases a0 : S &&& m = 0
      · have b1 : (2 ^ n - 1 - S) &&& m = m := by rw [a0] at cm; simpa using cm
        rw [gP_out m0 a0 hS', gP_in b1 hS']
        omega
      · have b1 : ¬ (2 ^ n - 1 - S) &&& m = m := fun z => a0 (by rw [z] at cm; simpa using cm.symm)
        have b0 : ¬ (2 ^ n - 1 - S) &&& m = 0 := fun z => a1 (by rw [z] at cm2; simpa using cm2.symm)
        rw [gP_no a1 a0, gP_no b1 b0]
        exact o
  · have hS' : S ||| 2 ^ h < 2 ^ n := Nat.or_lt_two_pow hS (Nat.pow_lt_pow_right (by decide) hh)
    rw [ha S hS, ha _ hS']
    have r := G.ris S h hS hh
    have q1 : 2 ^ n - 1 - S < 2 ^ n := by omega
    have q2 : 2 ^ n - 1 - (S ||| 2 ^ h) < 2 ^ n := by omega
    by_cases a1 : S &&& m = m
    · rw [gP_in a1 hS, gP_in (up_mask a1) hS']
      omega
    · by_cases b1 : (S ||| 2 ^ h) &&& m = m
      · rw [gP_in b1 hS']
        by_cases a0 : S &&& m = 0
        · rw [gP_out m0 a0 q1]; omega
        · rw [gP_no a1 a0]; omega
      · by_cases b0 : (S ||| 2 ^ h) &&& m = 0
        · rw [gP_out m0 (dn_mask b0) q1, gP_out m0 b0 q2]
          omega
        · rw [gP_no b1 b0]
          by_cases a0 : S &&& m = 0
          · rw [gP_out m0 a0 q1]; omega
          · rw [gP_no a1 a0]; exact r
  · have b := G.lo S hS
    rw [ha S hS]
    unfold gP
    split
    · omega
    · split <;> omega
/-- the scale of nothing -/
theorem good0 {n : Nat} : Good n (List.replicate (2 ^ n) 0) 0 := by
  have z : ∀ m, num (List.replicate (2 ^ n) 0) m = 0 := fun m => by
    unfold num
    rw [List.getD_eq_getElem?_getD, List.getElem?_replicate]
    split <;> rfl
  exact ⟨List.length_replicate, fun m _ => by rw [z, z]; rfl, fun m h _ _ => by rw [z, z]; exact Int.le_refl _, fun m _ => by rw [z]; decide⟩
/-- a multiple -/
theorem good_mul {n : Nat} {ns : List Int} {B f C : Int} (G : Good n ns B) (f0 : 0 ≤ f) (hC : f * B ≤ C) : Good n (ns.map fun x => f * x) C := by
  have z : ∀ m, num (ns.map fun x => f * x) m = f * num ns m := fun m => by
    unfold num
    rw [List.getD_eq_getElem?_getD, List.getD_eq_getElem?_getD, List.getElem?_map]
    cases ns[m]? with
    | none => exact (Int.mul_zero f).symm
    | some x => rfl
  refine ⟨by rw [List.length_map]; exact G.len, fun m hm => ?_, fun m h hm hh => ?_, fun m hm => ?_⟩
  · rw [z, z, G.opp m hm, Int.mul_neg]
  · rw [z, z]; exact Int.mul_le_mul_of_nonneg_left (G.ris m h hm hh) f0
  · rw [z]
    obtain ⟨b1, b2⟩ := G.lo m hm
    have h1 := Int.mul_le_mul_of_nonneg_left b2 f0
    have h2 := Int.mul_le_mul_of_nonneg_left b1 f0
    rw [Int.mul_neg] at h2
    omega
theorem Good.mono {n : Nat} {ns : List Int} {B C : Int} (G : Good n ns B) (h : B ≤ C) : Good n ns C := ⟨G.len, G.opp, G.ris, fun m hm => by have := G.lo m hm; omega⟩
end Wf

namespace Wf
theorem fOf00 : ∀ n < 7, fOf n 0 0 = List.range n := by decide +kernel
theorem stand0 {n : Nat} (h : n ≤ 6) : Stand n 0 0 := ⟨h, Nat.pow_pos (by decide), Nat.pow_pos (by decide), rfl⟩
theorem dOf00 (n : Nat) : dOf n 0 0 = List.range (2 ^ n) := by
  unfold dOf
  exact List.filter_eq_self.mpr fun m _ => by simp
theorem filter_lt {α : Type} {p : α → Bool} : ∀ {l : List α} {a : α}, a ∈ l → p a = false → (l.filter p).length < l.length
  | [], _, h, _ => nomatch h
  | b :: r, a, h, hp => by
    rcases List.mem_cons.mp h with rfl | h
    · have := List.length_filter_le p r
      rw [List.filter_cons_of_neg (by rw [hp]; exact Bool.false_ne_true)]
      rw [List.length_cons]
      omega
    · have ih := filter_lt h hp
      by_cases hb : p b = true
      · rw [List.filter_cons_of_pos hb, List.length_cons, List.length_cons]; omega
      · rw [List.filter_cons_of_neg hb, List.length_cons]; omega
theorem filter_all {α : Type} {p : α → Bool} : ∀ {l : List α}, ¬ (l.filter p).length < l.length → ∀ a ∈ l, p a = true := fun h a ha => by
  cases hp : p a with
  | true => rfl
  | false => exact absurd (filter_lt ha hp) h
theorem bel_top {ns : List Int} {n : Nat} {B : Int} (G : Good n ns B) : bel ns n 0 0 (num ns (2 ^ n - 1)) < 2 ^ n := by
  have hp : 0 < 2 ^ n := Nat.pow_pos (by decide)
  have h := filter_lt (l := dOf n 0 0) (a := 2 ^ n - 1) (p := fun m => decide (num ns m < num ns (2 ^ n - 1))) (by rw [dOf00]; exact List.mem_range.mpr (by omega)) (decide_eq_false (Int.lt_irrefl _))
  unfold bel
  rw [dOf00, List.length_range] at h
  rw [dOf00]
  exact h
/-- the least of those that are not below -/
theorem least_up {l : List Int} {least : Int} (h : ∃ x ∈ l, ¬ x < least) : ∃ x ∈ l, least ≤ x ∧ (l.filter fun y => decide (y < x)) = l.filter fun y => decide (y < least) := by
  have key : ∀ (k : Nat) (x : Int), x ∈ l → least ≤ x → (x - least).toNat = k → ∃ z ∈ l, least ≤ z ∧ ∀ y ∈ l, least ≤ y → z ≤ y := by
    intro k
    induction k using Nat.strongRecOn with
    | _ k ih =>
      intro x hx hl hk
      by_cases c : ∃ y ∈ l, least ≤ y ∧ y < x
      · obtain ⟨y, hy, h1, h2⟩ := c
        exact ih _ (by omega) y hy h1 rfl
      · exact ⟨x, hx, hl, fun y hy h1 => by
          by_cases h2 : y < x
          · exact absurd ⟨y, hy, h1, h2⟩ c
          · omega⟩
  obtain ⟨x, hx, hl⟩ := h
  obtain ⟨z, hz, h1, h2⟩ := key _ x hx (by omega) rfl
  refine ⟨z, hz, h1, List.filter_congr fun y hy => ?_⟩
  rw [decide_eq_decide]
  constructor
  · intro q
    by_cases c : y < least
    · exact c
    · have := h2 y hy (by omega)
      omega
  · intro q; omega
end Wf

namespace Wf
/-! ## A round -/
theorem le_cancel {a b c : Int} (h : 0 < c) (q : a * c ≤ b * c) : a ≤ b := Int.le_of_mul_le_mul_right q h
theorem lt_cancel {a b c : Int} (h : 0 < c) (q : a * c < b * c) : a < b := Int.lt_of_mul_lt_mul_right q (Int.le_of_lt h)
/-- the near side wins -/
theorem near_win {t b P P1 mn mx g t1 b1 : Int} (hg : 0 < g) (h1 : t1 * g = mx - mn) (h2 : b1 * g = P) (hP : P = 2 * P1) (p1 : 0 < P1) (hb : 0 < b) (m0 : 0 ≤ mn) (mm : mn ≤ mx) (hinv : (mn + mx) * b ≤ t * P) (tb : t ≤ b) (t10 : 0 ≤ t1) :
    mn * (b * b1) ≤ (t * b1 + -1 * t1 * b) * P1 ∧ 0 ≤ t * b1 + -1 * t1 * b ∧ t * b1 + -1 * t1 * b ≤ b * b1 := by
  have b1p : 0 < b1 := by
    by_cases c : 0 < b1
    · exact c
    · have : b1 * g ≤ 0 := Int.mul_nonpos_of_nonpos_of_nonneg (by omega) (by omega)
      omega
  have hx : (t * b1 + -1 * t1 * b) * g = t * P - (mx - mn) * b := by rw [← h1, ← h2]; grind
  have e1 : (mn + mx) * b = 2 * (mn * b) + (mx - mn) * b := by grind
  have m0b : 0 ≤ mn * b := Int.mul_nonneg m0 (by omega)
  have hX : 2 * (mn * b) ≤ (t * b1 + -1 * t1 * b) * g := by rw [hx]; omega
  refine ⟨?_, ?_, ?_⟩
  · refine le_cancel hg ?_
    have q := Int.mul_le_mul_of_nonneg_right hX (Int.le_of_lt p1)
    have e2 : mn * (b * b1) * g = 2 * (mn * b) * P1 := by
      have : mn * (b * b1) * g = mn * b * (b1 * g) := by grind
      rw [this, h2, hP]; grind
    have e3 : (t * b1 + -1 * t1 * b) * P1 * g = (t * b1 + -1 * t1 * b) * g * P1 := by grind
    rw [e2, e3]; exact q
  · have : 0 * g ≤ (t * b1 + -1 * t1 * b) * g := by omega
    exact le_cancel hg this
  · have h3 : t * b1 ≤ b * b1 := Int.mul_le_mul_of_nonneg_right tb (by omega)
    have h4 : 0 ≤ t1 * b := Int.mul_nonneg t10 (by omega)
    have e4 : -1 * t1 * b = -(t1 * b) := by grind
    omega
/-- the far side wins -/
theorem far_win {t b P P1 mn mx g t1 b1 t2 b2 m' : Int} (hg : 0 < g) (h1 : t1 * g = mx - mn) (h2 : b1 * g = P) (hP : P = 2 * P1) (p1 : 0 < P1) (hb : 0 < b) (hb2 : 0 < b2) (hinv : (mn + mx) * b ≤ t * P) (t0 : 0 ≤ t) (t20 : 0 ≤ t2) (hm : m' ≤ mx)
    (hw : t1 * b2 < t2 * b1) (hc : t2 * b ≤ (b - t) * b2) :
    m' * (b * b2) ≤ (t * b2 + 1 * t2 * b) * P1 ∧ 0 ≤ t * b2 + 1 * t2 * b ∧ t * b2 + 1 * t2 * b ≤ b * b2 ∧ m' < P1 := by
  have bb : 0 < b * b2 := Int.mul_pos hb hb2
  have y1 : t * b2 + 1 * t2 * b ≤ b * b2 := by
    have : (b - t) * b2 = b * b2 - t * b2 := by grind
    have : 1 * t2 * b = t2 * b := by grind
    omega
  have y0 : 0 ≤ t * b2 + 1 * t2 * b := by
    have h3 : 0 ≤ t * b2 := Int.mul_nonneg t0 (by omega)
    have h4 : 0 ≤ t2 * b := Int.mul_nonneg t20 (by omega)
    have : 1 * t2 * b = t2 * b := by grind
    omega
  have w1 : (mx - mn) * b2 < t2 * P := by
    have := Int.mul_lt_mul_of_pos_right hw hg
    have e1 : t1 * b2 * g = (mx - mn) * b2 := by rw [← h1]; grind
    have e2 : t2 * b1 * g = t2 * P := by rw [← h2]; grind
    omega
  have w2 : (mx - mn) * b2 * b < t2 * P * b := Int.mul_lt_mul_of_pos_right w1 hb
  have w3 : (mn + mx) * b * b2 ≤ t * P * b2 := Int.mul_le_mul_of_nonneg_right hinv (by omega)
  have e5 : (t * b2 + 1 * t2 * b) * P = t * P * b2 + t2 * P * b := by grind
  have e6 : 2 * (mx * (b * b2)) = (mn + mx) * b * b2 + (mx - mn) * b2 * b := by grind
  have e7 : (t * b2 + 1 * t2 * b) * P = 2 * ((t * b2 + 1 * t2 * b) * P1) := by rw [hP]; grind
  have key : mx * (b * b2) < (t * b2 + 1 * t2 * b) * P1 := by omega
  have k2 : m' * (b * b2) ≤ mx * (b * b2) := Int.mul_le_mul_of_nonneg_right hm (by omega)
  refine ⟨by omega, y0, y1, ?_⟩
  have k3 : (t * b2 + 1 * t2 * b) * P1 ≤ b * b2 * P1 := Int.mul_le_mul_of_nonneg_right y1 (by omega)
  refine lt_cancel bb ?_
  have : P1 * (b * b2) = b * b2 * P1 := Int.mul_comm _ _
  omega
/-- what holds before each round -/
structure RInv (ns : List Int) (n near far : Nat) (least t b D : Int) : Prop where
  low : Low t b
  t0 : 0 ≤ t
  tb : t ≤ b
  dv : b ∣ D
  d1 : 2037000000 ∣ D
  d0 : 0 < D
  dm : D < 2 ^ 51
  lt : bel ns n near far least < 2 ^ (fOf n near far).length
  le : (bel ns n near far least : Int) * b ≤ t * ((2 ^ (fOf n near far).length : Nat) : Int)
theorem pow_dvd {k : Nat} (h : k ≤ 6) : ((2 ^ k : Nat) : Int) ∣ 2037000000 := by
  have : k = 0 ∨ k = 1 ∨ k = 2 ∨ k = 3 ∨ k = 4 ∨ k = 5 ∨ k = 6 := by omega
  rcases this with rfl | rfl | rfl | rfl | rfl | rfl | rfl <;> decide
theorem filter_ne_len {l : List Nat} {h : Nat} (nd : l.Nodup) (hh : h ∈ l) : (l.filter fun x => x != h).length + 1 = l.length := by
  induction l with
  | nil => cases hh
  | cons a r ih =>
    have nr := (List.nodup_cons.mp nd)
    rcases List.mem_cons.mp hh with rfl | hh
    · have : (r.filter fun x => x != h) = r := List.filter_eq_self.mpr fun x hx => by
        have : x ≠ h := fun z => nr.1 (z ▸ hx)
        simpa using this
      rw [List.filter_cons_of_neg (by simp), this, List.length_cons]
    · have hne : a ≠ h := fun z => nr.1 (z ▸ hh)
      rw [List.filter_cons_of_pos (by simpa using hne), List.length_cons, List.length_cons, ih nr.2 hh]
theorem fOf_nd (n near far : Nat) : (fOf n near far).Nodup := List.Nodup.sublist List.filter_sublist List.nodup_range
section
variable {ns : List Int} {n near far : Nat} {least t b D B : Int}
def bT (ns : List Int) (n near far : Nat) (least : Int) : Int := exT ((maxL (lost ns n near far least) - minL (hired ns n near far least) : Nat) : Int) ((2 ^ (fOf n near far).length : Nat) : Int)
def bB (ns : List Int) (n near far : Nat) (least : Int) : Int := exB ((maxL (lost ns n near far least) - minL (hired ns n near far least) : Nat) : Int) ((2 ^ (fOf n near far).length : Nat) : Int)
theorem bid_facts (G : Good n ns B) (S : Stand n near far) (hf : fOf n near far ≠ []) (I : RInv ns n near far least t b D) :
    Low (bT ns n near far least) (bB ns n near far least) ∧ 0 ≤ bT ns n near far least ∧ bT ns n near far least ≤ 64 ∧ bB ns n near far least ∣ ((2 ^ (fOf n near far).length : Nat) : Int) ∧ bT ns n near far least * b ≤ t * bB ns n near far least ∧
    ∃ g : Int, 0 < g ∧ bT ns n near far least * g = ((maxL (lost ns n near far least) : Nat) : Int) - ((minL (hired ns n near far least) : Nat) : Int) ∧ bB ns n near far least * g = ((2 ^ (fOf n near far).length : Nat) : Int) := by
  have pk := picks (least := least) G S hf
  have pp : (0 : Int) < ((2 ^ (fOf n near far).length : Nat) : Int) := by have : 0 < 2 ^ (fOf n near far).length := Nat.pow_pos (by decide); omega
  have hle := bel_le (ns := ns) (least := least) S
  have f6 : (fOf n near far).length ≤ 6 := by have := S.facts.1.cnt; have := S.n6; omega
  have p64 : 2 ^ (fOf n near far).length ≤ 64 := Nat.pow_le_pow_right (by decide) f6
  have e0 := pk.2.2.2.1
  have e1 := pk.2.2.2.2.1
  have hcast : ((maxL (lost ns n near far least) - minL (hired ns n near far least) : Nat) : Int) = ((maxL (lost ns n near far least) : Nat) : Int) - ((minL (hired ns n near far least) : Nat) : Int) := by omega
  refine ⟨ex_low pp, exT_nonneg pp (by omega), ?_, exB_dvd_b, ?_, gI ((maxL (lost ns n near far least) - minL (hired ns n near far least) : Nat) : Int) ((2 ^ (fOf n near far).length : Nat) : Int), gI_pos pp, (ex_t _ _).trans hcast, ex_b _ _⟩
  · have : bT ns n near far least ≤ ((maxL (lost ns n near far least) - minL (hired ns n near far least) : Nat) : Int) := Int.ediv_le_self _ (by omega)
    omega
  · refine (ex_le pp).mpr ?_
    have h1 : ((maxL (lost ns n near far least) - minL (hired ns n near far least) : Nat) : Int) * b ≤ (bel ns n near far least : Int) * b := Int.mul_le_mul_of_nonneg_right (by omega) (Int.le_of_lt I.low.pos)
    exact Int.le_trans h1 I.le
theorem inv_near (G : Good n ns B) (S : Stand n near far) (hf : fOf n near far ≠ []) (I : RInv ns n near far least t b D) :
    RInv ns n (near ||| 2 ^ pickN ns n near far least) far least (exT (t * bB ns n near far least + -1 * bT ns n near far least * b) (b * bB ns n near far least)) (exB (t * bB ns n near far least + -1 * bT ns n near far least * b) (b * bB ns n near far least)) D := by
  obtain ⟨lo, t10, t164, dv, _, g, hg, g1, g2⟩ := bid_facts G S hf I
  obtain ⟨k1, k2, k3, k4, k5, k6⟩ := picks (least := least) G S hf
  have F := S.facts.2 _ k1
  have fl := filter_ne_len (fOf_nd n near far) k1
  rw [← F.f1] at fl
  have f6 : (fOf n near far).length ≤ 6 := by have := S.facts.1.cnt; have := S.n6; omega
  have p1 : 0 < 2 ^ (fOf n (near ||| 2 ^ pickN ns n near far least) far).length := Nat.pow_pos (by decide)
  have hP : 2 ^ (fOf n near far).length = 2 * 2 ^ (fOf n (near ||| 2 ^ pickN ns n near far least) far).length := by rw [← fl, Nat.pow_succ, Nat.mul_comm]
  have hb := I.low.pos
  have bp := lo.pos
  have ile := I.le
  have ilt := I.lt
  generalize (bT ns n near far least) = t1 at *
  generalize (bB ns n near far least) = b1 at *
  rw [hP] at ile ilt g2
  generalize hP1 : 2 ^ (fOf n (near ||| 2 ^ pickN ns n near far least) far).length = P1 at *
  have W := near_win (t := t) (b := b) (P := ((2 * P1 : Nat) : Int)) (P1 := (P1 : Int)) (mn := ((minL (hired ns n near far least) : Nat) : Int)) (mx := ((maxL (lost ns n near far least) : Nat) : Int)) (g := g) (t1 := t1) (b1 := b1) hg g1 g2 (by omega) (by omega) hb (by omega) (by omega)
    (by have e : ((minL (hired ns n near far least) : Nat) : Int) + ((maxL (lost ns n near far least) : Nat) : Int) = (bel ns n near far least : Int) := by omega
        rw [e]; exact ile) I.tb t10
  have bb : 0 < b * b1 := Int.mul_pos hb bp
  refine ⟨ex_low bb, exT_nonneg bb W.2.1, ?_, sum_dvd hb bp I.dv (Int.dvd_trans dv (Int.dvd_trans (pow_dvd f6) I.d1)), I.d1, I.d0, I.dm, ?_, ?_⟩
  · have := (ex_le (t := t * b1 + -1 * t1 * b) bb (x := 1) (y := 1)).mpr (by omega)
    omega
  · rw [k2, hP1]; omega
  · rw [k2, hP1]
    exact (le_ex bb).mpr W.1
theorem inv_far (G : Good n ns B) (S : Stand n near far) (I : RInv ns n near far least t b D) {h : Nat} (hh : h ∈ fOf n near far) {t2 b2 : Int} (l2 : Low t2 b2) (t20 : 0 ≤ t2) (hd : b2 ∣ D) (hw : bT ns n near far least * b2 < t2 * bB ns n near far least) (hc : t2 * b ≤ (b - t) * b2) :
    RInv ns n near (far ||| 2 ^ h) least (exT (t * b2 + 1 * t2 * b) (b * b2)) (exB (t * b2 + 1 * t2 * b) (b * b2)) D := by
  have hf : fOf n near far ≠ [] := List.ne_nil_of_mem hh
  obtain ⟨lo, t10, t164, dv, _, g, hg, g1, g2⟩ := bid_facts G S hf I
  obtain ⟨k1, k2, k3, k4, k5, k6⟩ := picks (least := least) G S hf
  have F := S.facts.2 _ hh
  have fl := filter_ne_len (fOf_nd n near far) hh
  rw [← F.f2] at fl
  have p1 : 0 < 2 ^ (fOf n near (far ||| 2 ^ h)).length := Nat.pow_pos (by decide)
  have hP : 2 ^ (fOf n near far).length = 2 * 2 ^ (fOf n near (far ||| 2 ^ h)).length := by rw [← fl, Nat.pow_succ, Nat.mul_comm]
  have hb := I.low.pos
  have bp := l2.pos
  have ile := I.le
  have m6 := k6 h hh
  generalize (bT ns n near far least) = t1 at *
  generalize (bB ns n near far least) = b1 at *
  rw [hP] at ile g2
  generalize hP1 : 2 ^ (fOf n near (far ||| 2 ^ h)).length = P1 at *
  have W := far_win (t := t) (b := b) (P := ((2 * P1 : Nat) : Int)) (P1 := (P1 : Int)) (mn := ((minL (hired ns n near far least) : Nat) : Int)) (mx := ((maxL (lost ns n near far least) : Nat) : Int)) (g := g) (t1 := t1) (b1 := b1) (t2 := t2) (b2 := b2) (m' := (bel ns n near (far ||| 2 ^ h) least : Int)) hg g1 g2 (by omega) (by omega) hb bp
    (by have e : ((minL (hired ns n near far least) : Nat) : Int) + ((maxL (lost ns n near far least) : Nat) : Int) = (bel ns n near far least : Int) := by omega
        rw [e]; exact ile) I.t0 t20 (by omega) hw hc
  have bb : 0 < b * b2 := Int.mul_pos hb bp
  refine ⟨ex_low bb, exT_nonneg bb W.2.1, ?_, sum_dvd hb bp I.dv hd, I.d1, I.d0, I.dm, by rw [hP1]; omega, by rw [hP1]; exact (le_ex bb).mpr W.1⟩
  have := (ex_le (t := t * b2 + 1 * t2 * b) bb (x := 1) (y := 1)).mpr (by omega)
  omega
end
end Wf

namespace Wf
theorem mem_hOf {m x : Nat} : x ∈ hOf m ↔ x < 6 ∧ m.testBit x = true := by
  unfold hOf
  rw [List.mem_filter, List.mem_range]
theorem hOf_nodup (m : Nat) : (hOf m).Nodup := List.Nodup.sublist List.filter_sublist List.nodup_range
theorem hOf_sorted (m : Nat) : (hOf m).Pairwise (· ≤ ·) := by
  have h : (List.range 6).Pairwise (· ≤ ·) := by decide
  exact h.sublist List.filter_sublist
theorem sorted_hOf {m h : Nat} (hh : h < 6) (hb : m.testBit h = false) {l : List Int} (p : l.Perm (((hOf m) ++ [h]).map fun x : Nat => (x : Int))) (s : l.Pairwise (· ≤ ·)) : l = (hOf (m ||| 2 ^ h)).map fun x : Nat => (x : Int) := by
  have pm : ((hOf m) ++ [h]).Perm (hOf (m ||| 2 ^ h)) := by
    refine (List.perm_ext_iff_of_nodup ?_ (hOf_nodup _)).mpr fun x => ?_
    · refine List.nodup_append.mpr ⟨hOf_nodup m, by simp, fun a ha b hb2 => ?_⟩
      rw [List.mem_singleton] at hb2
      subst hb2
      intro z
      subst z
      have := (mem_hOf.mp ha).2
      rw [hb] at this
      cases this
    · rw [List.mem_append, List.mem_singleton, mem_hOf, mem_hOf, Nat.testBit_or, Nat.testBit_two_pow]
      by_cases e : h = x
      · subst e; simp [hh]
      · have e2 : ¬ x = h := fun z => e z.symm
        simp [e, e2]
  have pm2 : l.Perm ((hOf (m ||| 2 ^ h)).map fun x : Nat => (x : Int)) := p.trans (pm.map _)
  refine List.Perm.eq_of_pairwise (fun a b _ _ h1 h2 => Int.le_antisymm h1 h2) s ?_ pm2
  rw [List.pairwise_map]
  exact (hOf_sorted _).imp fun h => by omega
end Wf

namespace Wf
open PySem PySem.Spec PyProof.Rows L2
section
variable {P : Program} {w : World} {K : PySem.W.Frag} {mg : Str → Option Value} {base : Heap}
theorem cal_of {x : Str} {st : Stmt} {f : Addr} {N ps : List Str} {k : Nat} {sp : Sp} (D : ∃ fd, FunD K x x (defArgs st) (defBody st) (defScope st) [] [] f fd) (g : mg x = some (.ref f)) (S : FnScope N ps (defScope st))
    (hb : ∀ (kV doc pm : Value) (an : Option Addr) (cdv ct : Value) (us : List Value), us.length = ps.length → bindArgs (PySem.W.fnOf x x (defArgs st) (defBody st) (defScope st) .none kV doc pm an cdv ct) ⟨us, []⟩ = pure (ps.zip us))
    (len : ∀ vs H Q E, sp vs H Q E → vs.length = ps.length)
    (hbody : ∀ (cdv : Value) (A : Around) (outer : List Env) (s : Shared) (H : Hp) (vs : List V) (Q : VK) (E : XK), Room k (A.deeper (envOfC x (defScope st) s.heap.objs.size f cdv)) → sp vs H Q E →
      ∃ t, PSs (cxOf CX0 P w K mg base N x (defScope st) f cdv A outer s H E).nox (defBody st) t ∧ t { nx := fun _ H' => Q .non H', rt := Q } (L2.start N vs) H) : Cal P w K mg base CX0 (k + 1) x sp := by
  obtain ⟨fd, F⟩ := D
  exact ⟨f, fd, ps, F.ok S len fun cdv A outer s H vs Q E hr h => let ⟨t, p, q⟩ := hbody cdv A outer s H vs Q E hr h; ⟨t, p.nox, q⟩, g, F.kp, F.bindsN hb⟩
theorem fnr_of {x qual : Str} {st : Stmt} {f : Addr} {N ps : List Str} {k : Nat} {sp : Sp} (D : ∃ fd, FunD K x qual (defArgs st) (defBody st) (defScope st) [] [] f fd) (S : FnScope N ps (defScope st))
    (hb : ∀ (kV doc pm : Value) (an : Option Addr) (cdv ct : Value) (us : List Value), us.length = ps.length → bindArgs (PySem.W.fnOf x qual (defArgs st) (defBody st) (defScope st) .none kV doc pm an cdv ct) ⟨us, []⟩ = pure (ps.zip us))
    (len : ∀ vs H Q E, sp vs H Q E → vs.length = ps.length)
    (hbody : ∀ (cdv : Value) (A : Around) (outer : List Env) (s : Shared) (H : Hp) (vs : List V) (Q : VK) (E : XK), Room k (A.deeper (envOfC qual (defScope st) s.heap.objs.size f cdv)) → sp vs H Q E →
      ∃ t, PSs (cxOf CX0 P w K mg base N qual (defScope st) f cdv A outer s H E).nox (defBody st) t ∧ t { nx := fun _ H' => Q .non H', rt := Q } (L2.start N vs) H) : ∃ fd ps, FnOk P w K mg base CX0 (k + 1) f fd ps sp ∧ Binds K fd ps [] := by
  obtain ⟨fd, F⟩ := D
  exact ⟨fd, ps, F.ok S len fun cdv A outer s H vs Q E hr h => let ⟨t, p, q⟩ := hbody cdv A outer s H vs Q E hr h; ⟨t, p.nox, q⟩, F.bindsN hb⟩
end
/-! ### the heap: what stands stands -/
theorem Same.up {H H' : Hp} {p : Addr} {o : HO} (e : Same H H') (h : H' p = none) : Same H (upd H' p o) := fun b u q => by rw [upd_ne (ne_of_none (e b u q) h)]; exact e b u q
theorem Same.new {H : Hp} {p : Addr} {o : HO} (h : H p = none) : Same H (upd H p o) := Same.up (Same.refl H) h
theorem Same.seqT {K : PySem.W.Frag} {H H' : Hp} {a : Addr} {xs : List V} (e : Same H H') (h : SqT K H a xs) : SqT K H' a xs := by
  rcases h with (h | ⟨o, h⟩) | h
  · exact .inl (.inl (e _ _ h))
  · exact .inl (.inr ⟨o, e _ _ h⟩)
  · exact .inr h
/-- an int of a code -/
abbrev vN (m : Nat) : V := .int (m : Int)
/-- what is handed back, all else standing -/
def Ret (Pr : V → Hp → Prop) (H : Hp) (Q : VK) : Prop := ∀ v H', Same H H' → Pr v H' → Q v H'
/-! ### bits of codes -/
theorem pow_cast (n : Nat) : ((2 : Int) ^ n) = ((2 ^ n : Nat) : Int) := by rw [Int.natCast_pow]; rfl
theorem yes {b : Bool} {A B : Prop} (h : b = true) (q : A) : if b = true then A else B := by rw [if_pos h]; exact q
theorem no {b : Bool} {A B : Prop} (h : b = false) (q : B) : if b = true then A else B := by rw [if_neg (by rw [h]; exact Bool.false_ne_true)]; exact q
theorem both {b : Bool} {A B : Prop} (h1 : b = true → A) (h2 : b = false → B) : if b = true then A else B := by
  cases b
  · exact no rfl (h2 rfl)
  · exact yes rfl (h1 rfl)
section
variable {X : Cx}
theorem op_andN : OpR X (binaryOp .BitAnd) (fun x y H Q => ∃ a b : Nat, x = vN a ∧ y = vN b ∧ Q (vN (a &&& b)) H) := by
  intro pins s σ H x y v u Q I rx ry h
  obtain ⟨a, b, rfl, rfl, q⟩ := h
  refine op_and pins s σ H _ _ _ _ Q I rx ry ⟨_, _, rfl, rfl, ?_⟩
  show Q (.int (Builtin.bitAnd (a : Int) (b : Int))) H
  rw [bitAnd_pp (by omega) (by omega)]
  exact q
theorem op_orN : OpR X (binaryOp .BitOr) (fun x y H Q => ∃ a b : Nat, x = vN a ∧ y = vN b ∧ Q (vN (a ||| b)) H) := by
  intro pins s σ H x y v u Q I rx ry h
  obtain ⟨a, b, rfl, rfl, q⟩ := h
  refine op_or pins s σ H _ _ _ _ Q I rx ry ⟨_, _, rfl, rfl, ?_⟩
  show Q (.int (Builtin.bitOr (a : Int) (b : Int))) H
  rw [bitOr_nn (by omega) (by omega)]
  exact q
theorem op_shrNN : OpR X (binaryOp .RShift) (fun x y H Q => ∃ a k : Nat, x = vN a ∧ y = vN k ∧ Q (vN (a >>> k)) H) := by
  intro pins s σ H x y v u Q I rx ry h
  obtain ⟨a, k, rfl, rfl, q⟩ := h
  refine op_shrN pins s σ H _ _ _ _ Q I rx ry ⟨_, _, rfl, rfl, ?_⟩
  rw [pow_cast, ← Int.natCast_ediv, ← Nat.shiftRight_eq_div_pow]
  exact q
theorem op_shl1 : OpR X (binaryOp .LShift) (fun x y H Q => ∃ k : Nat, x = .int 1 ∧ y = vN k ∧ k ≤ 134217727 ∧ Q (vN (2 ^ k)) H) := by
  intro pins s σ H x y v u Q I rx ry h
  obtain ⟨k, rfl, rfl, hk, q⟩ := h
  refine op_oneShl pins s σ H _ _ _ _ Q I rx ry ⟨_, rfl, rfl, hk, ?_⟩
  rw [pow_cast]
  exact q
end
/-! ### walks -/
section
variable {K : PySem.W.Frag} {J : It} {n : Nat} {Y : Nat → Hp → V → Hp → Prop} {H0 : Hp}
theorem wkL {a : Addr} {xs : List V} (h : SqL K H0 a xs) : Walk (Itl K a) xs.length (Same H0) (YAt xs) := walk_list.mono (fun _ e => Same.seq e h) fun _ _ _ _ _ _ y => y
theorem wkT {a : Addr} {xs : List V} (h : SqT K H0 a xs) : Walk (Itt K a) xs.length (Same H0) (YAt xs) := walk_tup.mono (fun _ e => Same.seqT e h) fun _ _ _ _ _ _ y => y
theorem wkR {m : Nat} : Walk (Itr 0 m) m (Same H0) (YFn fun i => vN i) := walk_range.mono (fun _ _ => True.intro) fun i H x H' _ _ y => ⟨y.1, y.2.trans (by show V.int (0 + (i : Int)) = V.int i; rw [Int.zero_add])⟩
/-- a thing that is a list or a tuple -/
theorem rd_seq {σ : L2.St} {te : TE} {R : It → Hp → Prop} {H : Hp} {a : Addr} {xs : List V} (h : SqL K H a xs ∨ SqT K H a xs) (e : ∀ Q : VK, Q (.ref a) H → te σ H Q) (k : ∀ J, Walk J xs.length (Same H) (YAt xs) → R J H) :
    iList K te σ H R ∨ iTup K te σ H R := by
  rcases h with h | h
  · exact .inl (e _ ⟨a, rfl, ⟨_, h⟩, k _ (wkL h)⟩)
  · exact .inr (e _ ⟨a, rfl, ⟨_, h⟩, k _ (wkT h)⟩)
theorem lcW (wk : Walk J n (Same H0) Y) {g : TG} {tt : TT} {te : TE} {vs : List Nat} {σ : L2.St} {D : Addr} {Qd : Hp → Prop} (hD : H0 D = none) (hn : n < sizeLine) (kp : Nat → Bool) (out : Nat → V)
    (hs : ∀ i x H (Ry : VK) (Rn : Hp → Prop), i < n → Same H0 H → Y i H x H → (kp i = true → ∀ H', Same H H' → Ry (out i) H') → (kp i = false → ∀ H', Same H H' → Rn H') →
      g x (wipe σ vs) H fun σ2 H2 => wipe σ2 vs = wipe σ vs ∧ tt σ2 H2 fun b H3 => if b = true then te σ2 H3 Ry else Rn H3)
    (hY : ∀ i H x H', Y i H x H' → H' = H) (hd : ∀ H, Same H0 H → H D = some (.lst (((List.range n).filter kp).map out)) → Qd H) :
    ∃ W : Nat → Nat → Hp → Prop, (∃ m, W 0 m (upd H0 D (.lst []))) ∧ ∀ i m H, W i m H →
      (J.stop i H ∧ Qd H) ∨ (J.go i H ∧ ∃ Nx : Hp → Prop, (∀ H', Nx H' → ∃ m', m' < m ∧ W (i + 1) m' H') ∧ ∀ x H', J.yld i H x H' → g x (wipe σ vs) H' fun σ2 H2 => wipe σ2 vs = wipe σ vs ∧ tt σ2 H2 fun b H3 =>
        if b = true then te σ2 H3 fun y H4 => ∃ acc, H4 D = some (.lst acc) ∧ acc.length < sizeLine ∧ Nx (upd H4 D (.lst (acc ++ [y]))) else Nx H3) := by
  refine lc_it wk (fun i H => Same H0 H ∧ H D = some (.lst (((List.range i).filter kp).map out))) ⟨Same.up (Same.refl _) hD, upd_same⟩ (fun i H _ p => p.1) (fun i x H H' hi p y => ?_) fun H p => hd H p.1 p.2
  obtain ⟨e, hH⟩ := p
  have eH := hY _ _ _ _ y
  subst eH
  refine hs i x H' _ _ hi e y (fun k H2 e2 => ?_) fun k H2 e2 => ?_
  · have q := e2 _ _ hH
    refine ⟨_, q, ?_, ?_, ?_⟩
    · rw [List.length_map]
      have := List.length_filter_le kp (List.range i)
      rw [List.length_range] at this
      omega
    · exact fun b u z => by
        have nb : b ≠ D := ne_of_none z hD
        rw [upd_ne nb]
        exact e2 _ _ (e _ _ z)
    · rw [upd_same, List.range_succ, List.filter_append, List.map_append]
      simp [k]
  · refine ⟨fun b u z => e2 _ _ (e _ _ z), ?_⟩
    rw [e2 _ _ hH, List.range_succ, List.filter_append, List.map_append]
    simp [k]
theorem YAt.same {xs : List V} {i : Nat} {H : Hp} {x : V} {H' : Hp} (y : YAt xs i H x H') : H' = H := y.1
theorem YFn.same {f : Nat → V} {i : Nat} {H : Hp} {x : V} {H' : Hp} (y : YFn f i H x H') : H' = H := y.1
/-- [out x for x in xs if kp x], by the items -/
theorem range_filter {α β : Type} (xs : List α) (d : α) (kp : α → Bool) (out : α → β) : ((List.range xs.length).filter fun i => kp (xs.getD i d)).map (fun i => out (xs.getD i d)) = (xs.filter kp).map out := by
  have e : xs = (List.range xs.length).map fun i => xs.getD i d := by
    apply List.ext_getElem
    · simp
    · intro i h1 h2
      simp [List.getD_eq_getElem?_getD, h1]
  conv => rhs; rw [e]
  rw [List.filter_map, List.map_map]
  rfl
end
end Wf

namespace Wf
open PySem PySem.Spec PyProof.Rows L2
section
variable {P : Program} {w : World} {K : PySem.W.Frag} {mg : Str → Option Value} {base : Heap}
def spHands : Sp := fun vs H Q _ => ∃ n m : Int, vs = [.int n, .int m] ∧ 1 ≤ n ∧ n ≤ m ∧ Q .non H
def spNumber : Sp := fun vs H Q _ => ∃ n l m : Int, vs = [.int n, .int l, .int m] ∧ l ≤ n ∧ n ≤ m ∧ Q .non H
def spHand : Sp := fun vs H Q _ => ∃ n h : Nat, vs = [vN n, vN h] ∧ h < n ∧ Q .non H
def spHas : Sp := fun vs H Q _ => ∃ m h : Nat, vs = [vN m, vN h] ∧ Q (.bl (m.testBit h)) H
def spWith : Sp := fun vs H Q _ => ∃ m h : Nat, vs = [vN m, vN h] ∧ h ≤ 1000 ∧ Q (vN (m ||| 2 ^ h)) H
def spRest : Sp := fun vs H Q _ => ∃ n m : Nat, vs = [vN n, vN m] ∧ n ≤ 1000 ∧ m < 2 ^ n ∧ Q (vN (2 ^ n - 1 - m)) H
def N_check_hands : List Str := ["hands", "most"]
theorem sc_check_hands : FnScope N_check_hands ["hands", "most"] (defScope st_check_hands) := ⟨rfl, rfl, rfl, by decide +kernel, rfl, by decide +kernel, by decide +kernel⟩
theorem C_check_hands (T : Txt K mg) : Cal P w K mg base CX0 1 "check_hands" spHands := by
  refine cal_of T.d_check_hands T.g_check_hands sc_check_hands (fun kV doc pm an cdv ct us h => ?_) (fun vs H Q E h => ?_) fun cdv A outer s H vs Q E hr h => ?_
  · match us, h with
    | [_, _], _ => rfl
  · obtain ⟨n, m, rfl, h1, h2, q⟩ := h; rfl
  obtain ⟨n, m, rfl, h1, h2, q⟩ := h
  refine ⟨_, (pss_one (ps_if (pt_not (pt_chain op_le op_le pe_int (pv 0) (pv 1))) (pss_one ps_never) pss_nil)), ?_⟩
  refine ⟨_, rfl, _, _, rfl, rfl, _, rfl, yes (decide_eq_true h1) ⟨_, rfl, _, _, rfl, rfl, _, rfl, no ?_ q⟩⟩
  simp [h2]
def N_check_number : List Str := ["number", "low", "high"]
theorem sc_check_number : FnScope N_check_number ["number", "low", "high"] (defScope st_check_number) := ⟨rfl, rfl, rfl, by decide +kernel, rfl, by decide +kernel, by decide +kernel⟩
theorem C_check_number (T : Txt K mg) : Cal P w K mg base CX0 1 "check_number" spNumber := by
  refine cal_of T.d_check_number T.g_check_number sc_check_number (fun kV doc pm an cdv ct us h => ?_) (fun vs H Q E h => ?_) fun cdv A outer s H vs Q E hr h => ?_
  · match us, h with
    | [_, _, _], _ => rfl
  · obtain ⟨n, l, m, rfl, h1, h2, q⟩ := h; rfl
  obtain ⟨n, l, m, rfl, h1, h2, q⟩ := h
  refine ⟨_, (pss_one (ps_if (pt_not (pt_chain op_le op_le (pv 1) (pv 0) (pv 2))) (pss_one ps_never) pss_nil)), ?_⟩
  refine ⟨_, rfl, _, rfl, _, _, rfl, rfl, _, rfl, yes (decide_eq_true h1) ⟨_, rfl, _, _, rfl, rfl, _, rfl, no ?_ q⟩⟩
  simp [h2]
def N_check_length : List Str := ["length", "low", "high"]
theorem sc_check_length : FnScope N_check_length ["length", "low", "high"] (defScope st_check_length) := ⟨rfl, rfl, rfl, by decide +kernel, rfl, by decide +kernel, by decide +kernel⟩
theorem C_check_length (T : Txt K mg) : Cal P w K mg base CX0 1 "check_length" spNumber := by
  refine cal_of T.d_check_length T.g_check_length sc_check_length (fun kV doc pm an cdv ct us h => ?_) (fun vs H Q E h => ?_) fun cdv A outer s H vs Q E hr h => ?_
  · match us, h with
    | [_, _, _], _ => rfl
  · obtain ⟨n, l, m, rfl, h1, h2, q⟩ := h; rfl
  obtain ⟨n, l, m, rfl, h1, h2, q⟩ := h
  refine ⟨_, (pss_one (ps_if (pt_not (pt_chain op_le op_le (pv 1) (pv 0) (pv 2))) (pss_one ps_never) pss_nil)), ?_⟩
  refine ⟨_, rfl, _, rfl, _, _, rfl, rfl, _, rfl, yes (decide_eq_true h1) ⟨_, rfl, _, _, rfl, rfl, _, rfl, no ?_ q⟩⟩
  simp [h2]
def N_check_hand : List Str := ["hands", "hand"]
theorem sc_check_hand : FnScope N_check_hand ["hands", "hand"] (defScope st_check_hand) := ⟨rfl, rfl, rfl, by decide +kernel, rfl, by decide +kernel, by decide +kernel⟩
theorem C_check_hand (T : Txt K mg) : Cal P w K mg base CX0 1 "check_hand" spHand := by
  refine cal_of T.d_check_hand T.g_check_hand sc_check_hand (fun kV doc pm an cdv ct us h => ?_) (fun vs H Q E h => ?_) fun cdv A outer s H vs Q E hr h => ?_
  · match us, h with
    | [_, _], _ => rfl
  · obtain ⟨n, m, rfl, h2, q⟩ := h; rfl
  obtain ⟨n, m, rfl, h2, q⟩ := h
  refine ⟨_, (pss_one (ps_if (pt_not (pt_chain op_le op_lt pe_int (pv 1) (pv 0))) (pss_one ps_never) pss_nil)), ?_⟩
  refine ⟨_, rfl, _, _, rfl, rfl, _, rfl, yes (decide_eq_true (by omega)) ⟨_, rfl, _, _, rfl, rfl, _, rfl, no ?_ q⟩⟩
  simp [h2]
theorem bit_eq (m h : Nat) : decide (vN (m >>> h &&& 1) = V.int 1) = m.testBit h := by
  rw [Nat.testBit_eq_decide_div_mod_eq, Nat.and_one_is_mod, Nat.shiftRight_eq_div_pow, decide_eq_decide]
  constructor
  · intro e
    have e := V.int.inj e
    omega
  · intro e
    rw [e]
    rfl
def N_has_hand : List Str := ["mask", "hand"]
theorem sc_has_hand : FnScope N_has_hand ["mask", "hand"] (defScope st_has_hand) := ⟨rfl, rfl, rfl, by decide +kernel, rfl, by decide +kernel, by decide +kernel⟩
theorem C_has_hand (T : Txt K mg) : Cal P w K mg base CX0 1 "has_hand" spHas := by
  refine cal_of T.d_has_hand T.g_has_hand sc_has_hand (fun kV doc pm an cdv ct us h => ?_) (fun vs H Q E h => ?_) fun cdv A outer s H vs Q E hr h => ?_
  · match us, h with
    | [_, _], _ => rfl
  · obtain ⟨m, h, rfl, q⟩ := h; rfl
  obtain ⟨m, h, rfl, q⟩ := h
  refine ⟨_, (pss_one (ps_ret (pe_cmpR op_eq (pe_op op_andN (pe_op op_shrNN (pv 0) (pv 1)) pe_int) pe_int (nomark _)))), ?_⟩
  refine ⟨_, rfl, _, rfl, m, h, rfl, rfl, _, 1, rfl, rfl, rfl, ?_⟩
  show Q (.bl (decide (vN (m >>> h &&& 1) = V.int 1))) H
  rw [bit_eq]
  exact q
def N_with_hand : List Str := ["mask", "hand"]
theorem sc_with_hand : FnScope N_with_hand ["mask", "hand"] (defScope st_with_hand) := ⟨rfl, rfl, rfl, by decide +kernel, rfl, by decide +kernel, by decide +kernel⟩
theorem C_with_hand (T : Txt K mg) : Cal P w K mg base CX0 1 "with_hand" spWith := by
  refine cal_of T.d_with_hand T.g_with_hand sc_with_hand (fun kV doc pm an cdv ct us h => ?_) (fun vs H Q E h => ?_) fun cdv A outer s H vs Q E hr h => ?_
  · match us, h with
    | [_, _], _ => rfl
  · obtain ⟨m, h, rfl, h1, q⟩ := h; rfl
  obtain ⟨m, h, rfl, h1, q⟩ := h
  refine ⟨_, (pss_one (ps_ret (pe_op op_orN (pv 0) (pe_op op_shl1 pe_int (pv 1))))), ?_⟩
  refine ⟨_, rfl, _, rfl, _, rfl, rfl, by omega, _, _, rfl, rfl, q⟩
def N_rest_mask : List Str := ["hands", "mask"]
theorem sc_rest_mask : FnScope N_rest_mask ["hands", "mask"] (defScope st_rest_mask) := ⟨rfl, rfl, rfl, by decide +kernel, rfl, by decide +kernel, by decide +kernel⟩
theorem C_rest_mask (T : Txt K mg) : Cal P w K mg base CX0 1 "rest_mask" spRest := by
  refine cal_of T.d_rest_mask T.g_rest_mask sc_rest_mask (fun kV doc pm an cdv ct us h => ?_) (fun vs H Q E h => ?_) fun cdv A outer s H vs Q E hr h => ?_
  · match us, h with
    | [_, _], _ => rfl
  · obtain ⟨n, m, rfl, h1, h2, q⟩ := h; rfl
  obtain ⟨n, m, rfl, h1, h2, q⟩ := h
  refine ⟨_, (pss_one (ps_ret (pe_op op_sub (pe_op op_sub (pe_op op_shl1 pe_int (pv 0)) pe_int) (pv 1)))), ?_⟩
  refine ⟨_, rfl, _, rfl, rfl, by omega, _, _, rfl, rfl, _, rfl, _, _, rfl, rfl, ?_⟩
  have e : ((2 ^ n : Nat) : Int) - 1 - (m : Int) = ((2 ^ n - 1 - m : Nat) : Int) := by omega
  show Q (.int (((2 ^ n : Nat) : Int) - 1 - (m : Int))) H
  rw [e]
  exact q
/-! ### codes of lots -/
theorem mOf_bit (l : List Nat) (m x : Nat) : (l.foldl (fun m h => m ||| 2 ^ h) m).testBit x = (m.testBit x || decide (x ∈ l)) := by
  induction l generalizing m with
  | nil => simp
  | cons a r ih =>
    rw [List.foldl_cons, ih, Nat.testBit_or, Nat.testBit_two_pow]
    by_cases e : a = x
    · subst e; simp
    · have e2 : ¬ x = a := fun z => e z.symm
      simp [e, e2]
def spMask (K : PySem.W.Frag) : Sp := fun vs H Q _ => ∃ (n a : Nat) (l : List Nat), vs = [vN n, .ref a] ∧ (SqL K H a (l.map vN) ∨ SqT K H a (l.map vN)) ∧ n ≤ 1000 ∧ (∀ h ∈ l, h < n) ∧ l.Nodup ∧ Q (vN (mOf l)) H
def N_mask_of : List Str := ["hands", "lot", "mask", "hand"]
theorem sc_mask_of : FnScope N_mask_of ["hands", "lot"] (defScope st_mask_of) := ⟨rfl, rfl, rfl, by decide +kernel, rfl, by decide +kernel, by decide +kernel⟩
theorem C_mask_of (T : Txt K mg) : Cal P w K mg base CX0 2 "mask_of" (spMask K) := by
  refine cal_of T.d_mask_of T.g_mask_of sc_mask_of (fun kV doc pm an cdv ct us h => ?_) (fun vs H Q E h => ?_) fun cdv A outer s H vs Q E hr h => ?_
  · match us, h with
    | [_, _], _ => rfl
  · obtain ⟨n, a, l, rfl, hs, hn, hl, nd, q⟩ := h; rfl
  obtain ⟨n, a, l, rfl, hs, hn, hl, nd, q⟩ := h
  refine ⟨_, (pss_cons (ps_set (i := 2) sc_mask_of.nd rfl (Or.inl rfl) pe_int)
      (pss_cons (ps_for PassesOwn.never rfl (pi_or (pi_list (pv 1)) (pi_tup (pv 1))) (pg_name (i := 3) sc_mask_of.nd rfl (Or.inl rfl)) (pss_cons (ps_expr (pe_cal (C_check_hand T) (hr.mono (by decide)) (pa_cons (pv 0) (pa_cons (pv 3) pa_nil))))
      (pss_cons (ps_if (pt_val (pe_cal (C_has_hand T) (hr.mono (by decide)) (pa_cons (pv 2) (pa_cons (pv 3) pa_nil)))) (pss_one ps_never) pss_nil)
      (pss_one (ps_set (i := 2) sc_mask_of.nd rfl (Or.inl rfl) (pe_cal (C_with_hand T) (hr.mono (by decide)) (pa_cons (pv 2) (pa_cons (pv 3) pa_nil))))))))
      (pss_one (ps_ret (pv 2))))), ?_⟩
  refine rd_seq hs (fun Q z => ⟨_, rfl, z⟩) fun J wk => for_it wk (fun i σ H' => σ[0]? = some (some (vN n)) ∧ H' = H ∧ σ[1]? = some (some (.ref a)) ∧ σ[2]? = some (some (vN (mOf (l.take i)))) ∧ σ.length = 4) ⟨rfl, rfl, rfl, rfl, rfl⟩ (fun i σ H' _ p => by rw [p.2.1]; exact Same.refl _) (fun i x σ H1 H' hi p y => ?_) fun σ H' p => ?_
  · obtain ⟨s0, e, s1, s2, sl⟩ := p
    subst e
    obtain ⟨e, hx⟩ := y
    subst e
    rw [List.length_map] at hi
    obtain rfl : x = vN l[i] := by rw [List.getElem?_map, List.getElem?_eq_getElem hi] at hx; exact (Option.some.inj hx).symm
    have t1 : (σ.set 3 (some (vN l[i])))[0]? = some (some (vN n)) := by rw [List.getElem?_set_ne (by decide)]; exact s0
    have t2 : (σ.set 3 (some (vN l[i])))[2]? = some (some (vN (mOf (l.take i)))) := by rw [List.getElem?_set_ne (by decide)]; exact s2
    have t3 : (σ.set 3 (some (vN l[i])))[3]? = some (some (vN l[i])) := List.getElem?_set_self (by omega)
    have hm := hl _ (List.getElem_mem hi)
    have fr : (mOf (l.take i)).testBit l[i] = false := by
      unfold mOf
      rw [mOf_bit, Nat.zero_testBit, Bool.false_or, decide_eq_false_iff_not]
      intro hh
      obtain ⟨j, hj, e⟩ := List.getElem_of_mem hh
      rw [List.getElem_take] at e
      rw [List.length_take] at hj
      have := nd_ix nd (i := j) (j := i) (x := l[i]) (by rw [List.getElem?_eq_getElem (by omega), e]) (List.getElem?_eq_getElem hi)
      omega
    refine ⟨_, t1, _, t3, n, _, rfl, hm, ⟨_, t2, _, t3, _, _, rfl, ⟨_, rfl, no fr ⟨_, t2, _, t3, _, _, rfl, by omega, ?_, rfl, ?_, ?_, ?_⟩⟩⟩⟩
    · rw [List.getElem?_set_ne (by decide)]; exact t1
    · rw [List.getElem?_set_ne (by decide), List.getElem?_set_ne (by decide)]; exact s1
    · rw [List.getElem?_set_self (by rw [List.length_set]; omega), List.take_add_one, List.getElem?_eq_getElem hi]
      show some (some (vN (mOf (l.take i) ||| 2 ^ l[i]))) = some (some (vN (mOf (l.take i ++ [l[i]]))))
      rw [mOf, mOf, List.foldl_append]
      rfl
    · rw [List.length_set, List.length_set]; exact sl
  · obtain ⟨s0, e, s1, s2, sl⟩ := p
    subst e
    rw [List.length_map, List.take_length] at s2
    exact ⟨_, s2, q⟩
/-! ### the hands of a code, ascending -/
def spTuple : Sp := fun vs H Q _ => ∃ m : Nat, vs = [vN m] ∧ m < 64 ∧ ∀ H' p, Same H H' → H p = none → H' p = some (.tup ((hOf m).map vN)) → Q (.ref p) H'
theorem hOf_bits : ∀ m : Nat, m < 64 → Builtin.Int.intBits (m : Int) ≤ 6 ∧ ((List.range (Builtin.Int.intBits (m : Int))).filter fun h => m.testBit h) = hOf m := by decide +kernel
def N_tuple_of : List Str := ["mask", "hand"]
theorem sc_tuple_of : FnScope N_tuple_of ["mask"] (defScope st_tuple_of) := ⟨rfl, rfl, rfl, by decide +kernel, rfl, by decide +kernel, by decide +kernel⟩
theorem C_tuple_of (T : Txt K mg) : Cal P w K mg base CX0 2 "tuple_of" spTuple := by
  refine cal_of T.d_tuple_of T.g_tuple_of sc_tuple_of (fun kV doc pm an cdv ct us h => ?_) (fun vs H Q E h => ?_) fun cdv A outer s H vs Q E hr h => ?_
  · match us, h with
    | [_], _ => rfl
  · obtain ⟨m, rfl, hm, q⟩ := h; rfl
  obtain ⟨m, rfl, hm, q⟩ := h
  refine ⟨_, (pss_one (ps_ret (pe_callTy call_tuple_of (by rfl) T.n_tuple (by decide +kernel) (pa_cons (pe_lc (own := [("hand", 1)]) (g := gName 1) (by rfl) sc_tuple_of.nd (pi_range1 rfl T.n_range (pa_cons (pe_bits (pv 0)) pa_nil)) (blkOk_by (own := [("hand", 1)]) (N := N_tuple_of) (sc := defScope st_tuple_of) (by decide +kernel)) (fun _ _ _ _ _ => pg_name (i := 1) sc_tuple_of.nd rfl (Or.inl rfl)) (fun _ _ _ _ _ => pts_one (pt_val (pe_cal (C_has_hand T) (hr.mono (by decide)) (pa_cons (pv 0) (pa_cons (pv 1) pa_nil))))) (fun _ _ _ _ _ => (pv 1))) pa_nil)))), ?_⟩
  obtain ⟨b6, hb⟩ := hOf_bits m hm
  refine ⟨_, rfl, _, rfl, _, rfl, by omega, by omega, fun D hD => lcW wkR hD (by rw [sizeLine_eq]; omega) (fun h => m.testBit h) (fun h => vN h) (fun i x H1 Ry Rn hi e y ky kn => ?_) (fun i H x H' y => y.1) fun H1 e hl => ⟨_, _, rfl, .inl ⟨.inl (.inl hl), fun l hn => ?_⟩⟩⟩
  · obtain ⟨_, rfl⟩ := y
    refine ⟨rfl, ⟨_, rfl, _, rfl, _, _, rfl, ⟨_, rfl, ?_⟩⟩⟩
    exact both (fun h => ⟨_, rfl, ky h _ (Same.refl _)⟩) fun h => kn h _ (Same.refl _)
  · refine q _ _ (Same.up e hn) (Same.free e hn) ?_
    rw [upd_same]
    show some (HO.tup (((List.range (Builtin.Int.intBits (m : Int))).filter fun h => m.testBit h).map fun h => vN h)) = _
    rw [hb]
end
end Wf

namespace Wf
open PySem PySem.Spec PyProof.Rows L2
/-! ### fractions -/
def IsR (H : Hp) (v : V) (t b : Int) : Prop := ∃ (a dx : Addr) (fs : List (Str × V)), v = .ref a ∧ H a = some (.ins cR dx fs) ∧ fs.lookup ("top" : Str) = some (.int t) ∧ fs.lookup ("bottom" : Str) = some (.int b) ∧ fs.lookup ("below" : Str) = none
def Frac (H : Hp) (v : V) (t b : Int) : Prop := (v = .int t ∧ b = 1) ∨ IsR H v t b
theorem IsR.same {H H' : Hp} {v : V} {t b : Int} (e : Same H H') (h : IsR H v t b) : IsR H' v t b := by
  obtain ⟨a, dx, fs, e1, e2, e3⟩ := h
  exact ⟨a, dx, fs, e1, e _ _ e2, e3⟩
theorem Frac.same {H H' : Hp} {v : V} {t b : Int} (e : Same H H') (h : Frac H v t b) : Frac H' v t b := h.imp id fun h => h.same e
/-- small enough -/
def Sm (x : Int) : Prop := -(2 ^ 60) < x ∧ x < 2 ^ 60
theorem Sm.nat {x : Int} (h : Sm x) : x.natAbs < 2 ^ 60 := by unfold Sm at h; omega
theorem Sm.mul {x y : Int} (hx : Sm x) (hy : Sm y) : (x * y).natAbs < 2 ^ 120 := wide_lt hx.nat hy.nat
theorem Sm.c {x : Int} (hx : Sm x) : -(2 ^ 64) ≤ x ∧ x ≤ 2 ^ 64 := by unfold Sm at hx; omega
section
variable {P : Program} {w : World} {K : PySem.W.Frag} {mg : Str → Option Value} {base : Heap}
/-- __init__, beside all else -/
def spRInit : Sp := fun vs H Q _ => ∃ (x dx : Addr) (t b : Int) (k : Bool), vs = [.ref x, .int t, .int b, .bl k] ∧ H x = some (.ins cR dx []) ∧ 0 < b ∧ b.natAbs < 2 ^ 200 ∧ (k = true → -(10 ^ 60) ≤ t ∧ t ≤ 10 ^ 60 ∧ b ≤ 10 ^ 60) ∧
  ∀ H', (∀ y o, y ≠ x → H y = some o → H' y = some o) → IsR H' (.ref x) (exT t b) (exB t b) → Q .non H'
theorem dR (T : Txt K mg) : ∃ fd, FunD K "__init__" "Ratio.__init__" (defArgs st_Ratio___init__) (defBody st_Ratio___init__) (defScope st_Ratio___init__) [.int 1] [("_bounded", .bl true)] 425 fd := T.def_ 48 rfl
def N_Ratio___init__ : List Str := ["self", "top", "bottom", "_bounded", "divisor"]
theorem sc_Ratio___init__ : FnScope N_Ratio___init__ ["self", "top", "bottom", "_bounded"] (defScope st_Ratio___init__) := ⟨rfl, rfl, rfl, by decide +kernel, rfl, by decide +kernel, by decide +kernel⟩
theorem F_RInit (T : Txt K mg) : ∃ fd, FunD K "__init__" "Ratio.__init__" (defArgs st_Ratio___init__) (defBody st_Ratio___init__) (defScope st_Ratio___init__) [.int 1] [("_bounded", .bl true)] 425 fd ∧ FnOk P w K mg base CX0 2 425 fd ["self", "top", "bottom", "_bounded"] spRInit := by
  obtain ⟨fd, F⟩ := dR T
  refine ⟨fd, F, F.ok sc_Ratio___init__ (fun vs H Q E h => ?_) fun cdv A outer s H vs Q E hr h => ?_⟩
  · obtain ⟨x, dx, t, b, k, rfl, _⟩ := h; rfl
  obtain ⟨x, dx, t, b, k, rfl, hx, hb, hw, hk, q⟩ := h
  refine ⟨_, PSs.nox (pss_cons (ps_if (pt_val (pv 3)) (pss_cons (ps_expr (pe_cal (C_check_number T) (hr.mono (by decide)) (pa_cons (pv 1) (pa_cons (pe_un un_neg (pe_gint T.m_MOST_PART)) (pa_cons (pe_gint T.m_MOST_PART) pa_nil)))))
      (pss_one (ps_expr (pe_cal (C_check_number T) (hr.mono (by decide)) (pa_cons (pv 2) (pa_cons pe_int (pa_cons (pe_gint T.m_MOST_PART) pa_nil))))))) pss_nil)
      (pss_cons (ps_set (i := 4) sc_Ratio___init__.nd rfl (Or.inl rfl) (pe_callBfun cr_gcd rfl T.m_gcd (pa_cons (pv 1) (pa_cons (pv 2) pa_nil))))
      (pss_cons (ps_if (pt_cmpR op_lt (pv 2) pe_int (nomark _)) (pss_one (ps_set (i := 4) sc_Ratio___init__.nd rfl (Or.inl rfl) (pe_un un_neg (pv 4)))) pss_nil)
      (pss_cons (ps_fld (pv 0) (pe_op op_fdivW (pv 1) (pv 4)) rfl)
      (pss_one (ps_fld (pv 0) (pe_op op_fdivW (pv 2) (pv 4)) rfl)))))), ?_⟩
  have hg := gI_pos (t := t) hb
  have hgb : (gI t b).natAbs < 2 ^ 200 := by
    have : gI t b ≤ b := Int.le_of_dvd hb (gI_b t b)
    omega
  refine ⟨_, rfl, _, rfl, both (fun e => ?_) (fun _ => ?_)⟩
  · obtain ⟨k1, k2, k3⟩ := hk e
    refine ⟨_, rfl, _, rfl, t, -(10 ^ 60), 10 ^ 60, rfl, k1, k2, ⟨_, rfl, b, 1, 10 ^ 60, rfl, by omega, k3, ?_⟩⟩
    refine ⟨_, rfl, _, rfl, _, _, rfl, _, rfl, _, _, rfl, rfl, _, rfl, no (decide_eq_false (by omega)) ⟨_, rfl, _, rfl, t, gI t b, rfl, rfl, wide_div hg hgb (by decide) (by decide), _, rfl, x, _, dx, _, rfl, hx, T.clR, T.R_top, by decide,
      _, rfl, _, rfl, b, gI t b, rfl, rfl, wide_div hg hgb (by decide) (by decide), _, rfl, x, _, dx, _, rfl, upd_same, T.clR, T.R_bottom, by show 1 < 1000; decide, ?_⟩⟩
    exact q _ (fun y o hy e => by rw [upd_ne hy, upd_ne hy]; exact e) ⟨x, dx, _, rfl, upd_same, rfl, rfl, rfl⟩
  · refine ⟨_, rfl, _, rfl, _, _, rfl, _, rfl, _, _, rfl, rfl, _, rfl, no (decide_eq_false (by omega)) ⟨_, rfl, _, rfl, t, gI t b, rfl, rfl, wide_div hg hgb (by decide) (by decide), _, rfl, x, _, dx, _, rfl, hx, T.clR, T.R_top, by decide,
      _, rfl, _, rfl, b, gI t b, rfl, rfl, wide_div hg hgb (by decide) (by decide), _, rfl, x, _, dx, _, rfl, upd_same, T.clR, T.R_bottom, by show 1 < 1000; decide, ?_⟩⟩
    exact q _ (fun y o hy e => by rw [upd_ne hy, upd_ne hy]; exact e) ⟨x, dx, _, rfl, upd_same, rfl, rfl, rfl⟩
/-! binding: Ratio(t, b, _bounded=False) and Ratio(t, b) -/
theorem kb_R {fd : FuncData} (F : FunD K "__init__" "Ratio.__init__" (defArgs st_Ratio___init__) (defBody st_Ratio___init__) (defScope st_Ratio___init__) [.int 1] [("_bounded", .bl true)] 425 fd) :
    ∃ its mv : List Value, KBn K fd ["self", "top", "bottom", "_bounded"] 3 ["_bounded"] (fun us ws => us ++ ws) (fun vs zs => vs ++ zs) := by
  refine F.kbinds 3 ["_bounded"] [] (fun vs _ _ zs => vs ++ zs) (by simp) (by simp) (by simp) (fun r1 _ _ r4 => r1.append r4) fun T D doc pm an cdv ct us its mv ws l1 l2 l3 l4 => ?_
  match us, l1, its, l2, mv, l3, ws, l4 with
  | [a, b, c], _, [d], _, [], _, [e], _ => exact ⟨_, rfl, rfl⟩
theorem bd_R {fd : FuncData} (F : FunD K "__init__" "Ratio.__init__" (defArgs st_Ratio___init__) (defBody st_Ratio___init__) (defScope st_Ratio___init__) [.int 1] [("_bounded", .bl true)] 425 fd) :
    ∃ ds, Vals [V.bl true] ds ∧ Binds K fd ["self", "top", "bottom", "_bounded"] ds := by
  refine F.binds 3 1 (by simp) rfl (fun T D doc pm an cdv ct us its ks l1 l2 l3 => ?_) (by simp)
  match us, l1, its, l2, ks, l3 with
  | [a, b, c], _, [d], _, [e], _ => exact ⟨_, rfl, _, _, _, _, _, _, rfl, rfl, rfl⟩
def spExact : Sp := fun vs H Q _ => ∃ t b : Int, vs = [.int t, .int b] ∧ 0 < b ∧ b.natAbs < 2 ^ 200 ∧ ∀ v H', Same H H' → IsR H' v (exT t b) (exB t b) → Q v H'
theorem made_R {H H' : Hp} {x dx : Addr} {C : Addr} (nx : H x = none) (nd : H dx = none) (k : ∀ y o, y ≠ x → (upd (upd H dx (.own x)) x (.ins C dx [])) y = some o → H' y = some o) : Same H H' :=
  Same.made nx nd fun b o e n => k b o n e
def N_exact : List Str := ["top", "bottom"]
theorem sc_exact : FnScope N_exact ["top", "bottom"] (defScope st_exact) := ⟨rfl, rfl, rfl, by decide +kernel, rfl, by decide +kernel, by decide +kernel⟩
theorem C_exact (T : Txt K mg) : Cal P w K mg base CX0 4 "exact" spExact := by
  refine cal_of T.d_exact T.g_exact sc_exact (fun kV doc pm an cdv ct us h => ?_) (fun vs H Q E h => ?_) fun cdv A outer s H vs Q E hr h => ?_
  · match us, h with
    | [_, _], _ => rfl
  · obtain ⟨t, b, rfl, hb, hw, q⟩ := h; rfl
  obtain ⟨t, b, rfl, hb, hw, q⟩ := h
  obtain ⟨fd, FD, FR⟩ := F_RInit (P := P) (w := w) (mg := mg) (base := base) T
  obtain ⟨its, mv, kb⟩ := kb_R FD
  refine ⟨_, (pss_one (ps_ret (pe_makeK T.mkR FR (hr.mono (by decide)) rfl T.m_Ratio kb pass0 (pa_cons (pv 0) (pa_cons (pv 1) pa_nil)) (pk_cons pe_bl pk_nil)))), ?_⟩
  refine ⟨_, rfl, _, rfl, rfl, rfl, fun x dx hx hd hne => ⟨x, dx, t, b, false, rfl, upd_same, hb, hw, (fun z => nomatch z), fun H' k r => ⟨rfl, q _ _ (made_R hx hd k) r⟩⟩⟩
def spIsF : Sp := fun vs H Q _ => ∃ (v : V) (t b : Int), vs = [v] ∧ Frac H v t b ∧ Q (.bl true) H
def N_is_fraction : List Str := ["value"]
theorem sc_is_fraction : FnScope N_is_fraction ["value"] (defScope st_is_fraction) := ⟨rfl, rfl, rfl, by decide +kernel, rfl, by decide +kernel, by decide +kernel⟩
theorem C_is_fraction (T : Txt K mg) : Cal P w K mg base CX0 1 "is_fraction" spIsF := by
  refine cal_of T.d_is_fraction T.g_is_fraction sc_is_fraction (fun kV doc pm an cdv ct us h => ?_) (fun vs H Q E h => ?_) fun cdv A outer s H vs Q E hr h => ?_
  · match us, h with
    | [_], _ => rfl
  · obtain ⟨v, t, b, rfl, hv, q⟩ := h; rfl
  obtain ⟨v, t, b, rfl, hv, q⟩ := h
  refine ⟨_, (pss_one (ps_ret (pe_or (pe_callB call_isi (by rfl) T.n_isinstance (by decide +kernel) (pa_cons (pv 0) (pa_cons (pe_gref T.m_Ratio) pa_nil))) (pe_one (pe_callB call_isi (by rfl) T.n_isinstance (by decide +kernel) (pa_cons (pv 0) (pa_cons (pe_bty (n := "int") T.n_int) pa_nil))))))), ?_⟩
  rcases hv with ⟨rfl, rfl⟩ | ⟨a, dx, fs, rfl, h1, h2, h3, hz⟩
  · refine ⟨_, rfl, _, _, _, _, _, rfl, .own _, .base (.int _), T.kIR, _, rfl, no rfl ⟨_, rfl, _, _, _, _, _, rfl, .ty _, .base (.int _), kit_ty (by decide +kernel), q⟩⟩
  · refine ⟨_, rfl, _, _, _, _, _, rfl, .own _, T.tyR h1, T.kRR, _, rfl, yes rfl q⟩
def spTB : Sp := fun vs H Q _ => ∃ (v : V) (t b : Int), vs = [v] ∧ Frac H v t b ∧ ∀ p, H p = none → Q (.ref p) (upd H p (.tup [.int t, .int b]))
def N_top_and_bottom : List Str := ["value"]
theorem sc_top_and_bottom : FnScope N_top_and_bottom ["value"] (defScope st_top_and_bottom) := ⟨rfl, rfl, rfl, by decide +kernel, rfl, by decide +kernel, by decide +kernel⟩
theorem C_top_and_bottom (T : Txt K mg) : Cal P w K mg base CX0 1 "top_and_bottom" spTB := by
  refine cal_of T.d_top_and_bottom T.g_top_and_bottom sc_top_and_bottom (fun kV doc pm an cdv ct us h => ?_) (fun vs H Q E h => ?_) fun cdv A outer s H vs Q E hr h => ?_
  · match us, h with
    | [_], _ => rfl
  · obtain ⟨v, t, b, rfl, hv, q⟩ := h; rfl
  obtain ⟨v, t, b, rfl, hv, q⟩ := h
  refine ⟨_, (pss_cons (ps_if (pt_val (pe_callB call_isi (by rfl) T.n_isinstance (by decide +kernel) (pa_cons (pv 0) (pa_cons (pe_gref T.m_Ratio) pa_nil)))) (pss_one (ps_ret (pe_tup (pa_cons (pe_fld (pv 0) rfl) (pa_cons (pe_fld (pv 0) rfl) pa_nil))))) pss_nil)
      (pss_one (ps_ret (pe_tup (pa_cons (pv 0) (pa_cons pe_int pa_nil)))))), ?_⟩
  rcases hv with ⟨rfl, rfl⟩ | hv
  · exact ⟨_, rfl, _, _, _, _, _, rfl, .own _, .base (.int _), T.kIR, _, rfl, no rfl ⟨_, rfl, by show 2 ≤ sizeLine; decide, fun p hp => q p hp⟩⟩
  · obtain ⟨a, dx, fs, rfl, h1, h2, h3, hz⟩ := hv
    refine ⟨_, rfl, _, _, _, _, _, rfl, .own _, T.tyR h1, T.kRR, _, rfl, yes rfl ?_⟩
    exact ⟨_, rfl, _, _, _, _, _, rfl, h1, T.clR, T.R_top, h2, _, rfl, _, _, _, _, _, rfl, h1, T.clR, T.R_bottom, h3, by show 2 ≤ sizeLine; decide, fun p hp => q p hp⟩
def spLess : Sp := fun vs H Q _ => ∃ (v u : V) (t b x y : Int), vs = [v, u] ∧ Frac H v t b ∧ Frac H u x y ∧ Sm t ∧ Sm b ∧ Sm x ∧ Sm y ∧ ∀ H', Same H H' → Q (.bl (decide (t * y < x * b))) H'
def N_is_less : List Str := ["first", "second", "top", "bottom", "other_top", "other_bottom"]
theorem sc_is_less : FnScope N_is_less ["first", "second"] (defScope st_is_less) := ⟨rfl, rfl, rfl, by decide +kernel, rfl, by decide +kernel, by decide +kernel⟩
theorem C_is_less (T : Txt K mg) : Cal P w K mg base CX0 2 "is_less" spLess := by
  refine cal_of T.d_is_less T.g_is_less sc_is_less (fun kV doc pm an cdv ct us h => ?_) (fun vs H Q E h => ?_) fun cdv A outer s H vs Q E hr h => ?_
  · match us, h with
    | [_, _], _ => rfl
  · obtain ⟨v, u, t, b, x, y, rfl, hv, hu, st, sb, sx, sy, q⟩ := h; rfl
  obtain ⟨v, u, t, b, x, y, rfl, hv, hu, st, sb, sx, sy, q⟩ := h
  refine ⟨_, (pss_cons (ps_asg (pe_cal (C_top_and_bottom T) (hr.mono (by decide)) (pa_cons (pv 0) pa_nil)) (pg_tup rfl (pgs_cons (pg_name (i := 2) sc_is_less.nd rfl (Or.inl rfl)) (pgs_cons (pg_name (i := 3) sc_is_less.nd rfl (Or.inl rfl)) pgs_nil))))
      (pss_cons (ps_asg (pe_cal (C_top_and_bottom T) (hr.mono (by decide)) (pa_cons (pv 1) pa_nil)) (pg_tup rfl (pgs_cons (pg_name (i := 4) sc_is_less.nd rfl (Or.inl rfl)) (pgs_cons (pg_name (i := 5) sc_is_less.nd rfl (Or.inl rfl)) pgs_nil))))
      (pss_one (ps_ret (pe_cmpR op_lt (pe_op op_mulW (pv 2) (pv 5)) (pe_op op_mulW (pv 4) (pv 3)) (nomark _)))))), ?_⟩
  refine ⟨_, rfl, v, t, b, rfl, hv, fun p hp => ⟨_, _, rfl, .inl (.inl upd_same), rfl, _, _, rfl, _, _, rfl, rfl, _, rfl, u, x, y, rfl, hu.same (Same.new hp), fun p2 hp2 => ⟨_, _, rfl, .inl (.inl upd_same), rfl, _, _, rfl, _, _, rfl, rfl, ?_⟩⟩⟩
  exact ⟨_, rfl, _, rfl, _, _, rfl, rfl, wide_mul st.nat sy.nat (by decide) (by decide) (by decide), _, rfl, _, rfl, _, _, rfl, rfl, wide_mul sx.nat sb.nat (by decide) (by decide) (by decide), _, _, rfl, rfl, q _ (Same.up (Same.new hp) hp2)⟩
def N_Ratio_below : List Str := ["self", "other"]
theorem sc_Ratio_below : FnScope N_Ratio_below ["self", "other"] (defScope st_Ratio_below) := ⟨rfl, rfl, rfl, by decide +kernel, rfl, by decide +kernel, by decide +kernel⟩
theorem F_Ratio_below (T : Txt K mg) : ∃ fd ps, FnOk P w K mg base CX0 3 509 fd ps spLess ∧ Binds K fd ps [] := by
  refine fnr_of T.d_Ratio_below sc_Ratio_below (fun kV doc pm an cdv ct us h => ?_) (fun vs H Q E h => ?_) fun cdv A outer s H vs Q E hr h => ?_
  · match us, h with
    | [_, _], _ => rfl
  · obtain ⟨v, u, t, b, x, y, rfl, hv, hu, st, sb, sx, sy, q⟩ := h; rfl
  obtain ⟨v, u, t, b, x, y, rfl, hv, hu, st, sb, sx, sy, q⟩ := h
  refine ⟨_, (pss_one (ps_ret (pe_cal (C_is_less T) (hr.mono (by decide)) (pa_cons (pv 0) (pa_cons (pv 1) pa_nil))))), ?_⟩
  exact ⟨_, rfl, _, rfl, v, u, t, b, x, y, rfl, hv, hu, st, sb, sx, sy, q⟩
theorem C_below (T : Txt K mg) : MCal P w K mg base CX0 3 cR "below" spLess := by
  obtain ⟨fd, ps, F, b⟩ := F_Ratio_below (P := P) (w := w) (mg := mg) (base := base) T
  exact ⟨_, fd, ps, F, T.clR, T.mt_below, b⟩
/-- value within low and high, its bottom at most 10 ** 6 -/
def spTaken : Sp := fun vs H Q _ => ∃ (v l h : V) (t b x1 y1 x2 y2 : Int), vs = [v, l, h] ∧ Frac H v t b ∧ Frac H l x1 y1 ∧ Frac H h x2 y2 ∧ Sm t ∧ Sm b ∧ Sm x1 ∧ Sm y1 ∧ Sm x2 ∧ Sm y2 ∧ Low t b ∧ b ≤ 1000000 ∧ x1 * b ≤ t * y1 ∧ t * y2 ≤ x2 * b ∧
  ∀ v H', Same H H' → IsR H' v t b → Q v H'
def N_taken : List Str := ["value", "low", "high", "top", "bottom"]
theorem sc_taken : FnScope N_taken ["value", "low", "high"] (defScope st_taken) := ⟨rfl, rfl, rfl, by decide +kernel, rfl, by decide +kernel, by decide +kernel⟩
theorem C_taken (T : Txt K mg) : Cal P w K mg base CX0 5 "taken" spTaken := by
  refine cal_of T.d_taken T.g_taken sc_taken (fun kV doc pm an cdv ct us h => ?_) (fun vs H Q E h => ?_) fun cdv A outer s H vs Q E hr h => ?_
  · match us, h with
    | [_, _, _], _ => rfl
  · obtain ⟨v, l, h, t, b, x1, y1, x2, y2, rfl, hv, hl, hh, st, sb, s1, s2, s3, s4, lo, b6, c1, c2, q⟩ := h; rfl
  obtain ⟨v, l, h, t, b, x1, y1, x2, y2, rfl, hv, hl, hh, st, sb, s1, s2, s3, s4, lo, b6, c1, c2, q⟩ := h
  refine ⟨_, (pss_cons (ps_asg (pe_cal (C_top_and_bottom T) (hr.mono (by decide)) (pa_cons (pv 0) pa_nil)) (pg_tup rfl (pgs_cons (pg_name (i := 3) sc_taken.nd rfl (Or.inl rfl)) (pgs_cons (pg_name (i := 4) sc_taken.nd rfl (Or.inl rfl)) pgs_nil))))
      (pss_cons (ps_if (PW.pt (pw_or (pt_val (pe_cal (C_is_less T) (hr.mono (by decide)) (pa_cons (pv 0) (pa_cons (pv 1) pa_nil)))) (pw_or1 (pt_val (pe_cal (C_is_less T) (hr.mono (by decide)) (pa_cons (pv 2) (pa_cons (pv 0) pa_nil))))))) (pss_one ps_never) pss_nil)
      (pss_cons (ps_if (pt_cmpR op_gt (pv 4) (ClX.pe_cval (pe_gref T.m_Ratio)) (nomark _)) (pss_one ps_never) pss_nil)
      (pss_one (ps_ret (pe_cal (C_exact T) (hr.mono (by decide)) (pa_cons (pv 3) (pa_cons (pv 4) pa_nil)))))))), ?_⟩
  refine ⟨_, rfl, v, t, b, rfl, hv, fun p hp => ⟨_, _, rfl, .inl (.inl upd_same), rfl, _, _, rfl, _, _, rfl, rfl, _, rfl, _, rfl, v, l, t, b, x1, y1, rfl, hv.same (Same.new hp), hl.same (Same.new hp), st, sb, s1, s2, fun H1 e1 => ?_⟩⟩
  have e1 := Same.trans (Same.new hp) e1
  obtain ⟨u, cv⟩ := T.cvR
  refine ⟨_, rfl, no (decide_eq_false (by omega)) ⟨_, rfl, _, rfl, h, v, x2, y2, t, b, rfl, hh.same e1, hv.same e1, s3, s4, st, sb, fun H2 e2 => ⟨_, rfl, no (decide_eq_false (by omega)) ?_⟩⟩⟩
  refine ⟨_, rfl, _, _, _, _, rfl, T.crR, cv, _, _, rfl, rfl, _, rfl, no (decide_eq_false (by omega)) ⟨_, rfl, _, rfl, t, b, rfl, lo.pos, Nat.lt_trans sb.nat (by decide), fun v H' e3 hr => ?_⟩⟩
  rw [lo.ex.1, lo.ex.2] at hr
  exact q _ _ (Same.trans (Same.trans e1 e2) e3) hr
def sum2 (s : Int) (t b x y : Int) : Int × Int := (exT (t * y + s * x * b) (b * y), exB (t * y + s * x * b) (b * y))
def spAdd (s : Int) : Sp := fun vs H Q _ => ∃ (v u : V) (t b x y : Int), vs = [v, u] ∧ IsR H v t b ∧ Frac H u x y ∧ Sm t ∧ Sm b ∧ Sm x ∧ Sm y ∧ 0 < b ∧ 0 < y ∧ ∀ r H', Same H H' → IsR H' r (sum2 s t b x y).1 (sum2 s t b x y).2 → Q r H'
theorem bnd {b y : Int} (sb : Sm b) (sy : Sm y) (pb : 0 < b) (py : 0 < y) : 0 < b * y ∧ (b * y).natAbs < 2 ^ 200 := ⟨Int.mul_pos pb py, Nat.lt_trans (sb.mul sy) (by decide)⟩
def N_Ratio___add__ : List Str := ["self", "other", "top", "bottom"]
theorem sc_Ratio___add__ : FnScope N_Ratio___add__ ["self", "other"] (defScope st_Ratio___add__) := ⟨rfl, rfl, rfl, by decide +kernel, rfl, by decide +kernel, by decide +kernel⟩
theorem F_Ratio___add__ (T : Txt K mg) : ∃ fd ps, FnOk P w K mg base CX0 5 432 fd ps (spAdd 1) ∧ Binds K fd ps [] := by
  refine fnr_of T.d_Ratio___add__ sc_Ratio___add__ (fun kV doc pm an cdv ct us h => ?_) (fun vs H Q E h => ?_) fun cdv A outer s H vs Q E hr h => ?_
  · match us, h with
    | [_, _], _ => rfl
  · obtain ⟨v, u, t, b, x, y, rfl, hv, hu, st, sb, sx, sy, pb, py, q⟩ := h; rfl
  obtain ⟨v, u, t, b, x, y, rfl, hv, hu, st, sb, sx, sy, pb, py, q⟩ := h
  refine ⟨_, (pss_cons (ps_if (pt_not (pt_val (pe_cal (C_is_fraction T) (hr.mono (by decide)) (pa_cons (pv 1) pa_nil)))) (pss_one ps_never) pss_nil)
      (pss_cons (ps_asg (pe_cal (C_top_and_bottom T) (hr.mono (by decide)) (pa_cons (pv 1) pa_nil)) (pg_tup rfl (pgs_cons (pg_name (i := 2) sc_Ratio___add__.nd rfl (Or.inl rfl)) (pgs_cons (pg_name (i := 3) sc_Ratio___add__.nd rfl (Or.inl rfl)) pgs_nil))))
      (pss_one (ps_ret (pe_cal (C_exact T) (hr.mono (by decide)) (pa_cons (pe_op op_add (pe_op op_mulW (pe_fld (pv 0) rfl) (pv 3)) (pe_op op_mulW (pv 2) (pe_fld (pv 0) rfl))) (pa_cons (pe_op op_mulW (pe_fld (pv 0) rfl) (pv 3)) pa_nil))))))), ?_⟩
  refine ⟨_, rfl, u, x, y, rfl, hu, _, rfl, no rfl ⟨_, rfl, u, x, y, rfl, hu, fun p hp => ⟨_, _, rfl, .inl (.inl upd_same), rfl, _, _, rfl, _, _, rfl, rfl, ?_⟩⟩⟩
  obtain ⟨a, dx, fs, rfl, h1, h2, h3, hz⟩ := hv.same (Same.new hp)
  refine ⟨_, rfl, _, _, _, _, _, rfl, h1, T.clR, T.R_top, h2, _, rfl, _, _, rfl, rfl, wide_mul st.nat sy.nat (by decide) (by decide) (by decide), _, rfl, _, rfl, _, _, _, _, _, rfl, h1, T.clR, T.R_bottom, h3, _, _, rfl, rfl, wide_mul sx.nat sb.nat (by decide) (by decide) (by decide),
    _, _, rfl, rfl, _, rfl, _, _, _, _, _, rfl, h1, T.clR, T.R_bottom, h3, _, rfl, _, _, rfl, rfl, wide_mul sb.nat sy.nat (by decide) (by decide) (by decide), t * y + x * b, b * y, rfl, (bnd sb sy pb py).1, (bnd sb sy pb py).2, fun r H' e hr => ?_⟩
  refine q r H' (Same.trans (Same.new hp) e) ?_
  unfold sum2
  rw [Int.one_mul]
  exact hr
def N_Ratio___sub__ : List Str := ["self", "other", "top", "bottom"]
theorem sc_Ratio___sub__ : FnScope N_Ratio___sub__ ["self", "other"] (defScope st_Ratio___sub__) := ⟨rfl, rfl, rfl, by decide +kernel, rfl, by decide +kernel, by decide +kernel⟩
theorem F_Ratio___sub__ (T : Txt K mg) : ∃ fd ps, FnOk P w K mg base CX0 5 446 fd ps (spAdd (-1)) ∧ Binds K fd ps [] := by
  refine fnr_of T.d_Ratio___sub__ sc_Ratio___sub__ (fun kV doc pm an cdv ct us h => ?_) (fun vs H Q E h => ?_) fun cdv A outer s H vs Q E hr h => ?_
  · match us, h with
    | [_, _], _ => rfl
  · obtain ⟨v, u, t, b, x, y, rfl, hv, hu, st, sb, sx, sy, pb, py, q⟩ := h; rfl
  obtain ⟨v, u, t, b, x, y, rfl, hv, hu, st, sb, sx, sy, pb, py, q⟩ := h
  refine ⟨_, (pss_cons (ps_if (pt_not (pt_val (pe_cal (C_is_fraction T) (hr.mono (by decide)) (pa_cons (pv 1) pa_nil)))) (pss_one ps_never) pss_nil)
      (pss_cons (ps_asg (pe_cal (C_top_and_bottom T) (hr.mono (by decide)) (pa_cons (pv 1) pa_nil)) (pg_tup rfl (pgs_cons (pg_name (i := 2) sc_Ratio___sub__.nd rfl (Or.inl rfl)) (pgs_cons (pg_name (i := 3) sc_Ratio___sub__.nd rfl (Or.inl rfl)) pgs_nil))))
      (pss_one (ps_ret (pe_cal (C_exact T) (hr.mono (by decide)) (pa_cons (pe_op op_sub (pe_op op_mulW (pe_fld (pv 0) rfl) (pv 3)) (pe_op op_mulW (pv 2) (pe_fld (pv 0) rfl))) (pa_cons (pe_op op_mulW (pe_fld (pv 0) rfl) (pv 3)) pa_nil))))))), ?_⟩
  refine ⟨_, rfl, u, x, y, rfl, hu, _, rfl, no rfl ⟨_, rfl, u, x, y, rfl, hu, fun p hp => ⟨_, _, rfl, .inl (.inl upd_same), rfl, _, _, rfl, _, _, rfl, rfl, ?_⟩⟩⟩
  obtain ⟨a, dx, fs, rfl, h1, h2, h3, hz⟩ := hv.same (Same.new hp)
  refine ⟨_, rfl, _, _, _, _, _, rfl, h1, T.clR, T.R_top, h2, _, rfl, _, _, rfl, rfl, wide_mul st.nat sy.nat (by decide) (by decide) (by decide), _, rfl, _, rfl, _, _, _, _, _, rfl, h1, T.clR, T.R_bottom, h3, _, _, rfl, rfl, wide_mul sx.nat sb.nat (by decide) (by decide) (by decide),
    _, _, rfl, rfl, _, rfl, _, _, _, _, _, rfl, h1, T.clR, T.R_bottom, h3, _, rfl, _, _, rfl, rfl, wide_mul sb.nat sy.nat (by decide) (by decide) (by decide), t * y - x * b, b * y, rfl, (bnd sb sy pb py).1, (bnd sb sy pb py).2, fun r H' e hr => ?_⟩
  refine q r H' (Same.trans (Same.new hp) e) ?_
  unfold sum2
  rw [Int.neg_mul, Int.one_mul, Int.neg_mul, ← Int.sub_eq_add_neg]
  exact hr
def spNeg : Sp := fun vs H Q _ => ∃ (v : V) (t b : Int), vs = [v] ∧ IsR H v t b ∧ Low t b ∧ Sm b ∧ ∀ r H', Same H H' → IsR H' r (-t) b → Q r H'
theorem Low.neg {t b : Int} (h : Low t b) : Low (-t) b := ⟨h.pos, by rw [Int.natAbs_neg]; exact h.cop⟩
def N_Ratio___neg__ : List Str := ["self"]
theorem sc_Ratio___neg__ : FnScope N_Ratio___neg__ ["self"] (defScope st_Ratio___neg__) := ⟨rfl, rfl, rfl, by decide +kernel, rfl, by decide +kernel, by decide +kernel⟩
theorem F_Ratio___neg__ (T : Txt K mg) : ∃ fd ps, FnOk P w K mg base CX0 5 474 fd ps spNeg ∧ Binds K fd ps [] := by
  refine fnr_of T.d_Ratio___neg__ sc_Ratio___neg__ (fun kV doc pm an cdv ct us h => ?_) (fun vs H Q E h => ?_) fun cdv A outer s H vs Q E hr h => ?_
  · match us, h with
    | [_], _ => rfl
  · obtain ⟨v, t, b, rfl, hv, lo, sb, q⟩ := h; rfl
  obtain ⟨v, t, b, rfl, hv, lo, sb, q⟩ := h
  refine ⟨_, (pss_one (ps_ret (pe_cal (C_exact T) (hr.mono (by decide)) (pa_cons (pe_un un_neg (pe_fld (pv 0) rfl)) (pa_cons (pe_fld (pv 0) rfl) pa_nil))))), ?_⟩
  obtain ⟨a, dx, fs, rfl, h1, h2, h3, hz⟩ := hv
  refine ⟨_, rfl, _, _, _, _, _, rfl, h1, T.clR, T.R_top, h2, _, rfl, _, rfl, _, _, _, _, _, rfl, h1, T.clR, T.R_bottom, h3, -t, b, rfl, lo.pos, Nat.lt_trans sb.nat (by decide), fun r H' e hr => ?_⟩
  rw [lo.neg.ex.1, lo.neg.ex.2] at hr
  exact q r H' e hr
def spRsub : Sp := fun vs H Q _ => ∃ (v : V) (n t b : Int), vs = [v, .int n] ∧ IsR H v t b ∧ Low t b ∧ Sm t ∧ Sm b ∧ Sm n ∧ ∀ r H', Same H H' → IsR H' r (sum2 1 (-t) b n 1).1 (sum2 1 (-t) b n 1).2 → Q r H'
def N_Ratio___rsub__ : List Str := ["self", "other"]
theorem sc_Ratio___rsub__ : FnScope N_Ratio___rsub__ ["self", "other"] (defScope st_Ratio___rsub__) := ⟨rfl, rfl, rfl, by decide +kernel, rfl, by decide +kernel, by decide +kernel⟩
theorem F_Ratio___rsub__ (T : Txt K mg) : ∃ fd ps, FnOk P w K mg base CX0 6 453 fd ps spRsub ∧ Binds K fd ps [] := by
  refine fnr_of T.d_Ratio___rsub__ sc_Ratio___rsub__ (fun kV doc pm an cdv ct us h => ?_) (fun vs H Q E h => ?_) fun cdv A outer s H vs Q E hr h => ?_
  · match us, h with
    | [_, _], _ => rfl
  · obtain ⟨v, n, t, b, rfl, hv, lo, st, sb, sn, q⟩ := h; rfl
  obtain ⟨v, n, t, b, rfl, hv, lo, st, sb, sn, q⟩ := h
  obtain ⟨fdN, psN, FN, bN⟩ := F_Ratio___neg__ (P := P) (w := w) (mg := mg) (base := base) T
  obtain ⟨fdA, psA, FA, bA⟩ := F_Ratio___add__ (P := P) (w := w) (mg := mg) (base := base) T
  refine ⟨_, (pss_cons (ps_if (pt_not (pt_val (pe_callB call_isi (by rfl) T.n_isinstance (by decide +kernel) (pa_cons (pv 1) (pa_cons (pe_bty (n := "int") T.n_int) pa_nil))))) (pss_one ps_never) pss_nil)
      (pss_one (ps_ret (pe_op (op_ownI T.op_add T.opI (fnR_of FA bA) (hr.mono (by decide))) (pe_un (un_own T.sp_neg.1 T.sp_neg.2.1 (fnR_of FN bN) (hr.mono (by decide))) (pv 0)) (pv 1))))), ?_⟩
  obtain ⟨a, dx, fs, rfl, h1, h2, h3, hz⟩ := hv
  refine ⟨_, rfl, _, _, _, _, true, rfl, .ty _, .base (.int _), kit_ty (by decide +kernel), _, rfl, no rfl ⟨_, rfl, a, dx, fs, rfl, h1, _, t, b, rfl, ⟨a, dx, fs, rfl, h1, h2, h3, hz⟩, lo, sb, fun r H' e hr => ⟨_, rfl, ?_⟩⟩⟩
  have hr0 := hr
  obtain ⟨a2, dx2, fs2, rfl, g1, g2, g3, gz⟩ := hr
  refine ⟨a2, dx2, fs2, n, rfl, rfl, g1, _, _, -t, b, n, 1, rfl, hr0, .inl ⟨rfl, rfl⟩, by unfold Sm at *; omega, sb, sn, by unfold Sm; decide, lo.pos, by decide, fun r H2 e2 hr => q r H2 (Same.trans e e2) hr⟩
end
end Wf

namespace Wf
open PySem PySem.Spec PyProof.Rows L2
/-- a new object is handed back, all else standing -/
def RetP (o : HO) (H : Hp) (Q : VK) : Prop := ∀ H' p, Same H H' → H p = none → H' p = some o → Q (.ref p) H'
/-- a scale -/
def Sc (H : Hp) (a : Addr) (n : Nat) (ns : List Int) : Prop := ∃ (dx l : Addr) (fs : List (Str × V)), H a = some (.ins cS dx fs) ∧ fs.lookup ("hands" : Str) = some (vN n) ∧ fs.lookup ("_numbers" : Str) = some (.ref l) ∧ H l = some (.tup (ns.map V.int)) ∧ ns.length = 2 ^ n ∧ 1 ≤ n ∧ n ≤ 6
theorem Sc.same {H H' : Hp} {a : Addr} {n : Nat} {ns : List Int} (e : Same H H') (h : Sc H a n ns) : Sc H' a n ns := by
  obtain ⟨dx, l, fs, h1, h2, h3, h4, h5⟩ := h
  exact ⟨dx, l, fs, e _ _ h1, h2, h3, e _ _ h4, h5⟩
theorem p6 {n : Nat} (h : n ≤ 6) : 2 ^ n ≤ 64 := Nat.pow_le_pow_right (by decide) h
theorem p62 {n : Nat} (h : n ≤ 6) : -(2 ^ 62) ≤ ((2 ^ n : Nat) : Int) ∧ ((2 ^ n : Nat) : Int) < 2 ^ 62 := by
  have := p6 h
  generalize 2 ^ n = m at *
  omega
theorem vN_dec (a b : Nat) : decide (vN a = vN b) = (a == b) := by
  by_cases h : a = b
  · subst h; simp
  · have : vN a ≠ vN b := fun z => h (Int.ofNat.inj (V.int.inj z))
    simp [h, this]
/-- a list or tuple -/
abbrev Sq (K : PySem.W.Frag) (H : Hp) (a : Addr) (xs : List V) : Prop := SqL K H a xs ∨ SqT K H a xs
theorem Sq.same {K : PySem.W.Frag} {H H' : Hp} {a : Addr} {xs : List V} (e : Same H H') (h : Sq K H a xs) : Sq K H' a xs := h.imp (Same.seq e) (Same.seqT e)
theorem sqL {K : PySem.W.Frag} {H : Hp} {a : Addr} {xs : List V} (h : H a = some (.lst xs)) : SqL K H a xs := .inl (.inl h)
theorem sqT {K : PySem.W.Frag} {H : Hp} {a : Addr} {xs : List V} (h : H a = some (.tup xs)) : SqT K H a xs := .inl (.inl h)
theorem hOf_lt {m h : Nat} (e : h ∈ hOf m) : h < 6 := List.mem_range.mp (List.mem_filter.mp e).1
theorem hOf_nd (m : Nat) : (hOf m).Nodup := List.Nodup.sublist List.filter_sublist List.nodup_range
def rLenK (K : PySem.W.Frag) : List V → Hp → VK → Prop := fun xs H Q => ∃ p ys, xs = [.ref p] ∧ (SqL K H p ys ∨ SqT K H p ys) ∧ Q (.int (ys.length : Nat)) H
section
variable {P : Program} {w : World} {K : PySem.W.Frag} {mg : Str → Option Value} {base : Heap}
def spSide : Sp := fun vs H Q _ => ∃ z : Str, vs = [.str z] ∧ (z = "near" ∨ z = "far") ∧ Q .non H
def N_check_side : List Str := ["side"]
theorem sc_check_side : FnScope N_check_side ["side"] (defScope st_check_side) := ⟨rfl, rfl, rfl, by decide +kernel, rfl, by decide +kernel, by decide +kernel⟩
theorem C_check_side (T : Txt K mg) : Cal P w K mg base CX0 1 "check_side" spSide := by
  refine cal_of T.d_check_side T.g_check_side sc_check_side (fun kV doc pm an cdv ct us h => ?_) (fun vs H Q E h => ?_) fun cdv A outer s H vs Q E hr h => ?_
  · match us, h with
    | [_], _ => rfl
  · obtain ⟨z, rfl, hz, q⟩ := h; rfl
  obtain ⟨z, rfl, hz, q⟩ := h
  refine ⟨_, (pss_one (ps_if (PW.pt (pw_and (pt_cmpR op_ne (pv 0) (pe_gstr T.m_NEAR) (nomark _)) (pw_and1 (pt_cmpR op_ne (pv 0) (pe_gstr T.m_FAR) (nomark _))))) (pss_one ps_never) pss_nil)), ?_⟩
  rcases hz with rfl | rfl
  · exact ⟨_, rfl, rfl, _, rfl, no rfl q⟩
  · exact ⟨_, rfl, rfl, _, rfl, yes rfl ⟨_, rfl, rfl, _, rfl, no rfl q⟩⟩
def spFree : Sp := fun vs H Q _ => ∃ n near far : Nat, vs = [vN n, vN near, vN far] ∧ n ≤ 6 ∧ near + far < 2 ^ n ∧ RetP (.tup ((fOf n near far).map vN)) H Q
def N_free_hands : List Str := ["hands", "near", "far"]
theorem sc_free_hands : FnScope N_free_hands ["hands", "near", "far"] (defScope st_free_hands) := ⟨rfl, rfl, rfl, by decide +kernel, rfl, by decide +kernel, by decide +kernel⟩
theorem C_free_hands (T : Txt K mg) : Cal P w K mg base CX0 3 "free_hands" spFree := by
  refine cal_of T.d_free_hands T.g_free_hands sc_free_hands (fun kV doc pm an cdv ct us h => ?_) (fun vs H Q E h => ?_) fun cdv A outer s H vs Q E hr h => ?_
  · match us, h with
    | [_, _, _], _ => rfl
  · obtain ⟨n, near, far, rfl, hn, hs, q⟩ := h; rfl
  obtain ⟨n, near, far, rfl, hn, hs, q⟩ := h
  refine ⟨_, (pss_one (ps_ret (pe_cal (C_tuple_of T) (hr.mono (by decide)) (pa_cons (pe_cal (C_rest_mask T) (hr.mono (by decide)) (pa_cons (pv 0) (pa_cons (pe_op op_addN (pv 1) (pv 2)) pa_nil))) pa_nil)))), ?_⟩
  have := p6 hn
  exact ⟨_, rfl, _, rfl, _, rfl, near, far, rfl, rfl, n, near + far, rfl, by omega, hs, _, rfl, by omega, q⟩
def spSome : Sp := fun vs H Q _ => ∃ n near far : Nat, vs = [vN n, vN near, vN far] ∧ n ≤ 6 ∧ near + far < 2 ^ n ∧ fOf n near far ≠ [] ∧ ∀ H', Same H H' → Q .non H'
def N_check_some_free : List Str := ["hands", "near", "far"]
theorem sc_check_some_free : FnScope N_check_some_free ["hands", "near", "far"] (defScope st_check_some_free) := ⟨rfl, rfl, rfl, by decide +kernel, rfl, by decide +kernel, by decide +kernel⟩
theorem C_check_some_free (T : Txt K mg) : Cal P w K mg base CX0 4 "check_some_free" spSome := by
  refine cal_of T.d_check_some_free T.g_check_some_free sc_check_some_free (fun kV doc pm an cdv ct us h => ?_) (fun vs H Q E h => ?_) fun cdv A outer s H vs Q E hr h => ?_
  · match us, h with
    | [_, _, _], _ => rfl
  · obtain ⟨n, near, far, rfl, hn, hs, hf, q⟩ := h; rfl
  obtain ⟨n, near, far, rfl, hn, hs, hf, q⟩ := h
  refine ⟨_, (pss_one (ps_if (pt_cmpR op_eq (pe_callB call_len_seq (by rfl) T.n_len (by decide +kernel) (pa_cons (pe_cal (C_free_hands T) (hr.mono (by decide)) (pa_cons (pv 0) (pa_cons (pv 1) (pa_cons (pv 2) pa_nil)))) pa_nil)) pe_int (nomark _)) (pss_one ps_never) pss_nil)), ?_⟩
  refine ⟨_, rfl, _, rfl, _, rfl, n, near, far, rfl, hn, hs, fun H' p e hp h => ⟨_, _, rfl, .inr (sqT h), rfl, _, rfl, no ?_ (q _ e)⟩⟩
  refine decide_eq_false fun z => ?_
  have z := V.int.inj z
  rw [List.length_map] at z
  exact hf (List.eq_nil_of_length_eq_zero (by omega))
def spFH : Sp := fun vs H Q _ => ∃ n near far h : Nat, vs = [vN n, vN near, vN far, vN h] ∧ h < n ∧ (near + far).testBit h = false ∧ Q .non H
def N_check_free_hand : List Str := ["hands", "near", "far", "hand"]
theorem sc_check_free_hand : FnScope N_check_free_hand ["hands", "near", "far", "hand"] (defScope st_check_free_hand) := ⟨rfl, rfl, rfl, by decide +kernel, rfl, by decide +kernel, by decide +kernel⟩
theorem C_check_free_hand (T : Txt K mg) : Cal P w K mg base CX0 2 "check_free_hand" spFH := by
  refine cal_of T.d_check_free_hand T.g_check_free_hand sc_check_free_hand (fun kV doc pm an cdv ct us h => ?_) (fun vs H Q E h => ?_) fun cdv A outer s H vs Q E hr h => ?_
  · match us, h with
    | [_, _, _, _], _ => rfl
  · obtain ⟨n, near, far, h, rfl, hn, hs, q⟩ := h; rfl
  obtain ⟨n, near, far, h, rfl, hn, hs, q⟩ := h
  refine ⟨_, (pss_cons (ps_expr (pe_cal (C_check_hand T) (hr.mono (by decide)) (pa_cons (pv 0) (pa_cons (pv 3) pa_nil))))
      (pss_one (ps_if (pt_val (pe_cal (C_has_hand T) (hr.mono (by decide)) (pa_cons (pe_op op_addN (pv 1) (pv 2)) (pa_cons (pv 3) pa_nil)))) (pss_one ps_never) pss_nil))), ?_⟩
  exact ⟨_, rfl, _, rfl, n, h, rfl, hn, _, rfl, _, rfl, near, far, rfl, rfl, _, rfl, near + far, h, rfl, _, rfl, no hs q⟩
structure Lot (n m : Nat) (l : List Nat) : Prop where
  lt : ∀ h ∈ l, h < n
  nd : l.Nodup
  eq : mOf l = m
theorem Lot.bit {n m : Nat} {l : List Nat} (L : Lot n m l) (x : Nat) : m.testBit x = decide (x ∈ l) := by
  have h := mOf_bit l 0 x
  rw [Nat.zero_testBit, Bool.false_or] at h
  rw [← L.eq]
  exact h
def spStand (K : PySem.W.Frag) : Sp := fun vs H Q _ => ∃ (a p q : Addr) (n near far : Nat) (ns : List Int) (l1 l2 : List Nat), vs = [.ref a, .ref p, .ref q] ∧ Sc H a n ns ∧ Sq K H p (l1.map vN) ∧ Sq K H q (l2.map vN) ∧ Lot n near l1 ∧ Lot n far l2 ∧ (∀ h ∈ l2, near.testBit h = false) ∧
  RetP (.tup [vN near, vN far]) H Q
def N_check_stand : List Str := ["scale", "near", "far", "near_mask", "far_mask", "hand"]
theorem sc_check_stand : FnScope N_check_stand ["scale", "near", "far"] (defScope st_check_stand) := ⟨rfl, rfl, rfl, by decide +kernel, rfl, by decide +kernel, by decide +kernel⟩
theorem C_check_stand (T : Txt K mg) : Cal P w K mg base CX0 3 "check_stand" (spStand K) := by
  refine cal_of T.d_check_stand T.g_check_stand sc_check_stand (fun kV doc pm an cdv ct us h => ?_) (fun vs H Q E h => ?_) fun cdv A outer s H vs Q E hr h => ?_
  · match us, h with
    | [_, _, _], _ => rfl
  · obtain ⟨a, p, q, n, near, far, ns, l1, l2, rfl, hs, hp, hq, L1, L2, hd, k⟩ := h; rfl
  obtain ⟨a, p, q, n, near, far, ns, l1, l2, rfl, hs, hp, hq, L1, L2, hd, k⟩ := h
  refine ⟨_, (pss_cons (ps_expr (pe_cal (C_check_hands T) (hr.mono (by decide)) (pa_cons (pe_fld (pv 0) rfl) (pa_cons (pe_gint T.m_MOST_HIRED) pa_nil))))
      (pss_cons (ps_set (i := 3) sc_check_stand.nd rfl (Or.inl rfl) (pe_cal (C_mask_of T) (hr.mono (by decide)) (pa_cons (pe_fld (pv 0) rfl) (pa_cons (pv 1) pa_nil))))
      (pss_cons (ps_set (i := 4) sc_check_stand.nd rfl (Or.inl rfl) (pe_cal (C_mask_of T) (hr.mono (by decide)) (pa_cons (pe_fld (pv 0) rfl) (pa_cons (pv 2) pa_nil))))
      (pss_cons (ps_for PassesOwn.never rfl (pi_or (pi_list (pv 2)) (pi_tup (pv 2))) (pg_name (i := 5) sc_check_stand.nd rfl (Or.inl rfl)) (pss_one (ps_if (pt_val (pe_cal (C_has_hand T) (hr.mono (by decide)) (pa_cons (pv 3) (pa_cons (pv 5) pa_nil)))) (pss_one ps_never) pss_nil)))
      (pss_one (ps_ret (pe_tup (pa_cons (pv 3) (pa_cons (pv 4) pa_nil))))))))), ?_⟩
  obtain ⟨dx, l, fs, h1, h2, h3, h4, h5, h6, h7⟩ := hs
  refine ⟨_, rfl, _, _, _, _, _, rfl, h1, T.clS, T.S_hands, h2, n, 6, rfl, by omega, by omega, _, rfl, _, _, _, _, _, rfl, h1, T.clS, T.S_hands, h2, _, rfl, n, p, l1, rfl, hp, by omega, L1.lt, L1.nd, ?_⟩
  refine ⟨_, rfl, _, _, _, _, _, rfl, h1, T.clS, T.S_hands, h2, _, rfl, n, q, l2, rfl, hq, by omega, L2.lt, L2.nd, ?_⟩
  rw [L1.eq, L2.eq]
  refine rd_seq hq (fun Q z => ⟨_, rfl, z⟩) fun J wk => for_it wk (fun i σ H' => H' = H ∧ σ[3]? = some (some (vN near)) ∧ σ[4]? = some (some (vN far)) ∧ σ.length = 6) ⟨rfl, rfl, rfl, rfl⟩ (fun i σ H' _ p => by rw [p.1]; exact Same.refl _) (fun i x σ H1 H' hi p y => ?_) fun σ H' p => ?_
  · obtain ⟨e, s1, s2, sl⟩ := p
    subst e
    obtain ⟨e, hx⟩ := y
    subst e
    rw [List.length_map] at hi
    obtain rfl : x = vN l2[i] := by rw [List.getElem?_map, List.getElem?_eq_getElem hi] at hx; exact (Option.some.inj hx).symm
    refine ⟨_, (List.getElem?_set_ne (by decide)).trans s1, _, List.getElem?_set_self (by omega), near, l2[i], rfl, _, rfl, no (hd _ (List.getElem_mem hi)) ⟨rfl, ?_, ?_, ?_⟩⟩
    · rw [List.getElem?_set_ne (by decide)]; exact s1
    · rw [List.getElem?_set_ne (by decide)]; exact s2
    · rw [List.length_set]; exact sl
  · obtain ⟨e, s1, s2, sl⟩ := p
    subst e
    exact ⟨_, s1, _, s2, by show 2 ≤ sizeLine; decide, fun t ht => k _ _ (Same.new ht) ht upd_same⟩
def spDeals : Sp := fun vs H Q _ => ∃ n near far : Nat, vs = [vN n, vN near, vN far] ∧ n ≤ 6 ∧ RetP (.lst ((dOf n near far).map vN)) H Q
def N_deals_of : List Str := ["hands", "near", "far", "mask"]
theorem sc_deals_of : FnScope N_deals_of ["hands", "near", "far"] (defScope st_deals_of) := ⟨rfl, rfl, rfl, by decide +kernel, rfl, by decide +kernel, by decide +kernel⟩
theorem C_deals_of (T : Txt K mg) : Cal P w K mg base CX0 1 "deals_of" spDeals := by
  refine cal_of T.d_deals_of T.g_deals_of sc_deals_of (fun kV doc pm an cdv ct us h => ?_) (fun vs H Q E h => ?_) fun cdv A outer s H vs Q E hr h => ?_
  · match us, h with
    | [_, _, _], _ => rfl
  · obtain ⟨n, near, far, rfl, hn, q⟩ := h; rfl
  obtain ⟨n, near, far, rfl, hn, q⟩ := h
  refine ⟨_, (pss_one (ps_ret (pe_lc (own := [("mask", 3)]) (g := gName 3) (by rfl) sc_deals_of.nd (pi_range1 rfl T.n_range (pa_cons (pe_op op_shl1 pe_int (pv 0)) pa_nil)) (blkOk_by (own := [("mask", 3)]) (N := N_deals_of) (sc := defScope st_deals_of) (by decide +kernel)) (fun _ _ _ _ _ => pg_name (i := 3) sc_deals_of.nd rfl (Or.inl rfl)) (fun _ _ _ _ _ => pts_one (PW.pt (pw_and (pt_cmpR op_eq (pe_op op_andN (pv 3) (pv 1)) (pv 1) (nomark _)) (pw_and1 (pt_cmpR op_eq (pe_op op_andN (pv 3) (pv 2)) pe_int (nomark _)))))) (fun _ _ _ _ _ => (pv 3))))), ?_⟩
  have h64 := p6 hn
  refine ⟨_, rfl, n, rfl, rfl, by omega, _, rfl, (p62 hn).1, (p62 hn).2, fun D hD => lcW wkR hD (by rw [sizeLine_eq]; omega) (fun m => (m &&& near == near) && (m &&& far == 0)) vN (fun i x H1 Ry Rn hi e y ky kn => ?_) (fun i H x H' y => y.1) fun H1 e hl => q _ _ e hD ?_⟩
  · obtain ⟨_, rfl⟩ := y
    refine ⟨rfl, _, rfl, _, rfl, i, near, rfl, rfl, _, rfl, rfl, _, rfl, both (fun h => ⟨_, rfl, _, rfl, i, far, rfl, rfl, rfl, _, rfl, both (fun h2 => ⟨_, rfl, ky ?_ _ (Same.refl _)⟩) fun h2 => kn ?_ _ (Same.refl _)⟩) fun h => no rfl (kn ?_ _ (Same.refl _))⟩
    · rw [vN_dec] at h
      replace h2 : decide (vN (i &&& far) = vN 0) = true := h2
      rw [vN_dec] at h2
      show (_ && _) = true
      rw [h, h2]; rfl
    · rw [vN_dec] at h
      replace h2 : decide (vN (i &&& far) = vN 0) = false := h2
      rw [vN_dec] at h2
      show (_ && _) = false
      rw [h, h2]; rfl
    · rw [vN_dec] at h
      show (_ && _) = false
      rw [h]; rfl
  · exact hl
def N_Scale___iter__ : List Str := ["self"]
theorem sc_Scale___iter__ : FnScope N_Scale___iter__ ["self"] (defScope st_Scale___iter__) := ⟨rfl, rfl, rfl, by decide +kernel, rfl, by decide +kernel, by decide +kernel⟩
theorem F_Scale___iter__ (T : Txt K mg) : ∃ fd ps, FnOk P w K mg base CX0 1 798 fd ps (spIt cS "_numbers" K) ∧ Binds K fd ps [] := by
  refine fnr_of T.d_Scale___iter__ sc_Scale___iter__ (fun kV doc pm an cdv ct us h => ?_) (fun vs H Q E h => ?_) fun cdv A outer s H vs Q E hr h => ?_
  · match us, h with
    | [_], _ => rfl
  · obtain ⟨a, dx, fs, l, zs, rfl, h1, h2, h3, q⟩ := h; rfl
  obtain ⟨a, dx, fs, l, zs, rfl, h1, h2, h3, q⟩ := h
  refine ⟨_, (pss_one (ps_ret (pe_callB call_iterT (by rfl) T.n_iter (by decide +kernel) (pa_cons (pe_fld (pv 0) rfl) pa_nil)))), ?_⟩
  exact ⟨_, rfl, _, _, _, _, _, rfl, h1, T.clS, T.S__numbers, h2, l, zs, rfl, h3, fun it hn hb => q it hn hb⟩
def spNums : Sp := fun vs H Q _ => ∃ (a : Addr) (n near far : Nat) (ns : List Int), vs = [.ref a, vN near, vN far] ∧ Sc H a n ns ∧ RetP (.lst (((dOf n near far).map (num ns)).map V.int)) H Q
theorem dOf_lt {n near far m : Nat} (h : m ∈ dOf n near far) : m < 2 ^ n := List.mem_range.mp (List.mem_filter.mp h).1
theorem num_at {ns : List Int} {m : Nat} (h : m < ns.length) : (ns.map V.int)[m]? = some (.int (num ns m)) := by
  rw [List.getElem?_map, List.getElem?_eq_getElem h]
  unfold num
  rw [List.getD_eq_getElem?_getD, List.getElem?_eq_getElem h]
  rfl
def N_deal_numbers : List Str := ["scale", "near", "far", "numbers", "deal"]
theorem sc_deal_numbers : FnScope N_deal_numbers ["scale", "near", "far"] (defScope st_deal_numbers) := ⟨rfl, rfl, rfl, by decide +kernel, rfl, by decide +kernel, by decide +kernel⟩
theorem C_deal_numbers (T : Txt K mg) : Cal P w K mg base CX0 5 "deal_numbers" spNums := by
  refine cal_of T.d_deal_numbers T.g_deal_numbers sc_deal_numbers (fun kV doc pm an cdv ct us h => ?_) (fun vs H Q E h => ?_) fun cdv A outer s H vs Q E hr h => ?_
  · match us, h with
    | [_, _, _], _ => rfl
  · obtain ⟨a, n, near, far, ns, rfl, hs, q⟩ := h; rfl
  obtain ⟨a, n, near, far, ns, rfl, hs, q⟩ := h
  obtain ⟨fdI, psI, FI, bI⟩ := F_Scale___iter__ (P := P) (w := w) (mg := mg) (base := base) T
  refine ⟨_, (pss_cons (ps_set (i := 3) sc_deal_numbers.nd rfl (Or.inr rfl) (pe_callTy (call_listI T.itS (fnR_of FI bI) (hr.mono (by decide))) (by rfl) T.n_list (by decide +kernel) (pa_cons (pv 0) pa_nil)))
      (pss_one (ps_ret (pe_lc (own := [("deal", 4)]) (g := gName 4) (by rfl) sc_deal_numbers.nd (pi_list (pe_cal (C_deals_of T) (hr.mono (by decide)) (pa_cons (pe_fld (pv 0) rfl) (pa_cons (pv 1) (pa_cons (pv 2) pa_nil))))) (blkOk_by (own := [("deal", 4)]) (N := N_deal_numbers) (sc := defScope st_deal_numbers) (by decide +kernel)) (fun _ _ _ _ _ => pg_name (i := 4) sc_deal_numbers.nd rfl (Or.inl rfl)) (fun _ _ _ _ _ => pts_nil) (fun _ _ _ _ _ => (pe_ix (show IxR _ (rIxL K) from ix_list) (pv 3) (pv 4) (fun _ _ => rfl))))))), ?_⟩
  have hs0 := hs
  obtain ⟨dx, l, fs, h1, h2, h3, h4, h5, h6, h7⟩ := hs
  have h64 := p6 h7
  refine ⟨_, rfl, a, dx, fs, l, _, rfl, h1, h3, sqT h4, by rw [List.length_map, sizeLine_eq]; omega, fun q1 H1 hq1 e1 hl1 => ?_⟩
  refine ⟨_, rfl, _, _, _, _, _, rfl, e1 _ _ h1, T.clS, T.S_hands, h2, _, rfl, _, rfl, n, near, far, rfl, h7, fun H2 p2 e2 hp2 hl2 => ⟨p2, rfl, ⟨_, sqL hl2⟩, fun D hD => ?_⟩⟩
  have hlen : ((dOf n near far).map vN).length < sizeLine := by
    rw [List.length_map, sizeLine_eq]
    have := List.length_filter_le (fun m => (m &&& near == near) && (m &&& far == 0)) (List.range (2 ^ n))
    rw [List.length_range] at this
    unfold dOf
    omega
  refine lcW (wkL (sqL hl2)) hD hlen (fun _ => true) (fun i => .int (num ns ((dOf n near far).getD i 0))) (fun i x H3 Ry Rn hi e y ky kn => ?_) (fun i H x H' y => y.1) fun H3 e hl => q _ _ (Same.trans e1 (Same.trans e2 e)) (Same.free (Same.trans e1 e2) hD) ?_
  · obtain ⟨_, hx⟩ := y
    rw [List.length_map] at hi
    obtain rfl : x = vN (dOf n near far)[i] := by rw [List.getElem?_map, List.getElem?_eq_getElem hi] at hx; exact (Option.some.inj hx).symm
    have lt := dOf_lt (List.getElem_mem hi)
    refine ⟨rfl, _, rfl, _, rfl, q1, _, _, _, rfl, rfl, sqL (e _ _ (e2 _ _ hl1)), atI_nat (num_at (by omega)), ?_⟩
    have := ky rfl _ (Same.refl _)
    rw [List.getD_eq_getElem?_getD, List.getElem?_eq_getElem hi] at this
    exact this
  · rw [hl, List.length_map]
    have := range_filter (dOf n near far) 0 (fun _ => true) (fun m => V.int (num ns m))
    rw [this, List.filter_eq_self.mpr (fun _ _ => rfl), List.map_map]
    rfl
def spMany (K : PySem.W.Frag) : Sp := fun vs H Q _ => ∃ (p : Addr) (xs : List Int) (least : Int), vs = [.ref p, .int least] ∧ SqL K H p (xs.map V.int) ∧ xs.length < sizeLine ∧ ∀ H', Same H H' → Q (vN (xs.filter fun x => decide (x < least)).length) H'
def N_many_below : List Str := ["numbers", "least", "number"]
theorem sc_many_below : FnScope N_many_below ["numbers", "least"] (defScope st_many_below) := ⟨rfl, rfl, rfl, by decide +kernel, rfl, by decide +kernel, by decide +kernel⟩
theorem C_many_below (T : Txt K mg) : Cal P w K mg base CX0 1 "many_below" (spMany K) := by
  refine cal_of T.d_many_below T.g_many_below sc_many_below (fun kV doc pm an cdv ct us h => ?_) (fun vs H Q E h => ?_) fun cdv A outer s H vs Q E hr h => ?_
  · match us, h with
    | [_, _], _ => rfl
  · obtain ⟨p, xs, least, rfl, hp, hx, q⟩ := h; rfl
  obtain ⟨p, xs, least, rfl, hp, hx, q⟩ := h
  refine ⟨_, (pss_one (ps_ret (pe_callB call_len_seq (by rfl) T.n_len (by decide +kernel) (pa_cons (pe_lc (own := [("number", 2)]) (g := gName 2) (by rfl) sc_many_below.nd (pi_list (pv 0)) (blkOk_by (own := [("number", 2)]) (N := N_many_below) (sc := defScope st_many_below) (by decide +kernel)) (fun _ _ _ _ _ => pg_name (i := 2) sc_many_below.nd rfl (Or.inl rfl)) (fun _ _ _ _ _ => pts_one (pt_cmpR op_lt (pv 2) (pv 1) (nomark _))) (fun _ _ _ _ _ => (pv 2))) pa_nil)))), ?_⟩
  refine ⟨_, rfl, p, rfl, ⟨_, hp⟩, fun D hD => lcW (wkL hp) hD (by rw [List.length_map]; exact hx) (fun i => decide (xs.getD i 0 < least)) (fun i => .int (xs.getD i 0)) (fun i x H3 Ry Rn hi e y ky kn => ?_) (fun i H x H' y => y.1) fun H3 e hl => ⟨_, _, rfl, .inl (sqL hl), ?_⟩⟩
  · obtain ⟨_, hx⟩ := y
    rw [List.length_map] at hi
    have ex : xs.getD i 0 = xs[i] := by rw [List.getD_eq_getElem?_getD, List.getElem?_eq_getElem hi]; rfl
    obtain rfl : x = .int (xs.getD i 0) := by rw [List.getElem?_map, List.getElem?_eq_getElem hi] at hx; rw [ex]; exact (Option.some.inj hx).symm
    exact ⟨rfl, _, rfl, _, rfl, _, _, rfl, rfl, _, rfl, both (fun h => ⟨_, rfl, ky h _ (Same.refl _)⟩) fun h => kn h _ (Same.refl _)⟩
  · have := range_filter xs 0 (fun x => decide (x < least)) V.int
    have this := congrArg List.length this
    simp only [List.length_map] at this ⊢
    rw [this]
    exact q _ e
def spGet (K : PySem.W.Frag) : Sp := fun vs H Q _ => ∃ (a p : Addr) (n m : Nat) (ns : List Int) (l : List Nat), vs = [.ref a, .ref p] ∧ Sc H a n ns ∧ Sq K H p (l.map vN) ∧ Lot n m l ∧ Q (.int (num ns m)) H
theorem Lot.mlt {n m : Nat} {l : List Nat} (L : Lot n m l) : m < 2 ^ n := by
  refine Nat.lt_pow_two_of_testBit m fun i hi => ?_
  rw [L.bit]
  exact decide_eq_false fun z => absurd (L.lt i z) (by omega)
def N_Scale___getitem__ : List Str := ["self", "lot"]
theorem sc_Scale___getitem__ : FnScope N_Scale___getitem__ ["self", "lot"] (defScope st_Scale___getitem__) := ⟨rfl, rfl, rfl, by decide +kernel, rfl, by decide +kernel, by decide +kernel⟩
theorem F_Scale___getitem__ (T : Txt K mg) : ∃ fd ps, FnOk P w K mg base CX0 3 791 fd ps (spGet K) ∧ Binds K fd ps [] := by
  refine fnr_of T.d_Scale___getitem__ sc_Scale___getitem__ (fun kV doc pm an cdv ct us h => ?_) (fun vs H Q E h => ?_) fun cdv A outer s H vs Q E hr h => ?_
  · match us, h with
    | [_, _], _ => rfl
  · obtain ⟨a, p, n, m, ns, l, rfl, hs, hp, L, q⟩ := h; rfl
  obtain ⟨a, p, n, m, ns, l, rfl, hs, hp, L, q⟩ := h
  refine ⟨_, (pss_one (ps_ret (pe_ix ix_tup (pe_fld (pv 0) rfl) (pe_cal (C_mask_of T) (hr.mono (by decide)) (pa_cons (pe_fld (pv 0) rfl) (pa_cons (pv 1) pa_nil))) (fun _ _ => rfl)))), ?_⟩
  obtain ⟨dx, t, fs, h1, h2, h3, h4, h5, h6, h7⟩ := hs
  refine ⟨_, rfl, _, _, _, _, _, rfl, h1, T.clS, T.S__numbers, h3, _, rfl, _, _, _, _, _, rfl, h1, T.clS, T.S_hands, h2, _, rfl, n, p, l, rfl, hp, by omega, L.lt, L.nd, ?_⟩
  rw [L.eq]
  have lt : m < 2 ^ n := L.mlt
  exact ⟨t, _, _, _, rfl, rfl, sqT h4, atI_nat (num_at (by omega)), q⟩
end
end Wf

namespace Wf
open PySem PySem.Spec PyProof.Rows L2
/-- a scale and a stand of it -/
structure At (K : PySem.W.Frag) (H : Hp) (a p q : Addr) (n near far : Nat) (ns : List Int) (l1 l2 : List Nat) : Prop where
  sc : Sc H a n ns
  s1 : Sq K H p (l1.map vN)
  s2 : Sq K H q (l2.map vN)
  L1 : Lot n near l1
  L2 : Lot n far l2
  st : Stand n near far
theorem At.dis {K : PySem.W.Frag} {H : Hp} {a p q : Addr} {n near far : Nat} {ns : List Int} {l1 l2 : List Nat} (h : At K H a p q n near far ns l1 l2) : ∀ x ∈ l2, near.testBit x = false := by
  intro x hx
  have e := congrArg (fun z => z.testBit x) h.st.ap
  have b : far.testBit x = true := by rw [h.L2.bit]; exact decide_eq_true hx
  simpa [Nat.testBit_and, b] using e
theorem At.same {K : PySem.W.Frag} {H H' : Hp} {a p q : Addr} {n near far : Nat} {ns : List Int} {l1 l2 : List Nat} (e : Same H H') (h : At K H a p q n near far ns l1 l2) : At K H' a p q n near far ns l1 l2 :=
  ⟨h.sc.same e, h.s1.same e, h.s2.same e, h.L1, h.L2, h.st⟩
theorem bel_nums (ns : List Int) (n near far : Nat) (least : Int) : (((dOf n near far).map (num ns)).filter fun x => decide (x < least)).length = bel ns n near far least := by
  unfold bel
  rw [List.filter_map, List.length_map]
  rfl
theorem dlen {n near far : Nat} (S : Stand n near far) : (dOf n near far).length < sizeLine := by
  have := S.facts.1.len
  have h := List.length_filter_le (fun m => (m &&& near == near) && (m &&& far == 0)) (List.range (2 ^ n))
  rw [List.length_range] at h
  have := p6 S.n6
  rw [sizeLine_eq]
  unfold dOf
  omega
theorem dpos {n near far : Nat} (S : Stand n near far) : 0 < (dOf n near far).length ∧ (dOf n near far).length ≤ 64 := by
  have e := S.facts.1.len
  have h := List.length_filter_le (fun m => (m &&& near == near) && (m &&& far == 0)) (List.range (2 ^ n))
  rw [List.length_range] at h
  have := p6 S.n6
  refine ⟨?_, ?_⟩
  · rw [e]; exact Nat.pow_pos (by decide)
  · unfold dOf; omega
theorem max_int {l : List Nat} {m : Int} (h : m ∈ l.map (fun x : Nat => (x : Int))) (hm : ∀ y ∈ l.map (fun x : Nat => (x : Int)), y ≤ m) : m = (maxL l : Int) := by
  obtain ⟨x, hx, rfl⟩ := List.mem_map.mp h
  rw [maxL_eq hx fun y hy => by have := hm _ (List.mem_map_of_mem hy); omega]
theorem min_int {l : List Nat} {m : Int} (h : m ∈ l.map (fun x : Nat => (x : Int))) (hm : ∀ y ∈ l.map (fun x : Nat => (x : Int)), m ≤ y) : m = (minL l : Int) := by
  obtain ⟨x, hx, rfl⟩ := List.mem_map.mp h
  rw [minL_eq hx fun y hy => by have := hm _ (List.mem_map_of_mem hy); omega]
theorem map_vN (l : List Nat) : l.map vN = (l.map fun x : Nat => (x : Int)).map V.int := by rw [List.map_map]; rfl
/-- where the first of them stands -/
theorem idx_at {l : List Nat} {m : Nat} (h : m ∈ l) : (l.map vN)[l.idxOf m]? = some (vN m) ∧ ∀ (j : Nat) (z : V), j < l.idxOf m → (l.map vN)[j]? = some z → eqV z (vN m) = false := by
  have h1 : l.idxOf m < l.length := List.idxOf_lt_length_of_mem h
  refine ⟨by rw [List.getElem?_map, List.getElem?_eq_getElem h1, List.getElem_idxOf h1]; rfl, fun j z hj e => ?_⟩
  have hj2 : j < l.length := by omega
  rw [List.getElem?_map, List.getElem?_eq_getElem hj2] at e
  obtain rfl := Option.some.inj e
  have hne : l[j] ≠ m := fun z => by
    have := List.not_of_lt_findIdx (p := (· == m)) hj
    simp [z] at this
  show decide ((l[j] : Int) = (m : Int)) = false
  exact decide_eq_false fun z => hne (Int.ofNat.inj z)
theorem exT_le {t b : Int} (h : 0 ≤ t) : exT t b ≤ t := Int.ediv_le_self _ h
theorem sm_ex {m n : Nat} (hm : m ≤ n) (hn : 0 < n) (h : n < 2 ^ 50) : Sm (exT m n) ∧ Sm (exB m n) := by
  have h1 := exT_le (t := m) (b := n) (by omega)
  have h2 := exT_nonneg (t := m) (b := n) (by omega) (by omega)
  have h3 := exB_le (t := m) (b := n) (by omega)
  have h4 := exB_pos (t := m) (b := n) (by omega)
  unfold Sm
  omega
theorem range_map {α β : Type} (xs : List α) (d : α) (out : α → β) : ((List.range xs.length).filter fun _ => true).map (fun i => out (xs.getD i d)) = xs.map out := by
  have := range_filter xs d (fun _ => true) out
  rw [this, List.filter_eq_self.mpr (fun _ _ => rfl)]
section
variable {P : Program} {w : World} {K : PySem.W.Frag} {mg : Str → Option Value} {base : Heap}
def spLeast (K : PySem.W.Frag) : Sp := fun vs H Q _ => ∃ (a p q : Addr) (n near far : Nat) (ns : List Int) (l1 l2 : List Nat) (least : Int), vs = [.ref a, .ref p, .ref q, .int least] ∧ At K H a p q n near far ns l1 l2 ∧ -1000000000 ≤ least ∧ least ≤ 1000000000 ∧
  ∀ r H', Same H H' → IsR H' r (exT (bel ns n near far least) ((2 ^ (fOf n near far).length : Nat) : Int)) (exB (bel ns n near far least) ((2 ^ (fOf n near far).length : Nat) : Int)) → Q r H'
def N_least_share : List Str := ["scale", "near", "far", "least", "near_mask", "far_mask", "numbers"]
theorem sc_least_share : FnScope N_least_share ["scale", "near", "far", "least"] (defScope st_least_share) := ⟨rfl, rfl, rfl, by decide +kernel, rfl, by decide +kernel, by decide +kernel⟩
theorem C_least_share (T : Txt K mg) : Cal P w K mg base CX0 6 "least_share" (spLeast K) := by
  refine cal_of T.d_least_share T.g_least_share sc_least_share (fun kV doc pm an cdv ct us h => ?_) (fun vs H Q E h => ?_) fun cdv A outer s H vs Q E hr h => ?_
  · match us, h with
    | [_, _, _, _], _ => rfl
  · obtain ⟨a, p, q, n, near, far, ns, l1, l2, least, rfl, h, lo, hi, k⟩ := h; rfl
  obtain ⟨a, p, q, n, near, far, ns, l1, l2, least, rfl, h, lo, hi, k⟩ := h
  refine ⟨_, (pss_cons (ps_asg (pe_cal (C_check_stand T) (hr.mono (by decide)) (pa_cons (pv 0) (pa_cons (pv 1) (pa_cons (pv 2) pa_nil)))) (pg_tup rfl (pgs_cons (pg_name (i := 4) sc_least_share.nd rfl (Or.inl rfl)) (pgs_cons (pg_name (i := 5) sc_least_share.nd rfl (Or.inl rfl)) pgs_nil))))
      (pss_cons (ps_expr (pe_cal (C_check_number T) (hr.mono (by decide)) (pa_cons (pv 3) (pa_cons (pe_un un_neg (pe_gint T.m_MOST_NUMBER)) (pa_cons (pe_gint T.m_MOST_NUMBER) pa_nil)))))
      (pss_cons (ps_set (i := 6) sc_least_share.nd rfl (Or.inl rfl) (pe_cal (C_deal_numbers T) (hr.mono (by decide)) (pa_cons (pv 0) (pa_cons (pv 4) (pa_cons (pv 5) pa_nil)))))
      (pss_one (ps_ret (pe_cal (C_exact T) (hr.mono (by decide)) (pa_cons (pe_cal (C_many_below T) (hr.mono (by decide)) (pa_cons (pv 6) (pa_cons (pv 3) pa_nil))) (pa_cons (pe_callB call_len_seq (by rfl) T.n_len (by decide +kernel) (pa_cons (pv 6) pa_nil)) pa_nil)))))))), ?_⟩
  refine ⟨_, rfl, _, rfl, _, rfl, a, p, q, n, near, far, ns, l1, l2, rfl, h.sc, h.s1, h.s2, h.L1, h.L2, h.dis, fun H1 t1 e1 ht1 hl1 => ⟨_, _, rfl, sqT hl1, rfl, _, _, rfl, _, _, rfl, rfl, ?_⟩⟩
  refine ⟨_, rfl, _, rfl, least, -1000000000, 1000000000, rfl, lo, hi, _, rfl, _, rfl, _, rfl, a, n, near, far, ns, rfl, h.sc.same e1, fun H2 p2 e2 hp2 hl2 => ?_⟩
  refine ⟨_, rfl, _, rfl, p2, _, least, rfl, sqL hl2, by rw [List.length_map]; exact dlen h.st, fun H3 e3 => ⟨_, rfl, _, _, rfl, .inl (sqL (e3 _ _ hl2)), ?_⟩⟩
  rw [bel_nums, List.length_map, List.length_map, h.st.facts.1.len]
  have d := dpos h.st
  rw [h.st.facts.1.len] at d
  exact ⟨_, _, rfl, by omega, by omega, fun r H4 e4 hr => k r H4 (Same.trans e1 (Same.trans e2 (Same.trans e3 e4))) hr⟩
abbrev sureP (xs : List Int) (t b x : Int) : Prop := (((xs.filter fun y => decide (y < x)).length : Nat) : Int) * b ≤ t * (xs.length : Nat)
def spLead (K : PySem.W.Frag) : Sp := fun vs H Q _ => ∃ (a p q : Addr) (n near far : Nat) (ns : List Int) (l1 l2 : List Nat) (v : V) (t b : Int), vs = [.ref a, .ref p, .ref q, v] ∧ At K H a p q n near far ns l1 l2 ∧ Frac H v t b ∧ Low t b ∧ Sm t ∧ b ≤ 1000000 ∧ 0 ≤ t ∧ t ≤ b ∧
  (∃ x ∈ (dOf n near far).map (num ns), sureP ((dOf n near far).map (num ns)) t b x) ∧ ∀ x H', Same H H' → (∀ y ∈ (dOf n near far).map (num ns), sureP ((dOf n near far).map (num ns)) t b y → y ≤ x) → Q (.int x) H'
def N_purse_lead : List Str := ["scale", "near", "far", "share", "near_mask", "far_mask", "part", "numbers", "sure", "number"]
theorem sc_purse_lead : FnScope N_purse_lead ["scale", "near", "far", "share"] (defScope st_purse_lead) := ⟨rfl, rfl, rfl, by decide +kernel, rfl, by decide +kernel, by decide +kernel⟩
theorem C_purse_lead (T : Txt K mg) : Cal P w K mg base CX0 6 "purse_lead" (spLead K) := by
  refine cal_of T.d_purse_lead T.g_purse_lead sc_purse_lead (fun kV doc pm an cdv ct us h => ?_) (fun vs H Q E h => ?_) fun cdv A outer s H vs Q E hr h => ?_
  · match us, h with
    | [_, _, _, _], _ => rfl
  · obtain ⟨a, p, q, n, near, far, ns, l1, l2, v, t, b, rfl, h, hv, lo, st, b6, t0, tb, hex, k⟩ := h; rfl
  obtain ⟨a, p, q, n, near, far, ns, l1, l2, v, t, b, rfl, h, hv, lo, st, b6, t0, tb, hex, k⟩ := h
  refine ⟨_, (pss_cons (ps_asg (pe_cal (C_check_stand T) (hr.mono (by decide)) (pa_cons (pv 0) (pa_cons (pv 1) (pa_cons (pv 2) pa_nil)))) (pg_tup rfl (pgs_cons (pg_name (i := 4) sc_purse_lead.nd rfl (Or.inl rfl)) (pgs_cons (pg_name (i := 5) sc_purse_lead.nd rfl (Or.inl rfl)) pgs_nil))))
      (pss_cons (ps_set (i := 6) sc_purse_lead.nd rfl (Or.inr rfl) (pe_cal (C_taken T) (hr.mono (by decide)) (pa_cons (pv 3) (pa_cons pe_int (pa_cons pe_int pa_nil)))))
      (pss_cons (ps_set (i := 7) sc_purse_lead.nd rfl (Or.inr rfl) (pe_cal (C_deal_numbers T) (hr.mono (by decide)) (pa_cons (pv 0) (pa_cons (pv 4) (pa_cons (pv 5) pa_nil)))))
      (pss_cons (ps_setLc (i := 8) (own := [("number", 9)]) (g := gName 9) (by rfl) sc_purse_lead.nd rfl rfl (sw_true rfl rfl rfl (by decide +kernel)) (pi_list (pv 7)) (blkOk_by (own := [("number", 9)]) (N := N_purse_lead) (sc := defScope st_purse_lead) (by decide +kernel)) (fun _ _ _ _ _ => pg_name (i := 9) sc_purse_lead.nd rfl (Or.inl rfl)) (fun _ _ _ _ _ => pts_one (pt_not (pt_val (pe_mcal (C_below T) (pv 6) (hr.mono (by decide)) (pa_cons (pe_cal (C_exact T) (hr.mono (by decide)) (pa_cons (pe_cal (C_many_below T) (hr.mono (by decide)) (pa_cons (pv 7) (pa_cons (pv 9) pa_nil))) (pa_cons (pe_callB (show CallR _ _ (rLenK K) from call_len_seq) (by rfl) T.n_len (by decide +kernel) (pa_cons (pv 7) pa_nil)) pa_nil))) pa_nil))))) (fun _ _ _ _ _ => (pv 9)))
      (pss_one (ps_ret (pe_callB (cr_max rfl) (by rfl) T.n_max (by decide +kernel) (pa_cons (pv 8) pa_nil)))))))), ?_⟩
  have hb := lo.pos
  have sb : Sm b := by unfold Sm; omega
  refine ⟨_, rfl, _, rfl, _, rfl, a, p, q, n, near, far, ns, l1, l2, rfl, h.sc, h.s1, h.s2, h.L1, h.L2, h.dis, fun H1 t1 e1 ht1 hl1 => ⟨_, _, rfl, sqT hl1, rfl, _, _, rfl, _, _, rfl, rfl, ?_⟩⟩
  refine ⟨_, rfl, v, .int 0, .int 1, t, b, 0, 1, 1, 1, rfl, hv.same e1, .inl ⟨rfl, rfl⟩, .inl ⟨rfl, rfl⟩, st, sb, by unfold Sm; omega, by unfold Sm; omega, by unfold Sm; omega, by unfold Sm; omega, lo, b6, by omega, by omega, fun r H2 e2 hr => ?_⟩
  refine ⟨_, rfl, _, rfl, _, rfl, a, n, near, far, ns, rfl, h.sc.same (Same.trans e1 e2), fun H3 p3 e3 hp3 hl3 => ⟨_, rfl, p3, rfl, ⟨_, sqL hl3⟩, fun D hD => ?_⟩⟩
  have hn : ((dOf n near far).map (num ns)).length < sizeLine := by rw [List.length_map]; exact dlen h.st
  have hd := dpos h.st
  have e13 := Same.trans e1 (Same.trans e2 e3)
  generalize hN : (dOf n near far).map (num ns) = nums at *
  have hl : nums.length = (dOf n near far).length := by rw [← hN, List.length_map]
  refine lcW (wkL (sqL hl3)) hD (by rw [List.length_map]; exact hn) (fun i => decide (sureP nums t b (nums.getD i 0))) (fun i => .int (nums.getD i 0)) (fun i x H4 Ry Rn hi e y ky kn => ?_) (fun i H x H' y => y.1) fun H4 e hl4 => ?_
  · obtain ⟨_, hx⟩ := y
    rw [List.length_map] at hi
    have ex : nums.getD i 0 = nums[i] := by rw [List.getD_eq_getElem?_getD, List.getElem?_eq_getElem hi]; rfl
    obtain rfl : x = .int (nums.getD i 0) := by rw [List.getElem?_map, List.getElem?_eq_getElem hi] at hx; rw [ex]; exact (Option.some.inj hx).symm
    have hr0 := (hr.same (Same.trans e3 e))
    obtain ⟨ra, rdx, rfs, rfl, g1, g2, g3, g4⟩ := hr0
    have hr4 := (hr.same (Same.trans e3 e))
    refine ⟨rfl, _, rfl, ra, rdx, rfs, rfl, g1, g4, _, rfl, _, rfl, p3, nums, _, rfl, sqL (e _ _ hl3), hn, fun H5 e5 => ⟨_, rfl, _, _, rfl, .inl (sqL (e5 _ _ (e _ _ hl3))), _, _, rfl, by rw [List.length_map]; omega, by rw [List.length_map]; omega, fun r2 H6 e6 hr2 => ?_⟩⟩
    rw [List.length_map] at hr2
    have hm : (nums.filter fun y => decide (y < nums.getD i 0)).length ≤ nums.length := List.length_filter_le _ _
    have sm := sm_ex hm (by omega) (by omega)
    have hpos : (0 : Int) < (nums.length : Nat) := by omega
    have key := ex_le (t := ((nums.filter fun y => decide (y < nums.getD i 0)).length : Nat)) (b := (nums.length : Nat)) (x := t) (y := b) hpos
    refine ⟨_, r2, t, b, _, _, rfl, hr4.same (Same.trans e5 e6) |> .inr, .inr hr2, st, sb, sm.1, sm.2, fun H7 e7 => ⟨_, rfl, both (fun hc => ⟨_, rfl, ky ?_ _ (Same.trans e5 (Same.trans e6 e7))⟩) fun hc => kn ?_ _ (Same.trans e5 (Same.trans e6 e7))⟩⟩
    · refine decide_eq_true (key.mp ?_)
      rw [Bool.not_eq_true'] at hc
      have hc := of_decide_eq_false hc
      omega
    · refine decide_eq_false fun z => ?_
      have z := key.mpr z
      rw [Bool.not_eq_false'] at hc
      have hc := of_decide_eq_true hc
      omega
  · have rf := range_filter nums 0 (fun x => decide (sureP nums t b x)) V.int
    rw [List.length_map] at hl4
    rw [rf] at hl4
    obtain ⟨x0, hx0, px0⟩ := hex
    have m0 : x0 ∈ nums.filter fun x => decide (sureP nums t b x) := List.mem_filter.mpr ⟨hx0, decide_eq_true px0⟩
    exact ⟨_, rfl, D, _, rfl, sqL hl4, List.length_pos_of_mem m0, fun m hm hmax => k m _ (Same.trans e13 e) fun y hy py => hmax y (List.mem_filter.mpr ⟨hy, decide_eq_true py⟩)⟩
def spTold (K : PySem.W.Frag) : Sp := fun vs H Q _ => ∃ (a p q : Addr) (n near far : Nat) (ns : List Int) (l1 l2 : List Nat) (least : Int) (z : Str) (B : Int), vs = [.ref a, .ref p, .ref q, .int least, .str z] ∧ At K H a p q n near far ns l1 l2 ∧ Good n ns B ∧ -1000000000 ≤ least ∧ least ≤ 1000000000 ∧ (z = "near" ∨ z = "far") ∧
  fOf n near far ≠ [] ∧ ∀ r tp H', Same H H' → H tp = none → H' tp = some (.tup [vN (if z = "near" then pickN ns n near far least else pickF ns n near far least), r]) →
    IsR H' r (exT ((maxL (lost ns n near far least) - minL (hired ns n near far least) : Nat) : Int) ((2 ^ (fOf n near far).length : Nat) : Int)) (exB ((maxL (lost ns n near far least) - minL (hired ns n near far least) : Nat) : Int) ((2 ^ (fOf n near far).length : Nat) : Int)) → Q (.ref tp) H'
def N_told_bid : List Str := ["scale", "near", "far", "least", "side", "near_mask", "far_mask", "free", "hired", "hand", "lost", "bid"]
theorem sc_told_bid : FnScope N_told_bid ["scale", "near", "far", "least", "side"] (defScope st_told_bid) := ⟨rfl, rfl, rfl, by decide +kernel, rfl, by decide +kernel, by decide +kernel⟩
theorem C_told_bid (T : Txt K mg) : Cal P w K mg base CX0 6 "told_bid" (spTold K) := by
  refine cal_of T.d_told_bid T.g_told_bid sc_told_bid (fun kV doc pm an cdv ct us h => ?_) (fun vs H Q E h => ?_) fun cdv A outer s H vs Q E hr h => ?_
  · match us, h with
    | [_, _, _, _, _], _ => rfl
  · obtain ⟨a, p, q, n, near, far, ns, l1, l2, least, z, B, rfl, h, G, lo, hi, hz, hf, k⟩ := h; rfl
  obtain ⟨a, p, q, n, near, far, ns, l1, l2, least, z, B, rfl, h, G, lo, hi, hz, hf, k⟩ := h
  refine ⟨_, (pss_cons (ps_asg (pe_cal (C_check_stand T) (hr.mono (by decide)) (pa_cons (pv 0) (pa_cons (pv 1) (pa_cons (pv 2) pa_nil)))) (pg_tup rfl (pgs_cons (pg_name (i := 5) sc_told_bid.nd rfl (Or.inr rfl)) (pgs_cons (pg_name (i := 6) sc_told_bid.nd rfl (Or.inr rfl)) pgs_nil))))
      (pss_cons (ps_expr (pe_cal (C_check_number T) (hr.mono (by decide)) (pa_cons (pv 3) (pa_cons (pe_un un_neg (pe_gint T.m_MOST_NUMBER)) (pa_cons (pe_gint T.m_MOST_NUMBER) pa_nil)))))
      (pss_cons (ps_expr (pe_cal (C_check_side T) (hr.mono (by decide)) (pa_cons (pv 4) pa_nil)))
      (pss_cons (ps_expr (pe_cal (C_check_some_free T) (hr.mono (by decide)) (pa_cons (pe_fld (pv 0) rfl) (pa_cons (pv 5) (pa_cons (pv 6) pa_nil)))))
      (pss_cons (ps_set (i := 7) sc_told_bid.nd rfl (Or.inl rfl) (pe_cal (C_free_hands T) (hr.mono (by decide)) (pa_cons (pe_fld (pv 0) rfl) (pa_cons (pv 5) (pa_cons (pv 6) pa_nil)))))
      (pss_cons (ps_setLc (i := 8) (own := [("hand", 9)]) (g := gName 9) (by rfl) sc_told_bid.nd rfl rfl (sw_true rfl rfl rfl (by decide +kernel)) (pi_tup (pv 7)) (blkOk_by (own := [("hand", 9)]) (N := N_told_bid) (sc := defScope st_told_bid) (by decide +kernel)) (fun _ _ _ _ _ => pg_name (i := 9) sc_told_bid.nd rfl (Or.inl rfl)) (fun _ _ _ _ _ => pts_nil) (fun _ _ _ _ _ => (pe_cal (C_many_below T) (hr.mono (by decide)) (pa_cons (pe_cal (C_deal_numbers T) (hr.mono (by decide)) (pa_cons (pv 0) (pa_cons (pe_cal (C_with_hand T) (hr.mono (by decide)) (pa_cons (pv 5) (pa_cons (pv 9) pa_nil))) (pa_cons (pv 6) pa_nil)))) (pa_cons (pv 3) pa_nil)))))
      (pss_cons (ps_setLc (i := 10) (own := [("hand", 9)]) (g := gName 9) (by rfl) sc_told_bid.nd rfl rfl (sw_true rfl rfl rfl (by decide +kernel)) (pi_tup (pv 7)) (blkOk_by (own := [("hand", 9)]) (N := N_told_bid) (sc := defScope st_told_bid) (by decide +kernel)) (fun _ _ _ _ _ => pg_name (i := 9) sc_told_bid.nd rfl (Or.inl rfl)) (fun _ _ _ _ _ => pts_nil) (fun _ _ _ _ _ => (pe_cal (C_many_below T) (hr.mono (by decide)) (pa_cons (pe_cal (C_deal_numbers T) (hr.mono (by decide)) (pa_cons (pv 0) (pa_cons (pv 5) (pa_cons (pe_cal (C_with_hand T) (hr.mono (by decide)) (pa_cons (pv 6) (pa_cons (pv 9) pa_nil))) pa_nil)))) (pa_cons (pv 3) pa_nil)))))
      (pss_cons (ps_set (i := 11) sc_told_bid.nd rfl (Or.inl rfl) (pe_cal (C_exact T) (hr.mono (by decide)) (pa_cons (pe_op op_sub (pe_callB (cr_max rfl) (by rfl) T.n_max (by decide +kernel) (pa_cons (pv 10) pa_nil)) (pe_callB (cr_min rfl) (by rfl) T.n_min (by decide +kernel) (pa_cons (pv 8) pa_nil))) (pa_cons (pe_op op_shl1 pe_int (pe_callB call_len_seq (by rfl) T.n_len (by decide +kernel) (pa_cons (pv 7) pa_nil))) pa_nil))))
      (pss_cons (ps_if (pt_cmpR op_eq (pv 4) (pe_gstr T.m_NEAR) (nomark _)) (pss_one (ps_ret (pe_tup (pa_cons (pe_ix ix_tup (pv 7) (pe_bm PySem.F.plainAttrs_list PySem.F.slot_list_index PySem.F.type_list_index mt_index (pv 8) (pa_cons (pe_callB (cr_min rfl) (by rfl) T.n_min (by decide +kernel) (pa_cons (pv 8) pa_nil)) pa_nil)) (fun _ _ => rfl)) (pa_cons (pv 11) pa_nil))))) pss_nil)
      (pss_one (ps_ret (pe_tup (pa_cons (pe_ix ix_tup (pv 7) (pe_bm PySem.F.plainAttrs_list PySem.F.slot_list_index PySem.F.type_list_index mt_index (pv 10) (pa_cons (pe_callB (cr_max rfl) (by rfl) T.n_max (by decide +kernel) (pa_cons (pv 10) pa_nil)) pa_nil)) (fun _ _ => rfl)) (pa_cons (pv 11) pa_nil)))))))))))))), ?_⟩
  have d := h.st.facts.1
  have cnt := d.cnt
  have flen : (fOf n near far).length ≤ 6 := by have := h.st.n6; omega
  refine ⟨_, rfl, _, rfl, _, rfl, a, p, q, n, near, far, ns, l1, l2, rfl, h.sc, h.s1, h.s2, h.L1, h.L2, h.dis, fun H1 t1 e1 ht1 hl1 => ⟨_, _, rfl, sqT hl1, rfl, _, _, rfl, _, _, rfl, rfl, ?_⟩⟩
  have sc1 := h.sc.same e1
  obtain ⟨dx, t, fs, h1, h2, h3, h4, h5, h6, h7⟩ := sc1
  refine ⟨_, rfl, _, rfl, least, -1000000000, 1000000000, rfl, lo, hi, _, rfl, z, rfl, hz, _, rfl, _, _, _, _, _, rfl, h1, T.clS, T.S_hands, h2, _, rfl, _, rfl, n, near, far, rfl, h.st.n6, d.sum, hf, fun H2 e2 => ?_⟩
  refine ⟨_, rfl, _, _, _, _, _, rfl, e2 _ _ h1, T.clS, T.S_hands, h2, _, rfl, _, rfl, n, near, far, rfl, h.st.n6, d.sum, fun H3 p3 e3 hp3 hl3 => ⟨_, rfl, p3, rfl, ⟨_, sqT hl3⟩, fun D1 hD1 => ?_⟩⟩
  have e13 := Same.trans e1 (Same.trans e2 e3)
  have hfl : ((fOf n near far).map vN).length < sizeLine := by rw [List.length_map, sizeLine_eq]; omega
  refine lcW (wkT (sqT hl3)) hD1 hfl (fun _ => true) (fun i => vN (bel ns n (near ||| 2 ^ (fOf n near far).getD i 0) far least)) (fun i x H4 Ry Rn hi e y ky kn => ?_) (fun i H x H' y => y.1) fun H4 e4 hl4 => ?_
  · obtain ⟨_, hx⟩ := y
    rw [List.length_map] at hi
    have ex : (fOf n near far).getD i 0 = (fOf n near far)[i] := by rw [List.getD_eq_getElem?_getD, List.getElem?_eq_getElem hi]; rfl
    obtain rfl : x = vN ((fOf n near far).getD i 0) := by rw [List.getElem?_map, List.getElem?_eq_getElem hi] at hx; rw [ex]; exact (Option.some.inj hx).symm
    have HF := h.st.facts.2 ((fOf n near far).getD i 0) (by rw [ex]; exact List.getElem_mem hi)
    refine ⟨rfl, _, rfl, _, rfl, _, rfl, near, (fOf n near far).getD i 0, rfl, by have := HF.lt; omega, _, rfl, a, n, _, far, ns, rfl, h.sc.same (Same.trans e13 e), fun H5 p5 e5 hp5 hl5 => ⟨_, rfl, p5, _, least, rfl, sqL hl5, by rw [List.length_map]; exact dlen HF.S1, fun H6 e6 => ?_⟩⟩
    rw [bel_nums]
    exact ky rfl _ (Same.trans e5 e6)
  · rw [List.length_map, range_map (fOf n near far) 0 (fun x => vN (bel ns n (near ||| 2 ^ x) far least))] at hl4
    have e14 := Same.trans e13 e4
    have hl3' := e4 _ _ hl3
    refine ⟨_, rfl, p3, rfl, ⟨_, sqT hl3'⟩, fun D2 hD2 => ?_⟩
    refine lcW (wkT (sqT hl3')) hD2 hfl (fun _ => true) (fun i => vN (bel ns n near (far ||| 2 ^ (fOf n near far).getD i 0) least)) (fun i x H5 Ry Rn hi e y ky kn => ?_) (fun i H x H' y => y.1) fun H5 e5 hl5 => ?_
    · obtain ⟨_, hx⟩ := y
      rw [List.length_map] at hi
      have ex : (fOf n near far).getD i 0 = (fOf n near far)[i] := by rw [List.getD_eq_getElem?_getD, List.getElem?_eq_getElem hi]; rfl
      obtain rfl : x = vN ((fOf n near far).getD i 0) := by rw [List.getElem?_map, List.getElem?_eq_getElem hi] at hx; rw [ex]; exact (Option.some.inj hx).symm
      have HF := h.st.facts.2 ((fOf n near far).getD i 0) (by rw [ex]; exact List.getElem_mem hi)
      refine ⟨rfl, _, rfl, _, rfl, _, rfl, _, rfl, far, (fOf n near far).getD i 0, rfl, by have := HF.lt; omega, a, n, near, _, ns, rfl, h.sc.same (Same.trans e14 e), fun H5 p5 e5 hp5 hl5 => ⟨_, rfl, p5, _, least, rfl, sqL hl5, by rw [List.length_map]; exact dlen HF.S2, fun H6 e6 => ?_⟩⟩
      rw [bel_nums]
      exact ky rfl _ (Same.trans e5 e6)
    · rw [List.length_map, range_map (fOf n near far) 0 (fun x => vN (bel ns n near (far ||| 2 ^ x) least))] at hl5
      have hlD1 : H5 D1 = some (.lst ((hired ns n near far least).map vN)) := by rw [e5 _ _ hl4]; unfold hired; rw [List.map_map]; rfl
      have hlD2 : H5 D2 = some (.lst ((lost ns n near far least).map vN)) := by rw [hl5]; unfold lost; rw [List.map_map]; rfl
      have hl3'' := e5 _ _ hl3'
      have pk := picks (least := least) G h.st hf
      have nl : 0 < (lost ns n near far least).length := by unfold lost; rw [List.length_map]; exact List.length_pos_iff.mpr hf
      have nh : 0 < (hired ns n near far least).length := by unfold hired; rw [List.length_map]; exact List.length_pos_iff.mpr hf
      refine ⟨_, rfl, D2, (lost ns n near far least).map fun x : Nat => (x : Int), rfl, sqL (by rw [← map_vN]; exact hlD2), by rw [List.length_map]; exact nl, fun m1 hm1 hmax => ?_⟩
      have E1 := max_int hm1 hmax
      subst E1
      refine ⟨_, rfl, D1, (hired ns n near far least).map fun x : Nat => (x : Int), rfl, sqL (by rw [← map_vN]; exact hlD1), by rw [List.length_map]; exact nh, fun m2 hm2 hmin => ?_⟩
      have E2 := min_int hm2 hmin
      subst E2
      refine ⟨_, _, rfl, rfl, _, rfl, _, _, rfl, .inr (sqT hl3''), (fOf n near far).length, rfl, by show V.int (((fOf n near far).map vN).length : Nat) = _; rw [List.length_map], by omega, ?_⟩
      have hsub : ((maxL (lost ns n near far least) : Nat) : Int) - ((minL (hired ns n near far least) : Nat) : Int) = ((maxL (lost ns n near far least) - minL (hired ns n near far least) : Nat) : Int) := by have := pk.2.2.2.2.1; omega
      have p64 := p6 flen
      have ppos : 0 < 2 ^ (fOf n near far).length := Nat.pow_pos (by decide)
      refine ⟨_, _, rfl, by omega, by omega, fun r H6 e6 hr => ?_⟩
      rw [hsub] at hr
      have e16 := Same.trans (Same.trans e14 e5) e6
      have hb1 := e6 _ _ hlD1
      have hb2 := e6 _ _ hlD2
      have hb3 := e6 _ _ hl3''
      have fl1 : ∀ l : List Nat, (l.map vN).all flatV = true := fun l => by rw [List.all_map]; exact List.all_eq_true.mpr fun _ _ => rfl
      have fin : ∀ (L : List Nat) (m : Nat), m ∈ L → L.length = (fOf n near far).length → ((fOf n near far).map vN)[L.idxOf m]? = some (vN ((fOf n near far).getD (L.idxOf m) 0)) := fun L m hm hL => by
        have := List.idxOf_lt_length_of_mem hm
        rw [List.getElem?_map, List.getD_eq_getElem?_getD, List.getElem?_eq_getElem (by omega)]
        rfl
      have m1 : minL (hired ns n near far least) ∈ hired ns n near far least := minL_mem (List.ne_nil_of_length_pos nh)
      have m2 : maxL (lost ns n near far least) ∈ lost ns n near far least := maxL_mem (List.ne_nil_of_length_pos nl)
      have i1 := idx_at m1
      have i2 := idx_at m2
      refine ⟨_, rfl, rfl, _, rfl, both (fun hc => ?_) fun hc => ?_⟩
      · have hz1 : z = "near" := by
          have := of_decide_eq_true hc
          exact V.str.inj this
        refine ⟨_, rfl, _, rfl, .inl ⟨rfl, _, sqL hb1⟩, _, rfl, D1, (hired ns n near far least).map fun x : Nat => (x : Int), rfl, sqL (by rw [← map_vN]; exact hb1), by rw [List.length_map]; exact nh, fun m3 hm3 hmin3 => ?_⟩
        have E3 := min_int hm3 hmin3
        subst E3
        refine ⟨D1, _, _, _, _, rfl, rfl, sqL hb1, rfl, fl1 _, i1.1, decide_eq_true rfl, i1.2, p3, _, _, _, rfl, rfl, sqT hb3, atI_nat (fin _ _ m1 (by unfold hired; rw [List.length_map])), _, rfl, by show 2 ≤ sizeLine; decide, fun tp htp => ?_⟩
        refine k r tp _ (Same.up e16 htp) (Same.free e16 htp) ?_ (hr.same (Same.new htp))
        rw [upd_same, if_pos hz1]
        rfl
      · have hz1 : ¬ z = "near" := fun zz => by
          have := of_decide_eq_false hc
          exact this (by rw [zz])
        refine ⟨_, rfl, _, rfl, .inl ⟨rfl, _, sqL hb2⟩, _, rfl, D2, (lost ns n near far least).map fun x : Nat => (x : Int), rfl, sqL (by rw [← map_vN]; exact hb2), by rw [List.length_map]; exact nl, fun m3 hm3 hmin3 => ?_⟩
        have E3 := max_int hm3 hmin3
        subst E3
        refine ⟨D2, _, _, _, _, rfl, rfl, sqL hb2, rfl, fl1 _, i2.1, decide_eq_true rfl, i2.2, p3, _, _, _, rfl, rfl, sqT hb3, atI_nat (fin _ _ m2 (by unfold lost; rw [List.length_map])), _, rfl, by show 2 ≤ sizeLine; decide, fun tp htp => ?_⟩
        refine k r tp _ (Same.up e16 htp) (Same.free e16 htp) ?_ (hr.same (Same.new htp))
        rw [upd_same, if_neg hz1]
        rfl
end
end Wf

namespace Wf
open PySem PySem.Spec PyProof.Rows L2
section
variable {P : Program} {w : World} {K : PySem.W.Frag} {mg : Str → Option Value} {base : Heap}
def spGood (K : PySem.W.Frag) : Sp := fun vs H Q _ => ∃ (n : Nat) (p : Addr) (ns : List Int) (B : Int), vs = [vN n, .ref p] ∧ SqL K H p (ns.map V.int) ∧ Good n ns B ∧ n ≤ 6 ∧ Q .non H
def N_check_opposite : List Str := ["hands", "numbers", "mask"]
theorem sc_check_opposite : FnScope N_check_opposite ["hands", "numbers"] (defScope st_check_opposite) := ⟨rfl, rfl, rfl, by decide +kernel, rfl, by decide +kernel, by decide +kernel⟩
theorem C_check_opposite (T : Txt K mg) : Cal P w K mg base CX0 2 "check_opposite" (spGood K) := by
  refine cal_of T.d_check_opposite T.g_check_opposite sc_check_opposite (fun kV doc pm an cdv ct us h => ?_) (fun vs H Q E h => ?_) fun cdv A outer s H vs Q E hr h => ?_
  · match us, h with
    | [_, _], _ => rfl
  · obtain ⟨n, p, ns, B, rfl, hp, G, hn, q⟩ := h; rfl
  obtain ⟨n, p, ns, B, rfl, hp, G, hn, q⟩ := h
  refine ⟨_, (pss_one (ps_for PassesOwn.never rfl (pi_range1 rfl T.n_range (pa_cons (pe_op op_shl1 pe_int (pv 0)) pa_nil)) (pg_name (i := 2) sc_check_opposite.nd rfl (Or.inl rfl)) (pss_one (ps_if (pt_cmpR op_ne (pe_ix ix_list (pv 1) (pv 2) (fun _ _ => rfl)) (pe_un un_neg (pe_ix ix_list (pv 1) (pe_cal (C_rest_mask T) (hr.mono (by decide)) (pa_cons (pv 0) (pa_cons (pv 2) pa_nil))) (fun _ _ => rfl))) (nomark _)) (pss_one ps_never) pss_nil)))), ?_⟩
  have h64 := p6 hn
  have gl := G.len
  refine ⟨_, rfl, n, rfl, rfl, by omega, _, rfl, (p62 hn).1, (p62 hn).2, for_it (wkR (H0 := H)) (fun i σ H' => H' = H ∧ σ[0]? = some (some (vN n)) ∧ σ[1]? = some (some (.ref p)) ∧ σ.length = 3) ⟨rfl, rfl, rfl, rfl⟩ (fun i σ H' _ p => by rw [p.1]; exact Same.refl _) (fun i x σ H1 H' hi p y => ?_) fun σ H' p => ?_⟩
  · obtain ⟨e, s0, s1, sl⟩ := p
    subst e
    obtain ⟨e, rfl⟩ := y
    subst e
    have hi : i < 2 ^ n := by rw [Int.toNat_natCast] at hi; exact hi
    have t0 : (σ.set 2 (some (vN i)))[0]? = some (some (vN n)) := (List.getElem?_set_ne (by decide)).trans s0
    have t1 : (σ.set 2 (some (vN i)))[1]? = some (some (.ref p)) := (List.getElem?_set_ne (by decide)).trans s1
    have t2 : (σ.set 2 (some (vN i)))[2]? = some (some (vN i)) := List.getElem?_set_self (by omega)
    refine ⟨_, t1, _, t2, p, _, _, _, rfl, rfl, hp, atI_nat (num_at (by omega)), _, t1, _, t0, _, t2, n, i, rfl, by omega, hi, p, _, _, _, rfl, rfl, hp, atI_nat (num_at (by omega)), ?_⟩
    have e1 := G.opp i hi
    refine ⟨_, rfl, rfl, _, rfl, no ?_ ⟨rfl, t0, t1, by rw [List.length_set]; exact sl⟩⟩
    rw [e1]
    simp
  · obtain ⟨e, s0, s1, sl⟩ := p
    subst e
    exact q
theorem ris_lt {n i h : Nat} (hi : i < 2 ^ n) (hh : h < n) : i ||| 2 ^ h < 2 ^ n := Nat.or_lt_two_pow hi (Nat.pow_lt_pow_right (by decide) hh)
def N_check_rising : List Str := ["hands", "numbers", "mask", "hand"]
theorem sc_check_rising : FnScope N_check_rising ["hands", "numbers"] (defScope st_check_rising) := ⟨rfl, rfl, rfl, by decide +kernel, rfl, by decide +kernel, by decide +kernel⟩
theorem C_check_rising (T : Txt K mg) : Cal P w K mg base CX0 2 "check_rising" (spGood K) := by
  refine cal_of T.d_check_rising T.g_check_rising sc_check_rising (fun kV doc pm an cdv ct us h => ?_) (fun vs H Q E h => ?_) fun cdv A outer s H vs Q E hr h => ?_
  · match us, h with
    | [_, _], _ => rfl
  · obtain ⟨n, p, ns, B, rfl, hp, G, hn, q⟩ := h; rfl
  obtain ⟨n, p, ns, B, rfl, hp, G, hn, q⟩ := h
  refine ⟨_, (pss_one (ps_for PassesOwn.never rfl (pi_range1 rfl T.n_range (pa_cons (pe_op op_shl1 pe_int (pv 0)) pa_nil)) (pg_name (i := 2) sc_check_rising.nd rfl (Or.inl rfl)) (pss_one (ps_for PassesOwn.never rfl (pi_range1 rfl T.n_range (pa_cons (pv 0) pa_nil)) (pg_name (i := 3) sc_check_rising.nd rfl (Or.inl rfl)) (pss_one (ps_if (pt_cmpR op_gt (pe_ix ix_list (pv 1) (pv 2) (fun _ _ => rfl)) (pe_ix ix_list (pv 1) (pe_cal (C_with_hand T) (hr.mono (by decide)) (pa_cons (pv 2) (pa_cons (pv 3) pa_nil))) (fun _ _ => rfl)) (nomark _)) (pss_one ps_never) pss_nil)))))), ?_⟩
  have h64 := p6 hn
  have gl := G.len
  refine ⟨_, rfl, n, rfl, rfl, by omega, _, rfl, (p62 hn).1, (p62 hn).2, for_it (wkR (H0 := H)) (fun i σ H' => H' = H ∧ σ[0]? = some (some (vN n)) ∧ σ[1]? = some (some (.ref p)) ∧ σ.length = 4) ⟨rfl, rfl, rfl, rfl⟩ (fun i σ H' _ p => by rw [p.1]; exact Same.refl _) (fun i x σ H1 H' hi p y => ?_) fun σ H' p => ?_⟩
  · obtain ⟨e, s0, s1, sl⟩ := p
    subst e
    obtain ⟨e, rfl⟩ := y
    subst e
    have hi : i < 2 ^ n := by rw [Int.toNat_natCast] at hi; exact hi
    have t0 : (σ.set 2 (some (vN i)))[0]? = some (some (vN n)) := (List.getElem?_set_ne (by decide)).trans s0
    have t1 : (σ.set 2 (some (vN i)))[1]? = some (some (.ref p)) := (List.getElem?_set_ne (by decide)).trans s1
    have t2 : (σ.set 2 (some (vN i)))[2]? = some (some (vN i)) := List.getElem?_set_self (by omega)
    refine ⟨_, t0, _, rfl, by omega, by omega, for_it (wkR (H0 := H')) (fun j σ H2 => H2 = H' ∧ σ[0]? = some (some (vN n)) ∧ σ[1]? = some (some (.ref p)) ∧ σ[2]? = some (some (vN i)) ∧ σ.length = 4) ⟨rfl, t0, t1, t2, by rw [List.length_set]; exact sl⟩ (fun i σ H' _ p => by rw [p.1]; exact Same.refl _) (fun j x σ H1 H2 hj p y => ?_) fun σ H2 p => ?_⟩
    · obtain ⟨e, s0, s1, s2, sl⟩ := p
      subst e
      obtain ⟨e, rfl⟩ := y
      subst e
      have hj : j < n := by rw [Int.toNat_natCast] at hj; exact hj
      have t0 : (σ.set 3 (some (vN j)))[0]? = some (some (vN n)) := (List.getElem?_set_ne (by decide)).trans s0
      have t1 : (σ.set 3 (some (vN j)))[1]? = some (some (.ref p)) := (List.getElem?_set_ne (by decide)).trans s1
      have t2 : (σ.set 3 (some (vN j)))[2]? = some (some (vN i)) := (List.getElem?_set_ne (by decide)).trans s2
      have t3 : (σ.set 3 (some (vN j)))[3]? = some (some (vN j)) := List.getElem?_set_self (by omega)
      have lt := ris_lt hi hj
      have r := G.ris i j hi hj
      exact ⟨_, t1, _, t2, p, _, _, _, rfl, rfl, hp, atI_nat (num_at (by omega)), _, t1, _, t2, _, t3, i, j, rfl, by omega, p, _, _, _, rfl, rfl, hp, atI_nat (num_at (by omega)), _, _, rfl, rfl, _, rfl, no (decide_eq_false (by omega)) ⟨rfl, t0, t1, t2, by rw [List.length_set]; exact sl⟩⟩
    · obtain ⟨e, s0, s1, s2, sl⟩ := p
      subst e
      exact ⟨rfl, s0, s1, sl⟩
  · obtain ⟨e, s0, s1, sl⟩ := p
    subst e
    exact q
def spScale (K : PySem.W.Frag) : Sp := fun vs H Q _ => ∃ (x dx p : Addr) (n : Nat) (ns : List Int), vs = [.ref x, vN n, .ref p] ∧ H x = some (.ins cS dx []) ∧ SqL K H p (ns.map V.int) ∧ Good n ns 1000000000 ∧ 1 ≤ n ∧ n ≤ 6 ∧
  ∀ H', (∀ y o, y ≠ x → H y = some o → H' y = some o) → Sc H' x n ns → Q .non H'
def N_Scale___init__ : List Str := ["self", "hands", "numbers", "number"]
theorem sc_Scale___init__ : FnScope N_Scale___init__ ["self", "hands", "numbers"] (defScope st_Scale___init__) := ⟨rfl, rfl, rfl, by decide +kernel, rfl, by decide +kernel, by decide +kernel⟩
theorem F_Scale___init__ (T : Txt K mg) : ∃ fd ps, FnOk P w K mg base CX0 3 764 fd ps (spScale K) ∧ Binds K fd ps [] := by
  refine fnr_of T.d_Scale___init__ sc_Scale___init__ (fun kV doc pm an cdv ct us h => ?_) (fun vs H Q E h => ?_) fun cdv A outer s H vs Q E hr h => ?_
  · match us, h with
    | [_, _, _], _ => rfl
  · obtain ⟨x, dx, p, n, ns, rfl, hx, hp, G, n1, n6, q⟩ := h; rfl
  obtain ⟨x, dx, p, n, ns, rfl, hx, hp, G, n1, n6, q⟩ := h
  refine ⟨_, (pss_cons (ps_expr (pe_cal (C_check_hands T) (hr.mono (by decide)) (pa_cons (pv 1) (pa_cons (pe_gint T.m_MOST_HANDS) pa_nil))))
      (pss_cons (ps_expr (pe_cal (C_check_length T) (hr.mono (by decide)) (pa_cons (pe_callB call_len_seq (by rfl) T.n_len (by decide +kernel) (pa_cons (pv 2) pa_nil)) (pa_cons (pe_op op_shl1 pe_int (pv 1)) (pa_cons (pe_op op_shl1 pe_int (pv 1)) pa_nil)))))
      (pss_cons (ps_for PassesOwn.never rfl (pi_list (pv 2)) (pg_name (i := 3) sc_Scale___init__.nd rfl (Or.inl rfl)) (pss_one (ps_expr (pe_cal (C_check_number T) (hr.mono (by decide)) (pa_cons (pv 3) (pa_cons (pe_un un_neg (ClX.pe_cval (pe_gref T.m_Scale))) (pa_cons (ClX.pe_cval (pe_gref T.m_Scale)) pa_nil)))))))
      (pss_cons (ps_expr (pe_cal (C_check_opposite T) (hr.mono (by decide)) (pa_cons (pv 1) (pa_cons (pv 2) pa_nil))))
      (pss_cons (ps_expr (pe_cal (C_check_rising T) (hr.mono (by decide)) (pa_cons (pv 1) (pa_cons (pv 2) pa_nil))))
      (pss_cons (ps_fld (pv 0) (pv 1) rfl)
      (pss_one (ps_fld (pv 0) (pe_callTy call_tuple_of (by rfl) T.n_tuple (by decide +kernel) (pa_cons (pv 2) pa_nil)) rfl)))))))), ?_⟩
  have h64 := p6 n6
  have gl := G.len
  obtain ⟨u, cv⟩ := T.cvS
  have nxp : ∀ {o : HO} {H1 : Hp}, (∀ y o, y ≠ x → H y = some o → H1 y = some o) → SqL K H1 p (ns.map V.int) := fun {o H1} k => by
    rcases hp with (h | ⟨b, h⟩) | h
    · exact .inl (.inl (k _ _ (fun z => by rw [z, hx] at h; cases h) h))
    · exact .inl (.inr ⟨b, k _ _ (fun z => by rw [z, hx] at h; cases h) h⟩)
    · exact .inr h
  refine ⟨_, rfl, n, 7, rfl, by omega, by omega, _, rfl, _, _, rfl, .inl hp, _, rfl, n, rfl, rfl, by omega, _, rfl, n, rfl, rfl, by omega, _, _, _, rfl, by rw [List.length_map, gl]; exact Int.le_refl _, by rw [List.length_map, gl]; exact Int.le_refl _, ?_⟩
  refine ⟨_, rfl, p, rfl, ⟨_, hp⟩, for_it (wkL hp) (fun i σ H' => H' = H ∧ σ[0]? = some (some (.ref x)) ∧ σ[1]? = some (some (vN n)) ∧ σ[2]? = some (some (.ref p)) ∧ σ.length = 4) ⟨rfl, rfl, rfl, rfl, rfl⟩ (fun i σ H' _ p => by rw [p.1]; exact Same.refl _) (fun i v σ H1 H' hi p y => ?_) fun σ H' p => ?_⟩
  · obtain ⟨e, s0, s1, s2, sl⟩ := p
    subst e
    obtain ⟨e, hv⟩ := y
    subst e
    rw [List.length_map] at hi
    obtain rfl : v = .int (num ns i) := by rw [num_at hi] at hv; exact (Option.some.inj hv).symm
    have b := G.lo i (by omega)
    refine ⟨_, List.getElem?_set_self (by omega), _, _, _, _, rfl, T.crS, cv, _, rfl, _, _, _, _, rfl, T.crS, cv, num ns i, -1000000000, 1000000000, rfl, b.1, b.2, rfl, ?_, ?_, ?_, ?_⟩
    · exact (List.getElem?_set_ne (by decide)).trans s0
    · exact (List.getElem?_set_ne (by decide)).trans s1
    · exact (List.getElem?_set_ne (by decide)).trans s2
    · rw [List.length_set]; exact sl
  · obtain ⟨e, s0, s1, s2, sl⟩ := p
    subst e
    refine ⟨_, s1, _, s2, n, p, ns, _, rfl, hp, G, n6, _, s1, _, s2, n, p, ns, _, rfl, hp, G, n6, ?_⟩
    refine ⟨_, s1, _, s0, x, _, dx, _, rfl, hx, T.clS, T.S_hands, by show 0 < 1000; decide, _, s2, p, _, rfl, .inl ⟨nxp (o := .own x) fun y o hy e => by rw [upd_ne hy]; exact e, fun l hl => ?_⟩⟩
    have nlx : x ≠ l := fun z => by rw [← z, upd_same] at hl; cases hl
    refine ⟨_, s0, x, _, dx, _, rfl, by rw [upd_ne nlx]; exact upd_same, T.clS, T.S__numbers, by show 1 < 1000; decide, ?_⟩
    have hlf : H' l = none := by rw [upd_ne (fun z => nlx z.symm)] at hl; exact hl
    refine q _ (fun y o hy e => ?_) ⟨dx, l, _, upd_same, rfl, rfl, ?_, gl, n1, n6⟩
    · rw [upd_ne hy, upd_ne (fun z => by rw [z, hlf] at e; cases e), upd_ne hy]; exact e
    · rw [upd_ne (fun z => nlx z.symm), upd_same]
/-! ### the auction -/
def AuO (dx st pa fu sc : Addr) : HO := .ins cA dx [(("_state" : Str), V.ref st), (("_past" : Str), V.ref pa), (("_future" : Str), V.ref fu), (("_scale" : Str), V.ref sc)]
def Auc (H : Hp) (a sc : Addr) (n : Nat) (ns : List Int) (near far : Nat) (t b : Int) (k : Nat) : Prop := Sc H sc n ns ∧ ∃ (dx st pa fu : Addr) (pv : V) (xs : List V), H a = some (AuO dx st pa fu sc) ∧ H st = some (.tup [vN near, vN far, pv]) ∧ IsR H pv t b ∧ H pa = some (.tup xs) ∧ xs.length = k
theorem Auc.same {H H' : Hp} {a sc : Addr} {n : Nat} {ns : List Int} {near far k : Nat} {t b : Int} (e : Same H H') (h : Auc H a sc n ns near far t b k) : Auc H' a sc n ns near far t b k := by
  obtain ⟨h0, dx, st, pa, fu, pv, xs, h1, h2, h3, h4, h5⟩ := h
  exact ⟨h0.same e, dx, st, pa, fu, pv, xs, e _ _ h1, e _ _ h2, h3.same e, e _ _ h4, h5⟩
def spUInit : Sp := fun vs H Q _ => ∃ (x dx st : Addr), vs = [.ref x, .ref st] ∧ H x = some (.ins cA dx []) ∧
  ∀ H' pa fu, (∀ y o, y ≠ x → H y = some o → H' y = some o) → H' x = some (.ins cA dx [(("_state" : Str), V.ref st), (("_past" : Str), V.ref pa), (("_future" : Str), V.ref fu)]) → H' pa = some (.tup []) → Q .non H'
def N_Undoable___init__ : List Str := ["self", "state"]
theorem sc_Undoable___init__ : FnScope N_Undoable___init__ ["self", "state"] (defScope st_Undoable___init__) := ⟨rfl, rfl, rfl, by decide +kernel, rfl, by decide +kernel, by decide +kernel⟩
theorem F_Undoable___init__ (T : Txt K mg) : ∃ fd ps, FnOk P w K mg base CX0 1 572 fd ps spUInit ∧ Binds K fd ps [] := by
  refine fnr_of T.d_Undoable___init__ sc_Undoable___init__ (fun kV doc pm an cdv ct us h => ?_) (fun vs H Q E h => ?_) fun cdv A outer s H vs Q E hr h => ?_
  · match us, h with
    | [_, _], _ => rfl
  · obtain ⟨x, dx, st, rfl, hx, q⟩ := h; rfl
  obtain ⟨x, dx, st, rfl, hx, q⟩ := h
  refine ⟨_, (pss_cons (ps_fld (pv 0) (pv 1) rfl)
      (pss_cons (ps_fld (pv 0) (pe_tup pa_nil) rfl)
      (pss_one (ps_fld (pv 0) (pe_tup pa_nil) rfl)))), ?_⟩
  refine ⟨_, rfl, _, rfl, x, _, dx, _, rfl, hx, T.clA, T.A__state, by show 0 < 1000; decide, by show 0 ≤ sizeLine; decide, fun t1 ht1 => ?_⟩
  have n1 : x ≠ t1 := fun z => by rw [← z, upd_same] at ht1; cases ht1
  have f1 : H t1 = none := by rw [upd_ne (fun z => n1 z.symm)] at ht1; exact ht1
  refine ⟨_, rfl, x, _, dx, _, rfl, by rw [upd_ne n1]; exact upd_same, T.clA, T.A__past, by show 1 < 1000; decide, by show 0 ≤ sizeLine; decide, fun t2 ht2 => ?_⟩
  have n2 : x ≠ t2 := fun z => by rw [← z, upd_same] at ht2; cases ht2
  have n12 : t1 ≠ t2 := fun z => by rw [← z, upd_ne (fun z => n1 z.symm), upd_same] at ht2; cases ht2
  have f2 : H t2 = none := by rw [upd_ne (fun z => n2 z.symm), upd_ne (fun z => n12 z.symm), upd_ne (fun z => n2 z.symm)] at ht2; exact ht2
  refine ⟨_, rfl, x, _, dx, _, rfl, by rw [upd_ne n2]; exact upd_same, T.clA, T.A__future, by show 2 < 1000; decide, q _ t1 t2 (fun y o hy e => ?_) upd_same ?_⟩
  · rw [upd_ne hy, upd_ne (ne_of_none e f2), upd_ne hy, upd_ne (ne_of_none e f1), upd_ne hy]; exact e
  · rw [upd_ne (fun z => n1 z.symm), upd_ne n12, upd_ne (fun z => n1 z.symm), upd_same]
def spDeed : Sp := fun vs H Q _ => ∃ (a dx s0 pa fu sc st : Addr) (xs : List V), vs = [.ref a, .ref st] ∧ H a = some (AuO dx s0 pa fu sc) ∧ H pa = some (.tup xs) ∧ xs.length < 1000 ∧
  ∀ H' pa' fu', (∀ y o, y ≠ a → H y = some o → H' y = some o) → H' a = some (AuO dx st pa' fu' sc) → H' pa' = some (.tup (xs ++ [.ref s0])) → Q .non H'
def N_Undoable__deed : List Str := ["self", "state"]
theorem sc_Undoable__deed : FnScope N_Undoable__deed ["self", "state"] (defScope st_Undoable__deed) := ⟨rfl, rfl, rfl, by decide +kernel, rfl, by decide +kernel, by decide +kernel⟩
theorem F_Undoable__deed (T : Txt K mg) : ∃ fd ps, FnOk P w K mg base CX0 1 608 fd ps spDeed ∧ Binds K fd ps [] := by
  refine fnr_of T.d_Undoable__deed sc_Undoable__deed (fun kV doc pm an cdv ct us h => ?_) (fun vs H Q E h => ?_) fun cdv A outer s H vs Q E hr h => ?_
  · match us, h with
    | [_, _], _ => rfl
  · obtain ⟨a, dx, s0, pa, fu, sc, st, xs, rfl, ha, hpa, hx, q⟩ := h; rfl
  obtain ⟨a, dx, s0, pa, fu, sc, st, xs, rfl, ha, hpa, hx, q⟩ := h
  refine ⟨_, (pss_cons (ps_fld (pv 0) (pe_tup (StX.pa_star (pe_fld (pv 0) rfl) (pa_cons (pe_fld (pv 0) rfl) pa_nil))) rfl)
      (pss_cons (ps_fld (pv 0) (pv 1) rfl)
      (pss_one (ps_fld (pv 0) (pe_tup pa_nil) rfl)))), ?_⟩
  refine ⟨_, rfl, _, _, _, _, _, rfl, ha, T.clA, T.A__past, rfl, pa, xs, rfl, .inl (sqT hpa), _, rfl, _, _, _, _, _, rfl, ha, T.clA, T.A__state, rfl, by show (xs ++ [_]).length ≤ sizeLine; rw [List.length_append, List.length_singleton, sizeLine_eq]; omega, fun t1 f1 => ?_⟩
  have n1 : a ≠ t1 := ne_of_none ha f1
  refine ⟨_, rfl, a, _, dx, _, rfl, by rw [upd_ne n1]; exact ha, T.clA, T.A__past, by show 4 < 1000; decide, _, rfl, _, rfl, a, _, dx, _, rfl, upd_same, T.clA, T.A__state, by show 4 < 1000; decide, by show 0 ≤ sizeLine; decide, fun t2 ht2 => ?_⟩
  have n2 : a ≠ t2 := fun z => by rw [← z, upd_same] at ht2; cases ht2
  have n12 : t1 ≠ t2 := fun z => by rw [← z, upd_ne (fun z => n1 z.symm), upd_ne (fun z => n1 z.symm), upd_same] at ht2; cases ht2
  have f2 : H t2 = none := by rw [upd_ne (fun z => n2 z.symm), upd_ne (fun z => n2 z.symm), upd_ne (fun z => n12 z.symm)] at ht2; exact ht2
  refine ⟨_, rfl, a, _, dx, _, rfl, by rw [upd_ne n2]; exact upd_same, T.clA, T.A__future, by show 4 < 1000; decide, q _ t1 t2 (fun y o hy e => ?_) upd_same ?_⟩
  · rw [upd_ne hy, upd_ne (ne_of_none e f2), upd_ne hy, upd_ne hy, upd_ne (ne_of_none e f1)]; exact e
  · rw [upd_ne (fun z => n1 z.symm), upd_ne n12, upd_ne (fun z => n1 z.symm), upd_ne (fun z => n1 z.symm), upd_same]
theorem M__deed (T : Txt K mg) : MCal P w K mg base CX0 1 cA "_deed" spDeed := by
  obtain ⟨fd, ps, F, b⟩ := F_Undoable__deed (P := P) (w := w) (mg := mg) (base := base) T
  exact ⟨_, fd, ps, F, T.clA, T.mt__deed, b⟩
theorem st64 {n m : Nat} (h : m < 2 ^ n) (n6 : n ≤ 6) : m < 64 := Nat.lt_of_lt_of_le h (p6 n6)
def spNear : Sp := fun vs H Q _ => ∃ (a sc : Addr) (n : Nat) (ns : List Int) (near far : Nat) (t b : Int) (k : Nat), vs = [.ref a] ∧ Auc H a sc n ns near far t b k ∧ Stand n near far ∧ RetP (.tup ((hOf near).map vN)) H Q
def N_Auction_near : List Str := ["self"]
theorem sc_Auction_near : FnScope N_Auction_near ["self"] (defScope st_Auction_near) := ⟨rfl, rfl, rfl, by decide +kernel, rfl, by decide +kernel, by decide +kernel⟩
theorem F_Auction_near (T : Txt K mg) : ∃ fd ps, FnOk P w K mg base CX0 3 673 fd ps spNear ∧ Binds K fd ps [] := by
  refine fnr_of T.d_Auction_near sc_Auction_near (fun kV doc pm an cdv ct us h => ?_) (fun vs H Q E h => ?_) fun cdv A outer s H vs Q E hr h => ?_
  · match us, h with
    | [_], _ => rfl
  · obtain ⟨a, sc, n, ns, near, far, t, b, k, rfl, ha, S, q⟩ := h; rfl
  obtain ⟨a, sc, n, ns, near, far, t, b, k, rfl, ha, S, q⟩ := h
  refine ⟨_, (pss_one (ps_ret (pe_cal (C_tuple_of T) (hr.mono (by decide)) (pa_cons (pe_ix ix_tup (pe_fld (pv 0) rfl) pe_int (fun _ _ => rfl)) pa_nil)))), ?_⟩
  obtain ⟨h0, dx, st, pa, fu, pv, xs, h1, h2, h3, h4, h5⟩ := ha
  exact ⟨_, rfl, _, _, _, _, _, rfl, h1, T.clA, T.A__state, rfl, st, _, _, _, rfl, rfl, sqT h2, rfl, near, rfl, st64 S.nn S.n6, q⟩
theorem P_near (T : Txt K mg) : PCal P w K mg base CX0 3 cA "near" spNear := by
  obtain ⟨fd, ps, F, b⟩ := F_Auction_near (P := P) (w := w) (mg := mg) (base := base) T
  exact ⟨_, _, fd, ps, F, T.clA, T.pr_near, b⟩
def spFar : Sp := fun vs H Q _ => ∃ (a sc : Addr) (n : Nat) (ns : List Int) (near far : Nat) (t b : Int) (k : Nat), vs = [.ref a] ∧ Auc H a sc n ns near far t b k ∧ Stand n near far ∧ RetP (.tup ((hOf far).map vN)) H Q
def N_Auction_far : List Str := ["self"]
theorem sc_Auction_far : FnScope N_Auction_far ["self"] (defScope st_Auction_far) := ⟨rfl, rfl, rfl, by decide +kernel, rfl, by decide +kernel, by decide +kernel⟩
theorem F_Auction_far (T : Txt K mg) : ∃ fd ps, FnOk P w K mg base CX0 3 681 fd ps spFar ∧ Binds K fd ps [] := by
  refine fnr_of T.d_Auction_far sc_Auction_far (fun kV doc pm an cdv ct us h => ?_) (fun vs H Q E h => ?_) fun cdv A outer s H vs Q E hr h => ?_
  · match us, h with
    | [_], _ => rfl
  · obtain ⟨a, sc, n, ns, near, far, t, b, k, rfl, ha, S, q⟩ := h; rfl
  obtain ⟨a, sc, n, ns, near, far, t, b, k, rfl, ha, S, q⟩ := h
  refine ⟨_, (pss_one (ps_ret (pe_cal (C_tuple_of T) (hr.mono (by decide)) (pa_cons (pe_ix ix_tup (pe_fld (pv 0) rfl) pe_int (fun _ _ => rfl)) pa_nil)))), ?_⟩
  obtain ⟨h0, dx, st, pa, fu, pv, xs, h1, h2, h3, h4, h5⟩ := ha
  exact ⟨_, rfl, _, _, _, _, _, rfl, h1, T.clA, T.A__state, rfl, st, _, _, _, rfl, rfl, sqT h2, rfl, far, rfl, st64 S.ff S.n6, q⟩
theorem P_far (T : Txt K mg) : PCal P w K mg base CX0 3 cA "far" spFar := by
  obtain ⟨fd, ps, F, b⟩ := F_Auction_far (P := P) (w := w) (mg := mg) (base := base) T
  exact ⟨_, _, fd, ps, F, T.clA, T.pr_far, b⟩
def spFreeP : Sp := fun vs H Q _ => ∃ (a sc : Addr) (n : Nat) (ns : List Int) (near far : Nat) (t b : Int) (k : Nat), vs = [.ref a] ∧ Auc H a sc n ns near far t b k ∧ Stand n near far ∧ RetP (.tup ((fOf n near far).map vN)) H Q
def N_Auction_free : List Str := ["self"]
theorem sc_Auction_free : FnScope N_Auction_free ["self"] (defScope st_Auction_free) := ⟨rfl, rfl, rfl, by decide +kernel, rfl, by decide +kernel, by decide +kernel⟩
theorem F_Auction_free (T : Txt K mg) : ∃ fd ps, FnOk P w K mg base CX0 4 689 fd ps spFreeP ∧ Binds K fd ps [] := by
  refine fnr_of T.d_Auction_free sc_Auction_free (fun kV doc pm an cdv ct us h => ?_) (fun vs H Q E h => ?_) fun cdv A outer s H vs Q E hr h => ?_
  · match us, h with
    | [_], _ => rfl
  · obtain ⟨a, sc, n, ns, near, far, t, b, k, rfl, ha, S, q⟩ := h; rfl
  obtain ⟨a, sc, n, ns, near, far, t, b, k, rfl, ha, S, q⟩ := h
  refine ⟨_, (pss_one (ps_ret (pe_cal (C_free_hands T) (hr.mono (by decide)) (pa_cons (pe_fld (pe_fld (pv 0) rfl) rfl) (pa_cons (pe_ix ix_tup (pe_fld (pv 0) rfl) pe_int (fun _ _ => rfl)) (pa_cons (pe_ix ix_tup (pe_fld (pv 0) rfl) pe_int (fun _ _ => rfl)) pa_nil)))))), ?_⟩
  obtain ⟨⟨sdx, sl, sfs, g1, g2, g3, g4, g5, g6, g7⟩, dx, st, pa, fu, pv, xs, h1, h2, h3, h4, h5⟩ := ha
  exact ⟨_, rfl, _, _, _, _, _, rfl, h1, T.clA, T.A__scale, rfl, _, _, _, _, _, rfl, g1, T.clS, T.S_hands, g2, _, rfl, _, _, _, _, _, rfl, h1, T.clA, T.A__state, rfl, st, _, _, _, rfl, rfl, sqT h2, rfl,
    _, rfl, _, _, _, _, _, rfl, h1, T.clA, T.A__state, rfl, st, _, _, _, rfl, rfl, sqT h2, rfl, n, near, far, rfl, S.n6, S.facts.1.sum, q⟩
theorem P_free (T : Txt K mg) : PCal P w K mg base CX0 4 cA "free" spFreeP := by
  obtain ⟨fd, ps, F, b⟩ := F_Auction_free (P := P) (w := w) (mg := mg) (base := base) T
  exact ⟨_, _, fd, ps, F, T.clA, T.pr_free, b⟩
def spPurse : Sp := fun vs H Q _ => ∃ (a sc : Addr) (n : Nat) (ns : List Int) (near far : Nat) (t b : Int) (k : Nat), vs = [.ref a] ∧ Auc H a sc n ns near far t b k ∧ ∀ v, IsR H v t b → Q v H
def N_Auction_purse : List Str := ["self"]
theorem sc_Auction_purse : FnScope N_Auction_purse ["self"] (defScope st_Auction_purse) := ⟨rfl, rfl, rfl, by decide +kernel, rfl, by decide +kernel, by decide +kernel⟩
theorem F_Auction_purse (T : Txt K mg) : ∃ fd ps, FnOk P w K mg base CX0 1 697 fd ps spPurse ∧ Binds K fd ps [] := by
  refine fnr_of T.d_Auction_purse sc_Auction_purse (fun kV doc pm an cdv ct us h => ?_) (fun vs H Q E h => ?_) fun cdv A outer s H vs Q E hr h => ?_
  · match us, h with
    | [_], _ => rfl
  · obtain ⟨a, sc, n, ns, near, far, t, b, k, rfl, ha, q⟩ := h; rfl
  obtain ⟨a, sc, n, ns, near, far, t, b, k, rfl, ha, q⟩ := h
  refine ⟨_, (pss_one (ps_ret (pe_ix ix_tup (pe_fld (pv 0) rfl) pe_int (fun _ _ => rfl)))), ?_⟩
  obtain ⟨h0, dx, st, pa, fu, pv, xs, h1, h2, h3, h4, h5⟩ := ha
  exact ⟨_, rfl, _, _, _, _, _, rfl, h1, T.clA, T.A__state, rfl, st, _, _, _, rfl, rfl, sqT h2, rfl, q _ h3⟩
theorem P_purse (T : Txt K mg) : PCal P w K mg base CX0 1 cA "purse" spPurse := by
  obtain ⟨fd, ps, F, b⟩ := F_Auction_purse (P := P) (w := w) (mg := mg) (base := base) T
  exact ⟨_, _, fd, ps, F, T.clA, T.pr_purse, b⟩
def spDeeds : Sp := fun vs H Q _ => ∃ (a sc : Addr) (n : Nat) (ns : List Int) (near far : Nat) (t b : Int) (k : Nat), vs = [.ref a] ∧ Auc H a sc n ns near far t b k ∧ Q (vN k) H
def N_Undoable_deeds : List Str := ["self"]
theorem sc_Undoable_deeds : FnScope N_Undoable_deeds ["self"] (defScope st_Undoable_deeds) := ⟨rfl, rfl, rfl, by decide +kernel, rfl, by decide +kernel, by decide +kernel⟩
theorem F_Undoable_deeds (T : Txt K mg) : ∃ fd ps, FnOk P w K mg base CX0 1 579 fd ps spDeeds ∧ Binds K fd ps [] := by
  refine fnr_of T.d_Undoable_deeds sc_Undoable_deeds (fun kV doc pm an cdv ct us h => ?_) (fun vs H Q E h => ?_) fun cdv A outer s H vs Q E hr h => ?_
  · match us, h with
    | [_], _ => rfl
  · obtain ⟨a, sc, n, ns, near, far, t, b, k, rfl, ha, q⟩ := h; rfl
  obtain ⟨a, sc, n, ns, near, far, t, b, k, rfl, ha, q⟩ := h
  refine ⟨_, (pss_one (ps_ret (pe_callB call_len_seq (by rfl) T.n_len (by decide +kernel) (pa_cons (pe_fld (pv 0) rfl) pa_nil)))), ?_⟩
  obtain ⟨h0, dx, st, pa, fu, pv, xs, h1, h2, h3, h4, h5⟩ := ha
  subst h5
  exact ⟨_, rfl, _, _, _, _, _, rfl, h1, T.clA, T.A__past, rfl, _, _, rfl, .inr (sqT h4), q⟩
theorem P_deeds (T : Txt K mg) : PCal P w K mg base CX0 1 cA "deeds" spDeeds := by
  obtain ⟨fd, ps, F, b⟩ := F_Undoable_deeds (P := P) (w := w) (mg := mg) (base := base) T
  exact ⟨_, _, fd, ps, F, T.clA, T.pr_deeds, b⟩
def resV (n : Nat) (ns : List Int) (near far : Nat) : V := if fOf n near far = [] then .int (num ns near) else .non
def spResult : Sp := fun vs H Q _ => ∃ (a sc : Addr) (n : Nat) (ns : List Int) (near far : Nat) (t b : Int) (k : Nat), vs = [.ref a] ∧ Auc H a sc n ns near far t b k ∧ Stand n near far ∧ ∀ H', Same H H' → Q (resV n ns near far) H'
theorem lot_h {n near far : Nat} (S : Stand n near far) : Lot n near (hOf near) := ⟨fun h hh => (S.facts.1.hN h hh).1, hOf_nd _, S.facts.1.mN⟩
theorem lot_f {n near far : Nat} (S : Stand n near far) : Lot n far (hOf far) := ⟨fun h hh => (S.facts.1.hF h hh).1, hOf_nd _, S.facts.1.mF⟩
def N_Auction_result : List Str := ["self", "near", "far", "_"]
theorem sc_Auction_result : FnScope N_Auction_result ["self"] (defScope st_Auction_result) := ⟨rfl, rfl, rfl, by decide +kernel, rfl, by decide +kernel, by decide +kernel⟩
theorem F_Auction_result (T : Txt K mg) : ∃ fd ps, FnOk P w K mg base CX0 5 705 fd ps spResult ∧ Binds K fd ps [] := by
  refine fnr_of T.d_Auction_result sc_Auction_result (fun kV doc pm an cdv ct us h => ?_) (fun vs H Q E h => ?_) fun cdv A outer s H vs Q E hr h => ?_
  · match us, h with
    | [_], _ => rfl
  · obtain ⟨a, sc, n, ns, near, far, t, b, k, rfl, ha, S, q⟩ := h; rfl
  obtain ⟨a, sc, n, ns, near, far, t, b, k, rfl, ha, S, q⟩ := h
  obtain ⟨fdG, psG, FG, bG⟩ := F_Scale___getitem__ (P := P) (w := w) (mg := mg) (base := base) T
  refine ⟨_, (pss_cons (ps_asg (pe_fld (pv 0) rfl) (pg_tup rfl (pgs_cons (pg_name (i := 1) sc_Auction_result.nd rfl (Or.inl rfl)) (pgs_cons (pg_name (i := 2) sc_Auction_result.nd rfl (Or.inl rfl)) (pgs_cons (pg_name (i := 3) sc_Auction_result.nd rfl (Or.inl rfl)) pgs_nil)))))
      (pss_cons (ps_if (pt_cmpR op_gt (pe_callB call_len_seq (by rfl) T.n_len (by decide +kernel) (pa_cons (pe_cal (C_free_hands T) (hr.mono (by decide)) (pa_cons (pe_fld (pe_fld (pv 0) rfl) rfl) (pa_cons (pv 1) (pa_cons (pv 2) pa_nil)))) pa_nil)) pe_int (nomark _)) (pss_one (ps_ret pe_non)) pss_nil)
      (pss_one (ps_ret (pe_getitem T.sp_getitem.1 T.sp_getitem.2.2 T.sp_getitem.2.1 (fnR_of FG bG) (hr.mono (by decide)) (pe_fld (pv 0) rfl) (pe_cal (C_tuple_of T) (hr.mono (by decide)) (pa_cons (pv 1) pa_nil))))))), ?_⟩
  have ha0 := ha
  obtain ⟨⟨sdx, sl, sfs, g1, g2, g3, g4, g5, g6, g7⟩, dx, st, pa, fu, pv, xs, h1, h2, h3, h4, h5⟩ := ha
  refine ⟨_, rfl, _, _, _, _, _, rfl, h1, T.clA, T.A__state, rfl, st, _, rfl, sqT h2, rfl, _, _, rfl, _, _, rfl, _, _, rfl, rfl, ?_⟩
  refine ⟨_, rfl, _, _, _, _, _, rfl, h1, T.clA, T.A__scale, rfl, _, _, _, _, _, rfl, g1, T.clS, T.S_hands, g2, _, rfl, _, rfl, n, near, far, rfl, S.n6, S.facts.1.sum, fun H1 p1 e1 hp1 hl1 => ⟨_, _, rfl, .inr (sqT hl1), _, _, rfl, rfl, _, rfl, both (fun hc => ?_) fun hc => ?_⟩⟩
  · have hf : fOf n near far ≠ [] := fun z => by
      have := of_decide_eq_true hc
      rw [z] at this
      exact absurd this (by decide)
    have := q H1 e1
    unfold resV at this
    rw [if_neg hf] at this
    exact this
  · have hf : fOf n near far = [] := by
      have := of_decide_eq_false hc
      rw [List.length_map] at this
      exact List.eq_nil_of_length_eq_zero (by omega)
    refine ⟨_, rfl, _, _, _, _, _, rfl, e1 _ _ h1, T.clA, T.A__scale, rfl, _, rfl, near, rfl, st64 S.nn S.n6, fun H2 p2 e2 hp2 hl2 => ⟨sc, _, _, rfl, e2 _ _ (e1 _ _ g1), sc, p2, n, near, ns, hOf near, rfl, ha0.1.same (Same.trans e1 e2), .inr (sqT hl2), lot_h S, ?_⟩⟩
    have := q H2 (Same.trans e1 e2)
    unfold resV at this
    rw [if_pos hf] at this
    exact this
theorem P_result (T : Txt K mg) : PCal P w K mg base CX0 5 cA "result" spResult := by
  obtain ⟨fd, ps, F, b⟩ := F_Auction_result (P := P) (w := w) (mg := mg) (base := base) T
  exact ⟨_, _, fd, ps, F, T.clA, T.pr_result, b⟩
end
end Wf

namespace Wf
open PySem PySem.Spec PyProof.Rows L2
/-- a method's call whose raise is told at the slots -/
def tMcS (C : Addr) (m : Str) (sp : Sp) (E : L2.St → XK) (ta : TE) (t : TA) : TE := fun σ H Q => ta σ H fun x H1 => ∃ a dx fs, x = .ref a ∧ H1 a = some (.ins C dx fs) ∧ fs.lookup m = none ∧ t σ H1 fun vs H2 => sp (x :: vs) H2 Q (E σ)
theorem pe_mcS {X : Cx} {k : Nat} {C : Addr} {sp : Sp} {W : WX} {m : Str} {pos apos : Pos} {e o : Expr} {es : List Expr} {ta : TE} {t : TA} {pl : Sem Bool} (c : MCal X.prog X.w X.K X.mg X.base (L2.CX X.prog X.w) k C m sp) (tk : Takes X W) (ho : PE X o ta) (hr : Room k X.A) (ha : PA X (e :: es) t)
    (h1 : starEach (e :: es) X.env = (false, eval e X.env) :: starEach es X.env := by rfl) (h2 : (backTo pos (starEach es X.env)).any (·.1) = false := by rfl)
    (h3 : eval (.Call (.Attribute o m apos) (e :: es) [] pos) X.env = (do
      let ov ← eval o X.env
      standAt apos.atName
      let (f, first) ← holding [ov] (getMethod ov m pl)
      callWith pos f first (backTo pos (starEach (e :: es) X.env)) (backToKw pos (keywordEach [] X.env))) := by rfl) :
    PE X (.Call (.Attribute o m apos) (e :: es) [] pos) (tMcS C m sp (WE W) ta t) := by
  obtain ⟨f, fd, ps, F, cl, hm, hb⟩ := c.go
  refine ⟨fun pins s σ H Q I h => PySem.W.methodCall_KW (pl := pl) (thn (ho.run pins s σ H _ I h) fun u s1 ⟨x, H1, I1, rx, a, dx, fs, ex, ea, l, q⟩ => ?_) h3⟩
  subst ex
  obtain rfl : u = Value.ref a := rx
  exact getmeth_ok I1 ea cl hm l (PySem.W.callWith_K (first := [.ref a]) (h₀ := X.base) I.ok.mod.kin hm.kp (thn (ha.run pos pins s1 σ H1 _ I1 q) fun us s2 ⟨vs, H2, I2, r, q2⟩ => ⟨I2.kIn, run_fnS (us := .ref a :: us) (vs := .ref a :: vs) F hr hb (passAt tk σ) I2 (.cons rfl r) q2⟩) h1 h2)
section
variable {P : Program} {w : World} {K : PySem.W.Frag} {mg : Str → Option Value} {base : Heap}
theorem Sc.keep {H H' : Hp} {a sc dx st pa fu s : Addr} {n : Nat} {ns : List Int} (h : Sc H sc n ns) (ha : H a = some (AuO dx st pa fu s)) (k : ∀ y o, y ≠ a → H y = some o → H' y = some o) : Sc H' sc n ns := by
  obtain ⟨dx, l, fs, h1, h2, h3, h4, h5⟩ := h
  exact ⟨dx, l, fs, k _ _ (ne_of h1 ha fun z => absurd (HO.ins.inj z).1 (by decide)) h1, h2, h3, k _ _ (ne_of h4 ha fun z => nomatch z) h4, h5⟩
theorem IsR.keep {H H' : Hp} {a dx st pa fu s : Addr} {v : V} {t b : Int} (h : IsR H v t b) (ha : H a = some (AuO dx st pa fu s)) (k : ∀ y o, y ≠ a → H y = some o → H' y = some o) : IsR H' v t b := by
  obtain ⟨r, dx, fs, e1, e2, e3⟩ := h
  exact ⟨r, dx, fs, e1, k _ _ (ne_of e2 ha fun z => absurd (HO.ins.inj z).1 (by decide)) e2, e3⟩
theorem Frac.keep {H H' : Hp} {a dx st pa fu s : Addr} {v : V} {t b : Int} (h : Frac H v t b) (ha : H a = some (AuO dx st pa fu s)) (k : ∀ y o, y ≠ a → H y = some o → H' y = some o) : Frac H' v t b := h.imp id fun h => h.keep ha k
/-- after a bid -/
def BidTo (H : Hp) (Q : VK) (a sc : Addr) (n : Nat) (ns : List Int) (z : Str) (near far : Nat) (r : Int × Int) (k : Nat) : Prop := ∀ H', (∀ y o, y ≠ a → H y = some o → H' y = some o) → Auc H' a sc n ns near far r.1 r.2 k → Q (.str z) H'
def spBid : Sp := fun vs H Q E => ∃ (a sc : Addr) (n : Nat) (ns : List Int) (near far : Nat) (t b : Int) (k h1 h2 : Nat) (v1 v2 : V), vs = [.ref a, vN h1, v1, vN h2, v2] ∧ Auc H a sc n ns near far t b k ∧ Stand n near far ∧ k < 900 ∧
  ((fOf n near far = [] ∧ ∀ H', Same H H' → E (.ref cE) none H') ∨
   ∃ t1 b1 t2 b2 : Int, h1 ∈ fOf n near far ∧ h2 ∈ fOf n near far ∧ Frac H v1 t1 b1 ∧ Frac H v2 t2 b2 ∧ Low t1 b1 ∧ Low t2 b2 ∧ Low t b ∧ Sm t ∧ Sm b ∧ Sm t1 ∧ Sm t2 ∧ b1 ≤ 1000000 ∧ b2 ≤ 1000000 ∧ 0 ≤ t ∧ t ≤ b ∧ 0 ≤ t1 ∧ t1 * b ≤ t * b1 ∧ 0 ≤ t2 ∧ t2 * b ≤ (b - t) * b2 ∧
    (t1 * b2 < t2 * b1 → BidTo H Q a sc n ns "far" near (far ||| 2 ^ h2) (sum2 1 t b t2 b2) (k + 1)) ∧ (t2 * b1 ≤ t1 * b2 → BidTo H Q a sc n ns "near" (near ||| 2 ^ h1) far (sum2 (-1) t b t1 b1) (k + 1)))
theorem Low.rest {t b : Int} (h : Low t b) : Low (b - t) b := by
  refine ⟨h.pos, ?_⟩
  have e : Nat.gcd (b - t).natAbs b.natAbs = Nat.gcd t.natAbs b.natAbs := by
    have h1 : Int.gcd (b - t) b = Int.gcd t b := by
      rw [Int.gcd_comm (b - t), Int.gcd_comm t]
      exact Int.gcd_self_sub_right ..
    exact h1
  rw [e]
  exact h.cop
theorem one_minus {t b : Int} (h : Low t b) : sum2 1 (-t) b 1 1 = (b - t, b) := by
  unfold sum2
  have e : -t * 1 + 1 * 1 * b = b - t := by omega
  rw [e, Int.mul_one, h.rest.ex.1, h.rest.ex.2]
def N_Auction_bidding : List Str := ["self", "near_hand", "near_bid", "far_hand", "far_bid", "near", "far", "purse", "hands", "near_paid", "far_paid"]
theorem sc_Auction_bidding : FnScope N_Auction_bidding ["self", "near_hand", "near_bid", "far_hand", "far_bid"] (defScope st_Auction_bidding) := ⟨rfl, rfl, rfl, by decide +kernel, rfl, by decide +kernel, by decide +kernel⟩
theorem F_Auction_bidding (T : Txt K mg) : ∃ fd ps, FnOk P w K mg base (L2.CX P w) 7 713 fd ps spBid ∧ Binds K fd ps [] := by
  obtain ⟨fd, F⟩ := T.d_Auction_bidding
  refine ⟨fd, ["self", "near_hand", "near_bid", "far_hand", "far_bid"], F.ok sc_Auction_bidding (fun vs H Q E h => by obtain ⟨a, sc, n, ns, near, far, t, b, k, h1, h2, v1, v2, rfl, ha, S, k9, hw⟩ := h; rfl) (fun cdv A outer s H vs Q E hr h => ?_), F.bindsN (fun kV doc pm an cdv ct us h => match us, h with | [_, _, _, _, _], _ => rfl)⟩
  obtain ⟨a, sc, n, ns, near, far, t, b, k, h1, h2, v1, v2, rfl, ha, S, k9, hw⟩ := h
  obtain ⟨fdR, psR, FRs, bRs⟩ := F_Ratio___rsub__ (P := P) (w := w) (mg := mg) (base := base) T
  obtain ⟨fdA, psA, FAd, bAd⟩ := F_Ratio___add__ (P := P) (w := w) (mg := mg) (base := base) T
  obtain ⟨fdS, psS, FSb, bSb⟩ := F_Ratio___sub__ (P := P) (w := w) (mg := mg) (base := base) T
  refine ⟨_, (pss_cons (ps_asg (pe_fld (pv 0) rfl) (pg_tup rfl (pgs_cons (pg_name (i := 5) sc_Auction_bidding.nd rfl (Or.inl rfl)) (pgs_cons (pg_name (i := 6) sc_Auction_bidding.nd rfl (Or.inl rfl)) (pgs_cons (pg_name (i := 7) sc_Auction_bidding.nd rfl (Or.inl rfl)) pgs_nil)))))
      (pss_cons (ps_set (i := 8) sc_Auction_bidding.nd rfl (Or.inl rfl) (pe_fld (pe_fld (pv 0) rfl) rfl))
      (pss_cons (ps_if (pt_cmpR op_eq (pe_callB call_len_seq (by rfl) T.n_len (by decide +kernel) (pa_cons (pe_cal (C_free_hands T) (hr.mono (by decide)) (pa_cons (pv 8) (pa_cons (pv 5) (pa_cons (pv 6) pa_nil)))) pa_nil)) pe_int (nomark _)) (pss_one (ps_raise rfl (takes_of rfl rfl rfl rfl) (pmk_own PySem.F.excBase_ValueError T.exE.1 T.m_Ended T.exE.2 (raises_own T.exB.1 T.exB.2) rfl))) pss_nil)
      (pss_cons (ps_expr (pe_cal (C_check_free_hand T) (hr.mono (by decide)) (pa_cons (pv 8) (pa_cons (pv 5) (pa_cons (pv 6) (pa_cons (pv 1) pa_nil))))))
      (pss_cons (ps_set (i := 9) sc_Auction_bidding.nd rfl (Or.inl rfl) (pe_cal (C_taken T) (hr.mono (by decide)) (pa_cons (pv 2) (pa_cons pe_int (pa_cons (pv 7) pa_nil)))))
      (pss_cons (ps_expr (pe_cal (C_check_free_hand T) (hr.mono (by decide)) (pa_cons (pv 8) (pa_cons (pv 5) (pa_cons (pv 6) (pa_cons (pv 3) pa_nil))))))
      (pss_cons (ps_set (i := 10) sc_Auction_bidding.nd rfl (Or.inl rfl) (pe_cal (C_taken T) (hr.mono (by decide)) (pa_cons (pv 4) (pa_cons pe_int (pa_cons (pe_op (op_Iown T.op_sub T.sp_rsub.1 T.sp_rsub.2.1 T.subRI (fnR_of FRs bRs) (hr.mono (by decide))) pe_int (pv 7)) pa_nil)))))
      (pss_cons (ps_if (pt_val (pe_mcal (C_below T) (pv 9) (hr.mono (by decide)) (pa_cons (pv 10) pa_nil))) (pss_cons (ps_expr (pe_mcal (M__deed T) (pv 0) (hr.mono (by decide)) (pa_cons (pe_tup (pa_cons (pv 5) (pa_cons (pe_cal (C_with_hand T) (hr.mono (by decide)) (pa_cons (pv 6) (pa_cons (pv 3) pa_nil))) (pa_cons (pe_op (op_own2 T.op_add (fnR_of FAd bAd) (hr.mono (by decide))) (pv 7) (pv 10)) pa_nil)))) pa_nil)))
      (pss_one (ps_ret (pe_gstr T.m_FAR)))) pss_nil)
      (pss_cons (ps_expr (pe_mcal (M__deed T) (pv 0) (hr.mono (by decide)) (pa_cons (pe_tup (pa_cons (pe_cal (C_with_hand T) (hr.mono (by decide)) (pa_cons (pv 5) (pa_cons (pv 1) pa_nil))) (pa_cons (pv 6) (pa_cons (pe_op (op_own2 T.op_sub (fnR_of FSb bSb) (hr.mono (by decide))) (pv 7) (pv 9)) pa_nil)))) pa_nil)))
      (pss_one (ps_ret (pe_gstr T.m_NEAR)))))))))))), ?_⟩
  have ha0 := ha
  obtain ⟨⟨sdx, sl, sfs, g1, g2, g3, g4, g5, g6, g7⟩, dx, st, pa, fu, pv0, xs, hA1, hA2, hA3, hA4, hA5⟩ := ha
  refine ⟨_, rfl, _, _, _, _, _, rfl, hA1, T.clA, T.A__state, rfl, st, _, rfl, sqT hA2, rfl, _, _, rfl, _, _, rfl, _, _, rfl, rfl, ?_⟩
  refine ⟨_, rfl, _, _, _, _, _, rfl, hA1, T.clA, T.A__scale, rfl, _, _, _, _, _, rfl, g1, T.clS, T.S_hands, g2, ?_⟩
  refine ⟨_, rfl, _, rfl, _, rfl, n, near, far, rfl, S.n6, S.facts.1.sum, fun H1 p1 e1 hp1 hl1 => ⟨_, _, rfl, .inr (sqT hl1), rfl, _, rfl, ?_⟩⟩
  rcases hw with ⟨hf, hE⟩ | ⟨t1, b1, t2, b2, m1, m2, f1, f2, lo1, lo2, lo, st0, sb, st1, st2, b61, b62, t0, tb, t10, t1b, t20, t2b, kF, kN⟩
  · rw [hf]
    exact yes rfl (hE _ e1)
  · have hc : decide (V.int (((fOf n near far).map vN).length : Nat) = V.int 0) = false := by
      refine decide_eq_false fun z => ?_
      have z := V.int.inj z
      rw [List.length_map] at z
      have := List.length_pos_of_mem m1
      omega
    refine no hc ?_
    have F1 := S.facts.2 h1 m1
    have F2 := S.facts.2 h2 m2
    have s1 : Sm b1 := by have := lo1.pos; unfold Sm; omega
    have s2 : Sm b2 := by have := lo2.pos; unfold Sm; omega
    refine ⟨_, rfl, _, rfl, _, rfl, _, rfl, n, near, far, h1, rfl, F1.lt, F1.sb, _, rfl, _, rfl, v1, .int 0, pv0, t1, b1, 0, 1, t, b, rfl, f1.same e1, .inl ⟨rfl, rfl⟩, .inr (hA3.same e1), st1, s1, by unfold Sm; omega, by unfold Sm; omega, st0, sb, lo1, b61, by omega, t1b, fun r1 H2 e2 hr1 => ?_⟩
    have e12 := Same.trans e1 e2
    refine ⟨_, rfl, _, rfl, _, rfl, _, rfl, n, near, far, h2, rfl, F2.lt, F2.sb, _, rfl, ?_⟩
    have hp2 := hA3.same e12
    obtain ⟨pa1, pdx, pfs, rfl, q1, q2, q3, q4⟩ := hp2
    refine ⟨_, rfl, pa1, pdx, pfs, 1, rfl, rfl, q1, _, 1, t, b, rfl, ⟨pa1, pdx, pfs, rfl, q1, q2, q3, q4⟩, lo, st0, sb, by unfold Sm; omega, fun r3 H3 e3 hr3 => ?_⟩
    rw [one_minus lo] at hr3
    have e13 := Same.trans e12 e3
    refine ⟨v2, .int 0, r3, t2, b2, 0, 1, b - t, b, rfl, f2.same e13, .inl ⟨rfl, rfl⟩, .inr hr3, st2, s2, by unfold Sm; omega, by unfold Sm; omega, by unfold Sm at *; omega, sb, lo2, b62, by omega, t2b, fun r4 H4 e4 hr4 => ?_⟩
    have e24 := Same.trans e3 e4
    have e14 := Same.trans e12 e24
    have hr1' := hr1.same e24
    obtain ⟨ra, rdx, rfs, rfl, w1, w2, w3, w4⟩ := hr1'
    refine ⟨_, rfl, ra, rdx, rfs, rfl, w1, w4, _, rfl, _, _, t1, b1, t2, b2, rfl, .inr ⟨ra, rdx, rfs, rfl, w1, w2, w3, w4⟩, .inr hr4, st1, s1, st2, s2, fun H5 e5 => ⟨_, rfl, both (fun hc => ?_) fun hc => ?_⟩⟩
    · have e15 := Same.trans e14 e5
      have e25 := Same.trans e24 e5
      obtain ⟨ra4, rdx4, rfs4, rfl, x1, x2, x3, x4⟩ := hr4.same e5
      refine ⟨_, rfl, a, dx, _, rfl, e15 _ _ hA1, rfl, _, rfl, _, rfl, _, rfl, far, h2, rfl, by have := F2.lt; have := S.n6; omega, _, rfl, _, rfl, pa1, pdx, pfs, ra4, rdx4, rfs4, rfl, rfl, e25 _ _ q1, x1, _, _, t, b, t2, b2, rfl, ⟨pa1, pdx, pfs, rfl, e25 _ _ q1, q2, q3, q4⟩, .inr ⟨ra4, rdx4, rfs4, rfl, x1, x2, x3, x4⟩, st0, sb, st2, s2, lo.pos, lo2.pos, fun r6 H6 e6 hr6 => ?_⟩
      have e16 := Same.trans e15 e6
      refine ⟨by show 3 ≤ sizeLine; decide, fun t7 ht7 => ?_⟩
      have e17 := Same.up (o := .tup [vN near, vN (far ||| 2 ^ h2), r6]) e16 ht7
      refine ⟨a, dx, st, pa, fu, sc, t7, xs, rfl, e17 _ _ hA1, e17 _ _ hA4, by omega, fun H8 pa8 fu8 k8 hh8 hh9 => kF (of_decide_eq_true hc) H8 (fun y o hy e => k8 y o hy (e17 _ _ e)) ?_⟩
      have hA8 := e17 _ _ hA1
      refine ⟨(ha0.1.same e17).keep hA8 k8, dx, t7, pa8, fu8, r6, xs ++ [.ref st], hh8, k8 _ _ (fun z => by rw [z, e16 _ _ hA1] at ht7; cases ht7) upd_same, (hr6.same (Same.new ht7)).keep hA8 k8, hh9, by rw [List.length_append, hA5]; rfl⟩
    · have e15 := Same.trans e14 e5
      have e25 := Same.trans e24 e5
      have w1' := e5 _ _ w1
      refine ⟨_, rfl, a, dx, _, rfl, e15 _ _ hA1, rfl, _, rfl, _, rfl, near, h1, rfl, by have := F1.lt; have := S.n6; omega, _, rfl, _, rfl, _, rfl, pa1, pdx, pfs, ra, rdx, rfs, rfl, rfl, e25 _ _ q1, w1', _, _, t, b, t1, b1, rfl, ⟨pa1, pdx, pfs, rfl, e25 _ _ q1, q2, q3, q4⟩, .inr ⟨ra, rdx, rfs, rfl, w1', w2, w3, w4⟩, st0, sb, st1, s1, lo.pos, lo1.pos, fun r6 H6 e6 hr6 => ?_⟩
      have e16 := Same.trans e15 e6
      refine ⟨by show 3 ≤ sizeLine; decide, fun t7 ht7 => ?_⟩
      have e17 := Same.up (o := .tup [vN (near ||| 2 ^ h1), vN far, r6]) e16 ht7
      refine ⟨a, dx, st, pa, fu, sc, t7, xs, rfl, e17 _ _ hA1, e17 _ _ hA4, by omega, fun H8 pa8 fu8 k8 hh8 hh9 => kN (by have := of_decide_eq_false hc; omega) H8 (fun y o hy e => k8 y o hy (e17 _ _ e)) ?_⟩
      have hA8 := e17 _ _ hA1
      refine ⟨(ha0.1.same e17).keep hA8 k8, dx, t7, pa8, fu8, r6, xs ++ [.ref st], hh8, k8 _ _ (fun z => by rw [z, e16 _ _ hA1] at ht7; cases ht7) upd_same, (hr6.same (Same.new ht7)).keep hA8 k8, hh9, by rw [List.length_append, hA5]; rfl⟩
theorem M_bidding (T : Txt K mg) : MCal P w K mg base (L2.CX P w) 7 cA "bidding" spBid := by
  obtain ⟨fd, ps, F, b⟩ := F_Auction_bidding (P := P) (w := w) (mg := mg) (base := base) T
  exact ⟨_, fd, ps, F, T.clA, T.mt_bidding, b⟩
theorem passX0 {X : Cx} : Passes (L2.CX X.prog X.w) X E0 := fun _ _ _ _ _ _ _ ⟨_, _, _, _, _, _, _, _, _, _, _, _, z⟩ => z.elim
end
end Wf

namespace Wf
open PySem PySem.Spec PyProof.Rows L2
/-- what is asked of the program itself: its file's name, no global super -/
structure PF (P : Program) : Prop where
  file : (P.main.file : Str) = ("/claim/cut.py" : Str)
  sup : (P.main.scope.names.lookup ("super" : Str)).isSome = false
section
variable {P : Program} {w : World} {K : PySem.W.Frag} {mg : Str → Option Value} {base : Heap}
def spAInit : Sp := fun vs H Q _ => ∃ (x dx sc : Addr) (n : Nat) (ns : List Int) (v : V) (t b : Int), vs = [.ref x, .ref sc, v] ∧ H x = some (.ins cA dx []) ∧ Sc H sc n ns ∧ Frac H v t b ∧ Low t b ∧ Sm t ∧ b ≤ 1000000 ∧ 0 ≤ t ∧ t ≤ b ∧
  ∀ H', (∀ y o, y ≠ x → H y = some o → H' y = some o) → Auc H' x sc n ns 0 0 t b 0 → Q .non H'
def N_AI : List Str := ["self", "scale", "share", "purse"]
theorem sc_AI : SupScope N_AI ["self", "scale", "share"] (defScope st_Auction___init__) := ⟨rfl, rfl, rfl, by decide +kernel, rfl, by decide +kernel, by decide +kernel, by decide +kernel⟩
theorem supT (hP : PF P) (T : Txt K mg) {cdv : Value} (hc : codeOf K 666 665 = true) (lk : ∃ oc od fd osl, K.lookup 666 = some ⟨oc, od, .func fd, osl⟩ ∧ fd.code = cdv) : SupTxt P K mg (defScope st_Auction___init__) (defArgs st_Auction___init__) cdv 654 cA 572 "__init__" := by
  have a1 := He.ba (show (fileIs K 665 && codeOf K 666 665) = true from T.more 103 rfl)
  have a2 : cellIs K 654 cA = true := T.more 104 rfl
  obtain ⟨b1, b2⟩ := He.ba (T.more 105 rfl)
  obtain ⟨c1, c2⟩ := He.ba (T.more 106 rfl)
  have d1 := T.more 107 rfl
  refine ⟨?_, ?_, Option.isSome_iff_exists.mp b1, of_decide_eq_true b2, T.n_super, ⟨_, rfl, rfl⟩, rfl, rfl, rfl, hP.sup, of_decide_eq_true c1, of_decide_eq_true c2, of_decide_eq_true d1, (T.isf (T.fq 85)).2.2, rfl⟩
  · have f1 := a1.1
    obtain ⟨oc, od, fd, osl, l, rfl⟩ := lk
    unfold codeOf at hc
    rw [l] at hc
    have hc := of_decide_eq_true hc
    unfold fileIs at f1
    split at f1
    · rename_i vs osl q
      split at f1
      · rename_i file tf q2
        have f1 := of_decide_eq_true f1
        refine ⟨665, _, vs, file, tf, hc, q, rfl, ?_, ?_⟩
        · rw [← q2, Array.getElem?_toList]
        · rw [hP.file, f1]; exact beq_self_eq_true _
      · cases f1
    · cases f1
  · unfold cellIs at a2
    split at a2
    · rename_i v osl q
      exact ⟨_, q, by rw [of_decide_eq_true a2]⟩
    · cases a2
theorem fnR_up {CX : CXT} {j k : Nat} {f : Addr} {sp : Sp} (F : FnR P w K mg base CX j f sp) (h : j ≤ k) : FnR P w K mg base CX k f sp := fun A o s H us vs Q E hr e0 r q => F A o s H us vs Q E (hr.mono h) e0 r q
theorem F_AInit (hP : PF P) (T : Txt K mg) : ∃ fd, FnOk P w K mg base CX0 6 666 fd ["self", "scale", "share"] spAInit ∧ L2.Binds K fd ["self", "scale", "share"] [] := by
  obtain ⟨e, c⟩ := T.dat 57 rfl
  obtain ⟨oc, od, dV, kV, doc, pm, an, cdv, ct, osl, lk, hcd, hD, hK, kp⟩ := Df.look e c
  obtain ⟨fdU, psU, FU, bU⟩ := F_Undoable___init__ (P := P) (w := w) (mg := mg) (base := base) T
  have a1 := He.ba (show (fileIs K 665 && codeOf K 666 665) = true from T.more 103 rfl)
  have ST := supT hP T (cdv := cdv) a1.2 ⟨_, _, _, _, lk, rfl⟩
  rcases hD with ⟨_, rfl⟩ | ⟨z, _⟩
  case inr => exact absurd rfl z
  refine ⟨_, fn_super (k := 5) lk hcd ST sc_AI rfl (fun vs H Q E h => ?_) (fnR_up (fnR_of FU bU) (by decide)) (by intro _ _; rfl) _ (by intro _ _; rfl) (by intro _ _; rfl) (fun A outer s H vs Q E hr h => ?_), .all fun us h => ?_⟩
  · obtain ⟨x, dx, sc, n, ns, v, t, b, rfl, _⟩ := h; rfl
  · obtain ⟨x, dx, sc, n, ns, v, t, b, rfl, hx, hs, hv, lo, st, b6, t0, tb, q⟩ := h
    have hb := lo.pos
    have sb : Sm b := by unfold Sm; omega
    refine ⟨_, _, _, _, ps_expr (pe_cal (C_check_hands T) (hr.mono (by decide)) (pa_cons (pe_fld (pv 1) rfl) (pa_cons (pe_gint T.m_MOST_HIRED) pa_nil))), ps_set (i := 3) sc_AI.nd rfl (Or.inl rfl) (pe_cal (C_taken T) (hr.mono (by decide)) (pa_cons (pv 2) (pa_cons pe_int (pa_cons pe_int pa_nil)))),
      pa_cons (pe_tup (pa_cons pe_int (pa_cons pe_int (pa_cons (pv 3) pa_nil)))) pa_nil, ps_fld (pv 0) (pv 1) rfl, ?_⟩
    have hs0 := hs
    obtain ⟨sdx, sl, sfs, g1, g2, g3, g4, g5, g6, g7⟩ := hs
    refine ⟨_, rfl, _, _, _, _, _, rfl, g1, T.clS, T.S_hands, g2, n, 6, rfl, by omega, by omega, ?_⟩
    refine ⟨_, rfl, v, .int 0, .int 1, t, b, 0, 1, 1, 1, rfl, hv, .inl ⟨rfl, rfl⟩, .inl ⟨rfl, rfl⟩, st, sb, by unfold Sm; omega, by unfold Sm; omega, by unfold Sm; omega, by unfold Sm; omega, lo, b6, by omega, by omega, fun r H2 e2 hr2 => ?_⟩
    refine ⟨x, dx, _, rfl, e2 _ _ hx, _, rfl, by show 3 ≤ sizeLine; decide, fun t3 ht3 => ?_⟩
    have e3 := Same.up (o := .tup [.int 0, .int 0, r]) e2 ht3
    refine ⟨x, dx, t3, rfl, e3 _ _ hx, fun H4 pa fu k4 hx4 hp4 => ?_⟩
    refine ⟨_, rfl, _, rfl, x, _, dx, _, rfl, hx4, T.clA, T.A__scale, by show 3 < 1000; decide, q _ (fun y o hy e => ?_) ?_⟩
    · rw [upd_ne hy]; exact k4 y o hy (e3 _ _ e)
    · have hx2 := e3 _ _ hx
      have kk : ∀ y o, y ≠ x → (upd H2 t3 (.tup [.int 0, .int 0, r])) y = some o → (upd H4 x (HO.ins cA dx (putF "_scale" (.ref sc) [(("_state" : Str), V.ref t3), (("_past" : Str), V.ref pa), (("_future" : Str), V.ref fu)]))) y = some o := fun y o hy e => by rw [upd_ne hy]; exact k4 y o hy e
      refine ⟨?_, dx, t3, pa, fu, r, [], upd_same, kk _ _ (fun z => by rw [z, e2 _ _ hx] at ht3; cases ht3) upd_same, ?_, ?_, rfl⟩
      · obtain ⟨dx', l, fs, h1, h2, h3, h4, h5⟩ := hs0.same e3
        exact ⟨dx', l, fs, kk _ _ (ne_of h1 hx2 fun z => absurd (HO.ins.inj z).1 (by decide)) h1, h2, h3, kk _ _ (ne_of h4 hx2 fun z => nomatch z) h4, h5⟩
      · obtain ⟨ra, rdx, rfs, w1, w2, w3⟩ := hr2.same (Same.new ht3)
        exact ⟨ra, rdx, rfs, w1, kk _ _ (ne_of w2 hx2 fun z => absurd (HO.ins.inj z).1 (by decide)) w2, w3⟩
      · rw [upd_ne (ne_of hp4 hx4 fun z => nomatch z)]; exact hp4
  · match us, h with
    | [_, _, _], _ => rfl
end
end Wf

namespace Wf
open PySem PySem.Spec PyProof.Rows L2
/-! ### the drawn digits -/
def Keep (q : Addr) (H H' : Hp) : Prop := ∀ y o, y ≠ q → H y = some o → H' y = some o
theorem Same.keep {H H' : Hp} (e : Same H H') (q : Addr) : Keep q H H' := fun y o _ h => e y o h
theorem Keep.trans {q : Addr} {H H1 H2 : Hp} (a : Keep q H H1) (b : Keep q H1 H2) : Keep q H H2 := fun y o hy h => b y o hy (a y o hy h)
theorem Keep.refl {q : Addr} (H : Hp) : Keep q H H := fun _ _ _ h => h
theorem Keep.up {q : Addr} {o : HO} {H H1 : Hp} (a : Keep q H H1) : Keep q H (upd H1 q o) := fun y u hy h => by rw [upd_ne hy]; exact a y u hy h
def Dg (H : Hp) (c q : Addr) : Prop := ∃ (cs : List Int) (i : Nat) (r : Int), H c = some (.lst (cs.map V.int)) ∧ c ≠ q ∧ H q = some (.lst [vN i, .int r]) ∧ cs.length ≤ 1000
theorem Dg.same {H H' : Hp} {c q : Addr} (e : Same H H') (h : Dg H c q) : Dg H' c q := by
  obtain ⟨cs, i, r, h1, h2, h3, h4⟩ := h
  exact ⟨cs, i, r, e _ _ h1, h2, e _ _ h3, h4⟩
section
variable {P : Program} {w : World} {K : PySem.W.Frag} {mg : Str → Option Value} {base : Heap}
def spDigit : Sp := fun vs H Q _ => ∃ (c q : Addr) (m : Nat), vs = [.ref c, .ref q, vN m] ∧ Dg H c q ∧ 0 < m ∧ m < 2 ^ 200 ∧ ∀ d H', d < m → Keep q H H' → Dg H' c q → Q (vN d) H'
def N__law_digit : List Str := ["_law_cells", "_law_box", "_law_m", "_law_cell", "_law_digit_here"]
theorem sc__law_digit : FnScope N__law_digit ["_law_cells", "_law_box", "_law_m"] (defScope st__law_digit) := ⟨rfl, rfl, rfl, by decide +kernel, rfl, by decide +kernel, by decide +kernel⟩
theorem C__law_digit (T : Txt K mg) : Cal P w K mg base CX0 1 "_law_digit" spDigit := by
  refine cal_of T.d__law_digit T.g__law_digit sc__law_digit (fun kV doc pm an cdv ct us h => ?_) (fun vs H Q E h => ?_) fun cdv A outer s H vs Q E hr h => ?_
  · match us, h with
    | [_, _, _], _ => rfl
  · obtain ⟨c, q, m, rfl, hd, m0, mb, k⟩ := h; rfl
  obtain ⟨c, q, m, rfl, hd, m0, mb, k⟩ := h
  refine ⟨_, (pss_cons (ps_if (PW.pt (pw_and (pt_cmpR op_eq (pe_ix ix_list (pv 1) pe_int (fun _ _ => rfl)) pe_int (nomark _)) (pw_and1 (pt_cmpR op_lt (pe_ix ix_list (pv 1) pe_int (fun _ _ => rfl)) (pe_callB call_len_seq (by rfl) T.n_len (by decide +kernel) (pa_cons (pv 0) pa_nil)) (nomark _))))) (pss_cons (ps_set (i := 3) sc__law_digit.nd rfl (Or.inl rfl) (pe_ix ix_list (pv 0) (pe_ix ix_list (pv 1) pe_int (fun _ _ => rfl)) (fun _ _ => rfl)))
      (pss_cons (ps_asg (pe_op op_addN (pe_ix ix_list (pv 1) pe_int (fun _ _ => rfl)) pe_int) (pg_sub (pv 1) pe_int set_list))
      (pss_cons (ps_asg (pe_op op_mul pe_int (pv 3)) (pg_sub (pv 1) pe_int set_list))
      (pss_one (ps_if (pt_cmpR op_lt (pv 3) pe_int (nomark _)) (pss_one (ps_asg (pe_op op_sub (pe_op op_mul (pe_un un_neg pe_int) (pv 3)) pe_int) (pg_sub (pv 1) pe_int set_list))) pss_nil))))) pss_nil)
      (pss_cons (ps_set (i := 4) sc__law_digit.nd rfl (Or.inl rfl) (pe_op op_mod (pe_callTy call_int1 (by rfl) T.n_int (by decide +kernel) (pa_cons (pe_ix ix_list (pv 1) pe_int (fun _ _ => rfl)) pa_nil)) (pv 2)))
      (pss_cons (ps_asg (pe_op op_fdivW (pe_callTy call_int1 (by rfl) T.n_int (by decide +kernel) (pa_cons (pe_ix ix_list (pv 1) pe_int (fun _ _ => rfl)) pa_nil)) (pv 2)) (pg_sub (pv 1) pe_int set_list))
      (pss_one (ps_ret (pv 4)))))), ?_⟩
  obtain ⟨cs, i, r, hc, hne, hq, hl⟩ := hd
  have hm : (0 : Int) < (m : Int) := by omega
  have fin : ∀ (H1 : Hp) (i' : Nat) (r' : Int), Keep q H H1 → H1 q = some (.lst [vN i', .int r']) → Q (.int (r' % (m : Int))) (upd H1 q (.lst [vN i', .int (r' / (m : Int))])) := fun H1 i' r' kp hq1 => by
    have h1 := Int.emod_nonneg r' (b := (m : Int)) (by omega)
    have h2 := Int.emod_lt_of_pos r' hm
    obtain ⟨d, ed⟩ : ∃ d : Nat, r' % (m : Int) = (d : Int) := ⟨_, (Int.toNat_of_nonneg h1).symm⟩
    rw [ed]
    refine k _ _ (by omega) (fun y o hy e => by rw [upd_ne hy]; exact kp y o hy e) ⟨cs, i', _, ?_, hne, upd_same, hl⟩
    rw [upd_ne hne]; exact kp _ _ hne hc
  refine ⟨_, rfl, q, _, _, _, rfl, rfl, sqL hq, rfl, rfl, _, rfl, both (fun h0 => ⟨_, rfl, q, _, _, _, rfl, rfl, sqL hq, rfl, _, rfl, _, _, rfl, .inl (sqL hc), _, _, rfl, rfl, _, rfl, both (fun h1 => ?_) fun _ => ?_⟩) fun _ => no rfl ?_⟩
  · have hi := of_decide_eq_true h1
    rw [List.length_map] at hi
    have hi : i < cs.length := by omega
    refine ⟨_, rfl, _, rfl, q, _, _, _, rfl, rfl, sqL hq, rfl, c, _, _, _, rfl, rfl, sqL hc, atI_nat (num_at hi), ?_⟩
    refine ⟨_, rfl, q, _, _, _, rfl, rfl, sqL hq, rfl, i, 1, rfl, rfl, _, rfl, q, _, 0, 0, rfl, rfl, hq, rfl, ?_⟩
    refine ⟨_, rfl, _, _, rfl, rfl, .inl ⟨by decide, by decide⟩, _, rfl, q, _, 1, 1, rfl, rfl, upd_same, rfl, ?_⟩
    refine ⟨_, rfl, _, _, rfl, rfl, _, rfl, both (fun h2 => ?_) fun _ => ?_⟩
    · refine ⟨_, rfl, _, rfl, _, _, rfl, rfl, .inl ⟨by decide, by decide⟩, _, _, rfl, rfl, _, rfl, q, _, 1, 1, rfl, rfl, upd_same, rfl, ?_⟩
      refine ⟨_, rfl, q, _, _, _, rfl, rfl, sqL upd_same, rfl, .inl ⟨_, rfl, _, rfl, _, _, rfl, rfl, hm, _, rfl, q, _, _, _, rfl, rfl, sqL upd_same, rfl, .inl ⟨_, rfl, _, rfl, _, _, rfl, rfl, wide_div hm (b := 200) (by omega) (by decide) (by decide), _, rfl, q, _, 1, 1, rfl, rfl, upd_same, rfl, _, rfl, ?_⟩⟩⟩
      exact fin _ _ _ (Keep.up (Keep.up (Keep.up (Keep.refl H)))) upd_same
    · refine ⟨_, rfl, q, _, _, _, rfl, rfl, sqL upd_same, rfl, .inl ⟨_, rfl, _, rfl, _, _, rfl, rfl, hm, _, rfl, q, _, _, _, rfl, rfl, sqL upd_same, rfl, .inl ⟨_, rfl, _, rfl, _, _, rfl, rfl, wide_div hm (b := 200) (by omega) (by decide) (by decide), _, rfl, q, _, 1, 1, rfl, rfl, upd_same, rfl, _, rfl, ?_⟩⟩⟩
      exact fin _ _ _ (Keep.up (Keep.up (Keep.refl H))) upd_same
  · refine ⟨_, rfl, q, _, _, _, rfl, rfl, sqL hq, rfl, .inl ⟨_, rfl, _, rfl, _, _, rfl, rfl, hm, _, rfl, q, _, _, _, rfl, rfl, sqL hq, rfl, .inl ⟨_, rfl, _, rfl, _, _, rfl, rfl, wide_div hm (b := 200) (by omega) (by decide) (by decide), _, rfl, q, _, 1, 1, rfl, rfl, hq, rfl, _, rfl, ?_⟩⟩⟩
    exact fin _ _ _ (Keep.refl H) hq
  · refine ⟨_, rfl, q, _, _, _, rfl, rfl, sqL hq, rfl, .inl ⟨_, rfl, _, rfl, _, _, rfl, rfl, hm, _, rfl, q, _, _, _, rfl, rfl, sqL hq, rfl, .inl ⟨_, rfl, _, rfl, _, _, rfl, rfl, wide_div hm (b := 200) (by omega) (by decide) (by decide), _, rfl, q, _, 1, 1, rfl, rfl, hq, rfl, _, rfl, ?_⟩⟩⟩
    exact fin _ _ _ (Keep.refl H) hq
end
end Wf

namespace Wf
open PySem PySem.Spec PyProof.Rows L2
theorem ixN_of {n j : Nat} {k : Int} (h : k = (j : Int)) (hj : j < n) : ixN n k = some j := by
  subst h
  unfold ixN
  rw [if_pos (by omega), if_pos (by omega), Int.toNat_natCast]
theorem Keep.new {q l : Addr} {o : HO} {H H1 : Hp} (a : Keep q H H1) (h : H1 l = none) : Keep q H (upd H1 l o) := fun y u hy z => by rw [upd_ne (ne_of_none (a y u hy z) h)]; exact a y u hy z
theorem wkR0 {m : Nat} : Walk (Itr 0 m) m (fun _ => True) (YFn fun i => vN i) := walk_range.mono (fun _ h => h) fun i H x H' _ _ y => ⟨y.1, y.2.trans (by show V.int (0 + (i : Int)) = V.int i; rw [Int.zero_add])⟩
theorem set_ints (ns : List Int) (j : Nat) (v : Int) : (ns.map V.int).set j (.int v) = (ns.set j v).map V.int := (List.map_set).symm
section
variable {P : Program} {w : World} {K : PySem.W.Frag} {mg : Str → Option Value} {base : Heap}
def spPush : Sp := fun vs H Q _ => ∃ (p : Addr) (n m : Nat) (v : Int) (ns : List Int) (B C : Int), vs = [.ref p, vN m, .int v] ∧ H p = some (.lst (ns.map V.int)) ∧ Good n ns B ∧ n ≤ 6 ∧ 0 < m ∧ m < 2 ^ n ∧ B ≤ C ∧ -C ≤ v ∧ v ≤ C ∧
  ∀ ns' H', Keep p H H' → H' p = some (.lst (ns'.map V.int)) → Good n ns' C → Q .non H'
theorem gP_no0 {ns : List Int} {n m : Nat} {v : Int} (S : Nat) : gP ns n m v 0 S = num ns S := by
  unfold gP
  rw [if_neg (c := S &&& m = m ∧ _) (fun z => by have := z.2; omega), if_neg (c := S &&& m = 0 ∧ _) (fun z => by have := z.2; omega)]
def N__law_push : List Str := ["_law_numbers", "_law_mask", "_law_number", "_law_full", "_law_code"]
theorem sc__law_push : FnScope N__law_push ["_law_numbers", "_law_mask", "_law_number"] (defScope st__law_push) := ⟨rfl, rfl, rfl, by decide +kernel, rfl, by decide +kernel, by decide +kernel⟩
theorem C__law_push (T : Txt K mg) : Cal P w K mg base CX0 1 "_law_push" spPush := by
  refine cal_of T.d__law_push T.g__law_push sc__law_push (fun kV doc pm an cdv ct us h => ?_) (fun vs H Q E h => ?_) fun cdv A outer s H vs Q E hr h => ?_
  · match us, h with
    | [_, _, _], _ => rfl
  · obtain ⟨p, n, m, v, ns, B, C, rfl, hp, G, hn, m0, hm, hBC, v1, v2, q⟩ := h; rfl
  obtain ⟨p, n, m, v, ns, B, C, rfl, hp, G, hn, m0, hm, hBC, v1, v2, q⟩ := h
  refine ⟨_, (pss_cons (ps_set (i := 3) sc__law_push.nd rfl (Or.inl rfl) (pe_op op_sub (pe_callB call_len_seq (by rfl) T.n_len (by decide +kernel) (pa_cons (pv 0) pa_nil)) pe_int))
      (pss_one (ps_for PassesOwn.never rfl (pi_range1 rfl T.n_range (pa_cons (pe_op op_add (pv 3) pe_int) pa_nil)) (pg_name (i := 4) sc__law_push.nd rfl (Or.inl rfl)) (pss_one (ps_if (PW.pt (pw_and (pt_cmpR op_eq (pe_op op_andN (pv 4) (pv 1)) (pv 1) (nomark _)) (pw_and1 (pt_cmpR op_lt (pe_ix ix_list (pv 0) (pv 4) (fun _ _ => rfl)) (pv 2) (nomark _))))) (pss_cons (ps_asg (pv 2) (pg_sub (pv 0) (pv 4) set_list))
      (pss_one (ps_asg (pe_un un_neg (pv 2)) (pg_sub (pv 0) (pe_op op_sub (pv 3) (pv 4)) set_list)))) pss_nil))))), ?_⟩
  have gl := G.len
  have h64 := p6 hn
  refine ⟨_, rfl, _, _, rfl, .inl (sqL hp), _, _, rfl, rfl, ?_⟩
  have hfull : (((ns.map V.int).length : Nat) : Int) - 1 = ((2 ^ n - 1 : Nat) : Int) := by rw [List.length_map, gl]; omega
  refine ⟨_, rfl, _, _, rfl, rfl, _, rfl, by rw [hfull]; omega, by rw [hfull]; omega, ?_⟩
  have hcnt : ((((ns.map V.int).length : Nat) : Int) - 1 + 1).toNat = 2 ^ n := by rw [hfull]; omega
  refine for_it (wkR0 (m := ((((ns.map V.int).length : Nat) : Int) - 1 + 1).toNat)) (fun i σ H' => ∃ arr : List Int, Keep p H H' ∧ H' p = some (.lst (arr.map V.int)) ∧ arr.length = 2 ^ n ∧ (∀ S, S < 2 ^ n → num arr S = gP ns n m v i S) ∧ σ[0]? = some (some (.ref p)) ∧ σ[1]? = some (some (vN m)) ∧ σ[2]? = some (some (.int v)) ∧ σ[3]? = some (some (vN (2 ^ n - 1))) ∧ σ.length = 5)
    ⟨ns, Keep.refl H, hp, gl, fun S hS => ?_, rfl, rfl, rfl, by show some (some (V.int ((((ns.map V.int).length : Nat) : Int) - 1))) = _; rw [hfull], rfl⟩ (fun _ _ _ _ _ => True.intro) (fun i x σ H1 H' hi p' y => ?_) fun σ H' p' => ?_
  · exact (gP_no0 S).symm
  · obtain ⟨arr, kp, ha, al, ag, s0, s1, s2, s3, sl⟩ := p'
    obtain ⟨e, rfl⟩ := y
    subst e
    rw [hcnt] at hi
    obtain ⟨st1, st2⟩ := gP_step G hn m0 hm hi al ag
    have t0 : (σ.set 4 (some (vN i)))[0]? = some (some (.ref p)) := (List.getElem?_set_ne (by decide)).trans s0
    have t1 : (σ.set 4 (some (vN i)))[1]? = some (some (vN m)) := (List.getElem?_set_ne (by decide)).trans s1
    have t2 : (σ.set 4 (some (vN i)))[2]? = some (some (.int v)) := (List.getElem?_set_ne (by decide)).trans s2
    have t3 : (σ.set 4 (some (vN i)))[3]? = some (some (vN (2 ^ n - 1))) := (List.getElem?_set_ne (by decide)).trans s3
    have t4 : (σ.set 4 (some (vN i)))[4]? = some (some (vN i)) := List.getElem?_set_self (by omega)
    have tl : (σ.set 4 (some (vN i))).length = 5 := by rw [List.length_set]; exact sl
    refine ⟨_, t4, _, t1, i, m, rfl, rfl, _, t1, rfl, _, rfl, both (fun h1 => ⟨_, t0, _, t4, p, _, _, _, rfl, rfl, sqL ha, atI_nat (num_at (by omega)), _, t2, _, _, rfl, rfl, _, rfl, both (fun h2 => ?_) fun h2 => ?_⟩) fun h1 => no rfl ?_⟩
    · rw [vN_dec] at h1
      have c1 : i &&& m = m := by simpa using h1
      have c2 := of_decide_eq_true h2
      have hl2 : i < (arr.map V.int).length := by rw [List.length_map]; omega
      refine ⟨_, t2, _, t0, _, t4, p, _, _, i, rfl, rfl, ha, ixN_of rfl hl2, ?_⟩
      refine ⟨_, t2, _, rfl, _, t0, _, t3, _, t4, _, _, rfl, rfl, p, _, _, 2 ^ n - 1 - i, rfl, rfl, upd_same, ixN_of (by omega) (by rw [List.length_set, List.length_map]; omega), ?_⟩
      refine ⟨(arr.set i v).set (2 ^ n - 1 - i) (-v), Keep.up (Keep.up kp), ?_, by rw [List.length_set, List.length_set]; exact al, st2 ⟨c1, c2⟩, t0, t1, t2, t3, tl⟩
      rw [upd_same, set_ints, set_ints]
    · have c2 := of_decide_eq_false h2
      exact ⟨arr, kp, ha, al, st1 (fun z => c2 z.2), t0, t1, t2, t3, tl⟩
    · rw [vN_dec] at h1
      have c1 : ¬ i &&& m = m := by simpa using h1
      exact ⟨arr, kp, ha, al, st1 (fun z => c1 z.1), t0, t1, t2, t3, tl⟩
  · obtain ⟨arr, kp, ha, al, ag, s0, s1, s2, s3, sl⟩ := p'
    rw [hcnt] at ag
    exact q arr _ kp ha (gP_good G hn m0 hm al ag hBC v1 v2)
def spPushed : Sp := fun vs H Q _ => ∃ (c q : Addr) (n : Nat), vs = [.ref c, .ref q, vN n] ∧ Dg H c q ∧ 1 ≤ n ∧ n ≤ 6 ∧ ∀ p ns H', Keep q H H' → H p = none → Dg H' c q → H' p = some (.lst (ns.map V.int)) → Good n ns 63 → Q (.ref p) H'
theorem rep_ints (m : Nat) : (List.replicate m [V.int 0]).flatten = (List.replicate m (0 : Int)).map V.int := by simp [List.map_replicate]
theorem Dg.new {H : Hp} {c q l : Addr} {o : HO} (h : Dg H c q) (hl : H l = none) : Dg (upd H l o) c q := h.same (Same.new hl)
def tabA : List Int := [4, 3, 2, 1, 0, 5, 6, 9]
def tabB : List Int := [2, 4, 5, 6, 0, 3, 1, 2, 4]
def tabC : List Int := [1, 2, 1, 3, 7]
theorem tabA_b : ∀ d < 8, 0 ≤ num tabA d ∧ num tabA d ≤ 9 := by decide
theorem tabC_b : ∀ d < 5, 0 ≤ num tabC d ∧ num tabC d ≤ 7 := by decide
theorem Dg.ne {H : Hp} {c q p : Addr} (h : Dg H c q) (hp : H p = none) : p ≠ q ∧ p ≠ c := by
  obtain ⟨cs, i, r, h1, h2, h3, h4⟩ := h
  exact ⟨(fun z => by rw [← z, hp] at h3; cases h3), (fun z => by rw [← z, hp] at h1; cases h1)⟩
theorem Dg.keep {H H' : Hp} {c q p : Addr} (h : Dg H c q) (k : Keep p H H') (n1 : p ≠ q) (n2 : p ≠ c) : Dg H' c q := by
  obtain ⟨cs, i, r, h1, h2, h3, h4⟩ := h
  exact ⟨cs, i, r, k _ _ (fun z => n2 z.symm) h1, h2, k _ _ (fun z => n1 z.symm) h3, h4⟩
def N__law_pushed : List Str := ["_law_cells", "_law_box", "_law_hands", "_law_full", "_law_numbers", "_law_k", "_law_spot", "_law_mask", "_law_amount"]
theorem sc__law_pushed : FnScope N__law_pushed ["_law_cells", "_law_box", "_law_hands"] (defScope st__law_pushed) := ⟨rfl, rfl, rfl, by decide +kernel, rfl, by decide +kernel, by decide +kernel⟩
theorem C__law_pushed (T : Txt K mg) : Cal P w K mg base CX0 2 "_law_pushed" spPushed := by
  refine cal_of T.d__law_pushed T.g__law_pushed sc__law_pushed (fun kV doc pm an cdv ct us h => ?_) (fun vs H Q E h => ?_) fun cdv A outer s H vs Q E hr h => ?_
  · match us, h with
    | [_, _, _], _ => rfl
  · obtain ⟨c, q, n, rfl, hd, n1, n6, k⟩ := h; rfl
  obtain ⟨c, q, n, rfl, hd, n1, n6, k⟩ := h
  refine ⟨_, (pss_cons (ps_set (i := 3) sc__law_pushed.nd rfl (Or.inl rfl) (pe_op op_sub (pe_op op_shl1 pe_int (pv 2)) pe_int))
      (pss_cons (ps_set (i := 4) sc__law_pushed.nd rfl (Or.inl rfl) (pe_op op_rep (pe_lst (pa_cons pe_int pa_nil)) (pe_op op_add (pv 3) pe_int)))
      (pss_cons (ps_for PassesOwn.never rfl (pi_range1 rfl T.n_range (pa_cons (pe_ix ix_list (pe_lst (pa_cons pe_int (pa_cons pe_int (pa_cons pe_int (pa_cons pe_int (pa_cons pe_int (pa_cons pe_int (pa_cons pe_int (pa_cons pe_int pa_nil))))))))) (pe_cal (C__law_digit T) (hr.mono (by decide)) (pa_cons (pv 0) (pa_cons (pv 1) (pa_cons pe_int pa_nil)))) (fun _ _ => rfl)) pa_nil)) (pg_name (i := 5) sc__law_pushed.nd rfl (Or.inl rfl)) (pss_cons (ps_set (i := 6) sc__law_pushed.nd rfl (Or.inl rfl) (pe_op op_add (pe_cal (C__law_digit T) (hr.mono (by decide)) (pa_cons (pv 0) (pa_cons (pv 1) (pa_cons (pv 3) pa_nil)))) (pe_ix ix_list (pe_lst (pa_cons pe_int (pa_cons pe_int (pa_cons pe_int (pa_cons pe_int (pa_cons pe_int (pa_cons pe_int (pa_cons pe_int (pa_cons pe_int (pa_cons pe_int pa_nil)))))))))) (pv 5) (fun _ _ => rfl))))
      (pss_cons (ps_set (i := 7) sc__law_pushed.nd rfl (Or.inl rfl) (pe_op op_add pe_int (pe_op op_mod (pe_callTy call_int1 (by rfl) T.n_int (by decide +kernel) (pa_cons (pv 6) pa_nil)) (pv 3))))
      (pss_cons (ps_set (i := 8) sc__law_pushed.nd rfl (Or.inl rfl) (pe_ix ix_list (pe_lst (pa_cons pe_int (pa_cons pe_int (pa_cons pe_int (pa_cons pe_int (pa_cons pe_int pa_nil)))))) (pe_op op_mod (pe_callTy call_int1 (by rfl) T.n_int (by decide +kernel) (pa_cons (pe_op op_add (pe_cal (C__law_digit T) (hr.mono (by decide)) (pa_cons (pv 0) (pa_cons (pv 1) (pa_cons pe_int pa_nil)))) (pv 5)) pa_nil)) pe_int) (fun _ _ => rfl)))
      (pss_one (ps_expr (pe_cal (C__law_push T) (hr.mono (by decide)) (pa_cons (pv 4) (pa_cons (pv 7) (pa_cons (pe_op op_add (pe_ix ix_list (pv 4) (pv 7) (fun _ _ => rfl)) (pv 8)) pa_nil))))))))))
      (pss_one (ps_ret (pv 4)))))), ?_⟩
  have h64 := p6 n6
  have h2 : 2 ≤ 2 ^ n := Nat.le_trans (by decide : 2 ≤ 2 ^ 1) (Nat.pow_le_pow_right (by decide) n1)
  have hfull : ((2 ^ n : Nat) : Int) - 1 = ((2 ^ n - 1 : Nat) : Int) := by omega
  have hsum : ((2 ^ n : Nat) : Int) - 1 + 1 = ((2 ^ n : Nat) : Int) := by omega
  refine ⟨_, rfl, n, rfl, rfl, by omega, _, _, rfl, rfl, by show 1 ≤ sizeLine; decide, fun l0 hl0 => ⟨_, rfl, _, _, rfl, rfl, l0, _, _, rfl, rfl, upd_same, by omega, by omega, by rw [hsum, sizeLine_eq, Int.toNat_natCast]; show 1 * _ ≤ _; omega, fun p hp0 => ?_⟩⟩
  have e1 : Same H (upd H l0 (.lst [V.int 0])) := Same.new hl0
  have hpf : H p = none := Same.free e1 hp0
  have hd1 := (hd.new (o := .lst [V.int 0]) hl0).new (o := .lst (List.replicate (((2 ^ n : Nat) : Int) - 1 + 1).toNat [V.int 0]).flatten) hp0
  obtain ⟨np1, np2⟩ := hd.ne hpf
  have k1 : Keep q H (upd (upd H l0 (.lst [V.int 0])) p (.lst (List.replicate (((2 ^ n : Nat) : Int) - 1 + 1).toNat [V.int 0]).flatten)) := (Same.keep e1 q).new hp0
  have hp1 : (upd (upd H l0 (.lst [V.int 0])) p (.lst (List.replicate (((2 ^ n : Nat) : Int) - 1 + 1).toNat [V.int 0]).flatten)) p = some (.lst ((List.replicate (2 ^ n) (0 : Int)).map V.int)) := by rw [upd_same, hsum, Int.toNat_natCast, rep_ints]
  generalize hH1 : upd (upd H l0 (.lst [V.int 0])) p (.lst (List.replicate (((2 ^ n : Nat) : Int) - 1 + 1).toNat [V.int 0]).flatten) = H1 at *
  refine ⟨by show 8 ≤ sizeLine; decide, fun l1 hl1 => ⟨_, rfl, _, rfl, c, q, 8, rfl, hd1.new hl1, by decide, by decide, fun d H2 hdl kp hd2 => ?_⟩⟩
  have nl1 : l1 ≠ q := (hd1.ne hl1).1
  have tA := tabA_b d hdl
  refine ⟨l1, _, _, _, rfl, rfl, sqL (kp _ _ nl1 upd_same), atI_nat (num_at (ns := tabA) hdl), _, rfl, by omega, by omega, ?_⟩
  have k2 : Keep q H1 H2 := ((Keep.refl H1).new hl1).trans kp
  refine for_it (wkR0 (m := (num tabA d).toNat)) (fun i σ H' => ∃ ns : List Int, Keep q H H' ∧ Dg H' c q ∧ H' p = some (.lst (ns.map V.int)) ∧ Good n ns (7 * i) ∧ σ[0]? = some (some (.ref c)) ∧ σ[1]? = some (some (.ref q)) ∧ σ[3]? = some (some (vN (2 ^ n - 1))) ∧ σ[4]? = some (some (.ref p)) ∧ σ.length = 9)
    ⟨_, k1.trans k2, hd2, k2 _ _ np1 hp1, good0, rfl, rfl, by show some (some (V.int (((2 ^ n : Nat) : Int) - 1))) = _; rw [hfull], rfl, rfl⟩ (fun _ _ _ _ _ => True.intro) (fun i x σ H1' H' hi p' y => ?_) fun σ H' p' => ?_
  · obtain ⟨ns, kq, hd3, hp3, G, s0, s1, s3, s4, sl⟩ := p'
    obtain ⟨e, rfl⟩ := y
    subst e
    have hi9 : i < 9 := by omega
    have gl := G.len
    have tl : (σ.set 5 (some (vN i))).length = 9 := by rw [List.length_set]; exact sl
    have t0 : (σ.set 5 (some (vN i)))[0]? = some (some (.ref c)) := (List.getElem?_set_ne (by decide)).trans s0
    have t1 : (σ.set 5 (some (vN i)))[1]? = some (some (.ref q)) := (List.getElem?_set_ne (by decide)).trans s1
    have t3 : (σ.set 5 (some (vN i)))[3]? = some (some (vN (2 ^ n - 1))) := (List.getElem?_set_ne (by decide)).trans s3
    have t4 : (σ.set 5 (some (vN i)))[4]? = some (some (.ref p)) := (List.getElem?_set_ne (by decide)).trans s4
    have t5 : (σ.set 5 (some (vN i)))[5]? = some (some (vN i)) := List.getElem?_set_self (by omega)
    refine ⟨_, t0, _, t1, _, t3, c, q, 2 ^ n - 1, rfl, hd3, by omega, Nat.lt_of_lt_of_le (by omega : 2 ^ n - 1 < 64) (by decide), fun d1 H3 hd1l kp3 hd4 => ?_⟩
    refine ⟨by show 9 ≤ sizeLine; decide, fun l2 hl2 => ⟨_, t5, l2, _, _, _, rfl, rfl, sqL upd_same, atI_nat (num_at (ns := tabB) hi9), _, _, rfl, rfl, ?_⟩⟩
    have hd5 := hd4.new (o := .lst (tabB.map V.int)) hl2
    have k5 : Keep q H (upd H3 l2 (.lst (tabB.map V.int))) := (kq.trans kp3).new hl2
    have hp5 : (upd H3 l2 (.lst (tabB.map V.int))) p = some (.lst (ns.map V.int)) := by
      have := kp3 _ _ np1 hp3
      rw [upd_ne (ne_of_none this hl2)]
      exact this
    have hf : (0 : Int) < ((2 ^ n - 1 : Nat) : Int) := by omega
    have m1 := Int.emod_nonneg (((d1 : Nat) : Int) + num tabB i) (b := ((2 ^ n - 1 : Nat) : Int)) (by omega)
    have m2 := Int.emod_lt_of_pos (((d1 : Nat) : Int) + num tabB i) hf
    obtain ⟨mm, hmm⟩ : ∃ mm : Nat, (((d1 : Nat) : Int) + num tabB i) % ((2 ^ n - 1 : Nat) : Int) = (mm : Int) := ⟨_, (Int.toNat_of_nonneg m1).symm⟩
    have hmk : (1 : Int) + (((d1 : Nat) : Int) + num tabB i) % ((2 ^ n - 1 : Nat) : Int) = ((1 + mm : Nat) : Int) := by rw [hmm]; omega
    generalize hσ5 : σ.set 5 (some (vN i)) = σ5 at *
    have set6 : (σ5.set 6 (some (.int (((d1 : Nat) : Int) + num tabB i))))[6]? = some (some (.int (((d1 : Nat) : Int) + num tabB i))) := List.getElem?_set_self (by omega)
    have u0 : (σ5.set 6 (some (.int (((d1 : Nat) : Int) + num tabB i))))[0]? = some (some (.ref c)) := (List.getElem?_set_ne (by decide)).trans t0
    have u1 : (σ5.set 6 (some (.int (((d1 : Nat) : Int) + num tabB i))))[1]? = some (some (.ref q)) := (List.getElem?_set_ne (by decide)).trans t1
    have u3 : (σ5.set 6 (some (.int (((d1 : Nat) : Int) + num tabB i))))[3]? = some (some (vN (2 ^ n - 1))) := (List.getElem?_set_ne (by decide)).trans t3
    have u4 : (σ5.set 6 (some (.int (((d1 : Nat) : Int) + num tabB i))))[4]? = some (some (.ref p)) := (List.getElem?_set_ne (by decide)).trans t4
    have u5 : (σ5.set 6 (some (.int (((d1 : Nat) : Int) + num tabB i))))[5]? = some (some (vN i)) := (List.getElem?_set_ne (by decide)).trans t5
    have ul : (σ5.set 6 (some (.int (((d1 : Nat) : Int) + num tabB i)))).length = 9 := by rw [List.length_set]; exact tl
    refine ⟨_, set6, .inl ⟨_, rfl, _, u3, _, _, rfl, rfl, hf, _, _, rfl, rfl, ?_⟩⟩
    generalize σ5.set 6 (some (.int (((d1 : Nat) : Int) + num tabB i))) = σ6 at *
    have hv7 : V.int ((1 : Int) + (((d1 : Nat) : Int) + num tabB i) % ((2 ^ n - 1 : Nat) : Int)) = vN (1 + mm) := by rw [hmk]
    have w0 : (σ6.set 7 (some (vN (1 + mm))))[0]? = some (some (.ref c)) := (List.getElem?_set_ne (by decide)).trans u0
    have w1 : (σ6.set 7 (some (vN (1 + mm))))[1]? = some (some (.ref q)) := (List.getElem?_set_ne (by decide)).trans u1
    have w3 : (σ6.set 7 (some (vN (1 + mm))))[3]? = some (some (vN (2 ^ n - 1))) := (List.getElem?_set_ne (by decide)).trans u3
    have w4 : (σ6.set 7 (some (vN (1 + mm))))[4]? = some (some (.ref p)) := (List.getElem?_set_ne (by decide)).trans u4
    have w5 : (σ6.set 7 (some (vN (1 + mm))))[5]? = some (some (vN i)) := (List.getElem?_set_ne (by decide)).trans u5
    have w7 : (σ6.set 7 (some (vN (1 + mm))))[7]? = some (some (vN (1 + mm))) := List.getElem?_set_self (by omega)
    have wl : (σ6.set 7 (some (vN (1 + mm)))).length = 9 := by rw [List.length_set]; exact ul
    refine ⟨by show 5 ≤ sizeLine; decide, fun l3 (hl3 : (upd H3 l2 (.lst (tabB.map V.int))) l3 = none) => ?_⟩
    dsimp only
    rw [hv7]
    generalize σ6.set 7 (some (vN (1 + mm))) = σ7 at *
    have hd6 := hd5.new (o := .lst (tabC.map V.int)) hl3
    have hp6 : (upd (upd H3 l2 (.lst (tabB.map V.int))) l3 (.lst (tabC.map V.int))) p = some (.lst (ns.map V.int)) := by rw [upd_ne (ne_of_none hp5 hl3)]; exact hp5
    have k6 : Keep q H (upd (upd H3 l2 (.lst (tabB.map V.int))) l3 (.lst (tabC.map V.int))) := k5.new hl3
    have nl3 : l3 ≠ q := (hd5.ne hl3).1
    refine ⟨_, w0, _, w1, c, q, 5, rfl, hd6, by decide, by decide, fun d2 H7 hd2l kp7 hd7 => ?_⟩
    refine ⟨_, w5, _, _, rfl, rfl, .inl ⟨_, rfl, _, _, rfl, rfl, by show (0 : Int) < 5; decide, ?_⟩⟩
    have b1 := Int.emod_nonneg (((d2 : Nat) : Int) + (i : Int)) (b := 5) (by omega)
    have b2 := Int.emod_lt_of_pos (((d2 : Nat) : Int) + (i : Int)) (by omega : (0 : Int) < 5)
    obtain ⟨d5, hd5e⟩ : ∃ d5 : Nat, (((d2 : Nat) : Int) + (i : Int)) % 5 = (d5 : Int) := ⟨_, (Int.toNat_of_nonneg b1).symm⟩
    have d5l : d5 < 5 := by omega
    have tC := tabC_b d5 d5l
    have hl7 := kp7 _ _ nl3 upd_same
    refine ⟨l3, _, _, .int (num tabC d5), rfl, rfl, sqL hl7, ?_, ?_⟩
    · have := atI_nat (num_at (ns := tabC) (m := d5) d5l)
      rw [← hd5e] at this
      exact this
    have hp7 := kp7 _ _ np1 hp6
    have x0 : (σ7.set 8 (some (.int (num tabC d5))))[0]? = some (some (.ref c)) := (List.getElem?_set_ne (by decide)).trans w0
    have x1 : (σ7.set 8 (some (.int (num tabC d5))))[1]? = some (some (.ref q)) := (List.getElem?_set_ne (by decide)).trans w1
    have x3 : (σ7.set 8 (some (.int (num tabC d5))))[3]? = some (some (vN (2 ^ n - 1))) := (List.getElem?_set_ne (by decide)).trans w3
    have x4 : (σ7.set 8 (some (.int (num tabC d5))))[4]? = some (some (.ref p)) := (List.getElem?_set_ne (by decide)).trans w4
    have x7 : (σ7.set 8 (some (.int (num tabC d5))))[7]? = some (some (vN (1 + mm))) := (List.getElem?_set_ne (by decide)).trans w7
    have x8 : (σ7.set 8 (some (.int (num tabC d5))))[8]? = some (some (.int (num tabC d5))) := List.getElem?_set_self (by omega)
    have mlt : 1 + mm < 2 ^ n := by omega
    have gb := G.lo (1 + mm) mlt
    refine ⟨_, x4, _, x7, _, x4, _, x7, p, _, _, _, rfl, rfl, sqL hp7, atI_nat (num_at (by omega)), _, x8, _, _, rfl, rfl, p, n, 1 + mm, _, ns, 7 * i, 7 * (i + 1 : Nat), rfl, hp7, G, n6, by omega, mlt, by omega, by omega, by omega, fun ns' H8 k8 hp8 G8 => ?_⟩
    have kq7 := k6.trans kp7
    refine ⟨ns', fun y o hy e => ?_, hd7.keep k8 np1 np2, hp8, G8, x0, x1, x3, x4, by rw [List.length_set]; exact wl⟩
    have e7 := kq7 y o hy e
    exact k8 y o (ne_of_none e hpf) e7
  · obtain ⟨ns, kq, hd3, hp3, G, s0, s1, s3, s4, sl⟩ := p'
    exact ⟨_, s4, k p ns _ kq hpf hd3 hp3 (G.mono (by omega))⟩
end
end Wf

namespace Wf
open PySem PySem.Spec PyProof.Rows L2
theorem slot_ne {σ : L2.St} {i j : Nat} {v : Option V} {u : Option (Option V)} (h : i ≠ j) (e : σ[j]? = u) : (σ.set i v)[j]? = u := (List.getElem?_set_ne h).trans e
theorem slot_at {σ : L2.St} {i : Nat} {v : Option V} (h : i < σ.length) : (σ.set i v)[i]? = some v := List.getElem?_set_self h
theorem slot_len {σ : L2.St} {i n : Nat} {v : Option V} (h : σ.length = n) : (σ.set i v).length = n := by rw [List.length_set]; exact h
/-- a pair as a tuple -/
def Pr (H : Hp) (v : V) (t b : Int) : Prop := ∃ a : Addr, v = .ref a ∧ H a = some (.tup [.int t, .int b])
theorem Pr.same {H H' : Hp} {v : V} {t b : Int} (e : Same H H') (h : Pr H v t b) : Pr H' v t b := by
  obtain ⟨a, e1, e2⟩ := h
  exact ⟨a, e1, e _ _ e2⟩
theorem Pr.kept {H H' : Hp} {q : Addr} {xs : List V} {v : V} {t b : Int} (hq : H q = some (.lst xs)) (k : Keep q H H') (h : Pr H v t b) : Pr H' v t b := by
  obtain ⟨a, e1, e2⟩ := h
  exact ⟨a, e1, k _ _ (ne_of e2 hq fun z => nomatch z) e2⟩
section
variable {P : Program} {w : World} {K : PySem.W.Frag} {mg : Str → Option Value} {base : Heap}
def spRed : Sp := fun vs H Q _ => ∃ t b : Int, vs = [.int t, .int b] ∧ 0 < b ∧ b.natAbs < 2 ^ 200 ∧ t.natAbs < 2 ^ 100 ∧ ∀ v H', Same H H' → Pr H' v (exT t b) (exB t b) → Q v H'
def N__law_reduced : List Str := ["_law_top", "_law_bottom", "_law_low", "_law_high", "_law_k"]
theorem sc__law_reduced : FnScope N__law_reduced ["_law_top", "_law_bottom"] (defScope st__law_reduced) := ⟨rfl, rfl, rfl, by decide +kernel, rfl, by decide +kernel, by decide +kernel⟩
theorem C__law_reduced (T : Txt K mg) : Cal P w K mg base CX0 1 "_law_reduced" spRed := by
  refine cal_of T.d__law_reduced T.g__law_reduced sc__law_reduced (fun kV doc pm an cdv ct us h => ?_) (fun vs H Q E h => ?_) fun cdv A outer s H vs Q E hr h => ?_
  · match us, h with
    | [_, _], _ => rfl
  · obtain ⟨t, b, rfl, hb, hw, ht, q⟩ := h; rfl
  obtain ⟨t, b, rfl, hb, hw, ht, q⟩ := h
  refine ⟨_, (pss_cons (ps_set (i := 2) sc__law_reduced.nd rfl (Or.inl rfl) (pv 1))
      (pss_cons (ps_set (i := 3) sc__law_reduced.nd rfl (Or.inl rfl) (pe_callB call_abs (by rfl) T.n_abs (by decide +kernel) (pa_cons (pv 0) pa_nil)))
      (pss_cons (ps_for PassesOwn.never rfl (pi_range1 rfl T.n_range (pa_cons pe_int pa_nil)) (pg_name (i := 4) sc__law_reduced.nd rfl (Or.inl rfl)) (pss_one (ps_if (pt_cmpR op_gt (pv 3) pe_int (nomark _)) (pss_one (ps_par (i := 2) (j := 3) (by rfl) sc__law_reduced.nd rfl rfl (by decide) rfl rfl (pa_cons (pv 3) (pa_cons (pe_op op_mod (pe_callTy call_int1 (by rfl) T.n_int (by decide +kernel) (pa_cons (pv 2) pa_nil)) (pv 3)) pa_nil)) (by rfl))) pss_nil)))
      (pss_one (ps_ret (pe_tup (pa_cons (pe_op op_fdivW (pv 0) (pv 2)) (pa_cons (pe_op op_fdivW (pv 1) (pv 2)) pa_nil)))))))), ?_⟩
  refine ⟨_, rfl, _, rfl, t, rfl, 200, rfl, by decide, by decide, ?_⟩
  have hab : (if t < 0 then -t else t) = ((t.natAbs : Nat) : Int) := by split <;> omega
  have hbb : b = ((b.natAbs : Nat) : Int) := by omega
  refine for_it (wkR0 (m := 200)) (fun i σ H' => H' = H ∧ σ[0]? = some (some (.int t)) ∧ σ[1]? = some (some (.int b)) ∧ σ[2]? = some (some (vN (itE (b.natAbs, t.natAbs) i).1)) ∧ σ[3]? = some (some (vN (itE (b.natAbs, t.natAbs) i).2)) ∧ σ.length = 5)
    ⟨rfl, rfl, rfl, congrArg (fun z => some (some (V.int z))) hbb, congrArg (fun z => some (some (V.int z))) hab, rfl⟩ (fun _ _ _ _ _ => True.intro) (fun i x σ H1 H' hi p y => ?_) fun σ H' p => ?_
  · obtain ⟨e, s0, s1, s2, s3, sl⟩ := p
    subst e
    obtain ⟨e, rfl⟩ := y
    subst e
    have t0 := slot_ne (i := 4) (v := some (vN i)) (by decide) s0
    have t1 := slot_ne (i := 4) (v := some (vN i)) (by decide) s1
    have t2 := slot_ne (i := 4) (v := some (vN i)) (by decide) s2
    have t3 := slot_ne (i := 4) (v := some (vN i)) (by decide) s3
    have tl := slot_len (i := 4) (v := some (vN i)) sl
    have est : itE (b.natAbs, t.natAbs) (i + 1) = stE (itE (b.natAbs, t.natAbs) i) := rfl
    generalize hp : itE (b.natAbs, t.natAbs) i = pr at *
    obtain ⟨lo, hi2⟩ := pr
    refine ⟨_, t3, _, _, rfl, rfl, _, rfl, both (fun h => ?_) fun h => ?_⟩
    · have h := of_decide_eq_true h
      have h' : 0 < hi2 := by show 0 < hi2; omega
      refine ⟨_, t3, _, t2, .inl ⟨_, rfl, _, t3, _, _, rfl, rfl, h, _, _, rfl, ?_⟩⟩
      have e1 : stE (lo, hi2) = (hi2, lo % hi2) := by unfold stE; rw [if_pos h']
      rw [e1] at est
      refine ⟨rfl, slot_ne (by decide) (slot_ne (by decide) t0), slot_ne (by decide) (slot_ne (by decide) t1), ?_, ?_, slot_len (slot_len tl)⟩
      · rw [est]; exact slot_ne (by decide) (slot_at (Nat.lt_of_lt_of_eq (by decide : 2 < 5) tl.symm))
      · rw [est]; exact slot_at (Nat.lt_of_lt_of_eq (by decide : 3 < 5) (slot_len tl).symm)
    · have h := of_decide_eq_false h
      have h' : ¬ 0 < hi2 := fun z => h (by show (0 : Int) < (hi2 : Int); omega)
      have e1 : stE (lo, hi2) = (lo, hi2) := by unfold stE; rw [if_neg h']
      rw [e1] at est
      exact ⟨rfl, t0, t1, by rw [est]; exact t2, by rw [est]; exact t3, tl⟩
  · obtain ⟨e, s0, s1, s2, s3, sl⟩ := p
    subst e
    rw [itE_end ht] at s2
    have hg : ((Nat.gcd b.natAbs t.natAbs : Nat) : Int) = gI t b := by unfold gI; rw [Nat.gcd_comm]
    have gp := gI_pos (t := t) hb
    have gb : (gI t b).natAbs < 2 ^ 200 := by
      have : gI t b ≤ b := Int.le_of_dvd hb (gI_b t b)
      omega
    replace s2 : σ[2]? = some (some (.int (gI t b))) := s2.trans (congrArg (fun z => some (some (V.int z))) hg)
    exact ⟨_, s0, _, s2, _, _, rfl, rfl, wide_div gp gb (by decide) (by decide), _, s1, _, s2, _, _, rfl, rfl, wide_div gp gb (by decide) (by decide), by show 2 ≤ sizeLine; decide, fun p hp => q _ _ (Same.new hp) ⟨p, rfl, upd_same⟩⟩
def spPair : Sp := fun vs H Q _ => ∃ (v : V) (t b : Int), vs = [v] ∧ IsR H v t b ∧ ∀ u H', Same H H' → Pr H' u t b → Q u H'
def N__law_pair : List Str := ["_law_told"]
theorem sc__law_pair : FnScope N__law_pair ["_law_told"] (defScope st__law_pair) := ⟨rfl, rfl, rfl, by decide +kernel, rfl, by decide +kernel, by decide +kernel⟩
theorem C__law_pair (T : Txt K mg) : Cal P w K mg base CX0 1 "_law_pair" spPair := by
  refine cal_of T.d__law_pair T.g__law_pair sc__law_pair (fun kV doc pm an cdv ct us h => ?_) (fun vs H Q E h => ?_) fun cdv A outer s H vs Q E hr h => ?_
  · match us, h with
    | [_], _ => rfl
  · obtain ⟨v, t, b, rfl, hv, q⟩ := h; rfl
  obtain ⟨v, t, b, rfl, hv, q⟩ := h
  refine ⟨_, (pss_cons (ps_if (pt_val (pe_callB call_isi (by rfl) T.n_isinstance (by decide +kernel) (pa_cons (pv 0) (pa_cons (pe_gref T.m_Ratio) pa_nil)))) (pss_one (ps_ret (pe_tup (pa_cons (pe_fld (pv 0) rfl) (pa_cons (pe_fld (pv 0) rfl) pa_nil))))) pss_nil)
      (pss_one (ps_ret (pe_tup (pa_cons pe_str pa_nil))))), ?_⟩
  obtain ⟨a, dx, fs, rfl, h1, h2, h3, h4⟩ := hv
  exact ⟨_, rfl, _, _, _, _, _, rfl, .own _, T.tyR h1, T.kRR, _, rfl, yes rfl ⟨_, rfl, _, _, _, _, _, rfl, h1, T.clR, T.R_top, h2, _, rfl, _, _, _, _, _, rfl, h1, T.clR, T.R_bottom, h3, by show 2 ≤ sizeLine; decide, fun p hp => q _ _ (Same.new hp) ⟨p, rfl, upd_same⟩⟩⟩
def spNoMore : Sp := fun vs H Q _ => ∃ (v u : V) (t b x y : Int), vs = [v, u] ∧ Pr H v t b ∧ Pr H u x y ∧ Sm t ∧ Sm b ∧ Sm x ∧ Sm y ∧ Q (.bl (decide (t * y ≤ x * b))) H
def N__law_no_more : List Str := ["_law_one", "_law_two"]
theorem sc__law_no_more : FnScope N__law_no_more ["_law_one", "_law_two"] (defScope st__law_no_more) := ⟨rfl, rfl, rfl, by decide +kernel, rfl, by decide +kernel, by decide +kernel⟩
theorem C__law_no_more (T : Txt K mg) : Cal P w K mg base CX0 1 "_law_no_more" spNoMore := by
  refine cal_of T.d__law_no_more T.g__law_no_more sc__law_no_more (fun kV doc pm an cdv ct us h => ?_) (fun vs H Q E h => ?_) fun cdv A outer s H vs Q E hr h => ?_
  · match us, h with
    | [_, _], _ => rfl
  · obtain ⟨v, u, t, b, x, y, rfl, hv, hu, st, sb, sx, sy, q⟩ := h; rfl
  obtain ⟨v, u, t, b, x, y, rfl, hv, hu, st, sb, sx, sy, q⟩ := h
  refine ⟨_, (pss_one (ps_ret (pe_cmpR op_le (pe_op op_mulW (pe_ix ix_tup (pv 0) pe_int (fun _ _ => rfl)) (pe_ix ix_tup (pv 1) pe_int (fun _ _ => rfl))) (pe_op op_mulW (pe_ix ix_tup (pv 1) pe_int (fun _ _ => rfl)) (pe_ix ix_tup (pv 0) pe_int (fun _ _ => rfl))) (nomark _)))), ?_⟩
  obtain ⟨a, rfl, ha⟩ := hv
  obtain ⟨c, rfl, hc⟩ := hu
  exact ⟨_, rfl, a, _, _, _, rfl, rfl, sqT ha, rfl, _, rfl, c, _, _, _, rfl, rfl, sqT hc, rfl, _, _, rfl, rfl, wide_mul st.nat sy.nat (by decide) (by decide) (by decide), _, rfl, c, _, _, _, rfl, rfl, sqT hc, rfl, _, rfl, a, _, _, _, rfl, rfl, sqT ha, rfl, _, _, rfl, rfl, wide_mul sx.nat sb.nat (by decide) (by decide) (by decide), _, _, rfl, rfl, q⟩
def spSum : Sp := fun vs H Q _ => ∃ (v u : V) (t b x y s : Int), vs = [v, u, .int s] ∧ Pr H v t b ∧ Pr H u x y ∧ Sm t ∧ Sm b ∧ Sm x ∧ Sm y ∧ Sm s ∧ 0 < b ∧ 0 < y ∧ (t * y + s * x * b).natAbs < 2 ^ 100 ∧ ∀ v H', Same H H' → Pr H' v (sum2 s t b x y).1 (sum2 s t b x y).2 → Q v H'
def N__law_sum : List Str := ["_law_one", "_law_two", "_law_sign", "_law_top"]
theorem sc__law_sum : FnScope N__law_sum ["_law_one", "_law_two", "_law_sign"] (defScope st__law_sum) := ⟨rfl, rfl, rfl, by decide +kernel, rfl, by decide +kernel, by decide +kernel⟩
theorem C__law_sum (T : Txt K mg) : Cal P w K mg base CX0 2 "_law_sum" spSum := by
  refine cal_of T.d__law_sum T.g__law_sum sc__law_sum (fun kV doc pm an cdv ct us h => ?_) (fun vs H Q E h => ?_) fun cdv A outer s H vs Q E hr h => ?_
  · match us, h with
    | [_, _, _], _ => rfl
  · obtain ⟨v, u, t, b, x, y, s', rfl, hv, hu, st, sb, sx, sy, ss, pb, py, hw, q⟩ := h; rfl
  obtain ⟨v, u, t, b, x, y, s', rfl, hv, hu, st, sb, sx, sy, ss, pb, py, hw, q⟩ := h
  refine ⟨_, (pss_cons (ps_set (i := 3) sc__law_sum.nd rfl (Or.inl rfl) (pe_op op_add (pe_op op_mulW (pe_ix ix_tup (pv 0) pe_int (fun _ _ => rfl)) (pe_ix ix_tup (pv 1) pe_int (fun _ _ => rfl))) (pe_op op_mulW (pe_op op_mulW (pv 2) (pe_ix ix_tup (pv 1) pe_int (fun _ _ => rfl))) (pe_ix ix_tup (pv 0) pe_int (fun _ _ => rfl)))))
      (pss_one (ps_ret (pe_cal (C__law_reduced T) (hr.mono (by decide)) (pa_cons (pv 3) (pa_cons (pe_op op_mulW (pe_ix ix_tup (pv 0) pe_int (fun _ _ => rfl)) (pe_ix ix_tup (pv 1) pe_int (fun _ _ => rfl))) pa_nil)))))), ?_⟩
  obtain ⟨a, rfl, ha⟩ := hv
  obtain ⟨c, rfl, hc⟩ := hu
  have sx2 : (s' * x).natAbs < 2 ^ 120 := ss.mul sx
  exact ⟨_, rfl, a, _, _, _, rfl, rfl, sqT ha, rfl, _, rfl, c, _, _, _, rfl, rfl, sqT hc, rfl, _, _, rfl, rfl, wide_mul st.nat sy.nat (by decide) (by decide) (by decide), _, rfl, _, rfl, c, _, _, _, rfl, rfl, sqT hc, rfl, _, _, rfl, rfl, wide_mul ss.nat sx.nat (by decide) (by decide) (by decide),
    _, rfl, a, _, _, _, rfl, rfl, sqT ha, rfl, _, _, rfl, rfl, wide_mul sx2 sb.nat (by decide) (by decide) (by decide), _, _, rfl, rfl, _, rfl, _, rfl, a, _, _, _, rfl, rfl, sqT ha, rfl, _, rfl, c, _, _, _, rfl, rfl, sqT hc, rfl, _, _, rfl, rfl, wide_mul sb.nat sy.nat (by decide) (by decide) (by decide),
    t * y + s' * x * b, b * y, rfl, (bnd sb sy pb py).1, (bnd sb sy pb py).2, hw, q⟩
/-- plain, or a fraction -/
def spValue : Sp := fun vs H Q _ => ∃ (v : V) (t b : Int) (k : Bool), vs = [v, .bl k] ∧ Pr H v t b ∧ Low t b ∧ Sm t ∧ Sm b ∧ ∀ u H', Same H H' → Frac H' u t b → Q u H'
def N__law_value : List Str := ["_law_pair_here", "_law_plain"]
theorem sc__law_value : FnScope N__law_value ["_law_pair_here", "_law_plain"] (defScope st__law_value) := ⟨rfl, rfl, rfl, by decide +kernel, rfl, by decide +kernel, by decide +kernel⟩
theorem C__law_value (T : Txt K mg) : Cal P w K mg base CX0 4 "_law_value" spValue := by
  refine cal_of T.d__law_value T.g__law_value sc__law_value (fun kV doc pm an cdv ct us h => ?_) (fun vs H Q E h => ?_) fun cdv A outer s H vs Q E hr h => ?_
  · match us, h with
    | [_, _], _ => rfl
  · obtain ⟨v, t, b, k, rfl, hv, lo, st, sb, q⟩ := h; rfl
  obtain ⟨v, t, b, k, rfl, hv, lo, st, sb, q⟩ := h
  obtain ⟨fd, FD, FR⟩ := F_RInit (P := P) (w := w) (mg := mg) (base := base) T
  obtain ⟨ds, dv, bd⟩ := bd_R FD
  refine ⟨_, (pss_cons (ps_if (PW.pt (pw_and (pt_cmpR op_eq (pe_ix ix_tup (pv 0) pe_int (fun _ _ => rfl)) pe_int (nomark _)) (pw_and1 (pt_val (pv 1))))) (pss_one (ps_ret (pe_ix ix_tup (pv 0) pe_int (fun _ _ => rfl)))) pss_nil)
      (pss_one (ps_ret (pe_make T.mkR FR (hr.mono (by decide)) rfl T.m_Ratio bd dv pass0 (pa_cons (pe_ix ix_tup (pv 0) pe_int (fun _ _ => rfl)) (pa_cons (pe_ix ix_tup (pv 0) pe_int (fun _ _ => rfl)) pa_nil)))))), ?_⟩
  obtain ⟨a, rfl, ha⟩ := hv
  have big : (10 : Int) ^ 60 ≥ 2 ^ 60 := by decide
  have hb := lo.pos
  refine ⟨_, rfl, a, _, _, _, rfl, rfl, sqT ha, rfl, rfl, _, rfl, both (fun h => ⟨_, rfl, _, rfl, both (fun hk => ?_) fun _ => ?_⟩) fun _ => no rfl ?_⟩
  · have h1 := V.int.inj (of_decide_eq_true h)
    exact ⟨_, rfl, a, _, _, _, rfl, rfl, sqT ha, rfl, q _ _ (Same.refl _) (.inl ⟨rfl, h1⟩)⟩
  · exact ⟨_, rfl, a, _, _, _, rfl, rfl, sqT ha, rfl, _, rfl, a, _, _, _, rfl, rfl, sqT ha, rfl, fun x dx hx hd hne => ⟨x, dx, t, b, true, rfl, upd_same, hb, Nat.lt_trans sb.nat (by decide), fun _ => by unfold Sm at *; omega, fun H' k' r => ⟨rfl, q _ _ (made_R hx hd k') (.inr (by rw [lo.ex.1, lo.ex.2] at r; exact r))⟩⟩⟩
  · exact ⟨_, rfl, a, _, _, _, rfl, rfl, sqT ha, rfl, _, rfl, a, _, _, _, rfl, rfl, sqT ha, rfl, fun x dx hx hd hne => ⟨x, dx, t, b, true, rfl, upd_same, hb, Nat.lt_trans sb.nat (by decide), fun _ => by unfold Sm at *; omega, fun H' k' r => ⟨rfl, q _ _ (made_R hx hd k') (.inr (by rw [lo.ex.1, lo.ex.2] at r; exact r))⟩⟩⟩
def spAllOf : Sp := fun vs H Q _ => ∃ (v : V) (t b : Int), vs = [v] ∧ Pr H v t b ∧ Low t b ∧ Sm t ∧ Sm b ∧ 0 ≤ t ∧ t ≤ b ∧ ∀ u t' b' H', Same H H' → Pr H' u t' b' → Low t' b' → 0 ≤ t' → t' * b ≤ t * b' → b' ≤ 1000000 → b' ∣ 1000000 ∨ (t' = t ∧ b' = b) → Q u H'
def N__law_all_of : List Str := ["_law_coins"]
theorem sc__law_all_of : FnScope N__law_all_of ["_law_coins"] (defScope st__law_all_of) := ⟨rfl, rfl, rfl, by decide +kernel, rfl, by decide +kernel, by decide +kernel⟩
theorem C__law_all_of (T : Txt K mg) : Cal P w K mg base CX0 2 "_law_all_of" spAllOf := by
  refine cal_of T.d__law_all_of T.g__law_all_of sc__law_all_of (fun kV doc pm an cdv ct us h => ?_) (fun vs H Q E h => ?_) fun cdv A outer s H vs Q E hr h => ?_
  · match us, h with
    | [_], _ => rfl
  · obtain ⟨v, t, b, rfl, hv, lo, st, sb, t0, tb, q⟩ := h; rfl
  obtain ⟨v, t, b, rfl, hv, lo, st, sb, t0, tb, q⟩ := h
  refine ⟨_, (pss_cons (ps_if (pt_cmpR op_le (pe_ix ix_tup (pv 0) pe_int (fun _ _ => rfl)) (pe_op op_pow pe_int pe_int) (nomark _)) (pss_one (ps_ret (pv 0))) pss_nil)
      (pss_one (ps_ret (pe_cal (C__law_reduced T) (hr.mono (by decide)) (pa_cons (pe_op op_fdivW (pe_op op_mulW (pe_ix ix_tup (pv 0) pe_int (fun _ _ => rfl)) (pe_op op_pow pe_int pe_int)) (pe_ix ix_tup (pv 0) pe_int (fun _ _ => rfl))) (pa_cons (pe_op op_pow pe_int pe_int) pa_nil)))))), ?_⟩
  obtain ⟨a, rfl, ha⟩ := hv
  have hb := lo.pos
  have pw : CPow 10 6 := by unfold CPow; decide
  refine ⟨_, rfl, a, _, _, _, rfl, rfl, sqT ha, rfl, _, _, rfl, rfl, pw, _, _, rfl, rfl, _, rfl, both (fun h => ⟨_, rfl, ?_⟩) fun h => ?_⟩
  · have h : b ≤ 1000000 := of_decide_eq_true h
    exact q _ t b _ (Same.refl _) ⟨a, rfl, ha⟩ lo t0 (Int.le_refl _) h (.inr ⟨rfl, rfl⟩)
  · have hq := Int.mul_ediv_self_le (x := t * 1000000) (k := b) (by omega)
    have h0 : 0 ≤ t * 1000000 / b := Int.ediv_nonneg (by omega) (by omega)
    have hle : t * 1000000 / b ≤ 1000000 := by
      refine Int.ediv_le_of_le_mul hb ?_
      rw [Int.mul_comm]
      exact Int.mul_le_mul_of_nonneg_left tb (by decide)
    refine ⟨_, rfl, a, _, _, _, rfl, rfl, sqT ha, rfl, _, _, rfl, rfl, pw, _, _, rfl, rfl, wide_mul st.nat (b := 20) (by decide) (by decide) (by decide) (by decide), _, rfl, a, _, _, _, rfl, rfl, sqT ha, rfl, _, _, rfl, rfl, wide_div hb sb.nat (by decide) (by decide), _, _, rfl, rfl, pw,
      t * 1000000 / b, 1000000, rfl, by decide, by decide, by omega, fun v H' e hp => ?_⟩
    have low := ex_low (t := t * 1000000 / b) (b := 1000000) (by decide)
    refine q _ _ _ _ e hp low (exT_nonneg (by decide) h0) ?_ ?_ (.inl exB_dvd_b)
    · have := (ex_le (t := t * 1000000 / b) (b := 1000000) (x := t) (y := b) (by decide)).mpr (by rw [Int.mul_comm]; omega)
      exact this
    · exact exB_le (by decide)
end
end Wf

namespace Wf
open PySem PySem.Spec PyProof.Rows L2
theorem dLaw_len (near : Nat) (fr : List Nat) : (dLaw near fr).length = 2 ^ fr.length := by
  have go : ∀ (fr l : List Nat), (fr.foldl (fun l h => l ++ l.map fun c => c + 2 ^ h) l).length = l.length * 2 ^ fr.length := by
    intro fr
    induction fr with
    | nil => intro l; simp
    | cons a r ih => intro l; rw [List.foldl_cons, ih, List.length_append, List.length_map, List.length_cons, Nat.pow_succ, ← Nat.two_mul, Nat.mul_comm 2, Nat.mul_assoc, Nat.mul_comm 2]
  have := go fr [near]
  rw [List.length_singleton, Nat.one_mul] at this
  exact this
theorem dLaw_snoc (near : Nat) (l : List Nat) (h : Nat) : dLaw near (l ++ [h]) = dLaw near l ++ (dLaw near l).map fun c => c + 2 ^ h := by
  unfold dLaw
  rw [List.foldl_append]
  rfl
theorem item_vN {l : List Nat} {i : Nat} {x : V} (hx : (l.map vN)[i]? = some x) : ∃ h : i < l.length, x = vN l[i] := by
  by_cases h : i < l.length
  · refine ⟨h, ?_⟩
    rw [List.getElem?_map, List.getElem?_eq_getElem h] at hx
    exact (Option.some.inj hx).symm
  · rw [List.getElem?_map, List.getElem?_eq_none (by omega)] at hx
    cases hx
theorem getD_at {l : List Nat} {i : Nat} (h : i < l.length) : l.getD i 0 = l[i] := by rw [List.getD_eq_getElem?_getD, List.getElem?_eq_getElem h]; rfl
theorem wipe1 (σ : L2.St) (i : Nat) (v : Option V) : wipe ((wipe σ [i]).set i v) [i] = wipe σ [i] := by
  show ((σ.set i none).set i v).set i none = σ.set i none
  rw [List.set_set, List.set_set]
theorem wipe_ne {σ : L2.St} {i j : Nat} {v : Option V} {u : Option (Option V)} (h : i ≠ j) (e : σ[j]? = u) : ((wipe σ [i]).set i v)[j]? = u := slot_ne h (slot_ne (σ := σ) h e)
theorem wipe_at {σ : L2.St} {i : Nat} {v : Option V} (h : i < σ.length) : ((wipe σ [i]).set i v)[i]? = some v := slot_at (by show i < (σ.set i none).length; rw [List.length_set]; exact h)
section
variable {P : Program} {w : World} {K : PySem.W.Frag} {mg : Str → Option Value} {base : Heap}
def spDealsL (K : PySem.W.Frag) : Sp := fun vs H Q _ => ∃ (near : Nat) (p : Addr) (fr : List Nat), vs = [vN near, .ref p] ∧ SqL K H p (fr.map vN) ∧ fr.length ≤ 6 ∧ (∀ h ∈ fr, h ≤ 1000) ∧ RetP (.lst ((dLaw near fr).map vN)) H Q
def N__law_deals : List Str := ["_law_near", "_law_free", "_law_deals_here", "_law_h", "_law_code"]
theorem sc__law_deals : FnScope N__law_deals ["_law_near", "_law_free"] (defScope st__law_deals) := ⟨rfl, rfl, rfl, by decide +kernel, rfl, by decide +kernel, by decide +kernel⟩
theorem C__law_deals (T : Txt K mg) : Cal P w K mg base CX0 1 "_law_deals" (spDealsL K) := by
  refine cal_of T.d__law_deals T.g__law_deals sc__law_deals (fun kV doc pm an cdv ct us h => ?_) (fun vs H Q E h => ?_) fun cdv A outer s H vs Q E hr h => ?_
  · match us, h with
    | [_, _], _ => rfl
  · obtain ⟨near, p, fr, rfl, hp, hl, hh, q⟩ := h; rfl
  obtain ⟨near, p, fr, rfl, hp, hl, hh, q⟩ := h
  refine ⟨_, (pss_cons (ps_set (i := 2) sc__law_deals.nd rfl (Or.inl rfl) (pe_lst (pa_cons (pv 0) pa_nil)))
      (pss_cons (ps_for PassesOwn.never rfl (pi_list (pv 1)) (pg_name (i := 3) sc__law_deals.nd rfl (Or.inr rfl)) (pss_one (ps_set (i := 2) sc__law_deals.nd rfl (Or.inl rfl) (pe_op op_cat (pv 2) (pe_lc (own := [("_law_code", 4)]) (g := gName 4) (by rfl) sc__law_deals.nd (pi_list (pv 2)) (blkOk_by (own := [("_law_code", 4)]) (N := N__law_deals) (sc := defScope st__law_deals) (by decide +kernel)) (fun _ _ _ _ _ => pg_name (i := 4) sc__law_deals.nd rfl (Or.inl rfl)) (fun _ _ _ _ _ => pts_nil) (fun _ _ _ _ _ => (pe_op op_addN (pv 4) (pe_op op_shl1 pe_int (pv 3)))))))))
      (pss_one (ps_ret (pv 2))))), ?_⟩
  refine ⟨_, rfl, by show 1 ≤ sizeLine; decide, fun l0 hl0 => ⟨_, rfl, p, rfl, ⟨_, Same.seq (Same.new hl0) hp⟩, ?_⟩⟩
  refine for_it (wkL (Same.seq (Same.new hl0) hp)) (fun i σ H' => ∃ d, Same (upd H l0 (.lst [vN near])) H' ∧ H d = none ∧ σ[1]? = some (some (.ref p)) ∧ σ[2]? = some (some (.ref d)) ∧ H' d = some (.lst ((dLaw near (fr.take i)).map vN)) ∧ σ.length = 5)
    ⟨l0, Same.refl _, hl0, rfl, rfl, upd_same, rfl⟩ (fun i σ H' _ p => p.choose_spec.1) (fun i x σ H1 H' hi p' y => ?_) fun σ H' p' => ?_
  · obtain ⟨d, e, hd0, s1, s2, hd, sl⟩ := p'
    obtain ⟨e', hx⟩ := y
    subst e'
    obtain ⟨hi', rfl⟩ := item_vN hx
    have t1 := slot_ne (i := 3) (v := some (vN fr[i])) (by decide) s1
    have t2 := slot_ne (i := 3) (v := some (vN fr[i])) (by decide) s2
    have t3 : (σ.set 3 (some (vN fr[i])))[3]? = some (some (vN fr[i])) := slot_at (by omega)
    have tl := slot_len (i := 3) (v := some (vN fr[i])) sl
    have l64 := p6 (Nat.le_trans (List.length_take_le i fr) (by omega : i ≤ 6))
    have ln : ((dLaw near (fr.take i)).map vN).length < sizeLine := by rw [List.length_map, dLaw_len, sizeLine_eq]; omega
    refine ⟨_, t2, _, t2, d, rfl, ⟨_, sqL hd⟩, fun D hD => lcW (wkL (sqL hd)) hD ln (fun _ => true) (fun j => vN ((dLaw near (fr.take i)).getD j 0 + 2 ^ fr[i])) (fun j x H2 Ry Rn hj e2 y ky kn => ?_) (fun i H x H' y => y.1) fun H2 e2 hl2 => ?_⟩
    · obtain ⟨_, hx⟩ := y
      obtain ⟨hj', rfl⟩ := item_vN hx
      refine ⟨wipe1 _ _ _, _, wipe_at (Nat.lt_of_lt_of_eq (by decide : 4 < 5) tl.symm), _, wipe_ne (by decide) t3, fr[i], rfl, rfl, by have := hh _ (List.getElem_mem hi'); omega, _, _, rfl, rfl, ?_⟩
      have := ky rfl _ (Same.refl _)
      rw [getD_at hj'] at this
      exact this
    · rw [List.length_map, range_map (dLaw near (fr.take i)) 0 (fun c => vN (c + 2 ^ fr[i]))] at hl2
      have hd2 := e2 _ _ hd
      refine ⟨d, D, _, _, rfl, rfl, hd2, hl2, by rw [List.length_map, List.length_map, dLaw_len, sizeLine_eq]; omega, fun p2 hp2 => ⟨p2, Same.up (Same.trans e e2) hp2, Same.free (Same.new hl0) (Same.free (Same.trans e e2) hp2), slot_ne (by decide) t1, slot_at (Nat.lt_of_lt_of_eq (by decide : 2 < 5) tl.symm), ?_, slot_len tl⟩⟩
      rw [upd_same, List.take_add_one, List.getElem?_eq_getElem hi', Option.toList_some, dLaw_snoc, List.map_append, List.map_map]
      rfl
  · obtain ⟨d, e, hd0, s1, s2, hd, sl⟩ := p'
    rw [List.length_map, List.take_length] at hd
    exact ⟨_, s2, q _ _ (Same.trans (Same.new hl0) e) hd0 hd⟩
def cntL (ns : List Int) (near : Nat) (fr : List Nat) (least : Int) : Nat := ((dLaw near fr).filter fun m => decide (num ns m < least)).length
def spBelow (K : PySem.W.Frag) : Sp := fun vs H Q _ => ∃ (q p : Addr) (ns : List Int) (near : Nat) (fr : List Nat) (least : Int), vs = [.ref q, vN near, .ref p, .int least] ∧ SqL K H q (ns.map V.int) ∧ SqL K H p (fr.map vN) ∧ fr.length ≤ 6 ∧ (∀ h ∈ fr, h ≤ 1000) ∧ (∀ c ∈ dLaw near fr, c < ns.length) ∧
  ∀ H', Same H H' → Q (vN (cntL ns near fr least)) H'
def N__law_below : List Str := ["_law_numbers", "_law_near", "_law_free", "_law_least", "_law_deals_here", "_law_code"]
theorem sc__law_below : FnScope N__law_below ["_law_numbers", "_law_near", "_law_free", "_law_least"] (defScope st__law_below) := ⟨rfl, rfl, rfl, by decide +kernel, rfl, by decide +kernel, by decide +kernel⟩
theorem C__law_below (T : Txt K mg) : Cal P w K mg base CX0 2 "_law_below" (spBelow K) := by
  refine cal_of T.d__law_below T.g__law_below sc__law_below (fun kV doc pm an cdv ct us h => ?_) (fun vs H Q E h => ?_) fun cdv A outer s H vs Q E hr h => ?_
  · match us, h with
    | [_, _, _, _], _ => rfl
  · obtain ⟨q, p, ns, near, fr, least, rfl, hq, hp, hl, hh, hc, k⟩ := h; rfl
  obtain ⟨q, p, ns, near, fr, least, rfl, hq, hp, hl, hh, hc, k⟩ := h
  refine ⟨_, (pss_cons (ps_set (i := 4) sc__law_below.nd rfl (Or.inl rfl) (pe_cal (C__law_deals T) (hr.mono (by decide)) (pa_cons (pv 1) (pa_cons (pv 2) pa_nil))))
      (pss_one (ps_ret (pe_callB call_len_seq (by rfl) T.n_len (by decide +kernel) (pa_cons (pe_lc (own := [("_law_code", 5)]) (g := gName 5) (by rfl) sc__law_below.nd (pi_list (pv 4)) (blkOk_by (own := [("_law_code", 5)]) (N := N__law_below) (sc := defScope st__law_below) (by decide +kernel)) (fun _ _ _ _ _ => pg_name (i := 5) sc__law_below.nd rfl (Or.inl rfl)) (fun _ _ _ _ _ => pts_one (pt_cmpR op_lt (pe_ix (show IxR _ (rIxL K) from ix_list) (pv 0) (pv 5) (fun _ _ => rfl)) (pv 3) (nomark _))) (fun _ _ _ _ _ => (pv 5))) pa_nil))))), ?_⟩
  have l64 := p6 hl
  refine ⟨_, rfl, _, rfl, near, p, fr, rfl, hp, hl, hh, fun H1 d e1 hd0 hd => ⟨_, rfl, d, rfl, ⟨_, sqL hd⟩, fun D hD => ?_⟩⟩
  have ln : ((dLaw near fr).map vN).length < sizeLine := by rw [List.length_map, dLaw_len, sizeLine_eq]; omega
  refine lcW (wkL (sqL hd)) hD ln (fun j => decide (num ns ((dLaw near fr).getD j 0) < least)) (fun j => vN ((dLaw near fr).getD j 0)) (fun j x H2 Ry Rn hj e2 y ky kn => ?_) (fun i H x H' y => y.1) fun H2 e2 hl2 => ?_
  · obtain ⟨_, hx⟩ := y
    obtain ⟨hj', rfl⟩ := item_vN hx
    have cl := hc _ (List.getElem_mem hj')
    rw [getD_at hj'] at ky kn
    exact ⟨rfl, _, rfl, _, rfl, q, _, _, _, rfl, rfl, Same.seq (Same.trans e1 e2) hq, atI_nat (num_at cl), _, rfl, _, _, rfl, rfl, _, rfl, both (fun h => ⟨_, rfl, ky h _ (Same.refl _)⟩) fun h => kn h _ (Same.refl _)⟩
  · refine ⟨_, _, rfl, .inl (sqL hl2), ?_⟩
    have rf := congrArg List.length (range_filter (dLaw near fr) 0 (fun m => decide (num ns m < least)) vN)
    simp only [List.length_map] at rf ⊢
    rw [rf]
    exact k _ (Same.trans e1 e2)
end
end Wf

namespace Wf
open PySem PySem.Spec PyProof.Rows L2
theorem cnt_dOf {ns : List Int} {n near far : Nat} {least : Int} (S : Stand n near far) : cntL ns near (fOf n near far) least = bel ns n near far least := by
  unfold cntL bel
  rw [S.facts.1.law]
theorem cnt_lo {ns : List Int} {n near far h : Nat} {least : Int} (S : Stand n near far) (hh : h ∈ fOf n near far) : cntL ns (near + 2 ^ h) ((fOf n near far).filter fun x => x != h) least = bel ns n (near ||| 2 ^ h) far least := by
  have F := S.facts.2 h hh
  rw [← F.f1, ← F.add]
  exact cnt_dOf F.S1
theorem cnt_hi {ns : List Int} {n near far h : Nat} {least : Int} (S : Stand n near far) (hh : h ∈ fOf n near far) : cntL ns near ((fOf n near far).filter fun x => x != h) least = bel ns n near (far ||| 2 ^ h) least := by
  have F := S.facts.2 h hh
  rw [← F.f2]
  exact cnt_dOf F.S2
theorem dLaw_lt {n near far : Nat} (S : Stand n near far) : ∀ c ∈ dLaw near (fOf n near far), c < 2 ^ n := by
  rw [← S.facts.1.law]
  exact S.facts.1.dlt
theorem fOf_len {n near far : Nat} (S : Stand n near far) : (fOf n near far).length ≤ 6 := by
  have := S.facts.1.cnt
  have := S.n6
  omega
theorem Same.mod {H H' : Hp} {l : Addr} {o : HO} (e : Same H H') (h : H l = none) : Same H (upd H' l o) := fun b u q => by rw [upd_ne (ne_of_none q h)]; exact e b u q
section
variable {P : Program} {w : World} {K : PySem.W.Frag} {mg : Str → Option Value} {base : Heap}
def bidT (ns : List Int) (n near far : Nat) (least : Int) : Int := exT ((maxL (lost ns n near far least) - minL (hired ns n near far least) : Nat) : Int) ((2 ^ (fOf n near far).length : Nat) : Int)
def bidB (ns : List Int) (n near far : Nat) (least : Int) : Int := exB ((maxL (lost ns n near far least) - minL (hired ns n near far least) : Nat) : Int) ((2 ^ (fOf n near far).length : Nat) : Int)
def spBidDue (K : PySem.W.Frag) : Sp := fun vs H Q _ => ∃ (q p : Addr) (n near far : Nat) (ns : List Int) (least B : Int), vs = [.ref q, vN near, .ref p, .int least] ∧ SqL K H q (ns.map V.int) ∧ SqL K H p ((fOf n near far).map vN) ∧ Good n ns B ∧ Stand n near far ∧ fOf n near far ≠ [] ∧
  ∀ tp bt H', Same H H' → H' tp = some (.tup [vN (pickN ns n near far least), vN (pickF ns n near far least), bt]) → Pr H' bt (bidT ns n near far least) (bidB ns n near far least) → Q (.ref tp) H'
def N__law_bid_due : List Str := ["_law_numbers", "_law_near", "_law_free", "_law_least", "_law_lows", "_law_highs", "_law_h", "_law_left", "_law_x", "_law_bid"]
theorem sc__law_bid_due : FnScope N__law_bid_due ["_law_numbers", "_law_near", "_law_free", "_law_least"] (defScope st__law_bid_due) := ⟨rfl, rfl, rfl, by decide +kernel, rfl, by decide +kernel, by decide +kernel⟩
theorem C__law_bid_due (T : Txt K mg) : Cal P w K mg base CX0 3 "_law_bid_due" (spBidDue K) := by
  refine cal_of T.d__law_bid_due T.g__law_bid_due sc__law_bid_due (fun kV doc pm an cdv ct us h => ?_) (fun vs H Q E h => ?_) fun cdv A outer s H vs Q E hr h => ?_
  · match us, h with
    | [_, _, _, _], _ => rfl
  · obtain ⟨q, p, n, near, far, ns, least, B, rfl, hq, hp, G, S, hf, k⟩ := h; rfl
  obtain ⟨q, p, n, near, far, ns, least, B, rfl, hq, hp, G, S, hf, k⟩ := h
  refine ⟨_, (pss_cons (ps_set (i := 4) sc__law_bid_due.nd rfl (Or.inl rfl) (pe_lst pa_nil))
      (pss_cons (ps_set (i := 5) sc__law_bid_due.nd rfl (Or.inl rfl) (pe_lst pa_nil))
      (pss_cons (ps_for PassesOwn.never rfl (pi_list (pv 2)) (pg_name (i := 6) sc__law_bid_due.nd rfl (Or.inr rfl)) (pss_cons (ps_setLc (i := 7) (own := [("_law_x", 8)]) (g := gName 8) (by rfl) sc__law_bid_due.nd rfl rfl (sw_true rfl rfl rfl (by decide +kernel)) (pi_list (pv 2)) (blkOk_by (own := [("_law_x", 8)]) (N := N__law_bid_due) (sc := defScope st__law_bid_due) (by decide +kernel)) (fun _ _ _ _ _ => pg_name (i := 8) sc__law_bid_due.nd rfl (Or.inl rfl)) (fun _ _ _ _ _ => pts_one (pt_cmpR op_ne (pv 8) (pv 6) (nomark _))) (fun _ _ _ _ _ => (pv 8)))
      (pss_cons (ps_expr (pe_bm PySem.F.plainAttrs_list PySem.F.slot_list_append PySem.F.type_list_append mt_append (pv 4) (pa_cons (pe_cal (C__law_below T) (hr.mono (by decide)) (pa_cons (pv 0) (pa_cons (pe_op op_addN (pv 1) (pe_op op_shl1 pe_int (pv 6))) (pa_cons (pv 7) (pa_cons (pv 3) pa_nil))))) pa_nil)))
      (pss_one (ps_expr (pe_bm PySem.F.plainAttrs_list PySem.F.slot_list_append PySem.F.type_list_append mt_append (pv 5) (pa_cons (pe_cal (C__law_below T) (hr.mono (by decide)) (pa_cons (pv 0) (pa_cons (pv 1) (pa_cons (pv 7) (pa_cons (pv 3) pa_nil))))) pa_nil)))))))
      (pss_cons (ps_set (i := 9) sc__law_bid_due.nd rfl (Or.inl rfl) (pe_cal (C__law_reduced T) (hr.mono (by decide)) (pa_cons (pe_op op_sub (pe_callB (cr_max rfl) (by rfl) T.n_max (by decide +kernel) (pa_cons (pv 5) pa_nil)) (pe_callB (cr_min rfl) (by rfl) T.n_min (by decide +kernel) (pa_cons (pv 4) pa_nil))) (pa_cons (pe_op op_shl1 pe_int (pe_callB call_len_seq (by rfl) T.n_len (by decide +kernel) (pa_cons (pv 2) pa_nil))) pa_nil))))
      (pss_one (ps_ret (pe_tup (pa_cons (pe_ix ix_list (pv 2) (pe_bm PySem.F.plainAttrs_list PySem.F.slot_list_index PySem.F.type_list_index mt_index (pv 4) (pa_cons (pe_callB (cr_min rfl) (by rfl) T.n_min (by decide +kernel) (pa_cons (pv 4) pa_nil)) pa_nil)) (fun _ _ => rfl)) (pa_cons (pe_ix ix_list (pv 2) (pe_bm PySem.F.plainAttrs_list PySem.F.slot_list_index PySem.F.type_list_index mt_index (pv 5) (pa_cons (pe_callB (cr_max rfl) (by rfl) T.n_max (by decide +kernel) (pa_cons (pv 5) pa_nil)) pa_nil)) (fun _ _ => rfl)) (pa_cons (pv 9) pa_nil)))))))))), ?_⟩
  have gl := G.len
  have f6 := fOf_len S
  have hflt : ∀ h ∈ fOf n near far, h < n := fun h hh => (S.facts.2 h hh).lt
  have n6 := S.n6
  refine ⟨by show 0 ≤ sizeLine; decide, fun l4 hl4 => ⟨by show 0 ≤ sizeLine; decide, fun l5 hl5 => ⟨_, rfl, p, rfl, ⟨_, Same.seq (Same.up (Same.new hl4) hl5) hp⟩, ?_⟩⟩⟩
  have e0 : Same H (upd (upd H l4 (.lst [])) l5 (.lst [])) := Same.up (Same.new hl4) hl5
  have n45 : l4 ≠ l5 := fun z => by rw [← z, upd_same] at hl5; cases hl5
  refine for_it (wkL (H0 := H) hp) (fun i σ H' => Same H H' ∧ H' l4 = some (.lst ((((fOf n near far).take i).map fun h => bel ns n (near ||| 2 ^ h) far least).map vN)) ∧ H' l5 = some (.lst ((((fOf n near far).take i).map fun h => bel ns n near (far ||| 2 ^ h) least).map vN)) ∧
      σ[0]? = some (some (.ref q)) ∧ σ[1]? = some (some (vN near)) ∧ σ[2]? = some (some (.ref p)) ∧ σ[3]? = some (some (.int least)) ∧ σ[4]? = some (some (.ref l4)) ∧ σ[5]? = some (some (.ref l5)) ∧ σ.length = 10)
    ⟨e0, by rw [upd_ne n45, upd_same]; rfl, upd_same, rfl, rfl, rfl, rfl, rfl, rfl, rfl⟩ (fun i σ H' _ p => p.1) (fun i x σ H1 H' hi p' y => ?_) fun σ H' p' => ?_
  · obtain ⟨e, h4, h5, s0, s1, s2, s3, s4, s5, sl⟩ := p'
    obtain ⟨e', hx⟩ := y
    subst e'
    obtain ⟨hi', rfl⟩ := item_vN hx
    have hm := List.getElem_mem hi'
    generalize hh : (fOf n near far)[i] = h at *
    have HF := S.facts.2 h hm
    have t0 := slot_ne (i := 6) (v := some (vN h)) (by decide) s0
    have t1 := slot_ne (i := 6) (v := some (vN h)) (by decide) s1
    have t2 := slot_ne (i := 6) (v := some (vN h)) (by decide) s2
    have t3 := slot_ne (i := 6) (v := some (vN h)) (by decide) s3
    have t4 := slot_ne (i := 6) (v := some (vN h)) (by decide) s4
    have t5 := slot_ne (i := 6) (v := some (vN h)) (by decide) s5
    have t6 : (σ.set 6 (some (vN h)))[6]? = some (some (vN h)) := slot_at (by omega)
    have tl := slot_len (i := 6) (v := some (vN h)) sl
    refine ⟨_, t2, p, rfl, ⟨_, Same.seq e hp⟩, fun D hD => lcW (wkL (Same.seq e hp)) hD (by rw [List.length_map, sizeLine_eq]; omega) (fun j => (fOf n near far).getD j 0 != h) (fun j => vN ((fOf n near far).getD j 0)) (fun j x H2 Ry Rn hj e2 y ky kn => ?_) (fun i H x H' y => y.1) fun H2 e2 hl2 => ?_⟩
    · obtain ⟨_, hx⟩ := y
      obtain ⟨hj', rfl⟩ := item_vN hx
      rw [getD_at hj'] at ky kn
      refine ⟨wipe1 _ _ _, _, wipe_at (Nat.lt_of_lt_of_eq (by decide : 8 < 10) tl.symm), _, wipe_ne (by decide) t6, rfl, _, rfl, ?_⟩
      have eb : (!decide (vN (fOf n near far)[j] = vN h)) = ((fOf n near far)[j] != h) := by rw [vN_dec]; rfl
      rw [eb]
      exact both (fun h1 => ⟨_, wipe_at (Nat.lt_of_lt_of_eq (by decide : 8 < 10) tl.symm), ky h1 _ (Same.refl _)⟩) fun h1 => kn h1 _ (Same.refl _)
    · rw [List.length_map, range_filter (fOf n near far) 0 (fun x => x != h) vN] at hl2
      have u0 := slot_ne (i := 7) (v := some (.ref D)) (by decide) t0
      have u1 := slot_ne (i := 7) (v := some (.ref D)) (by decide) t1
      have u2 := slot_ne (i := 7) (v := some (.ref D)) (by decide) t2
      have u3 := slot_ne (i := 7) (v := some (.ref D)) (by decide) t3
      have u4 := slot_ne (i := 7) (v := some (.ref D)) (by decide) t4
      have u5 := slot_ne (i := 7) (v := some (.ref D)) (by decide) t5
      have u6 := slot_ne (i := 7) (v := some (.ref D)) (by decide) t6
      have u7 : ((σ.set 6 (some (vN h))).set 7 (some (.ref D)))[7]? = some (some (.ref D)) := slot_at (by omega)
      have ul := slot_len (i := 7) (v := some (.ref D)) tl
      have e02 := Same.trans e e2
      have h42 := e2 _ _ h4
      have h52 := e2 _ _ h5
      have lf : ((fOf n near far).filter fun x => x != h).length ≤ 6 := Nat.le_trans (List.length_filter_le _ _) f6
      have hf1 : ∀ x ∈ (fOf n near far).filter fun x => x != h, x ≤ 1000 := fun x hx => by have := hflt x (List.mem_filter.mp hx).1; omega
      have c1 : ∀ c ∈ dLaw (near + 2 ^ h) ((fOf n near far).filter fun x => x != h), c < ns.length := by
        rw [← HF.f1, ← HF.add, gl]; exact dLaw_lt HF.S1
      have c2 : ∀ c ∈ dLaw near ((fOf n near far).filter fun x => x != h), c < ns.length := by
        rw [← HF.f2, gl]; exact dLaw_lt HF.S2
      have ll : ∀ (f : Nat → Nat), ((((fOf n near far).take i).map f).map vN).length < sizeLine := fun f => by
        rw [List.length_map, List.length_map, sizeLine_eq]
        have := List.length_take_le i (fOf n near far)
        have := List.length_take_le' i (fOf n near far)
        omega
      have tk : ∀ f : Nat → Nat, (((fOf n near far).take (i + 1)).map f).map vN = ((((fOf n near far).take i).map f).map vN) ++ [vN (f h)] := fun f => by
        rw [List.take_add_one, List.getElem?_eq_getElem hi', hh, Option.toList_some, List.map_append, List.map_append]; rfl
      refine ⟨_, u4, .inl ⟨rfl, _, sqL h42⟩, _, u0, _, u1, _, u6, h, rfl, rfl, by have := HF.lt; omega, _, _, rfl, rfl, _, u7, _, u3, q, D, ns, near + 2 ^ h, _, least, rfl, Same.seq e02 hq, sqL hl2, lf, hf1, c1, fun H3 e3 => ?_⟩
      rw [cnt_lo S hm]
      refine ⟨l4, _, _, rfl, rfl, e3 _ _ h42, ll _, ?_⟩
      have hf4 : H l4 = none := hl4
      have hf5 : H l5 = none := Same.free (Same.new hl4) hl5
      have e03 := Same.mod (o := .lst ((((fOf n near far).take i).map fun h => bel ns n (near ||| 2 ^ h) far least).map vN ++ [vN (bel ns n (near ||| 2 ^ h) far least)])) (Same.trans e02 e3) hf4
      have h53 : (upd H3 l4 (.lst ((((fOf n near far).take i).map fun h => bel ns n (near ||| 2 ^ h) far least).map vN ++ [vN (bel ns n (near ||| 2 ^ h) far least)]))) l5 = _ := (upd_ne n45.symm).trans (e3 _ _ h52)
      have hD3 : (upd H3 l4 (.lst ((((fOf n near far).take i).map fun h => bel ns n (near ||| 2 ^ h) far least).map vN ++ [vN (bel ns n (near ||| 2 ^ h) far least)]))) D = _ := (upd_ne (fun z => by rw [z, h4] at hD; cases hD)).trans (e3 _ _ hl2)
      refine ⟨_, u5, .inl ⟨rfl, _, sqL h53⟩, _, u0, _, u1, _, u7, _, u3, q, D, ns, near, _, least, rfl, Same.seq e03 hq, sqL hD3, lf, hf1, c2, fun H4 e4 => ?_⟩
      rw [cnt_hi S hm]
      refine ⟨l5, _, _, rfl, rfl, e4 _ _ h53, ll _, Same.mod (Same.trans e03 e4) hf5, ?_, ?_, u0, u1, u2, u3, u4, u5, ul⟩
      · rw [upd_ne n45, e4 _ _ upd_same]
        exact congrArg (fun z => some (HO.lst z)) (tk fun h => bel ns n (near ||| 2 ^ h) far least).symm
      · rw [upd_same]
        exact congrArg (fun z => some (HO.lst z)) (tk fun h => bel ns n near (far ||| 2 ^ h) least).symm
  · obtain ⟨e, h4, h5, s0, s1, s2, s3, s4, s5, sl⟩ := p'
    rw [List.length_map, List.take_length] at h4 h5
    have hlD1 : H' l4 = some (.lst ((hired ns n near far least).map vN)) := h4
    have hlD2 : H' l5 = some (.lst ((lost ns n near far least).map vN)) := h5
    have pk := picks (least := least) G S hf
    have nl : 0 < (lost ns n near far least).length := by unfold lost; rw [List.length_map]; exact List.length_pos_iff.mpr hf
    have nh : 0 < (hired ns n near far least).length := by unfold hired; rw [List.length_map]; exact List.length_pos_iff.mpr hf
    refine ⟨_, s5, l5, (lost ns n near far least).map fun x : Nat => (x : Int), rfl, sqL (by rw [← map_vN]; exact hlD2), by rw [List.length_map]; exact nl, fun m1 hm1 hmax => ?_⟩
    have E1 := max_int hm1 hmax
    subst E1
    refine ⟨_, s4, l4, (hired ns n near far least).map fun x : Nat => (x : Int), rfl, sqL (by rw [← map_vN]; exact hlD1), by rw [List.length_map]; exact nh, fun m2 hm2 hmin => ?_⟩
    have E2 := min_int hm2 hmin
    subst E2
    refine ⟨_, _, rfl, rfl, _, s2, _, _, rfl, .inl (Same.seq e hp), (fOf n near far).length, rfl, by show V.int (((fOf n near far).map vN).length : Nat) = _; rw [List.length_map], by omega, ?_⟩
    have hsub : ((maxL (lost ns n near far least) : Nat) : Int) - ((minL (hired ns n near far least) : Nat) : Int) = ((maxL (lost ns n near far least) - minL (hired ns n near far least) : Nat) : Int) := by have := pk.2.2.2.2.1; omega
    have p64 := p6 f6
    have ppos : 0 < 2 ^ (fOf n near far).length := Nat.pow_pos (by decide)
    have mx : maxL (lost ns n near far least) ≤ 64 := by
      have : minL (hired ns n near far least) + maxL (lost ns n near far least) = bel ns n near far least := pk.2.2.2.1
      have := bel_le (ns := ns) (least := least) S
      omega
    refine ⟨_, _, rfl, by omega, by omega, by omega, fun r H6 e6 hr => ?_⟩
    rw [hsub] at hr
    have e16 := Same.trans e e6
    have hb1 := e6 _ _ hlD1
    have hb2 := e6 _ _ hlD2
    have fl1 : ∀ l : List Nat, (l.map vN).all flatV = true := fun l => by rw [List.all_map]; exact List.all_eq_true.mpr fun _ _ => rfl
    have fin : ∀ (L : List Nat) (m : Nat), m ∈ L → L.length = (fOf n near far).length → ((fOf n near far).map vN)[L.idxOf m]? = some (vN ((fOf n near far).getD (L.idxOf m) 0)) := fun L m hm hL => by
      have := List.idxOf_lt_length_of_mem hm
      rw [List.getElem?_map, List.getD_eq_getElem?_getD, List.getElem?_eq_getElem (by omega)]
      rfl
    have m1 : minL (hired ns n near far least) ∈ hired ns n near far least := minL_mem (List.ne_nil_of_length_pos nh)
    have m2 : maxL (lost ns n near far least) ∈ lost ns n near far least := maxL_mem (List.ne_nil_of_length_pos nl)
    have i1 := idx_at m1
    have i2 := idx_at m2
    have v2 := slot_ne (i := 9) (v := some r) (by decide) s2
    have v4 := slot_ne (i := 9) (v := some r) (by decide) s4
    have v5 := slot_ne (i := 9) (v := some r) (by decide) s5
    have v9 : (σ.set 9 (some r))[9]? = some (some r) := slot_at (by omega)
    refine ⟨_, v2, _, v4, .inl ⟨rfl, _, sqL hb1⟩, _, v4, l4, (hired ns n near far least).map fun x : Nat => (x : Int), rfl, sqL (by rw [← map_vN]; exact hb1), by rw [List.length_map]; exact nh, fun m3 hm3 hmin3 => ?_⟩
    have E3 := min_int hm3 hmin3
    subst E3
    refine ⟨l4, _, _, _, _, rfl, rfl, sqL hb1, rfl, fl1 _, i1.1, decide_eq_true rfl, i1.2, p, _, _, _, rfl, rfl, Same.seq e16 hp, atI_nat (fin _ _ m1 (by unfold hired; rw [List.length_map])), ?_⟩
    refine ⟨_, v2, _, v5, .inl ⟨rfl, _, sqL hb2⟩, _, v5, l5, (lost ns n near far least).map fun x : Nat => (x : Int), rfl, sqL (by rw [← map_vN]; exact hb2), by rw [List.length_map]; exact nl, fun m4 hm4 hmax4 => ?_⟩
    have E4 := max_int hm4 hmax4
    subst E4
    refine ⟨l5, _, _, _, _, rfl, rfl, sqL hb2, rfl, fl1 _, i2.1, decide_eq_true rfl, i2.2, p, _, _, _, rfl, rfl, Same.seq e16 hp, atI_nat (fin _ _ m2 (by unfold lost; rw [List.length_map])), _, v9, by show 3 ≤ sizeLine; decide, fun tp htp => ?_⟩
    exact k tp r _ (Same.up e16 htp) upd_same (hr.same (Same.new htp))
end
end Wf

namespace Wf
open PySem PySem.Spec PyProof.Rows L2
def tabD : List Int := [1000000, 1, 2, 3, 7, 64, 97]
theorem tabD_b : ∀ d < 7, 0 < num tabD d ∧ num tabD d ≤ 1000000 ∧ num tabD d ∣ 2037000000 := by
  intro d hd
  have : d = 0 ∨ d = 1 ∨ d = 2 ∨ d = 3 ∨ d = 4 ∨ d = 5 ∨ d = 6 := by omega
  rcases this with rfl | rfl | rfl | rfl | rfl | rfl | rfl <;> refine ⟨by decide, by decide, by decide⟩
theorem Keep.pr {H H' : Hp} {c q : Addr} {v : V} {t b : Int} (hd : Dg H c q) (k : Keep q H H') (h : Pr H v t b) : Pr H' v t b := by
  obtain ⟨cs, i, r, h1, h2, h3, h4⟩ := hd
  exact h.kept h3 k
theorem sm_of {x : Int} {n : Int} (h0 : 0 ≤ x) (h : x ≤ n) (hn : n < 2 ^ 60) : Sm x := by unfold Sm; omega
section
variable {P : Program} {w : World} {K : PySem.W.Frag} {mg : Str → Option Value} {base : Heap}
/-- a fair far bid -/
structure Bid (ct cb t b : Int) : Prop where
  low : Low t b
  nn : 0 ≤ t
  le : t * cb ≤ ct * b
  b6 : b ≤ 1000000
  dv : b ∣ 2037000000 ∨ b = cb
def spAny : Sp := fun vs H Q _ => ∃ (c q : Addr) (v u : V) (ct cb tt tb op : Int), vs = [.ref c, .ref q, v, u, .int op] ∧ Dg H c q ∧ Pr H v ct cb ∧ Pr H u tt tb ∧ Low ct cb ∧ Low tt tb ∧ 0 ≤ ct ∧ ct ≤ cb ∧ cb < 2 ^ 52 ∧ 0 ≤ tt ∧ tt ≤ 1000 ∧ tb ∣ 1000000 ∧
  ∀ r t b H', Keep q H H' → Dg H' c q → Pr H' r t b → Bid ct cb t b → Q r H'
def N__law_any_bid : List Str := ["_law_cells", "_law_box", "_law_coins", "_law_told", "_law_option", "_law_bottom", "_law_most", "_law_bid"]
theorem sc__law_any_bid : FnScope N__law_any_bid ["_law_cells", "_law_box", "_law_coins", "_law_told", "_law_option"] (defScope st__law_any_bid) := ⟨rfl, rfl, rfl, by decide +kernel, rfl, by decide +kernel, by decide +kernel⟩
theorem C__law_any_bid (T : Txt K mg) : Cal P w K mg base CX0 3 "_law_any_bid" spAny := by
  refine cal_of T.d__law_any_bid T.g__law_any_bid sc__law_any_bid (fun kV doc pm an cdv ct us h => ?_) (fun vs H Q E h => ?_) fun cdv A outer s H vs Q E hr h => ?_
  · match us, h with
    | [_, _, _, _, _], _ => rfl
  · obtain ⟨c, q, v, u, ct, cb, tt, tb, op, rfl, hd, hv, hu, lc, lt, ct0, ctb, cw, tt0, ttm, tdv, k⟩ := h; rfl
  obtain ⟨c, q, v, u, ct, cb, tt, tb, op, rfl, hd, hv, hu, lc, lt, ct0, ctb, cw, tt0, ttm, tdv, k⟩ := h
  refine ⟨_, (pss_cons (ps_if (pt_cmpR op_eq (pv 4) pe_int (nomark _)) (pss_cons (ps_set (i := 5) sc__law_any_bid.nd rfl (Or.inl rfl) (pe_ix ix_list (pe_lst (pa_cons (pe_op op_pow pe_int pe_int) (pa_cons pe_int (pa_cons pe_int (pa_cons pe_int (pa_cons pe_int (pa_cons pe_int (pa_cons pe_int pa_nil)))))))) (pe_cal (C__law_digit T) (hr.mono (by decide)) (pa_cons (pv 0) (pa_cons (pv 1) (pa_cons pe_int pa_nil)))) (fun _ _ => rfl)))
      (pss_cons (ps_set (i := 6) sc__law_any_bid.nd rfl (Or.inl rfl) (pe_op op_fdivW (pe_op op_mulW (pe_ix ix_tup (pv 2) pe_int (fun _ _ => rfl)) (pv 5)) (pe_ix ix_tup (pv 2) pe_int (fun _ _ => rfl))))
      (pss_one (ps_ret (pe_cal (C__law_reduced T) (hr.mono (by decide)) (pa_cons (pe_cal (C__law_digit T) (hr.mono (by decide)) (pa_cons (pv 0) (pa_cons (pv 1) (pa_cons (pe_op op_add (pv 6) pe_int) pa_nil)))) (pa_cons (pv 5) pa_nil))))))) pss_nil)
      (pss_cons (ps_if (PW.pt (pw_and (pt_cmpR op_eq (pv 4) pe_int (nomark _)) (pw_and1 (pt_val (pe_cal (C__law_no_more T) (hr.mono (by decide)) (pa_cons (pv 3) (pa_cons (pv 2) pa_nil))))))) (pss_one (ps_ret (pv 3))) pss_nil)
      (pss_cons (ps_set (i := 7) sc__law_any_bid.nd rfl (Or.inl rfl) (pe_cal (C__law_sum T) (hr.mono (by decide)) (pa_cons (pv 3) (pa_cons (pe_tup (pa_cons pe_int (pa_cons (pe_op op_pow pe_int pe_int) pa_nil))) (pa_cons pe_int pa_nil)))))
      (pss_cons (ps_if (PW.pt (pw_and (pt_cmpR op_eq (pv 4) pe_int (nomark _)) (pw_and1 (pt_val (pe_cal (C__law_no_more T) (hr.mono (by decide)) (pa_cons (pv 7) (pa_cons (pv 2) pa_nil))))))) (pss_one (ps_ret (pv 7))) pss_nil)
      (pss_cons (ps_if (pt_cmpR op_eq (pv 4) pe_int (nomark _)) (pss_one (ps_ret (pe_tup (pa_cons pe_int (pa_cons pe_int pa_nil))))) pss_nil)
      (pss_one (ps_ret (pe_cal (C__law_all_of T) (hr.mono (by decide)) (pa_cons (pv 2) pa_nil))))))))), ?_⟩
  have cp := lc.pos
  have tp := lt.pos
  have tb6 : tb ≤ 1000000 := Int.le_of_dvd (by decide) tdv
  have pw : CPow 10 6 := by unfold CPow; decide
  have sct : Sm ct := by unfold Sm; omega
  have scb : Sm cb := by unfold Sm; omega
  have stt : Sm tt := by unfold Sm; omega
  have stb : Sm tb := by unfold Sm; omega
  have hv0 := hv
  have hu0 := hu
  obtain ⟨va, rfl, hva⟩ := hv
  obtain ⟨ua, rfl, hua⟩ := hu
  refine ⟨_, rfl, rfl, _, rfl, both (fun h0 => ?_) fun h0 => ?_⟩
  · refine ⟨_, _, rfl, rfl, pw, by show 7 ≤ sizeLine; decide, fun l1 hl1 => ?_⟩
    have hd1 := hd.new (o := .lst (tabD.map V.int)) hl1
    refine ⟨_, rfl, _, rfl, c, q, 7, rfl, hd1, by decide, by decide, fun d H1 hdl kp hd2 => ?_⟩
    have kp1 : Keep q H H1 := ((Keep.refl H).new (o := .lst (tabD.map V.int)) hl1).trans kp
    obtain ⟨b1, b2, b3⟩ := tabD_b d hdl
    refine ⟨l1, _, _, _, rfl, rfl, sqL (kp _ _ (hd.ne hl1).1 upd_same), atI_nat (num_at (ns := tabD) hdl), ?_⟩
    generalize hbt : num tabD d = bt at *
    have hva1 : H1 va = some (.tup [.int ct, .int cb]) := by
      obtain ⟨a, e1, e2⟩ := Keep.pr hd kp1 hv0
      cases e1
      exact e2
    have m0 : 0 ≤ ct * bt / cb := Int.ediv_nonneg (Int.mul_nonneg ct0 (by omega)) (by omega)
    have m1 : ct * bt / cb ≤ bt := by
      refine Int.ediv_le_of_le_mul cp ?_
      rw [Int.mul_comm]
      exact Int.mul_le_mul_of_nonneg_left ctb (by omega)
    have m2 := Int.mul_ediv_self_le (x := ct * bt) (k := cb) (by omega)
    refine ⟨_, rfl, va, _, _, _, rfl, rfl, sqT hva1, rfl, _, rfl, _, _, rfl, rfl, wide_mul sct.nat (b := 20) (by omega) (by decide) (by decide) (by decide), _, rfl, va, _, _, _, rfl, rfl, sqT hva1, rfl, _, _, rfl, rfl, wide_div cp scb.nat (by decide) (by decide), ?_⟩
    obtain ⟨m, hm⟩ : ∃ m : Nat, ct * bt / cb + 1 = (m : Int) := ⟨(ct * bt / cb + 1).toNat, by omega⟩
    refine ⟨_, rfl, _, rfl, _, rfl, _, _, rfl, rfl, c, q, m, by show [V.ref c, V.ref q, V.int (ct * bt / cb + 1)] = _; rw [hm], hd2, by omega, Nat.lt_of_lt_of_le (by omega : m < 2 ^ 21) (by decide), fun d2 H2 hd2l kp2 hd3 => ?_⟩
    refine ⟨_, rfl, d2, bt, rfl, b1, by omega, Nat.lt_of_lt_of_le (by omega : (d2 : Int).natAbs < 2 ^ 21) (by decide), fun r H3 e3 hr => ?_⟩
    have low := ex_low (t := (d2 : Int)) b1
    refine k r _ _ H3 (kp1.trans (kp2.trans (Same.keep e3 q))) (hd3.same e3) hr ⟨low, exT_nonneg b1 (by omega), ?_, Int.le_trans (exB_le b1) b2, .inl (Int.dvd_trans exB_dvd_b b3)⟩
    refine (ex_le (t := (d2 : Int)) b1).mpr ?_
    have h1 : (d2 : Int) ≤ ct * bt / cb := by omega
    have h2 := Int.mul_le_mul_of_nonneg_right h1 (Int.le_of_lt cp)
    rw [Int.mul_comm] at m2
    omega
  · have k1000 : (1000000 : Int) ∣ 2037000000 := by decide
    refine ⟨_, rfl, rfl, _, rfl, both (fun h1 => ⟨_, rfl, _, rfl, .ref ua, .ref va, tt, tb, ct, cb, rfl, hu0, hv0, stt, stb, sct, scb, _, rfl, both (fun h2 => ?_) fun _ => ?_⟩) fun _ => no rfl ?_⟩
    · exact ⟨_, rfl, k _ tt tb _ (Keep.refl H) hd hu0 ⟨lt, tt0, of_decide_eq_true h2, tb6, .inl (Int.dvd_trans tdv k1000)⟩⟩
    all_goals
      refine ⟨_, rfl, _, _, rfl, rfl, pw, by show 2 ≤ sizeLine; decide, fun tp htp => ⟨.ref ua, .ref tp, tt, tb, 1, 1000000, 1, rfl, hu0.same (Same.new htp), ⟨tp, rfl, upd_same⟩, stt, stb, by unfold Sm; omega, by unfold Sm; omega, by unfold Sm; omega, lt.pos, by decide, by omega, fun r H1 e1 hr => ?_⟩⟩
      have e1' : Same H H1 := Same.trans (Same.new htp) e1
      have sp : 0 < tb * 1000000 := by omega
      have low := ex_low (t := tt * 1000000 + 1 * 1 * tb) sp
      have dv : (sum2 1 tt tb 1 1000000).2 ∣ 1000000 := sum_dvd (s := 1) lt.pos (by decide) tdv (Int.dvd_refl _)
      have bb : (sum2 1 tt tb 1 1000000).2 ≤ 1000000 := Int.le_of_dvd (by decide) dv
      have tn : 0 ≤ (sum2 1 tt tb 1 1000000).1 := exT_nonneg sp (by omega)
      have tm : (sum2 1 tt tb 1 1000000).1 ≤ tt * 1000000 + 1 * 1 * tb := exT_le (by omega)
      have low : Low (sum2 1 tt tb 1 1000000).1 (sum2 1 tt tb 1 1000000).2 := low
      have bp := low.pos
      generalize (sum2 1 tt tb 1 1000000).1 = t2 at *
      generalize (sum2 1 tt tb 1 1000000).2 = b2 at *
      have hv1 := hv0.same e1'
      have hva1 := e1' _ _ hva
      refine ⟨_, rfl, rfl, _, rfl, both (fun h1 => ⟨_, rfl, _, rfl, r, .ref va, t2, b2, ct, cb, rfl, hr, hv1, by unfold Sm; omega, by unfold Sm; omega, sct, scb, _, rfl, both (fun h2 => ?_) fun _ => ?_⟩) fun _ => no rfl ?_⟩
      · exact ⟨_, rfl, k _ t2 b2 _ (Same.keep e1' q) (hd.same e1') hr ⟨low, tn, of_decide_eq_true h2, bb, .inl (Int.dvd_trans dv k1000)⟩⟩
      all_goals
        refine ⟨_, rfl, rfl, _, rfl, both (fun h3 => ?_) fun h3 => ?_⟩
        · refine ⟨by show 2 ≤ sizeLine; decide, fun t9 ht9 => k _ 0 1 _ (Same.keep (Same.up e1' ht9) q) (hd.same (Same.up e1' ht9)) ⟨t9, rfl, upd_same⟩ ⟨⟨by decide, by decide⟩, by decide, by omega, by decide, .inl (by decide)⟩⟩
        · refine ⟨_, rfl, .ref va, ct, cb, rfl, hv1, lc, sct, scb, ct0, ctb, fun u t' b' H2 e2 hp l2 n2 le2 b62 dv2 => k _ t' b' _ (Same.keep (Same.trans e1' e2) q) (hd.same (Same.trans e1' e2)) hp ⟨l2, n2, le2, b62, ?_⟩⟩
          rcases dv2 with h | h
          · exact .inl (Int.dvd_trans h k1000)
          · exact .inr h.2
end
end Wf

namespace Wf
open PySem PySem.Spec PyProof.Rows L2
def tabE : List Int := [0, 1, -1]
theorem Dg.lst {H H' : Hp} {c q p : Addr} {xs : List V} (k : Keep q H H') (h : H p = some (.lst xs)) (hn : p ≠ q) : H' p = some (.lst xs) := k _ _ hn h
section
variable {P : Program} {w : World} {K : PySem.W.Frag} {mg : Str → Option Value} {base : Heap}
def spWished : Sp := fun vs H Q _ => ∃ (c q p f : Addr) (n : Nat) (ns : List Int), vs = [.ref c, .ref q, .ref p, .ref f] ∧ Dg H c q ∧ H p = some (.lst (ns.map V.int)) ∧ p ≠ q ∧ H f = some (.lst ((List.range n).map vN)) ∧ f ≠ q ∧ Good n ns 1000000000 ∧ 1 ≤ n ∧ n ≤ 6 ∧
  ∀ least H', Keep q H H' → Dg H' c q → -1000000000 ≤ least → least ≤ 1000000000 → bel ns n 0 0 least < 2 ^ n → Q (.int least) H'
def N__law_wished : List Str := ["_law_cells", "_law_box", "_law_numbers", "_law_free", "_law_full", "_law_code", "_law_least"]
theorem sc__law_wished : FnScope N__law_wished ["_law_cells", "_law_box", "_law_numbers", "_law_free"] (defScope st__law_wished) := ⟨rfl, rfl, rfl, by decide +kernel, rfl, by decide +kernel, by decide +kernel⟩
theorem C__law_wished (T : Txt K mg) : Cal P w K mg base CX0 3 "_law_wished" spWished := by
  refine cal_of T.d__law_wished T.g__law_wished sc__law_wished (fun kV doc pm an cdv ct us h => ?_) (fun vs H Q E h => ?_) fun cdv A outer s H vs Q E hr h => ?_
  · match us, h with
    | [_, _, _, _], _ => rfl
  · obtain ⟨c, q, p, f, n, ns, rfl, hd, hp, npq, hf, nfq, G, n1, n6, k⟩ := h; rfl
  obtain ⟨c, q, p, f, n, ns, rfl, hd, hp, npq, hf, nfq, G, n1, n6, k⟩ := h
  refine ⟨_, (pss_cons (ps_set (i := 4) sc__law_wished.nd rfl (Or.inl rfl) (pe_op op_sub (pe_callB call_len_seq (by rfl) T.n_len (by decide +kernel) (pa_cons (pv 2) pa_nil)) pe_int))
      (pss_cons (ps_set (i := 5) sc__law_wished.nd rfl (Or.inl rfl) (pe_op op_mod (pe_callTy call_int1 (by rfl) T.n_int (by decide +kernel) (pa_cons (pe_op op_add (pe_cal (C__law_digit T) (hr.mono (by decide)) (pa_cons (pv 0) (pa_cons (pv 1) (pa_cons (pe_op op_add (pv 4) pe_int) pa_nil)))) pe_int) pa_nil)) (pe_op op_add (pv 4) pe_int)))
      (pss_cons (ps_set (i := 6) sc__law_wished.nd rfl (Or.inl rfl) (pe_op op_add (pe_ix ix_list (pv 2) (pv 5) (fun _ _ => rfl)) (pe_ix ix_list (pe_lst (pa_cons pe_int (pa_cons pe_int (pa_cons (pe_un un_neg pe_int) pa_nil)))) (pe_cal (C__law_digit T) (hr.mono (by decide)) (pa_cons (pv 0) (pa_cons (pv 1) (pa_cons pe_int pa_nil)))) (fun _ _ => rfl))))
      (pss_cons (ps_set (i := 6) sc__law_wished.nd rfl (Or.inl rfl) (pe_callB (call_max2 rfl) (by rfl) T.n_max (by decide +kernel) (pa_cons (pe_un un_neg (pe_op op_pow pe_int pe_int)) (pa_cons (pe_callB (call_min2 rfl) (by rfl) T.n_min (by decide +kernel) (pa_cons (pe_op op_pow pe_int pe_int) (pa_cons (pv 6) pa_nil))) pa_nil))))
      (pss_cons (ps_if (pt_cmpR op_eq (pe_cal (C__law_below T) (hr.mono (by decide)) (pa_cons (pv 2) (pa_cons pe_int (pa_cons (pv 3) (pa_cons (pv 6) pa_nil))))) (pe_op op_add (pv 4) pe_int) (nomark _)) (pss_one (ps_set (i := 6) sc__law_wished.nd rfl (Or.inl rfl) (pe_ix ix_list (pv 2) (pv 4) (fun _ _ => rfl)))) pss_nil)
      (pss_one (ps_ret (pv 6)))))))), ?_⟩
  have gl := G.len
  have h64 := p6 n6
  have ppos : 0 < 2 ^ n := Nat.pow_pos (by decide)
  have S0 := stand0 n6
  have hfull : (((ns.map V.int).length : Nat) : Int) - 1 = ((2 ^ n - 1 : Nat) : Int) := by rw [List.length_map, gl]; omega
  have hfl1 : (((ns.map V.int).length : Nat) : Int) - 1 + 1 = ((2 ^ n : Nat) : Int) := by rw [List.length_map, gl]; omega
  refine ⟨_, rfl, _, _, rfl, .inl (sqL hp), _, _, rfl, rfl, ?_⟩
  refine ⟨_, rfl, _, rfl, _, rfl, _, _, rfl, rfl, c, q, 2 ^ n, by show [V.ref c, V.ref q, V.int ((((ns.map V.int).length : Nat) : Int) - 1 + 1)] = _; rw [hfl1], hd, ppos, Nat.lt_of_le_of_lt h64 (by decide), fun d H1 hdl kp1 hd1 => ?_⟩
  refine ⟨_, _, rfl, rfl, .inl ⟨_, rfl, _, rfl, _, _, rfl, rfl, _, _, rfl, rfl, by show (0 : Int) < (((ns.map V.int).length : Nat) : Int) - 1 + 1; rw [hfl1]; omega, ?_⟩⟩
  have c1 := Int.emod_nonneg ((d : Int) + 5) (b := ((2 ^ n : Nat) : Int)) (by omega)
  have c2 := Int.emod_lt_of_pos ((d : Int) + 5) (b := ((2 ^ n : Nat) : Int)) (by omega)
  obtain ⟨j, hj⟩ : ∃ j : Nat, ((d : Int) + 5) % ((((ns.map V.int).length : Nat) : Int) - 1 + 1) = (j : Int) := by rw [hfl1]; exact ⟨_, (Int.toNat_of_nonneg c1).symm⟩
  have jl : j < 2 ^ n := by rw [hfl1] at hj; omega
  have hp1 := kp1 _ _ npq hp
  have gj := G.lo j jl
  refine ⟨_, rfl, _, rfl, p, _, _, .int (num ns j), rfl, rfl, sqL hp1, ?_, ?_⟩
  · have := atI_nat (num_at (ns := ns) (m := j) (by omega))
    rw [← hj] at this
    exact this
  refine ⟨_, rfl, by show 3 ≤ sizeLine; decide, fun l1 hl1 => ?_⟩
  have hd2 := hd1.new (o := .lst (tabE.map V.int)) hl1
  have nl1 : l1 ≠ q := (hd1.ne hl1).1
  refine ⟨_, rfl, _, rfl, c, q, 3, rfl, hd2, by decide, by decide, fun d3 H3 hdl3 kp3 hd3 => ?_⟩
  have kp13 : Keep q H1 H3 := ((Keep.refl H1).new (o := .lst (tabE.map V.int)) hl1).trans kp3
  have kp03 := kp1.trans kp13
  have hp3 := kp03 _ _ npq hp
  have hf3 := kp03 _ _ nfq hf
  refine ⟨l1, _, _, _, rfl, rfl, sqL (kp3 _ _ nl1 upd_same), atI_nat (num_at (ns := tabE) hdl3), _, _, rfl, rfl, ?_⟩
  have pw : CPow 10 9 := by unfold CPow; decide
  have p9 : (10 : Int) ^ ((9 : Int).toNat) = 1000000000 := by decide
  refine ⟨_, _, rfl, rfl, pw, _, rfl, _, _, rfl, rfl, pw, _, rfl, _, _, rfl, _, _, rfl, ?_⟩
  have cl := cnt_dOf (ns := ns) (least := if (if num ns j + num tabE d3 < (10 : Int) ^ ((9 : Int).toNat) then num ns j + num tabE d3 else (10 : Int) ^ ((9 : Int).toNat)) > -((10 : Int) ^ ((9 : Int).toNat)) then (if num ns j + num tabE d3 < (10 : Int) ^ ((9 : Int).toNat) then num ns j + num tabE d3 else (10 : Int) ^ ((9 : Int).toNat)) else -((10 : Int) ^ ((9 : Int).toNat))) S0
  have Lb : -1000000000 ≤ (if (if num ns j + num tabE d3 < (10 : Int) ^ ((9 : Int).toNat) then num ns j + num tabE d3 else (10 : Int) ^ ((9 : Int).toNat)) > -((10 : Int) ^ ((9 : Int).toNat)) then (if num ns j + num tabE d3 < (10 : Int) ^ ((9 : Int).toNat) then num ns j + num tabE d3 else (10 : Int) ^ ((9 : Int).toNat)) else -((10 : Int) ^ ((9 : Int).toNat))) ∧
      (if (if num ns j + num tabE d3 < (10 : Int) ^ ((9 : Int).toNat) then num ns j + num tabE d3 else (10 : Int) ^ ((9 : Int).toNat)) > -((10 : Int) ^ ((9 : Int).toNat)) then (if num ns j + num tabE d3 < (10 : Int) ^ ((9 : Int).toNat) then num ns j + num tabE d3 else (10 : Int) ^ ((9 : Int).toNat)) else -((10 : Int) ^ ((9 : Int).toNat))) ≤ 1000000000 := by
    rw [p9]
    split <;> split <;> omega
  rw [fOf00 n (by omega)] at cl
  refine ⟨_, rfl, _, rfl, _, rfl, p, f, ns, 0, List.range n, _, rfl, sqL hp3, sqL hf3, by rw [List.length_range]; exact n6, fun h hh => by have := List.mem_range.mp hh; omega, ?_, fun H4 e4 => ?_⟩
  · have := dLaw_lt S0
    rw [fOf00 n (by omega)] at this
    rw [gl]; exact this
  rw [cl]
  have kp04 := kp03.trans (Same.keep e4 q)
  refine ⟨_, rfl, _, _, rfl, rfl, rfl, _, rfl, both (fun h => ?_) fun h => ?_⟩
  · refine ⟨_, rfl, _, rfl, p, _, _, .int (num ns (2 ^ n - 1)), rfl, rfl, sqL (e4 _ _ hp3), ?_, _, rfl, ?_⟩
    · have := atI_nat (num_at (ns := ns) (m := 2 ^ n - 1) (by omega))
      rw [← hfull] at this
      exact this
    · have b := G.lo (2 ^ n - 1) (by omega)
      exact k _ _ kp04 (hd3.same e4) b.1 b.2 (bel_top G)
  · refine ⟨_, rfl, k _ _ kp04 (hd3.same e4) Lb.1 Lb.2 ?_⟩
    have hb := bel_le (ns := ns) (least := (if (if num ns j + num tabE d3 < (10 : Int) ^ ((9 : Int).toNat) then num ns j + num tabE d3 else (10 : Int) ^ ((9 : Int).toNat)) > -((10 : Int) ^ ((9 : Int).toNat)) then (if num ns j + num tabE d3 < (10 : Int) ^ ((9 : Int).toNat) then num ns j + num tabE d3 else (10 : Int) ^ ((9 : Int).toNat)) else -((10 : Int) ^ ((9 : Int).toNat)))) S0
    rw [fOf00 n (by omega), List.length_range] at hb
    refine Nat.lt_of_le_of_ne hb fun z => ?_
    have h := of_decide_eq_false h
    refine h ?_
    show V.int _ = V.int ((((ns.map V.int).length : Nat) : Int) - 1 + 1)
    rw [hfl1, z]
end
end Wf

namespace Wf
open PySem PySem.Spec PyProof.Rows L2
section
variable {P : Program} {w : World} {K : PySem.W.Frag} {mg : Str → Option Value} {base : Heap}
structure Share (many parts : Nat) (t b : Int) : Prop where
  low : Low t b
  nn : 0 ≤ t
  le1 : t ≤ b
  b6 : b ≤ 1000000
  ge : (many : Int) * b ≤ t * (parts : Int)
theorem share_of {many parts : Nat} {t b : Int} (hb : 0 < b) (b6 : b ≤ 1000000) (h0 : 0 ≤ t) (h1 : t ≤ b) (h2 : (many : Int) * b ≤ t * (parts : Int)) : Share many parts (exT t b) (exB t b) := by
  refine ⟨ex_low hb, exT_nonneg hb h0, ?_, Int.le_trans (exB_le hb) b6, ?_⟩
  · have := (ex_le (t := t) (b := b) (x := 1) (y := 1) hb).mpr (by omega)
    omega
  · exact (le_ex (t := t) (b := b) hb).mpr h2
def spShare : Sp := fun vs H Q _ => ∃ (c q : Addr) (many parts : Nat), vs = [.ref c, .ref q, vN many, vN parts] ∧ Dg H c q ∧ many ≤ parts ∧ 0 < parts ∧ parts ≤ 64 ∧ ∀ r t b H', Keep q H H' → Dg H' c q → Pr H' r t b → Share many parts t b → Q r H'
def N__law_share : List Str := ["_law_cells", "_law_box", "_law_many", "_law_parts", "_law_kind", "_law_bottom", "_law_step", "_law_top"]
theorem sc__law_share : FnScope N__law_share ["_law_cells", "_law_box", "_law_many", "_law_parts"] (defScope st__law_share) := ⟨rfl, rfl, rfl, by decide +kernel, rfl, by decide +kernel, by decide +kernel⟩
theorem C__law_share (T : Txt K mg) : Cal P w K mg base CX0 2 "_law_share" spShare := by
  refine cal_of T.d__law_share T.g__law_share sc__law_share (fun kV doc pm an cdv ct us h => ?_) (fun vs H Q E h => ?_) fun cdv A outer s H vs Q E hr h => ?_
  · match us, h with
    | [_, _, _, _], _ => rfl
  · obtain ⟨c, q, many, parts, rfl, hd, hm, hp, hp64, k⟩ := h; rfl
  obtain ⟨c, q, many, parts, rfl, hd, hm, hp, hp64, k⟩ := h
  refine ⟨_, (pss_cons (ps_set (i := 4) sc__law_share.nd rfl (Or.inl rfl) (pe_cal (C__law_digit T) (hr.mono (by decide)) (pa_cons (pv 0) (pa_cons (pv 1) (pa_cons pe_int pa_nil)))))
      (pss_cons (ps_set (i := 5) sc__law_share.nd rfl (Or.inl rfl) (pe_op op_pow pe_int pe_int))
      (pss_cons (ps_if (pt_cmpR op_eq (pv 4) pe_int (nomark _)) (pss_one (ps_ret (pe_tup (pa_cons pe_int (pa_cons pe_int pa_nil))))) pss_nil)
      (pss_cons (ps_if (pt_cmpR op_eq (pv 4) pe_int (nomark _)) (pss_cons (ps_set (i := 6) sc__law_share.nd rfl (Or.inl rfl) (pe_cal (C__law_digit T) (hr.mono (by decide)) (pa_cons (pv 0) (pa_cons (pv 1) (pa_cons pe_int pa_nil)))))
      (pss_one (ps_ret (pe_cal (C__law_reduced T) (hr.mono (by decide)) (pa_cons (pe_op op_add (pe_op op_mul pe_int (pv 2)) (pe_op op_mul (pv 6) (pe_op op_sub (pv 3) (pv 2)))) (pa_cons (pe_op op_mul pe_int (pv 3)) pa_nil)))))) pss_nil)
      (pss_cons (ps_if (pt_cmpR op_eq (pv 4) pe_int (nomark _)) (pss_one (ps_set (i := 5) sc__law_share.nd rfl (Or.inl rfl) (pe_op op_add pe_int (pe_cal (C__law_digit T) (hr.mono (by decide)) (pa_cons (pv 0) (pa_cons (pv 1) (pa_cons pe_int pa_nil))))))) pss_nil)
      (pss_cons (ps_if (pt_cmpR op_ge (pv 4) pe_int (nomark _)) (pss_cons (ps_set (i := 7) sc__law_share.nd rfl (Or.inl rfl) (pe_un un_neg (pe_op op_fdivW (pe_op op_mul (pe_un un_neg (pv 2)) (pv 5)) (pv 3))))
      (pss_cons (ps_set (i := 7) sc__law_share.nd rfl (Or.inl rfl) (pe_op op_add (pv 7) (pe_cal (C__law_digit T) (hr.mono (by decide)) (pa_cons (pv 0) (pa_cons (pv 1) (pa_cons (pe_op op_add (pe_op op_sub (pv 5) (pv 7)) pe_int) pa_nil))))))
      (pss_one (ps_ret (pe_cal (C__law_reduced T) (hr.mono (by decide)) (pa_cons (pv 7) (pa_cons (pv 5) pa_nil))))))) pss_nil)
      (pss_one (ps_ret (pe_cal (C__law_reduced T) (hr.mono (by decide)) (pa_cons (pv 2) (pa_cons (pv 3) pa_nil))))))))))), ?_⟩
  have pw : CPow 10 6 := by unfold CPow; decide
  have p6 : (10 : Int) ^ ((6 : Int).toNat) = 1000000 := by decide
  refine ⟨_, rfl, _, rfl, c, q, 6, rfl, hd, by decide, by decide, fun d H1 hdl kp1 hd1 => ⟨_, _, rfl, rfl, pw, _, rfl, rfl, _, rfl, both (fun h2 => ?_) fun h2 => ⟨_, rfl, rfl, _, rfl, both (fun h3 => ?_) fun h3 => ⟨_, rfl, rfl, _, rfl, both (fun h4 => ?_) fun h4 => ?_⟩⟩⟩⟩
  · exact ⟨by show 2 ≤ sizeLine; decide, fun t9 ht9 => k _ 1 1 _ (kp1.trans (Same.keep (Same.new ht9) q)) (hd1.new ht9) ⟨t9, rfl, upd_same⟩ ⟨⟨by decide, by decide⟩, by decide, by decide, by decide, by omega⟩⟩
  · refine ⟨_, rfl, _, rfl, c, q, 9, rfl, hd1, by decide, by decide, fun st H2 hst kp2 hd2 => ?_⟩
    have hs0 : (0 : Int) ≤ (st : Int) * ((parts : Int) - (many : Int)) := Int.mul_nonneg (by omega) (by omega)
    have hs8 : (st : Int) * ((parts : Int) - (many : Int)) ≤ 8 * ((parts : Int) - (many : Int)) := Int.mul_le_mul_of_nonneg_right (by omega) (by omega)
    refine ⟨_, rfl, _, _, rfl, rfl, .inl ⟨by decide, by decide⟩, _, rfl, _, rfl, _, rfl, _, _, rfl, rfl, _, _, rfl, rfl, .inl ⟨by omega, by omega⟩, _, _, rfl, rfl, _, rfl, _, _, rfl, rfl, .inl ⟨by decide, by decide⟩,
      8 * (many : Int) + (st : Int) * ((parts : Int) - (many : Int)), 8 * (parts : Int), rfl, by omega, Nat.lt_of_lt_of_le (by omega : (8 * (parts : Int)).natAbs < 2 ^ 10) (by decide), Nat.lt_of_lt_of_le (by omega : (8 * (many : Int) + (st : Int) * ((parts : Int) - (many : Int))).natAbs < 2 ^ 20) (by decide), fun r H3 e3 hr => ?_⟩
    refine k r _ _ H3 (kp1.trans (kp2.trans (Same.keep e3 q))) (hd2.same e3) hr (share_of (by omega) (by omega) (by omega) (by omega) ?_)
    have h1 : 0 ≤ (st : Int) * ((parts : Int) - (many : Int)) * (parts : Int) := Int.mul_nonneg hs0 (by omega)
    rw [Int.add_mul]
    have h2 : (many : Int) * (8 * (parts : Int)) = 8 * (many : Int) * (parts : Int) := by rw [← Int.mul_assoc, Int.mul_comm (many : Int) 8]
    omega
  · refine ⟨_, rfl, _, rfl, c, q, 1000, rfl, hd1, by decide, by decide, fun d5 H2 hd5 kp2 hd2 => ⟨_, _, rfl, rfl, ?_⟩⟩
    have hb0 : 0 < ((1 : Int) + (d5 : Int)) := by omega
    have hb6 : ((1 : Int) + (d5 : Int)) ≤ 1000000 := by omega
    have sm0 : (-(many : Int)) * ((1 : Int) + (d5 : Int)) = -((many : Int) * ((1 : Int) + (d5 : Int))) := Int.neg_mul _ _
    have sx0 : 0 ≤ (many : Int) * ((1 : Int) + (d5 : Int)) := Int.mul_nonneg (by omega) (Int.le_of_lt hb0)
    have sx1 : (many : Int) * ((1 : Int) + (d5 : Int)) ≤ (parts : Int) * ((1 : Int) + (d5 : Int)) := Int.mul_le_mul_of_nonneg_right (by omega) (Int.le_of_lt hb0)
    have d1 := Int.mul_ediv_self_le (x := (-(many : Int)) * ((1 : Int) + (d5 : Int))) (k := (parts : Int)) (by omega)
    have d2 : -((1 : Int) + (d5 : Int)) ≤ (-(many : Int)) * ((1 : Int) + (d5 : Int)) / (parts : Int) := by
      refine Int.le_ediv_of_mul_le (by omega) ?_
      rw [Int.neg_mul, Int.neg_mul, Int.mul_comm ((1 : Int) + (d5 : Int))]
      omega
    have d3 : (-(many : Int)) * ((1 : Int) + (d5 : Int)) / (parts : Int) ≤ 0 := Int.ediv_le_of_le_mul (by omega) (by omega)
    obtain ⟨m, hmm⟩ : ∃ m : Nat, ((1 : Int) + (d5 : Int)) - -((-(many : Int)) * ((1 : Int) + (d5 : Int)) / (parts : Int)) + 1 = (m : Int) := ⟨(((1 : Int) + (d5 : Int)) - -((-(many : Int)) * ((1 : Int) + (d5 : Int)) / (parts : Int)) + 1).toNat, by omega⟩
    refine ⟨_, rfl, _, _, rfl, rfl, _, rfl, yes (decide_eq_true (by have := V.int.inj (of_decide_eq_true h4); omega)) ?_⟩
    refine ⟨_, rfl, _, rfl, _, rfl, _, _, rfl, rfl, .inl ⟨by omega, by omega⟩, _, rfl, _, _, rfl, rfl, wide_div (by omega) (b := 10) (by omega) (by decide) (by decide), _, rfl, ?_⟩
    refine ⟨_, rfl, _, rfl, _, rfl, _, rfl, _, rfl, _, _, rfl, rfl, _, _, rfl, rfl, c, q, m, by show [V.ref c, V.ref q, V.int (((1 : Int) + (d5 : Int)) - -((-(many : Int)) * ((1 : Int) + (d5 : Int)) / (parts : Int)) + 1)] = _; rw [hmm], hd2, by omega, Nat.lt_of_lt_of_le (by omega : m < 2 ^ 21) (by decide), fun d9 H3 hd9 kp3 hd3 => ?_⟩
    refine ⟨_, _, rfl, rfl, _, rfl, _, rfl, -((-(many : Int)) * ((1 : Int) + (d5 : Int)) / (parts : Int)) + (d9 : Int), ((1 : Int) + (d5 : Int)), rfl, hb0, Nat.lt_of_lt_of_le (by omega : ((1 : Int) + (d5 : Int)).natAbs < 2 ^ 21) (by decide), Nat.lt_of_lt_of_le (by omega : (-((-(many : Int)) * ((1 : Int) + (d5 : Int)) / (parts : Int)) + (d9 : Int)).natAbs < 2 ^ 22) (by decide), fun r H4 e4 hr => ?_⟩
    refine k r _ _ H4 ((kp1.trans kp2).trans (kp3.trans (Same.keep e4 q))) (hd3.same e4) hr (share_of hb0 hb6 (by omega) (by omega) ?_)
    generalize hcc : (-(many : Int)) * ((1 : Int) + (d5 : Int)) / (parts : Int) = cc at *
    have e1 : (-cc + (d9 : Int)) * (parts : Int) = -(cc * (parts : Int)) + (d9 : Int) * (parts : Int) := by rw [Int.add_mul, Int.neg_mul]
    have e2 : 0 ≤ (d9 : Int) * (parts : Int) := Int.mul_nonneg (by omega) (by omega)
    rw [Int.mul_comm] at d1
    omega
  · by_cases h5 : 4 ≤ d
    · have hlit : True := trivial
      have hb0 : 0 < ((10 : Int) ^ ((6 : Int).toNat)) := by rw [p6]; decide
      have hb6 : ((10 : Int) ^ ((6 : Int).toNat)) ≤ 1000000 := by rw [p6]; decide
      have sm0 : (-(many : Int)) * ((10 : Int) ^ ((6 : Int).toNat)) = -((many : Int) * ((10 : Int) ^ ((6 : Int).toNat))) := Int.neg_mul _ _
      have sx0 : 0 ≤ (many : Int) * ((10 : Int) ^ ((6 : Int).toNat)) := Int.mul_nonneg (by omega) (Int.le_of_lt hb0)
      have sx1 : (many : Int) * ((10 : Int) ^ ((6 : Int).toNat)) ≤ (parts : Int) * ((10 : Int) ^ ((6 : Int).toNat)) := Int.mul_le_mul_of_nonneg_right (by omega) (Int.le_of_lt hb0)
      have d1 := Int.mul_ediv_self_le (x := (-(many : Int)) * ((10 : Int) ^ ((6 : Int).toNat))) (k := (parts : Int)) (by omega)
      have d2 : -((10 : Int) ^ ((6 : Int).toNat)) ≤ (-(many : Int)) * ((10 : Int) ^ ((6 : Int).toNat)) / (parts : Int) := by
        refine Int.le_ediv_of_mul_le (by omega) ?_
        rw [Int.neg_mul, Int.neg_mul, Int.mul_comm ((10 : Int) ^ ((6 : Int).toNat))]
        omega
      have d3 : (-(many : Int)) * ((10 : Int) ^ ((6 : Int).toNat)) / (parts : Int) ≤ 0 := Int.ediv_le_of_le_mul (by omega) (by omega)
      obtain ⟨m, hmm⟩ : ∃ m : Nat, ((10 : Int) ^ ((6 : Int).toNat)) - -((-(many : Int)) * ((10 : Int) ^ ((6 : Int).toNat)) / (parts : Int)) + 1 = (m : Int) := ⟨(((10 : Int) ^ ((6 : Int).toNat)) - -((-(many : Int)) * ((10 : Int) ^ ((6 : Int).toNat)) / (parts : Int)) + 1).toNat, by omega⟩
      refine ⟨_, rfl, _, _, rfl, rfl, _, rfl, yes (decide_eq_true (by omega)) ?_⟩
      refine ⟨_, rfl, _, rfl, _, rfl, _, _, rfl, rfl, .inl ⟨by omega, by omega⟩, _, rfl, _, _, rfl, rfl, wide_div (by omega) (b := 10) (by omega) (by decide) (by decide), _, rfl, ?_⟩
      refine ⟨_, rfl, _, rfl, _, rfl, _, rfl, _, rfl, _, _, rfl, rfl, _, _, rfl, rfl, c, q, m, by show [V.ref c, V.ref q, V.int (((10 : Int) ^ ((6 : Int).toNat)) - -((-(many : Int)) * ((10 : Int) ^ ((6 : Int).toNat)) / (parts : Int)) + 1)] = _; rw [hmm], hd1, by omega, Nat.lt_of_lt_of_le (by omega : m < 2 ^ 21) (by decide), fun d9 H3 hd9 kp3 hd3 => ?_⟩
      refine ⟨_, _, rfl, rfl, _, rfl, _, rfl, -((-(many : Int)) * ((10 : Int) ^ ((6 : Int).toNat)) / (parts : Int)) + (d9 : Int), ((10 : Int) ^ ((6 : Int).toNat)), rfl, hb0, Nat.lt_of_lt_of_le (by omega : ((10 : Int) ^ ((6 : Int).toNat)).natAbs < 2 ^ 21) (by decide), Nat.lt_of_lt_of_le (by omega : (-((-(many : Int)) * ((10 : Int) ^ ((6 : Int).toNat)) / (parts : Int)) + (d9 : Int)).natAbs < 2 ^ 22) (by decide), fun r H4 e4 hr => ?_⟩
      refine k r _ _ H4 ((kp1).trans (kp3.trans (Same.keep e4 q))) (hd3.same e4) hr (share_of hb0 hb6 (by omega) (by omega) ?_)
      generalize hcc : (-(many : Int)) * ((10 : Int) ^ ((6 : Int).toNat)) / (parts : Int) = cc at *
      have e1 : (-cc + (d9 : Int)) * (parts : Int) = -(cc * (parts : Int)) + (d9 : Int) * (parts : Int) := by rw [Int.add_mul, Int.neg_mul]
      have e2 : 0 ≤ (d9 : Int) * (parts : Int) := Int.mul_nonneg (by omega) (by omega)
      rw [Int.mul_comm] at d1
      omega
    · refine ⟨_, rfl, _, _, rfl, rfl, _, rfl, no (decide_eq_false (by omega)) ⟨_, rfl, _, rfl, many, parts, rfl, by omega, Nat.lt_of_lt_of_le (by omega : (parts : Int).natAbs < 2 ^ 10) (by decide), Nat.lt_of_lt_of_le (by omega : (many : Int).natAbs < 2 ^ 10) (by decide), fun r H3 e3 hr => ?_⟩⟩
      exact k r _ _ H3 (kp1.trans (Same.keep e3 q)) (hd1.same e3) hr (share_of (by omega) (by omega) (by omega) (by omega) (Int.le_refl _))
end
end Wf

namespace Wf
open PySem PySem.Spec PyProof.Rows L2
/-- plain things, equal -/
def Eq0 (x y : V) : Prop := x = y ∧ ((x = .non) ∨ (∃ b, x = .bl b) ∨ (∃ i, x = .int i) ∨ ∃ z, x = .str z)
/-- equal, up to a depth -/
def Eqv : Nat → Hp → V → V → Prop
  | 0, _, x, y => Eq0 x y
  | d + 1, H, x, y => Eq0 x y ∨ ∃ (a b : Addr) (xs ys : List V), x = .ref a ∧ y = .ref b ∧ ((H a = some (.lst xs) ∧ H b = some (.lst ys)) ∨ (H a = some (.tup xs) ∧ H b = some (.tup ys))) ∧ xs.length = ys.length ∧ xs.length ≤ 1000 ∧ ∀ i (h1 : i < xs.length) (h2 : i < ys.length), Eqv d H xs[i] ys[i]
theorem Eqv.zero : ∀ {d : Nat} {H : Hp} {x y : V}, Eq0 x y → Eqv d H x y
  | 0, _, _, _, h => h
  | _ + 1, _, _, _, h => .inl h
theorem Eqv.same : ∀ {d : Nat} {H H' : Hp} {x y : V}, Same H H' → Eqv d H x y → Eqv d H' x y
  | 0, _, _, _, _, _, h => h
  | d + 1, H, H', x, y, e, h => by
    rcases h with h | ⟨a, b, xs, ys, h1, h2, h3, h4, h5, h6⟩
    · exact .inl h
    · exact .inr ⟨a, b, xs, ys, h1, h2, h3.imp (fun z => ⟨e _ _ z.1, e _ _ z.2⟩) (fun z => ⟨e _ _ z.1, e _ _ z.2⟩), h4, h5, fun i g1 g2 => (h6 i g1 g2).same e⟩
def spSame (d : Nat) : Sp := fun vs H Q _ => ∃ x y : V, vs = [x, y] ∧ Eqv d H x y ∧ ∀ H', Same H H' → Q (.bl true) H'
section
variable {P : Program} {w : World} {K : PySem.W.Frag} {mg : Str → Option Value} {base : Heap}
def N__law_same : List Str := ["_law_told", "_law_due", "_law_k"]
theorem sc__law_same : FnScope N__law_same ["_law_told", "_law_due"] (defScope st__law_same) := ⟨rfl, rfl, rfl, by decide +kernel, rfl, by decide +kernel, by decide +kernel⟩
theorem law_bind : ∀ (kV doc pm : Value) (an : Option Addr) (cdv ct : Value) (us : List Value), us.length = 2 → bindArgs (PySem.W.fnOf "_law_same" "_law_same" (defArgs st__law_same) (defBody st__law_same) (defScope st__law_same) .none kV doc pm an cdv ct) ⟨us, []⟩ = pure ((["_law_told", "_law_due"] : List Str).zip us) := fun kV doc pm an cdv ct us h =>
  match us, h with
  | [_, _], _ => rfl
theorem same_body {k j d : Nat} (T : Txt K mg) (hj : j ≤ k) (CC : 1 ≤ d → Cal P w K mg base CX0 j "_law_same" (spSame (d - 1))) : Cal P w K mg base CX0 (k + 1) "_law_same" (spSame d) := by
  refine cal_of T.d__law_same T.g__law_same sc__law_same law_bind (fun vs H Q E h => ?_) fun cdv A outer s H vs Q E hr h => ?_
  · obtain ⟨x, y, rfl, _⟩ := h; rfl
  obtain ⟨x, y, rfl, he, q⟩ := h
  have leaf : Eq0 x y → ∃ t, PSs (cxOf CX0 P w K mg base N__law_same "_law_same" (defScope st__law_same) 905 cdv A outer s H E).nox (defBody st__law_same) t ∧ t { nx := fun _ H' => Q .non H', rt := Q } (L2.start N__law_same [x, y]) H := by
    intro he
    obtain ⟨rfl, hx⟩ := he
    have q0 := q H (Same.refl H)
    refine ⟨_, (pss_cons (ps_if (pt_cmpR op_isN (pv 1) pe_non (nomark _)) (pss_one (ps_ret (pe_cmpR op_isN (pv 0) pe_non (nomark _)))) pss_nil)
      (pss_cons (ps_if (pt_val (pe_callB call_isi (by rfl) T.n_isinstance (by decide +kernel) (pa_cons (pv 1) (pa_cons (pe_bty (n := "bool") T.n_bool) pa_nil)))) (pss_one (ps_ret (pe_and (pe_callB call_isi (by rfl) T.n_isinstance (by decide +kernel) (pa_cons (pv 0) (pa_cons (pe_bty (n := "bool") T.n_bool) pa_nil))) (pe_one (pe_cmpR op_eq (pv 0) (pv 1) (nomark _)))))) pss_nil)
      (pss_cons (ps_if (pt_val (pe_callB call_isi (by rfl) T.n_isinstance (by decide +kernel) (pa_cons (pv 1) (pa_cons (pe_bty (n := "int") T.n_int) pa_nil)))) (pss_one (ps_ret (pe_and (pe_callB call_isi (by rfl) T.n_isinstance (by decide +kernel) (pa_cons (pv 0) (pa_cons (pe_bty (n := "int") T.n_int) pa_nil))) (pe_and (pe_not (pe_callB call_isi (by rfl) T.n_isinstance (by decide +kernel) (pa_cons (pv 0) (pa_cons (pe_bty (n := "bool") T.n_bool) pa_nil)))) (pe_one (pe_cmpR op_eq (pv 0) (pv 1) (nomark _))))))) pss_nil)
      (pss_cons (ps_if (pt_val (pe_callB call_isi (by rfl) T.n_isinstance (by decide +kernel) (pa_cons (pv 1) (pa_cons (pe_bty (n := "str") T.n_str) pa_nil)))) (pss_one (ps_ret (pe_and (pe_callB call_isi (by rfl) T.n_isinstance (by decide +kernel) (pa_cons (pv 0) (pa_cons (pe_bty (n := "str") T.n_str) pa_nil))) (pe_one (pe_cmpR op_eq (pv 0) (pv 1) (nomark _)))))) pss_nil)
      (pss_cons (ps_if (pt_cmpR op_ne (pe_callB call_isi (by rfl) T.n_isinstance (by decide +kernel) (pa_cons (pv 0) (pa_cons (pe_bty (n := "list") T.n_list) pa_nil))) (pe_callB call_isi (by rfl) T.n_isinstance (by decide +kernel) (pa_cons (pv 1) (pa_cons (pe_bty (n := "list") T.n_list) pa_nil))) (nomark _)) (pss_one (ps_ret pe_bl)) pss_nil)
      (pss_cons (ps_if (PW.pt (pw_or (pt_cmpR op_ne (pe_callB call_isi (by rfl) T.n_isinstance (by decide +kernel) (pa_cons (pv 0) (pa_cons (pe_bty (n := "tuple") T.n_tuple) pa_nil))) (pe_callB call_isi (by rfl) T.n_isinstance (by decide +kernel) (pa_cons (pv 1) (pa_cons (pe_bty (n := "tuple") T.n_tuple) pa_nil))) (nomark _)) (pw_or1 (pt_cmpR op_ne (pe_callB call_len_seq (by rfl) T.n_len (by decide +kernel) (pa_cons (pv 0) pa_nil)) (pe_callB call_len_seq (by rfl) T.n_len (by decide +kernel) (pa_cons (pv 1) pa_nil)) (nomark _))))) (pss_one (ps_ret pe_bl)) pss_nil)
      (pss_one ps_never))))))), ?_⟩
    rcases hx with rfl | ⟨b, rfl⟩ | ⟨i, rfl⟩ | ⟨z, rfl⟩
    · exact ⟨_, rfl, rfl, _, rfl, yes rfl ⟨_, rfl, rfl, q0⟩⟩
    · refine ⟨_, rfl, rfl, _, rfl, no rfl ⟨_, rfl, _, _, _, _, true, rfl, .ty _, .base (.bl _), kit_ty (by decide +kernel), _, rfl, yes rfl ⟨_, rfl, _, _, _, _, true, rfl, .ty _, .base (.bl _), kit_ty (by decide +kernel), _, rfl, yes rfl ⟨_, rfl, _, rfl, ?_⟩⟩⟩⟩
      cases b <;> exact ⟨rfl, q0⟩
    · refine ⟨_, rfl, rfl, _, rfl, no rfl ⟨_, rfl, _, _, _, _, false, rfl, .ty _, .base (.int _), kit_ty (by decide +kernel), _, rfl, no rfl ⟨_, rfl, _, _, _, _, true, rfl, .ty _, .base (.int _), kit_ty (by decide +kernel), _, rfl, yes rfl ⟨_, rfl, _, _, _, _, true, rfl, .ty _, .base (.int _), kit_ty (by decide +kernel), _, rfl, yes rfl ?_⟩⟩⟩⟩
      refine ⟨_, rfl, _, _, _, _, false, rfl, .ty _, .base (.int _), kit_ty (by decide +kernel), _, rfl, _, rfl, yes rfl ⟨_, rfl, _, rfl, rfl, ?_⟩⟩
      have e1 : decide (V.int i = V.int i) = true := decide_eq_true rfl
      rw [e1]
      exact q0
    · refine ⟨_, rfl, rfl, _, rfl, no rfl ⟨_, rfl, _, _, _, _, false, rfl, .ty _, .base (.str _), kit_ty (by decide +kernel), _, rfl, no rfl ⟨_, rfl, _, _, _, _, false, rfl, .ty _, .base (.str _), kit_ty (by decide +kernel), _, rfl, no rfl ⟨_, rfl, _, _, _, _, true, rfl, .ty _, .base (.str _), kit_ty (by decide +kernel), _, rfl, yes rfl ⟨_, rfl, _, _, _, _, true, rfl, .ty _, .base (.str _), kit_ty (by decide +kernel), _, rfl, yes rfl ⟨_, rfl, _, rfl, rfl, ?_⟩⟩⟩⟩⟩⟩
      have e1 : decide (V.str z = V.str z) = true := decide_eq_true rfl
      rw [e1]
      exact q0
  cases d with
  | zero => exact leaf he
  | succ d =>
    rcases he with he | ⟨a, b, xs, ys, rfl, rfl, hxy, hl, hl2, hi⟩
    · exact leaf he
    have C := CC (by omega)
    have hlen : ∀ {H' : Hp}, Same H H' → Sq K H' a xs ∧ Sq K H' b ys := fun e => by
      rcases hxy with ⟨h1, h2⟩ | ⟨h1, h2⟩
      · exact ⟨.inl (sqL (e _ _ h1)), .inl (sqL (e _ _ h2))⟩
      · exact ⟨.inr (sqT (e _ _ h1)), .inr (sqT (e _ _ h2))⟩
    have hix : ∀ {H' : Hp} (i : Nat) (Q' : VK), Same H H' → ∀ h1 : i < xs.length, Q' xs[i] H' → (rIxL K (.ref a) (.int i) H' Q' ∨ rIxT K (.ref a) (.int i) H' Q') := fun i Q' e h1 hq => by
      rcases hxy with ⟨h3, h4⟩ | ⟨h3, h4⟩
      · exact .inl ⟨a, _, _, _, rfl, rfl, sqL (e _ _ h3), atI_nat (List.getElem?_eq_getElem h1), hq⟩
      · exact .inr ⟨a, _, _, _, rfl, rfl, sqT (e _ _ h3), atI_nat (List.getElem?_eq_getElem h1), hq⟩
    have hiy : ∀ {H' : Hp} (i : Nat) (Q' : VK), Same H H' → ∀ h1 : i < ys.length, Q' ys[i] H' → (rIxL K (.ref b) (.int i) H' Q' ∨ rIxT K (.ref b) (.int i) H' Q') := fun i Q' e h1 hq => by
      rcases hxy with ⟨h3, h4⟩ | ⟨h3, h4⟩
      · exact .inl ⟨b, _, _, _, rfl, rfl, sqL (e _ _ h4), atI_nat (List.getElem?_eq_getElem h1), hq⟩
      · exact .inr ⟨b, _, _, _, rfl, rfl, sqT (e _ _ h4), atI_nat (List.getElem?_eq_getElem h1), hq⟩
    refine ⟨_, (pss_cons (ps_if (pt_cmpR op_isN (pv 1) pe_non (nomark _)) (pss_one (ps_ret (pe_cmpR op_isN (pv 0) pe_non (nomark _)))) pss_nil)
      (pss_cons (ps_if (pt_val (pe_callB call_isi (by rfl) T.n_isinstance (by decide +kernel) (pa_cons (pv 1) (pa_cons (pe_bty (n := "bool") T.n_bool) pa_nil)))) (pss_one (ps_ret (pe_and (pe_callB call_isi (by rfl) T.n_isinstance (by decide +kernel) (pa_cons (pv 0) (pa_cons (pe_bty (n := "bool") T.n_bool) pa_nil))) (pe_one (pe_cmpR op_eq (pv 0) (pv 1) (nomark _)))))) pss_nil)
      (pss_cons (ps_if (pt_val (pe_callB call_isi (by rfl) T.n_isinstance (by decide +kernel) (pa_cons (pv 1) (pa_cons (pe_bty (n := "int") T.n_int) pa_nil)))) (pss_one (ps_ret (pe_and (pe_callB call_isi (by rfl) T.n_isinstance (by decide +kernel) (pa_cons (pv 0) (pa_cons (pe_bty (n := "int") T.n_int) pa_nil))) (pe_and (pe_not (pe_callB call_isi (by rfl) T.n_isinstance (by decide +kernel) (pa_cons (pv 0) (pa_cons (pe_bty (n := "bool") T.n_bool) pa_nil)))) (pe_one (pe_cmpR op_eq (pv 0) (pv 1) (nomark _))))))) pss_nil)
      (pss_cons (ps_if (pt_val (pe_callB call_isi (by rfl) T.n_isinstance (by decide +kernel) (pa_cons (pv 1) (pa_cons (pe_bty (n := "str") T.n_str) pa_nil)))) (pss_one (ps_ret (pe_and (pe_callB call_isi (by rfl) T.n_isinstance (by decide +kernel) (pa_cons (pv 0) (pa_cons (pe_bty (n := "str") T.n_str) pa_nil))) (pe_one (pe_cmpR op_eq (pv 0) (pv 1) (nomark _)))))) pss_nil)
      (pss_cons (ps_if (pt_cmpR op_ne (pe_callB call_isi (by rfl) T.n_isinstance (by decide +kernel) (pa_cons (pv 0) (pa_cons (pe_bty (n := "list") T.n_list) pa_nil))) (pe_callB call_isi (by rfl) T.n_isinstance (by decide +kernel) (pa_cons (pv 1) (pa_cons (pe_bty (n := "list") T.n_list) pa_nil))) (nomark _)) (pss_one (ps_ret pe_bl)) pss_nil)
      (pss_cons (ps_if (PW.pt (pw_or (pt_cmpR op_ne (pe_callB call_isi (by rfl) T.n_isinstance (by decide +kernel) (pa_cons (pv 0) (pa_cons (pe_bty (n := "tuple") T.n_tuple) pa_nil))) (pe_callB call_isi (by rfl) T.n_isinstance (by decide +kernel) (pa_cons (pv 1) (pa_cons (pe_bty (n := "tuple") T.n_tuple) pa_nil))) (nomark _)) (pw_or1 (pt_cmpR op_ne (pe_callB call_len_seq (by rfl) T.n_len (by decide +kernel) (pa_cons (pv 0) pa_nil)) (pe_callB call_len_seq (by rfl) T.n_len (by decide +kernel) (pa_cons (pv 1) pa_nil)) (nomark _))))) (pss_one (ps_ret pe_bl)) pss_nil)
      (pss_one (ps_ret (pe_callB (cr_all rfl) (by rfl) T.n_all (by decide +kernel) (pa_cons (pe_lc (own := [("_law_k", 2)]) (g := gName 2) (by rfl) sc__law_same.nd (pi_range1 rfl T.n_range (pa_cons (pe_callB call_len_seq (by rfl) T.n_len (by decide +kernel) (pa_cons (pv 1) pa_nil)) pa_nil)) (blkOk_by (own := [("_law_k", 2)]) (N := N__law_same) (sc := defScope st__law_same) (by decide +kernel)) (fun _ _ _ _ _ => pg_name (i := 2) sc__law_same.nd rfl (Or.inl rfl)) (fun _ _ _ _ _ => pts_nil) (fun _ _ _ _ _ => (pe_cal C (hr.mono hj) (pa_cons (pe_ix ((show IxR _ (rIxL K) from ix_list).or (show IxR _ (rIxT K) from ix_tup)) (pv 0) (pv 2) (fun _ _ => rfl)) (pa_cons (pe_ix ((show IxR _ (rIxL K) from ix_list).or (show IxR _ (rIxT K) from ix_tup)) (pv 1) (pv 2) (fun _ _ => rfl)) pa_nil))))) pa_nil)))))))))), ?_⟩
    refine ⟨_, rfl, rfl, _, rfl, no rfl ?_⟩
    rcases hxy with ⟨h3, h4⟩ | ⟨h3, h4⟩
    · refine ⟨_, rfl, _, _, _, _, false, rfl, .ty _, .base (.lst h4), kit_ty (by decide +kernel), _, rfl, no rfl ⟨_, rfl, _, _, _, _, false, rfl, .ty _, .base (.lst h4), kit_ty (by decide +kernel), _, rfl, no rfl ⟨_, rfl, _, _, _, _, false, rfl, .ty _, .base (.lst h4), kit_ty (by decide +kernel), _, rfl, no rfl ?_⟩⟩⟩
      refine ⟨_, rfl, _, _, _, _, true, rfl, .ty _, .base (.lst h3), kit_ty (by decide +kernel), _, rfl, _, _, _, _, true, rfl, .ty _, .base (.lst h4), kit_ty (by decide +kernel), rfl, _, rfl, no rfl ?_⟩
      refine ⟨_, rfl, _, _, _, _, false, rfl, .ty _, .base (.lst h3), kit_ty (by decide +kernel), _, rfl, _, _, _, _, false, rfl, .ty _, .base (.lst h4), kit_ty (by decide +kernel), rfl, _, rfl, no rfl ?_⟩
      have L := hlen (Same.refl H)
      refine ⟨_, rfl, a, xs, rfl, L.1, _, rfl, b, ys, rfl, L.2, rfl, _, rfl, no (by rw [hl]; simp) ?_⟩
      refine ⟨_, rfl, b, ys, rfl, L.2, _, rfl, by omega, by omega, fun D hD => lcW wkR hD (by rw [sizeLine_eq]; omega) (fun _ => true) (fun _ => .bl true) (fun i x H3 Ry Rn hi3 e y ky kn => ?_) (fun i H x H' y => y.1) fun H3 e hl3 => ?_⟩
      · obtain ⟨_, rfl⟩ := y
        rw [Int.toNat_natCast] at hi3
        exact ⟨rfl, _, rfl, _, rfl, hix i _ e (by omega) ⟨_, rfl, _, rfl, hiy i _ e hi3 ⟨_, _, rfl, (hi i (by omega) hi3).same e, fun H5 e5 => ky rfl _ e5⟩⟩⟩
      · refine ⟨D, ((List.range ((ys.length : Nat) : Int).toNat).filter fun _ => true).map fun _ => true, rfl, sqL (by rw [hl3, List.map_map]; rfl), ?_⟩
        have e1 : (((List.range ((ys.length : Nat) : Int).toNat).filter fun _ => true).map fun _ => true).all id = true := by
          rw [List.all_map]; exact List.all_eq_true.mpr fun _ _ => rfl
        rw [e1]
        exact q _ e
    · refine ⟨_, rfl, _, _, _, _, false, rfl, .ty _, .base (.tup h4), kit_ty (by decide +kernel), _, rfl, no rfl ⟨_, rfl, _, _, _, _, false, rfl, .ty _, .base (.tup h4), kit_ty (by decide +kernel), _, rfl, no rfl ⟨_, rfl, _, _, _, _, false, rfl, .ty _, .base (.tup h4), kit_ty (by decide +kernel), _, rfl, no rfl ?_⟩⟩⟩
      refine ⟨_, rfl, _, _, _, _, false, rfl, .ty _, .base (.tup h3), kit_ty (by decide +kernel), _, rfl, _, _, _, _, false, rfl, .ty _, .base (.tup h4), kit_ty (by decide +kernel), rfl, _, rfl, no rfl ?_⟩
      refine ⟨_, rfl, _, _, _, _, true, rfl, .ty _, .base (.tup h3), kit_ty (by decide +kernel), _, rfl, _, _, _, _, true, rfl, .ty _, .base (.tup h4), kit_ty (by decide +kernel), rfl, _, rfl, no rfl ?_⟩
      have L := hlen (Same.refl H)
      refine ⟨_, rfl, a, xs, rfl, L.1, _, rfl, b, ys, rfl, L.2, rfl, _, rfl, no (by rw [hl]; simp) ?_⟩
      refine ⟨_, rfl, b, ys, rfl, L.2, _, rfl, by omega, by omega, fun D hD => lcW wkR hD (by rw [sizeLine_eq]; omega) (fun _ => true) (fun _ => .bl true) (fun i x H3 Ry Rn hi3 e y ky kn => ?_) (fun i H x H' y => y.1) fun H3 e hl3 => ?_⟩
      · obtain ⟨_, rfl⟩ := y
        rw [Int.toNat_natCast] at hi3
        exact ⟨rfl, _, rfl, _, rfl, hix i _ e (by omega) ⟨_, rfl, _, rfl, hiy i _ e hi3 ⟨_, _, rfl, (hi i (by omega) hi3).same e, fun H5 e5 => ky rfl _ e5⟩⟩⟩
      · refine ⟨D, ((List.range ((ys.length : Nat) : Int).toNat).filter fun _ => true).map fun _ => true, rfl, sqL (by rw [hl3, List.map_map]; rfl), ?_⟩
        have e1 : (((List.range ((ys.length : Nat) : Int).toNat).filter fun _ => true).map fun _ => true).all id = true := by
          rw [List.all_map]; exact List.all_eq_true.mpr fun _ _ => rfl
        rw [e1]
        exact q _ e
theorem C__law_same (T : Txt K mg) : Cal P w K mg base CX0 4 "_law_same" (spSame 2) := by
  have c0 : Cal P w K mg base CX0 1 "_law_same" (spSame 0) := same_body (j := 0) (d := 0) T (Nat.le_refl _) fun z => absurd z (by decide)
  have c1 : Cal P w K mg base CX0 2 "_law_same" (spSame 1) := same_body (d := 1) T (Nat.le_refl 1) fun _ => c0
  exact same_body (d := 2) (k := 3) T (by decide) fun _ => c1
end
end Wf

namespace Wf
open PySem PySem.Spec PyProof.Rows L2
/-! ### sides compared with [] -/
abbrev dI (l : List Nat) : List PyData := l.map fun n : Nat => PyData.int (n : Int)
theorem dp_all {K : PySem.W.Frag} {H : Hp} : ∀ l : List Nat, DpAll K H (l.map vN) (dI l)
  | [] => .nil
  | a :: r => .cons (.int _) (dp_all r)
theorem sh_all : ∀ l : List Nat, PyData.canLayAll0 (dI l) = true ∧ PyData.depthAll (dI l) = 0
  | [] => ⟨rfl, rfl⟩
  | a :: r => by
    obtain ⟨h1, h2⟩ := sh_all r
    constructor
    · show (PyData.canLay0 _ && PyData.canLayAll0 (dI r)) = true
      rw [h1]; rfl
    · show max _ (PyData.depthAll (dI r)) = 0
      rw [h2]; rfl
theorem sh_lst (l : List Nat) : SeqAt.shaped (.list (dI l)) = true := by
  obtain ⟨h1, h2⟩ := sh_all l
  unfold SeqAt.shaped
  have e1 : PyData.canLay0 (.list (dI l)) = true := h1
  have e2 : PyData.depth (.list (dI l)) = 1 := by show PyData.depthAll (dI l) + 1 = 1; rw [h2]
  rw [e1, e2]; rfl
theorem eqv_nil (l : List Nat) : PyData.eqv (.list (dI l)) (.list (dI [])) = l.isEmpty := by
  cases l <;> rfl
theorem sum_hOf : ∀ m < 64, ((hOf m).map fun h => ((2 ^ h : Nat) : Int)).sum = ((m : Nat) : Int) := by decide +kernel
theorem eqv_ints {H : Hp} {a b : Addr} {d : Nat} {l : List Nat} (h1 : H a = some (.tup (l.map vN))) (h2 : H b = some (.tup (l.map vN))) (hl : l.length ≤ 1000) : Eqv (d + 1) H (.ref a) (.ref b) :=
  .inr ⟨a, b, _, _, rfl, rfl, .inr ⟨h1, h2⟩, rfl, by rw [List.length_map]; exact hl, fun i g1 g2 => Eqv.zero ⟨rfl, .inr (.inr (.inl ⟨_, by rw [List.getElem_map]⟩))⟩⟩
theorem eqv_pr {H : Hp} {v u : V} {d : Nat} {t b : Int} (h1 : Pr H v t b) (h2 : Pr H u t b) : Eqv (d + 1) H v u := by
  obtain ⟨a, rfl, h1⟩ := h1
  obtain ⟨c, rfl, h2⟩ := h2
  refine .inr ⟨a, c, _, _, rfl, rfl, .inr ⟨h1, h2⟩, rfl, by show 2 ≤ 1000; decide, fun i g1 g2 => ?_⟩
  match i, g1 with
  | 0, _ => exact Eqv.zero ⟨rfl, .inr (.inr (.inl ⟨_, rfl⟩))⟩
  | 1, _ => exact Eqv.zero ⟨rfl, .inr (.inr (.inl ⟨_, rfl⟩))⟩
theorem hOf_len (m : Nat) : (hOf m).length ≤ 6 := by
  have := List.length_filter_le (fun h => m.testBit h) (List.range 6)
  rw [List.length_range] at this
  exact this
/-- the law's book of sides -/
def Sides (H : Hp) (sd : Addr) (n near far : Nat) : Prop := ∃ f0 f1 f2 : Addr, H sd = some (.lst [.ref f0, .ref f1, .ref f2]) ∧ H f0 = some (.lst ((fOf n near far).map vN)) ∧ H f1 = some (.lst ((hOf near).map vN)) ∧ H f2 = some (.lst ((hOf far).map vN))
theorem Sides.same {H H' : Hp} {sd : Addr} {n near far : Nat} (e : Same H H') (h : Sides H sd n near far) : Sides H' sd n near far := by
  obtain ⟨f0, f1, f2, h1, h2, h3, h4⟩ := h
  exact ⟨f0, f1, f2, e _ _ h1, e _ _ h2, e _ _ h3, e _ _ h4⟩
section
variable {P : Program} {w : World} {K : PySem.W.Frag} {mg : Str → Option Value} {base : Heap}
def spState (K : PySem.W.Frag) : Sp := fun vs H Q _ => ∃ (a p sd sc : Addr) (v : V) (n near far k : Nat) (ns : List Int) (t b : Int), vs = [.ref a, .ref p, .ref sd, v] ∧ Auc H a sc n ns near far t b k ∧ Stand n near far ∧ SqL K H p (ns.map V.int) ∧ Sides H sd n near far ∧ k = (hOf near).length + (hOf far).length ∧ Pr H v t b ∧
  ∀ H', Same H H' → Q (.bl true) H'
def N__law_state_right : List Str := ["_law_auction", "_law_numbers", "_law_sides", "_law_purse", "_law_due", "_law_h"]
theorem sc__law_state_right : FnScope N__law_state_right ["_law_auction", "_law_numbers", "_law_sides", "_law_purse"] (defScope st__law_state_right) := ⟨rfl, rfl, rfl, by decide +kernel, rfl, by decide +kernel, by decide +kernel⟩
theorem C__law_state_right (T : Txt K mg) : Cal P w K mg base CX0 7 "_law_state_right" (spState K) := by
  refine cal_of T.d__law_state_right T.g__law_state_right sc__law_state_right (fun kV doc pm an cdv ct us h => ?_) (fun vs H Q E h => ?_) fun cdv A outer s H vs Q E hr h => ?_
  · match us, h with
    | [_, _, _, _], _ => rfl
  · obtain ⟨a, p, sd, sc, v, n, near, far, k, ns, t, b, rfl, ha, S, hp, hs, hk, hv, q⟩ := h; rfl
  obtain ⟨a, p, sd, sc, v, n, near, far, k, ns, t, b, rfl, ha, S, hp, hs, hk, hv, q⟩ := h
  refine ⟨_, (pss_cons (ps_if (pt_not (pt_val (pe_cal (C__law_same T) (hr.mono (by decide)) (pa_cons (pe_pr (pv 0) (hr.mono (by decide)) (P_near T)) (pa_cons (pe_callTy call_tuple_of (by rfl) T.n_tuple (by decide +kernel) (pa_cons (pe_ix ix_list (pv 2) pe_int (fun _ _ => rfl)) pa_nil)) pa_nil))))) (pss_one (ps_ret pe_bl)) pss_nil)
      (pss_cons (ps_if (pt_not (pt_val (pe_cal (C__law_same T) (hr.mono (by decide)) (pa_cons (pe_pr (pv 0) (hr.mono (by decide)) (P_far T)) (pa_cons (pe_callTy call_tuple_of (by rfl) T.n_tuple (by decide +kernel) (pa_cons (pe_ix ix_list (pv 2) pe_int (fun _ _ => rfl)) pa_nil)) pa_nil))))) (pss_one (ps_ret pe_bl)) pss_nil)
      (pss_cons (ps_if (pt_not (pt_val (pe_cal (C__law_same T) (hr.mono (by decide)) (pa_cons (pe_pr (pv 0) (hr.mono (by decide)) (P_free T)) (pa_cons (pe_callTy call_tuple_of (by rfl) T.n_tuple (by decide +kernel) (pa_cons (pe_ix ix_list (pv 2) pe_int (fun _ _ => rfl)) pa_nil)) pa_nil))))) (pss_one (ps_ret pe_bl)) pss_nil)
      (pss_cons (ps_set (i := 4) sc__law_state_right.nd rfl (Or.inl rfl) pe_non)
      (pss_cons (ps_if (pt_cmpR (op_eqD hr.units) (pe_ix ix_list (pv 2) pe_int (fun _ _ => rfl)) (pe_lst pa_nil) (nomark _)) (pss_one (ps_set (i := 4) sc__law_state_right.nd rfl (Or.inl rfl) (pe_ix ix_list (pv 1) (pe_callB (cr_sum rfl) (by rfl) T.n_sum (by decide +kernel) (pa_cons (pe_lc (own := [("_law_h", 5)]) (g := gName 5) (by rfl) sc__law_state_right.nd (pi_list (pe_ix ix_list (pv 2) pe_int (fun _ _ => rfl))) (blkOk_by (own := [("_law_h", 5)]) (N := N__law_state_right) (sc := defScope st__law_state_right) (by decide +kernel)) (fun _ _ _ _ _ => pg_name (i := 5) sc__law_state_right.nd rfl (Or.inl rfl)) (fun _ _ _ _ _ => pts_nil) (fun _ _ _ _ _ => (pe_op op_shl1 pe_int (pv 5)))) pa_nil)) (fun _ _ => rfl)))) pss_nil)
      (pss_cons (ps_if (pt_not (pt_val (pe_cal (C__law_same T) (hr.mono (by decide)) (pa_cons (pe_pr (pv 0) (hr.mono (by decide)) (P_result T)) (pa_cons (pv 4) pa_nil))))) (pss_one (ps_ret pe_bl)) pss_nil)
      (pss_cons (ps_if (pt_not (pt_val (pe_cal (C__law_same T) (hr.mono (by decide)) (pa_cons (pe_pr (pv 0) (hr.mono (by decide)) (P_deeds T)) (pa_cons (pe_op op_add (pe_callB call_len_seq (by rfl) T.n_len (by decide +kernel) (pa_cons (pe_ix ix_list (pv 2) pe_int (fun _ _ => rfl)) pa_nil)) (pe_callB call_len_seq (by rfl) T.n_len (by decide +kernel) (pa_cons (pe_ix ix_list (pv 2) pe_int (fun _ _ => rfl)) pa_nil))) pa_nil))))) (pss_one (ps_ret pe_bl)) pss_nil)
      (pss_one (ps_ret (pe_cal (C__law_same T) (hr.mono (by decide)) (pa_cons (pe_cal (C__law_pair T) (hr.mono (by decide)) (pa_cons (pe_pr (pv 0) (hr.mono (by decide)) (P_purse T)) pa_nil)) (pa_cons (pv 3) pa_nil)))))))))))), ?_⟩
  obtain ⟨dx, st, pa, fu, hA⟩ : ∃ dx st pa fu, H a = some (AuO dx st pa fu sc) := by
    obtain ⟨_, dx, st, pa, fu, pv, xs, h, _⟩ := ha
    exact ⟨dx, st, pa, fu, h⟩
  obtain ⟨f0, f1, f2, hsd, hf0, hf1, hf2⟩ := hs
  have l0 := fOf_len S
  have l1 := hOf_len near
  have l2 := hOf_len far
  have nsl : ns.length = 2 ^ n := by obtain ⟨⟨_, _, _, _, _, _, _, h, _⟩, _⟩ := ha; exact h
  refine ⟨_, rfl, a, dx, _, rfl, hA, a, sc, n, ns, near, far, t, b, k, rfl, ha, S, fun H1 p1 e1 hp1 hl1 => ?_⟩
  refine ⟨_, rfl, sd, _, _, _, rfl, rfl, sqL (e1 _ _ hsd), rfl, f1, _, rfl, .inl ⟨sqL (e1 _ _ hf1), fun t1 ht1 => ?_⟩⟩
  have g1 := Same.up (o := .tup ((hOf near).map vN)) e1 ht1
  refine ⟨_, _, rfl, eqv_ints (l := hOf near) ((Same.new ht1) _ _ hl1) upd_same (by omega), fun H2 e2 => ⟨_, rfl, no rfl ?_⟩⟩
  have g2 := Same.trans g1 e2
  refine ⟨_, rfl, a, dx, _, rfl, g2 _ _ hA, a, sc, n, ns, near, far, t, b, k, rfl, ha.same g2, S, fun H3 p3 e3 hp3 hl3 => ?_⟩
  have g3 := Same.trans g2 e3
  refine ⟨_, rfl, sd, _, _, _, rfl, rfl, sqL (g3 _ _ hsd), rfl, f2, _, rfl, .inl ⟨sqL (g3 _ _ hf2), fun t3 ht3 => ?_⟩⟩
  have g4 := Same.up (o := .tup ((hOf far).map vN)) g3 ht3
  refine ⟨_, _, rfl, eqv_ints (l := hOf far) ((Same.new ht3) _ _ hl3) upd_same (by omega), fun H5 e5 => ⟨_, rfl, no rfl ?_⟩⟩
  have g5 := Same.trans g4 e5
  refine ⟨_, rfl, a, dx, _, rfl, g5 _ _ hA, a, sc, n, ns, near, far, t, b, k, rfl, ha.same g5, S, fun H6 p6 e6 hp6 hl6 => ?_⟩
  have g6 := Same.trans g5 e6
  refine ⟨_, rfl, sd, _, _, _, rfl, rfl, sqL (g6 _ _ hsd), rfl, f0, _, rfl, .inl ⟨sqL (g6 _ _ hf0), fun t6 ht6 => ?_⟩⟩
  have g7 := Same.up (o := .tup ((fOf n near far).map vN)) g6 ht6
  refine ⟨_, _, rfl, eqv_ints (l := fOf n near far) ((Same.new ht6) _ _ hl6) upd_same (by omega), fun H8 e8 => ⟨_, rfl, no rfl ?_⟩⟩
  have g8 := Same.trans g7 e8
  refine ⟨_, rfl, sd, _, _, _, rfl, rfl, sqL (g8 _ _ hsd), rfl, by show 0 ≤ sizeLine; decide, fun l9 hl9 => ⟨.list (dI (fOf n near far)), .list (dI []), .lst (sqL ((Same.new hl9) _ _ (g8 _ _ hf0))) (dp_all _), .lst (sqL upd_same) .nil, sh_lst _, sh_lst [], ?_⟩⟩
  have g9 := Same.up (o := .lst []) g8 hl9
  rw [eqv_nil]
  refine ⟨_, rfl, both (fun hc => ?_) fun hc => ?_⟩
  · have hf : fOf n near far = [] := List.isEmpty_iff.mp hc
    refine ⟨_, rfl, _, rfl, sd, _, _, _, rfl, rfl, sqL (g9 _ _ hsd), rfl, f1, rfl, ⟨_, sqL (g9 _ _ hf1)⟩, fun D hD => lcW (wkL (sqL (g9 _ _ hf1))) hD (by rw [List.length_map, sizeLine_eq]; omega) (fun _ => true) (fun i => vN (2 ^ (hOf near).getD i 0)) (fun i x H3 Ry Rn hi3 e y ky kn => ?_) (fun i H x H' y => y.1) fun H10 e10 hl10 => ?_⟩
    · obtain ⟨_, hx⟩ := y
      obtain ⟨hi', rfl⟩ := item_vN hx
      rw [getD_at hi'] at ky
      exact ⟨rfl, _, rfl, _, rfl, rfl, by have := hOf_lt (List.getElem_mem hi'); omega, ky rfl _ (Same.refl _)⟩
    rw [List.length_map, range_map (hOf near) 0 (fun h => vN (2 ^ h))] at hl10
    have GG := Same.trans g9 e10
    refine ⟨D, (hOf near).map fun h => ((2 ^ h : Nat) : Int), rfl, sqL (by rw [hl10, List.map_map]; rfl), ?_⟩
    rw [sum_hOf near (st64 S.nn S.n6)]
    refine ⟨p, _, _, .int (num ns near), rfl, rfl, Same.seq GG hp, atI_nat (num_at (by have := S.nn; omega)), ?_⟩
    have EQ0 : Eq0 (resV n ns near far) (.int (num ns near)) := by unfold resV; rw [if_pos hf]; exact ⟨rfl, .inr (.inr (.inl ⟨_, rfl⟩))⟩
    refine ⟨_, rfl, a, dx, _, rfl, GG _ _ hA, a, sc, n, ns, near, far, t, b, k, rfl, ha.same GG, S, fun H10 e10 => ⟨_, rfl, _, _, rfl, Eqv.zero EQ0, fun H11 e11 => ⟨_, rfl, no rfl ?_⟩⟩⟩
    have g11 := Same.trans GG (Same.trans e10 e11)
    refine ⟨_, rfl, a, dx, _, rfl, g11 _ _ hA, a, sc, n, ns, near, far, t, b, k, rfl, ha.same g11, ?_⟩
    refine ⟨_, rfl, sd, _, _, _, rfl, rfl, sqL (g11 _ _ hsd), rfl, f1, _, rfl, .inl (sqL (g11 _ _ hf1)), _, rfl, sd, _, _, _, rfl, rfl, sqL (g11 _ _ hsd), rfl, f2, _, rfl, .inl (sqL (g11 _ _ hf2)), _, _, rfl, rfl, _, _, rfl, Eqv.zero ⟨?_, .inr (.inr (.inl ⟨_, rfl⟩))⟩, fun H12 e12 => ⟨_, rfl, no rfl ?_⟩⟩
    · rw [hk]
      show V.int _ = V.int _
      rw [List.length_map, List.length_map]
      rfl
    have g12 := Same.trans g11 e12
    exact ⟨_, rfl, a, dx, _, rfl, g12 _ _ hA, a, sc, n, ns, near, far, t, b, k, rfl, ha.same g12, fun v' hv' => ⟨v', t, b, rfl, hv', fun u H13 e13 hu => ⟨_, rfl, _, _, rfl, eqv_pr hu (hv.same (Same.trans g12 e13)), fun H14 e14 => q _ (Same.trans g12 (Same.trans e13 e14))⟩⟩⟩
  · have hf : fOf n near far ≠ [] := fun z => by rw [z] at hc; cases hc
    have GG := g9
    have EQ0 : Eq0 (resV n ns near far) .non := by unfold resV; rw [if_neg hf]; exact ⟨rfl, .inl rfl⟩
    refine ⟨_, rfl, a, dx, _, rfl, GG _ _ hA, a, sc, n, ns, near, far, t, b, k, rfl, ha.same GG, S, fun H10 e10 => ⟨_, rfl, _, _, rfl, Eqv.zero EQ0, fun H11 e11 => ⟨_, rfl, no rfl ?_⟩⟩⟩
    have g11 := Same.trans GG (Same.trans e10 e11)
    refine ⟨_, rfl, a, dx, _, rfl, g11 _ _ hA, a, sc, n, ns, near, far, t, b, k, rfl, ha.same g11, ?_⟩
    refine ⟨_, rfl, sd, _, _, _, rfl, rfl, sqL (g11 _ _ hsd), rfl, f1, _, rfl, .inl (sqL (g11 _ _ hf1)), _, rfl, sd, _, _, _, rfl, rfl, sqL (g11 _ _ hsd), rfl, f2, _, rfl, .inl (sqL (g11 _ _ hf2)), _, _, rfl, rfl, _, _, rfl, Eqv.zero ⟨?_, .inr (.inr (.inl ⟨_, rfl⟩))⟩, fun H12 e12 => ⟨_, rfl, no rfl ?_⟩⟩
    · rw [hk]
      show V.int _ = V.int _
      rw [List.length_map, List.length_map]
      rfl
    have g12 := Same.trans g11 e12
    exact ⟨_, rfl, a, dx, _, rfl, g12 _ _ hA, a, sc, n, ns, near, far, t, b, k, rfl, ha.same g12, fun v' hv' => ⟨v', t, b, rfl, hv', fun u H13 e13 hu => ⟨_, rfl, _, _, rfl, eqv_pr hu (hv.same (Same.trans g12 e13)), fun H14 e14 => q _ (Same.trans g12 (Same.trans e13 e14))⟩⟩⟩
end
end Wf

namespace Wf
open PySem PySem.Spec PyProof.Rows L2
theorem Lot.rev {n m : Nat} {l : List Nat} (L : Lot n m l) (e : mOf l.reverse = m) : Lot n m l.reverse := ⟨fun h hh => L.lt h (List.mem_reverse.mp hh), List.pairwise_reverse.mpr (L.nd.imp fun h => h.symm), e⟩
theorem call_isG {X : Cx} {a D : Addr} {cls : Value} {d : Option Addr} {oe : Obj} {pn : List (Addr × Obj)} (C : ExcC X.K D) (hz : Zc cls d oe) (hf : ∃ vs, oe.data = .fields vs) :
    CallR (X.suite a ((a, oe) :: pn)) (.builtin "isinstance") (fun xs H Q => cls = .ref D ∧ d = none ∧ rIsE X.K D a xs H Q) := by
  intro pins s σ H xs us Q I r h
  obtain ⟨rfl, rfl, h⟩ := h
  exact call_isE C hz hf pins s σ H xs us Q I r h
section
variable {P : Program} {w : World} {K : PySem.W.Frag} {mg : Str → Option Value} {base : Heap}
def spEnded : Sp := fun vs H Q _ => ∃ (a sc : Addr) (h : Int) (n near far k : Nat) (ns : List Int) (t b : Int), vs = [.ref a, .int h] ∧ (∃ h' : Nat, h = (h' : Int)) ∧ Auc H a sc n ns near far t b k ∧ Stand n near far ∧ fOf n near far = [] ∧ k < 900 ∧
  ∀ tp lp H', Same H H' → H' tp = some (.tup [.str "refused", .ref lp]) → H' lp = some (.lst [.bl true, .bl false]) → Q (.ref tp) H'
def N__law_ended : List Str := ["_law_auction", "_law_hand", "e"]
theorem sc__law_ended : FnScope N__law_ended ["_law_auction", "_law_hand"] (defScope st__law_ended) := ⟨rfl, rfl, rfl, by decide +kernel, rfl, by decide +kernel, by decide +kernel⟩
theorem C__law_ended (T : Txt K mg) : Cal P w K mg base CX0 8 "_law_ended" spEnded := by
  refine cal_of T.d__law_ended T.g__law_ended sc__law_ended (fun kV doc pm an cdv ct us h => ?_) (fun vs H Q E h => ?_) fun cdv A outer s H vs Q E hr h => ?_
  · match us, h with
    | [_, _], _ => rfl
  · obtain ⟨a, sc, h, n, near, far, k, ns, t, b, rfl, _⟩ := h; rfl
  obtain ⟨a, sc, h, n, near, far, k, ns, t, b, rfl, ⟨h', rfl⟩, ha, S, hf, k9, q⟩ := h
  refine ⟨_, pss_one (ps_try_as (i := 2) (tb := fun W => tRet (tTup (tCons (tC (.str "told")) (tCons (tMcS cA "bidding" spBid (WE W) (tVar 0) (tCons (tVar 1) (tCons (tC (.int 0)) (tCons (tVar 1) (tCons (tC (.int 0)) tNil))))) tNil)))) rfl rfl sc__law_ended.nd rfl rfl ⟨rfl, by decide, .inl T.m_WhoseforkError⟩ takes0
    (fun W pn xe tk _ => pss_one (ps_ret (pe_tup (pa_cons pe_str (pa_cons (pe_mcS (M_bidding T) tk (pv 0) (hr.mono (by decide)) (pa_cons (pv 1) (pa_cons pe_int (pa_cons (pv 1) (pa_cons pe_int pa_nil))))) pa_nil)))))
    (fun x oe cls d pn hz hf => pss_one (ps_ret (pe_tup (pa_cons pe_str (pa_cons (pe_lst (pa_cons (pe_callB (call_isG T.exC hz hf) (by rfl) T.n_isinstance (by decide +kernel) (pa_cons (pv 2) (pa_cons (pe_gref T.m_Ended) pa_nil))) (pa_cons (pe_callB (call_isG T.exC hz hf) (by rfl) T.n_isinstance (by decide +kernel) (pa_cons (pv 2) (pa_cons (pe_gref T.m_NoneFree) pa_nil))) pa_nil))) pa_nil)))))), ?_⟩
  obtain ⟨dx, st, pa, fu, hA⟩ : ∃ dx st pa fu, H a = some (AuO dx st pa fu sc) := by
    obtain ⟨_, dx, st, pa, fu, pv, xs, h, _⟩ := ha
    exact ⟨dx, st, pa, fu, h⟩
  refine ⟨_, rfl, a, dx, _, rfl, hA, rfl, _, rfl, _, rfl, a, sc, n, ns, near, far, t, b, k, h', h', _, _, rfl, ha, S, k9, .inl ⟨hf, fun H1 e1 => ⟨true, T.exM, fun _ x hx => ?_, fun z => nomatch z⟩⟩⟩
  exact ⟨_, rfl, rfl, rfl, .ref cE, .ref cE, true, rfl, (fun _ r => r), T.kEE, _, rfl, rfl, rfl, .ref cN, .ref cN, false, rfl, (fun _ r => r), T.kEN, by show 2 ≤ sizeLine; decide, fun lp hlp => ⟨by show 2 ≤ sizeLine; decide, fun tp htp => q tp lp _ (Same.up (Same.up e1 hlp) htp) upd_same ((Same.new htp) _ _ upd_same)⟩⟩
theorem eqv_told {H : Hp} {t1 t2 : Addr} {x : Nat} {u v : V} {t b : Int} (h1 : H t1 = some (.tup [vN x, u])) (h2 : H t2 = some (.tup [vN x, v])) (hu : Pr H u t b) (hv : Pr H v t b) : Eqv 2 H (.ref t1) (.ref t2) := by
  refine .inr ⟨t1, t2, _, _, rfl, rfl, .inr ⟨h1, h2⟩, rfl, by show 2 ≤ 1000; decide, fun i g1 g2 => ?_⟩
  match i, g1 with
  | 0, _ => exact Eqv.zero ⟨rfl, .inr (.inr (.inl ⟨_, rfl⟩))⟩
  | 1, _ => exact eqv_pr hu hv
def spToldR (K : PySem.W.Frag) : Sp := fun vs H Q _ => ∃ (sc p sd due : Addr) (bt : V) (n near far : Nat) (ns : List Int) (least turn B : Int), vs = [.ref sc, .ref p, .ref sd, .int least, .ref due, .int turn] ∧ Sc H sc n ns ∧ Stand n near far ∧ Good n ns B ∧ Sides H sd n near far ∧ fOf n near far ≠ [] ∧
  -1000000000 ≤ least ∧ least ≤ 1000000000 ∧ H due = some (.tup [vN (pickN ns n near far least), vN (pickF ns n near far least), bt]) ∧ Pr H bt (bidT ns n near far least) (bidB ns n near far least) ∧ ∀ H', Same H H' → Q (.bl true) H'
def N__law_told_right : List Str := ["_law_scale", "_law_numbers", "_law_sides", "_law_least", "_law_due", "_law_turn", "_law_near", "_law_far", "_law_told"]
theorem sc__law_told_right : FnScope N__law_told_right ["_law_scale", "_law_numbers", "_law_sides", "_law_least", "_law_due", "_law_turn"] (defScope st__law_told_right) := ⟨rfl, rfl, rfl, by decide +kernel, rfl, by decide +kernel, by decide +kernel⟩
theorem C__law_told_right (T : Txt K mg) : Cal P w K mg base CX0 7 "_law_told_right" (spToldR K) := by
  refine cal_of T.d__law_told_right T.g__law_told_right sc__law_told_right (fun kV doc pm an cdv ct us h => ?_) (fun vs H Q E h => ?_) fun cdv A outer s H vs Q E hr h => ?_
  · match us, h with
    | [_, _, _, _, _, _], _ => rfl
  · obtain ⟨sc, p, sd, due, bt, n, near, far, ns, least, turn, B, rfl, hsc, S, G, hs, hf, lo, hi, hdue, hbt, q⟩ := h; rfl
  obtain ⟨sc, p, sd, due, bt, n, near, far, ns, least, turn, B, rfl, hsc, S, G, hs, hf, lo, hi, hdue, hbt, q⟩ := h
  refine ⟨_, (pss_cons (ps_set (i := 6) sc__law_told_right.nd rfl (Or.inl rfl) (pe_callTy call_list_of (by rfl) T.n_list (by decide +kernel) (pa_cons (pe_ix ix_list (pv 2) pe_int (fun _ _ => rfl)) pa_nil)))
      (pss_cons (ps_set (i := 7) sc__law_told_right.nd rfl (Or.inl rfl) (pe_callTy call_list_of (by rfl) T.n_list (by decide +kernel) (pa_cons (pe_ix ix_list (pv 2) pe_int (fun _ _ => rfl)) pa_nil)))
      (pss_cons (ps_if (pt_cmpR op_eq (pv 5) pe_int (nomark _)) (pss_cons (ps_expr (pe_bm0 PySem.F.plainAttrs_list PySem.F.slot_list_reverse PySem.F.type_list_reverse mt_reverse (pv 6)))
      (pss_one (ps_expr (pe_bm0 PySem.F.plainAttrs_list PySem.F.slot_list_reverse PySem.F.type_list_reverse mt_reverse (pv 7))))) pss_nil)
      (pss_cons (ps_set (i := 8) sc__law_told_right.nd rfl (Or.inl rfl) (pe_cal (C_told_bid T) (hr.mono (by decide)) (pa_cons (pv 0) (pa_cons (pv 6) (pa_cons (pe_callTy call_tuple_of (by rfl) T.n_tuple (by decide +kernel) (pa_cons (pv 7) pa_nil)) (pa_cons (pv 3) (pa_cons pe_str pa_nil)))))))
      (pss_cons (ps_if (PW.pt (pw_or (pt_not (pt_val (pe_callB call_isi (by rfl) T.n_isinstance (by decide +kernel) (pa_cons (pv 8) (pa_cons (pe_bty (n := "tuple") T.n_tuple) pa_nil))))) (pw_or1 (pt_cmpR op_ne (pe_callB call_len_seq (by rfl) T.n_len (by decide +kernel) (pa_cons (pv 8) pa_nil)) pe_int (nomark _))))) (pss_one (ps_ret pe_bl)) pss_nil)
      (pss_cons (ps_if (pt_not (pt_val (pe_cal (C__law_same T) (hr.mono (by decide)) (pa_cons (pe_tup (pa_cons (pe_ix ix_tup (pv 8) pe_int (fun _ _ => rfl)) (pa_cons (pe_cal (C__law_pair T) (hr.mono (by decide)) (pa_cons (pe_ix ix_tup (pv 8) pe_int (fun _ _ => rfl)) pa_nil)) pa_nil))) (pa_cons (pe_tup (pa_cons (pe_ix ix_tup (pv 4) pe_int (fun _ _ => rfl)) (pa_cons (pe_ix ix_tup (pv 4) pe_int (fun _ _ => rfl)) pa_nil))) pa_nil))))) (pss_one (ps_ret pe_bl)) pss_nil)
      (pss_cons (ps_set (i := 8) sc__law_told_right.nd rfl (Or.inl rfl) (pe_cal (C_told_bid T) (hr.mono (by decide)) (pa_cons (pv 0) (pa_cons (pe_callTy call_tuple_of (by rfl) T.n_tuple (by decide +kernel) (pa_cons (pv 6) pa_nil)) (pa_cons (pv 7) (pa_cons (pv 3) (pa_cons pe_str pa_nil)))))))
      (pss_cons (ps_if (PW.pt (pw_or (pt_not (pt_val (pe_callB call_isi (by rfl) T.n_isinstance (by decide +kernel) (pa_cons (pv 8) (pa_cons (pe_bty (n := "tuple") T.n_tuple) pa_nil))))) (pw_or1 (pt_cmpR op_ne (pe_callB call_len_seq (by rfl) T.n_len (by decide +kernel) (pa_cons (pv 8) pa_nil)) pe_int (nomark _))))) (pss_one (ps_ret pe_bl)) pss_nil)
      (pss_one (ps_ret (pe_cal (C__law_same T) (hr.mono (by decide)) (pa_cons (pe_tup (pa_cons (pe_ix ix_tup (pv 8) pe_int (fun _ _ => rfl)) (pa_cons (pe_cal (C__law_pair T) (hr.mono (by decide)) (pa_cons (pe_ix ix_tup (pv 8) pe_int (fun _ _ => rfl)) pa_nil)) pa_nil))) (pa_cons (pe_tup (pa_cons (pe_ix ix_tup (pv 4) pe_int (fun _ _ => rfl)) (pa_cons (pe_ix ix_tup (pv 4) pe_int (fun _ _ => rfl)) pa_nil))) pa_nil))))))))))))), ?_⟩
  obtain ⟨f0, f1, f2, hsd, hf0, hf1, hf2⟩ := hs
  have L1 := lot_h S
  have L2' := lot_f S
  refine ⟨_, rfl, sd, _, _, _, rfl, rfl, sqL hsd, rfl, f1, _, rfl, .inl (sqL hf1), fun l6 hl6 => ?_⟩
  have g1 : Same H (upd H l6 (.lst ((hOf near).map vN))) := Same.new hl6
  refine ⟨_, rfl, sd, _, _, _, rfl, rfl, sqL (g1 _ _ hsd), rfl, f2, _, rfl, .inl (sqL (g1 _ _ hf2)), fun l7 hl7 => ?_⟩
  have g2 := Same.up (o := .lst ((hOf far).map vN)) g1 hl7
  have n67 : l6 ≠ l7 := fun z => by rw [← z, upd_same] at hl7; cases hl7
  have h6 : (upd (upd H l6 (.lst ((hOf near).map vN))) l7 (.lst ((hOf far).map vN))) l6 = some (.lst ((hOf near).map vN)) := by rw [upd_ne n67, upd_same]
  have h7 : (upd (upd H l6 (.lst ((hOf near).map vN))) l7 (.lst ((hOf far).map vN))) l7 = some (.lst ((hOf far).map vN)) := upd_same
  have hf7 : H l7 = none := Same.free g1 hl7
  refine ⟨_, rfl, rfl, _, rfl, both (fun hc => ?_) fun hc => ?_⟩
  · have A1 := L1.rev S.facts.1.mNr
    have A2 := L2'.rev S.facts.1.mFr
    refine ⟨_, rfl, .inl ⟨rfl, _, sqL h6⟩, l6, _, rfl, rfl, h6, ?_⟩
    have h7b := (upd_ne n67.symm (H := upd (upd H l6 (.lst ((hOf near).map vN))) l7 (.lst ((hOf far).map vN))) (o := .lst ((hOf near).map vN).reverse)).trans h7
    refine ⟨_, rfl, .inl ⟨rfl, _, sqL h7b⟩, l7, _, rfl, rfl, h7b, ?_⟩
    have GG := Same.mod (o := .lst ((hOf far).map vN).reverse) (Same.mod (o := .lst ((hOf near).map vN).reverse) g2 hl6) hf7
    have B6 : (upd (upd (upd (upd H l6 (.lst ((hOf near).map vN))) l7 (.lst ((hOf far).map vN))) l6 (.lst ((hOf near).map vN).reverse)) l7 (.lst ((hOf far).map vN).reverse)) l6 = some (.lst ((hOf near).reverse.map vN)) := by rw [upd_ne n67, upd_same, List.map_reverse]
    have B7 : (upd (upd (upd (upd H l6 (.lst ((hOf near).map vN))) l7 (.lst ((hOf far).map vN))) l6 (.lst ((hOf near).map vN).reverse)) l7 (.lst ((hOf far).map vN).reverse)) l7 = some (.lst ((hOf far).reverse.map vN)) := by rw [upd_same, List.map_reverse]
    refine ⟨_, rfl, _, rfl, _, rfl, l7, _, rfl, .inl ⟨sqL B7, fun t8 ht8 => ?_⟩⟩
    have g8 := Same.up (o := .tup ((hOf far).reverse.map vN)) GG ht8
    refine ⟨_, rfl, sc, l6, t8, n, near, far, ns, _, _, least, "near", B, rfl, ⟨hsc.same g8, .inl (sqL ((Same.new ht8) _ _ B6)), .inr (sqT upd_same), A1, A2, S⟩, G, lo, hi, .inl rfl, hf, fun r tp H9 e9 htp htq hr9 => ?_⟩
    rw [if_pos rfl] at htq
    have g9 := Same.trans g8 e9
    refine ⟨_, rfl, _, _, _, _, true, rfl, .ty _, .base (.tup htq), kit_ty (by decide +kernel), _, rfl, no rfl ⟨_, rfl, tp, _, rfl, .inr (sqT htq), rfl, _, rfl, no rfl ?_⟩⟩
    refine ⟨_, rfl, tp, _, _, _, rfl, rfl, sqT htq, rfl, _, rfl, tp, _, _, _, rfl, rfl, sqT htq, rfl, r, _, _, rfl, hr9, fun u H10 e10 hu => ⟨by show 2 ≤ sizeLine; decide, fun t11 ht11 => ?_⟩⟩
    have g11 := Same.up (o := .tup [vN (pickN ns n near far least), u]) (Same.trans g9 e10) ht11
    refine ⟨_, rfl, due, _, _, _, rfl, rfl, sqT (g11 _ _ hdue), rfl, _, rfl, due, _, _, _, rfl, rfl, sqT (g11 _ _ hdue), rfl, by show 2 ≤ sizeLine; decide, fun t12 ht12 => ?_⟩
    have g12 := Same.up (o := .tup [vN (pickN ns n near far least), bt]) g11 ht12
    refine ⟨_, _, rfl, eqv_told ((Same.new ht12) _ _ upd_same) upd_same (hu.same (Same.up (Same.new ht11) ht12)) (hbt.same g12), fun H13 e13 => ⟨_, rfl, no rfl ?_⟩⟩
    have g13 := Same.trans g12 e13
    have s13 := Same.trans (Same.up (o := .tup [vN (pickN ns n near far least), bt]) (Same.up (o := .tup [vN (pickN ns n near far least), u]) (Same.trans e9 e10) ht11) ht12) e13
    have B6' := s13 _ _ ((Same.new (o := .tup ((hOf far).reverse.map vN)) ht8) _ _ B6)
    have B7' := s13 _ _ ((Same.new (o := .tup ((hOf far).reverse.map vN)) ht8) _ _ B7)
    refine ⟨_, rfl, _, rfl, l6, _, rfl, .inl ⟨sqL B6', fun t14 ht14 => ?_⟩⟩
    have g14 := Same.up (o := .tup ((hOf near).reverse.map vN)) g13 ht14
    refine ⟨_, rfl, _, rfl, sc, t14, l7, n, near, far, ns, _, _, least, "far", B, rfl, ⟨hsc.same g14, .inr (sqT upd_same), .inl (sqL ((Same.new ht14) _ _ B7')), A1, A2, S⟩, G, lo, hi, .inr rfl, hf, fun r2 tp2 H15 e15 htp2 htq2 hr15 => ?_⟩
    rw [if_neg (by decide)] at htq2
    have g15 := Same.trans g14 e15
    refine ⟨_, rfl, _, _, _, _, true, rfl, .ty _, .base (.tup htq2), kit_ty (by decide +kernel), _, rfl, no rfl ⟨_, rfl, tp2, _, rfl, .inr (sqT htq2), rfl, _, rfl, no rfl ?_⟩⟩
    refine ⟨_, rfl, tp2, _, _, _, rfl, rfl, sqT htq2, rfl, _, rfl, tp2, _, _, _, rfl, rfl, sqT htq2, rfl, r2, _, _, rfl, hr15, fun u2 H16 e16 hu2 => ⟨by show 2 ≤ sizeLine; decide, fun t17 ht17 => ?_⟩⟩
    have g17 := Same.up (o := .tup [vN (pickF ns n near far least), u2]) (Same.trans g15 e16) ht17
    refine ⟨_, rfl, due, _, _, _, rfl, rfl, sqT (g17 _ _ hdue), rfl, _, rfl, due, _, _, _, rfl, rfl, sqT (g17 _ _ hdue), rfl, by show 2 ≤ sizeLine; decide, fun t18 ht18 => ?_⟩
    have g18 := Same.up (o := .tup [vN (pickF ns n near far least), bt]) g17 ht18
    exact ⟨_, _, rfl, eqv_told ((Same.new ht18) _ _ upd_same) upd_same (hu2.same (Same.up (Same.new ht17) ht18)) (hbt.same g18), fun H19 e19 => q _ (Same.trans g18 e19)⟩
  · have A1 := L1
    have A2 := L2'
    have GG := g2
    have B6 := h6
    have B7 := h7
    refine ⟨_, rfl, _, rfl, _, rfl, l7, _, rfl, .inl ⟨sqL B7, fun t8 ht8 => ?_⟩⟩
    have g8 := Same.up (o := .tup ((hOf far).map vN)) GG ht8
    refine ⟨_, rfl, sc, l6, t8, n, near, far, ns, _, _, least, "near", B, rfl, ⟨hsc.same g8, .inl (sqL ((Same.new ht8) _ _ B6)), .inr (sqT upd_same), A1, A2, S⟩, G, lo, hi, .inl rfl, hf, fun r tp H9 e9 htp htq hr9 => ?_⟩
    rw [if_pos rfl] at htq
    have g9 := Same.trans g8 e9
    refine ⟨_, rfl, _, _, _, _, true, rfl, .ty _, .base (.tup htq), kit_ty (by decide +kernel), _, rfl, no rfl ⟨_, rfl, tp, _, rfl, .inr (sqT htq), rfl, _, rfl, no rfl ?_⟩⟩
    refine ⟨_, rfl, tp, _, _, _, rfl, rfl, sqT htq, rfl, _, rfl, tp, _, _, _, rfl, rfl, sqT htq, rfl, r, _, _, rfl, hr9, fun u H10 e10 hu => ⟨by show 2 ≤ sizeLine; decide, fun t11 ht11 => ?_⟩⟩
    have g11 := Same.up (o := .tup [vN (pickN ns n near far least), u]) (Same.trans g9 e10) ht11
    refine ⟨_, rfl, due, _, _, _, rfl, rfl, sqT (g11 _ _ hdue), rfl, _, rfl, due, _, _, _, rfl, rfl, sqT (g11 _ _ hdue), rfl, by show 2 ≤ sizeLine; decide, fun t12 ht12 => ?_⟩
    have g12 := Same.up (o := .tup [vN (pickN ns n near far least), bt]) g11 ht12
    refine ⟨_, _, rfl, eqv_told ((Same.new ht12) _ _ upd_same) upd_same (hu.same (Same.up (Same.new ht11) ht12)) (hbt.same g12), fun H13 e13 => ⟨_, rfl, no rfl ?_⟩⟩
    have g13 := Same.trans g12 e13
    have s13 := Same.trans (Same.up (o := .tup [vN (pickN ns n near far least), bt]) (Same.up (o := .tup [vN (pickN ns n near far least), u]) (Same.trans e9 e10) ht11) ht12) e13
    have B6' := s13 _ _ ((Same.new (o := .tup ((hOf far).map vN)) ht8) _ _ B6)
    have B7' := s13 _ _ ((Same.new (o := .tup ((hOf far).map vN)) ht8) _ _ B7)
    refine ⟨_, rfl, _, rfl, l6, _, rfl, .inl ⟨sqL B6', fun t14 ht14 => ?_⟩⟩
    have g14 := Same.up (o := .tup ((hOf near).map vN)) g13 ht14
    refine ⟨_, rfl, _, rfl, sc, t14, l7, n, near, far, ns, _, _, least, "far", B, rfl, ⟨hsc.same g14, .inr (sqT upd_same), .inl (sqL ((Same.new ht14) _ _ B7')), A1, A2, S⟩, G, lo, hi, .inr rfl, hf, fun r2 tp2 H15 e15 htp2 htq2 hr15 => ?_⟩
    rw [if_neg (by decide)] at htq2
    have g15 := Same.trans g14 e15
    refine ⟨_, rfl, _, _, _, _, true, rfl, .ty _, .base (.tup htq2), kit_ty (by decide +kernel), _, rfl, no rfl ⟨_, rfl, tp2, _, rfl, .inr (sqT htq2), rfl, _, rfl, no rfl ?_⟩⟩
    refine ⟨_, rfl, tp2, _, _, _, rfl, rfl, sqT htq2, rfl, _, rfl, tp2, _, _, _, rfl, rfl, sqT htq2, rfl, r2, _, _, rfl, hr15, fun u2 H16 e16 hu2 => ⟨by show 2 ≤ sizeLine; decide, fun t17 ht17 => ?_⟩⟩
    have g17 := Same.up (o := .tup [vN (pickF ns n near far least), u2]) (Same.trans g15 e16) ht17
    refine ⟨_, rfl, due, _, _, _, rfl, rfl, sqT (g17 _ _ hdue), rfl, _, rfl, due, _, _, _, rfl, rfl, sqT (g17 _ _ hdue), rfl, by show 2 ≤ sizeLine; decide, fun t18 ht18 => ?_⟩
    have g18 := Same.up (o := .tup [vN (pickF ns n near far least), bt]) g17 ht18
    exact ⟨_, _, rfl, eqv_told ((Same.new ht18) _ _ upd_same) upd_same (hu2.same (Same.up (Same.new ht17) ht18)) (hbt.same g18), fun H19 e19 => q _ (Same.trans g18 e19)⟩
end
end Wf

namespace Wf
open PySem PySem.Spec PyProof.Rows L2
/-! ### what stands before a round -/
structure RS (H : Hp) (c q a sc bk sd p : Addr) (n : Nat) (ns : List Int) (least D : Int) (near far k : Nat) (t b : Int) : Prop where
  dg : Dg H c q
  au : Auc H a sc n ns near far t b k
  st : Stand n near far
  hk : k = (hOf near).length + (hOf far).length
  inv : RInv ns n near far least t b D
  good : Good n ns 1000000000
  bks : ∃ (f0 f1 f2 : Addr) (pv : V), H bk = some (.lst [.ref p, .ref sd, pv]) ∧ Pr H pv t b ∧ H sd = some (.lst [.ref f0, .ref f1, .ref f2]) ∧ H f0 = some (.lst ((fOf n near far).map vN)) ∧ H f1 = some (.lst ((hOf near).map vN)) ∧ H f2 = some (.lst ((hOf far).map vN)) ∧
    (f0 ≠ q ∧ f0 ≠ sd ∧ f0 ≠ bk) ∧ (f1 ≠ q ∧ f1 ≠ sd ∧ f1 ≠ bk) ∧ f2 ≠ q ∧ f2 ≠ sd ∧ f2 ≠ bk
  hp : H p = some (.lst (ns.map V.int))
  ne : p ≠ q ∧ p ≠ sd ∧ p ≠ bk ∧ sd ≠ q ∧ bk ≠ q ∧ sd ≠ bk ∧ c ≠ sd ∧ c ≠ bk
  lo : -1000000000 ≤ least
  hi : least ≤ 1000000000
theorem RS.same {H H' : Hp} {c q a sc bk sd p : Addr} {n : Nat} {ns : List Int} {least D : Int} {near far k : Nat} {t b : Int} (e : Same H H') (R : RS H c q a sc bk sd p n ns least D near far k t b) : RS H' c q a sc bk sd p n ns least D near far k t b := by
  obtain ⟨f0, f1, f2, pv, h1, h2, h3, h4, h5, h6, h7⟩ := R.bks
  exact ⟨R.dg.same e, R.au.same e, R.st, R.hk, R.inv, R.good, ⟨f0, f1, f2, pv, e _ _ h1, h2.same e, e _ _ h3, e _ _ h4, e _ _ h5, e _ _ h6, h7⟩, e _ _ R.hp, R.ne, R.lo, R.hi⟩
/-- all but two lists stand -/
def K2 (x y : Addr) (H H' : Hp) : Prop := ∀ z o, z ≠ x → z ≠ y → H z = some o → H' z = some o
theorem K2.refl {x y : Addr} (H : Hp) : K2 x y H H := fun _ _ _ _ h => h
theorem K2.same {x y : Addr} {H H1 H2 : Hp} (k : K2 x y H H1) (e : Same H1 H2) : K2 x y H H2 := fun z o h1 h2 h => e _ _ (k z o h1 h2 h)
theorem K2.up1 {x y : Addr} {H H1 : Hp} {o : HO} (k : K2 x y H H1) : K2 x y H (upd H1 x o) := fun z u h1 h2 h => by rw [upd_ne h1]; exact k z u h1 h2 h
theorem K2.up2 {x y : Addr} {H H1 : Hp} {o : HO} (k : K2 x y H H1) : K2 x y H (upd H1 y o) := fun z u h1 h2 h => by rw [upd_ne h2]; exact k z u h1 h2 h
theorem K2.new {x y l : Addr} {H H1 : Hp} {o : HO} (k : K2 x y H H1) (hl : H1 l = none) : K2 x y H (upd H1 l o) := fun z u h1 h2 h => by rw [upd_ne (ne_of_none (k z u h1 h2 h) hl)]; exact k z u h1 h2 h
section
variable {H H' : Hp} {x y : Addr} {xs ys : List V}
theorem K2.at (k : K2 x y H H') (hx : H x = some (.lst xs)) (hy : H y = some (.lst ys)) {z : Addr} {o : HO} (h : H z = some o) (hn : ∀ l, o ≠ .lst l) : H' z = some o := k z o (ne_of h hx (hn _)) (ne_of h hy (hn _)) h
theorem K2.pr (k : K2 x y H H') (hx : H x = some (.lst xs)) (hy : H y = some (.lst ys)) {v : V} {t b : Int} (h : Pr H v t b) : Pr H' v t b := by
  obtain ⟨a, e, h⟩ := h
  exact ⟨a, e, k.at hx hy h fun _ z => nomatch z⟩
theorem K2.sc (k : K2 x y H H') (hx : H x = some (.lst xs)) (hy : H y = some (.lst ys)) {a : Addr} {n : Nat} {ns : List Int} (h : Sc H a n ns) : Sc H' a n ns := by
  obtain ⟨dx, l, fs, h1, h2, h3, h4, h5⟩ := h
  exact ⟨dx, l, fs, k.at hx hy h1 (fun _ z => nomatch z), h2, h3, k.at hx hy h4 (fun _ z => nomatch z), h5⟩
theorem K2.auc (k : K2 x y H H') (hx : H x = some (.lst xs)) (hy : H y = some (.lst ys)) {a sc : Addr} {n : Nat} {ns : List Int} {near far m : Nat} {t b : Int} (h : Auc H a sc n ns near far t b m) : Auc H' a sc n ns near far t b m := by
  obtain ⟨h0, dx, st, pa, fu, pv, zs, h1, h2, ⟨r, rd, rf, g1, g2, g3⟩, h4, h5⟩ := h
  exact ⟨k.sc hx hy h0, dx, st, pa, fu, pv, zs, k.at hx hy h1 (fun _ z => HO.noConfusion z), k.at hx hy h2 (fun _ z => nomatch z), ⟨r, rd, rf, g1, k.at hx hy g2 (fun _ z => nomatch z), g3⟩, k.at hx hy h4 (fun _ z => nomatch z), h5⟩
theorem Keep.k2 {q : Addr} (k : Keep q H H') : K2 q q H H' := fun z o h _ e => k z o h e
end
theorem Auc.kq {H H' : Hp} {c q a sc : Addr} {n : Nat} {ns : List Int} {near far m : Nat} {t b : Int} (d : Dg H c q) (k : Keep q H H') (h : Auc H a sc n ns near far t b m) : Auc H' a sc n ns near far t b m := by
  obtain ⟨cs, i, r, h1, h2, h3, h4⟩ := d
  exact k.k2.auc h3 h3 h
theorem coins_eq {t b : Int} (h : Low t b) : sum2 (-1) 1 1 t b = (b - t, b) := by
  unfold sum2
  have e : 1 * b + -1 * t * 1 = b - t := by omega
  rw [e, Int.one_mul, h.rest.ex.1, h.rest.ex.2]
theorem Sm.c51 {t b D y : Int} (_ : Sm t) (t0 : 0 ≤ t) (tb : t ≤ b) (bD : b ≤ D) (Dm : D < 2 ^ 51) (y6 : y ≤ 1000000) (y0 : 0 < y) : 0 ≤ t * y ∧ t * y ≤ 2 ^ 71 := by
  refine ⟨Int.mul_nonneg t0 (by omega), ?_⟩
  have h1 : t * y ≤ 2 ^ 51 * y := Int.mul_le_mul_of_nonneg_right (by omega) (by omega)
  omega
theorem Sm.c51' {x b D y : Int} (x0 : 0 ≤ x) (xy : x ≤ y) (y6 : y ≤ 1000000) (b0 : 0 < b) (bD : b ≤ D) (Dm : D < 2 ^ 51) : 0 ≤ x * b ∧ x * b ≤ 2 ^ 71 := by
  refine ⟨Int.mul_nonneg x0 (by omega), ?_⟩
  have h1 : x * b ≤ 1000000 * b := Int.mul_le_mul_of_nonneg_right (by omega) (by omega)
  omega
theorem bndS {x y : Int} (hx : 0 ≤ x ∧ x ≤ 2 ^ 71) (hy : 0 ≤ y ∧ y ≤ 2 ^ 71) : (x + y).natAbs < 2 ^ 80 := by omega
theorem bndD {x y z : Int} (hx : 0 ≤ x ∧ x ≤ 2 ^ 71) (hy : 0 ≤ y * z ∧ y * z ≤ 2 ^ 71) : (x + -1 * y * z).natAbs < 2 ^ 80 := by
  have e : -1 * y * z = -(y * z) := by rw [Int.mul_assoc]; omega
  omega
section
variable {P : Program} {w : World} {K : PySem.W.Frag} {mg : Str → Option Value} {base : Heap}
def spRound : Sp := fun vs H Q _ => ∃ (c q a sc bk sd p : Addr) (n : Nat) (ns : List Int) (least D : Int) (near far k : Nat) (t b turn : Int), vs = [.ref c, .ref q, .ref a, .ref sc, .ref bk, .int least, .int turn] ∧ RS H c q a sc bk sd p n ns least D near far k t b ∧ fOf n near far ≠ [] ∧ k < 900 ∧
  ∀ H' near' far' t' b', RS H' c q a sc bk sd p n ns least D near' far' (k + 1) t' b' → (fOf n near' far').length + 1 = (fOf n near far).length → Q (.bl true) H'
def N__law_round_right : List Str := ["_law_cells", "_law_box", "_law_auction", "_law_scale", "_law_book", "_law_least", "_law_turn", "_law_numbers", "_law_sides", "_law_purse", "_law_near", "_law_h", "_law_many", "_law_due", "_law_option", "_law_coins", "_law_bid", "_law_hand", "_law_plain", "_law_told", "_law_winner"]
theorem sc__law_round_right : FnScope N__law_round_right ["_law_cells", "_law_box", "_law_auction", "_law_scale", "_law_book", "_law_least", "_law_turn"] (defScope st__law_round_right) := ⟨rfl, rfl, rfl, by decide +kernel, rfl, by decide +kernel, by decide +kernel⟩
/-- the end of a round: the free hands, the winner, the state -/
structure RC (B : Hp) (c q a sc bk sd p f0 g1 g2 : Addr) (nv : V) (n : Nat) (ns : List Int) (least D : Int) (near far near' far' k h : Nat) (t b : Int) : Prop where
  dg : Dg B c q
  au : Auc B a sc n ns near' far' t b k
  st : Stand n near' far'
  hk : k = (hOf near').length + (hOf far').length
  inv : RInv ns n near' far' least t b D
  good : Good n ns 1000000000
  hbk : B bk = some (.lst [.ref p, .ref sd, nv])
  hnv : Pr B nv t b
  hsd : B sd = some (.lst [.ref f0, .ref g1, .ref g2])
  hf0 : B f0 = some (.lst ((fOf n near far).map vN))
  hg1 : B g1 = some (.lst ((hOf near').map vN))
  hg2 : B g2 = some (.lst ((hOf far').map vN))
  nf0 : f0 ≠ sd
  ng1 : g1 ≠ q ∧ g1 ≠ sd ∧ g1 ≠ bk
  ng2 : g2 ≠ q ∧ g2 ≠ sd ∧ g2 ≠ bk
  hp : B p = some (.lst (ns.map V.int))
  ne : p ≠ q ∧ p ≠ sd ∧ p ≠ bk ∧ sd ≠ q ∧ bk ≠ q ∧ sd ≠ bk ∧ c ≠ sd ∧ c ≠ bk
  lo : -1000000000 ≤ least
  hi : least ≤ 1000000000
  hh : h ∈ fOf n near far
  fe : fOf n near' far' = (fOf n near far).filter fun x => x != h
  f6 : (fOf n near far).length ≤ 6
theorem round_c (T : Txt K mg) {cdv : Value} {A : Around} {outer : List Env} {s : Shared} {H0 : Hp} {E : XK} (hr : Room 7 (A.deeper (envOfC "_law_round_right" (defScope st__law_round_right) s.heap.objs.size 1021 cdv))) :
    ∃ t : TS, PSs (cxOf CX0 P w K mg base N__law_round_right "_law_round_right" (defScope st__law_round_right) 1021 cdv A outer s H0 E).nox ((defBody st__law_round_right).drop 17) t ∧ ∀ (Q : VK) (σ : L2.St) (B : Hp) (c q a sc bk sd p f0 g1 g2 : Addr) (nv : V) (z : Str) (n : Nat) (ns : List Int) (least D : Int) (near far near' far' k h : Nat) (t' b' : Int),
      σ[2]? = some (some (.ref a)) → σ[4]? = some (some (.ref bk)) → σ[7]? = some (some (.ref p)) → σ[8]? = some (some (.ref sd)) → σ[13]? = some (some (.str z)) → σ[17]? = some (some (vN h)) → σ[20]? = some (some (.str z)) → σ.length = 21 →
      RC B c q a sc bk sd p f0 g1 g2 nv n ns least D near far near' far' k h t' b' → (∀ H', RS H' c q a sc bk sd p n ns least D near' far' k t' b' → Q (.bl true) H') → t { nx := fun _ H' => Q .non H', rt := Q } σ B := by
  refine ⟨_, (pss_cons (ps_asg (pe_lc (own := [("_law_h", 11)]) (g := gName 11) (by rfl) sc__law_round_right.nd (pi_list (pe_ix ix_list (pv 8) pe_int (fun _ _ => rfl))) (blkOk_by (own := [("_law_h", 11)]) (N := N__law_round_right) (sc := defScope st__law_round_right) (by decide +kernel)) (fun _ _ _ _ _ => pg_name (i := 11) sc__law_round_right.nd rfl (Or.inl rfl)) (fun _ _ _ _ _ => pts_one (pt_cmpR op_ne (pv 11) (pv 17) (nomark _))) (fun _ _ _ _ _ => (pv 11))) (pg_sub (pv 8) pe_int set_list))
      (pss_cons (ps_if (pt_not (pt_val (pe_cal (C__law_same T) (hr.mono (by decide)) (pa_cons (pv 20) (pa_cons (pv 13) pa_nil))))) (pss_one (ps_ret pe_bl)) pss_nil)
      (pss_one (ps_ret (pe_cal (C__law_state_right T) (hr.mono (by decide)) (pa_cons (pv 2) (pa_cons (pv 7) (pa_cons (pv 8) (pa_cons (pe_ix ix_list (pv 4) pe_int (fun _ _ => rfl)) pa_nil))))))))), ?_⟩
  intro Q σ B c q a sc bk sd p f0 g1 g2 nv z n ns least D near far near' far' k h t' b' s2 s4 s7 s8 s13 s17 s20 sl R fin
  obtain ⟨dg, au, S', hk, inv, G, hbk, hnv, hsd, hf0, hg1, hg2, nf0, ng1, ng2, hp, ⟨npq, nps, npb, nsq, nbq, nsb, ncs, ncb⟩, lo, hi, hm, fe, f6⟩ := R
  refine ⟨_, s8, sd, _, _, _, rfl, rfl, sqL hsd, rfl, f0, rfl, ⟨_, sqL hf0⟩, fun D22 hD22 => lcW (wkL (sqL hf0)) hD22 (by rw [List.length_map, sizeLine_eq]; omega) (fun j => (fOf n near far).getD j 0 != h) (fun j => vN ((fOf n near far).getD j 0)) (fun j x H2' Ry Rn hj e2' y ky kn => ?_) (fun i H x H' y => y.1) fun H22 e22 hl22 => ?_⟩
  · obtain ⟨_, hx⟩ := y
    obtain ⟨hj', rfl⟩ := item_vN hx
    rw [getD_at hj'] at ky kn
    refine ⟨wipe1 _ _ _, _, wipe_at (Nat.lt_of_lt_of_eq (by decide : 11 < 21) sl.symm), _, wipe_ne (by decide) s17, rfl, _, rfl, ?_⟩
    have eb : (!decide (vN (fOf n near far)[j] = vN h)) = ((fOf n near far)[j] != h) := by rw [vN_dec]; rfl
    rw [eb]
    exact both (fun h1 => ⟨_, wipe_at (Nat.lt_of_lt_of_eq (by decide : 11 < 21) sl.symm), ky h1 _ (Same.refl _)⟩) fun h1 => kn h1 _ (Same.refl _)
  rw [List.length_map, range_filter (fOf n near far) 0 (fun x => x != h) vN, ← fe] at hl22
  have sD22 : sd ≠ D22 := ne_of_none hsd hD22
  refine ⟨_, s8, sd, _, 0, 0, rfl, rfl, e22 _ _ hsd, rfl, ?_⟩
  have KF : Keep sd B (upd H22 sd (.lst [.ref D22, .ref g1, .ref g2])) := (Same.keep e22 sd).up
  have hsdF : (upd H22 sd (.lst [.ref D22, .ref g1, .ref g2])) sd = some (.lst [.ref D22, .ref g1, .ref g2]) := upd_same
  have cDF : (upd H22 sd (.lst [.ref D22, .ref g1, .ref g2])) D22 = some (.lst ((fOf n near' far').map vN)) := (upd_ne sD22.symm).trans hl22
  have hbkF := KF _ _ nsb.symm hbk
  have dgF : Dg (upd H22 sd (.lst [.ref D22, .ref g1, .ref g2])) c q := by
    obtain ⟨cs, i, r, w1, w2, w3, w4⟩ := dg
    exact ⟨cs, i, r, KF _ _ ncs w1, w2, KF _ _ nsq.symm w3, w4⟩
  have hq : ∃ xs, B q = some (.lst xs) := by
    obtain ⟨cs, i, r, w1, w2, w3, w4⟩ := dg
    exact ⟨_, w3⟩
  obtain ⟨qxs, hq⟩ := hq
  have hnvF := hnv.kept hsd KF
  have auF := KF.k2.auc hsd hsd au
  have RSF : RS (upd H22 sd (.lst [.ref D22, .ref g1, .ref g2])) c q a sc bk sd p n ns least D near' far' k t' b' := ⟨dgF, auF, S', hk, inv, G, ⟨D22, g1, g2, nv, hbkF, hnvF, hsdF, cDF, KF _ _ ng1.2.1 hg1, KF _ _ ng2.2.1 hg2, ⟨(ne_of_none hq hD22).symm, sD22.symm, (ne_of_none hbk hD22).symm⟩, ng1, ng2⟩, KF _ _ nps hp, ⟨npq, nps, npb, nsq, nbq, nsb, ncs, ncb⟩, lo, hi⟩
  refine ⟨_, s20, _, s13, _, _, rfl, Eqv.zero ⟨rfl, .inr (.inr (.inr ⟨_, rfl⟩))⟩, fun H23 e23 => ⟨_, rfl, no rfl ?_⟩⟩
  have R23 := RSF.same e23
  have hbk23 := e23 _ _ hbkF
  exact ⟨_, s2, _, s7, _, s8, _, s4, bk, _, _, _, rfl, rfl, sqL hbk23, rfl, a, p, sd, sc, nv, n, near', far', k, ns, _, _, rfl, R23.au, S', sqL R23.hp, ⟨D22, g1, g2, e23 _ _ hsdF, e23 _ _ cDF, e23 _ _ (KF _ _ ng1.2.1 hg1), e23 _ _ (KF _ _ ng2.2.1 hg2)⟩, R23.hk, hnvF.same e23, fun H24 e24 => fin _ (R23.same e24)⟩
/-- behind the bid -/
structure RB (B : Hp) (c q sd p bk f0 f1 f2 td : Addr) (pv bt bv : V) (n : Nat) (ns : List Int) (least D : Int) (near far k h : Nat) (t b t2 b2 : Int) : Prop where
  dg : Dg B c q
  st : Stand n near far
  hk : k = (hOf near).length + (hOf far).length
  inv : RInv ns n near far least t b D
  good : Good n ns 1000000000
  hbk : B bk = some (.lst [.ref p, .ref sd, pv])
  hpv : Pr B pv t b
  hsd : B sd = some (.lst [.ref f0, .ref f1, .ref f2])
  hf0 : B f0 = some (.lst ((fOf n near far).map vN))
  hf1 : B f1 = some (.lst ((hOf near).map vN))
  hf2 : B f2 = some (.lst ((hOf far).map vN))
  n0 : f0 ≠ q ∧ f0 ≠ sd ∧ f0 ≠ bk
  n1 : f1 ≠ q ∧ f1 ≠ sd ∧ f1 ≠ bk
  n2 : f2 ≠ q ∧ f2 ≠ sd ∧ f2 ≠ bk
  hp : B p = some (.lst (ns.map V.int))
  ne : p ≠ q ∧ p ≠ sd ∧ p ≠ bk ∧ sd ≠ q ∧ bk ≠ q ∧ sd ≠ bk ∧ c ≠ sd ∧ c ≠ bk
  lo : -1000000000 ≤ least
  hi : least ≤ 1000000000
  hh : h ∈ fOf n near far
  htd : B td = some (.tup [vN (pickN ns n near far least), vN (pickF ns n near far least), bt])
  hbt : Pr B bt (bT ns n near far least) (bB ns n near far least)
  hbv : Pr B bv t2 b2
  low : Low t2 b2
  nn : 0 ≤ t2
  le : t2 * b ≤ (b - t) * b2
  b6 : b2 ≤ 1000000
  dv : b2 ∣ 2037000000 ∨ b2 = b
theorem round_b (T : Txt K mg) {cdv : Value} {A : Around} {outer : List Env} {s : Shared} {H0 : Hp} {E : XK} (hr : Room 7 (A.deeper (envOfC "_law_round_right" (defScope st__law_round_right) s.heap.objs.size 1021 cdv))) :
    ∃ tt : TS, PSs (cxOf CX0 P w K mg base N__law_round_right "_law_round_right" (defScope st__law_round_right) 1021 cdv A outer s H0 E).nox ((defBody st__law_round_right).drop 16) tt ∧ ∀ (Q : VK) (σ : L2.St) (B : Hp) (c q a sc bk sd p f0 f1 f2 td : Addr) (pv bt bv : V) (z : Str) (n : Nat) (ns : List Int) (least D : Int) (near far k h2 : Nat) (t b t2 b2 : Int),
      σ[2]? = some (some (.ref a)) → σ[4]? = some (some (.ref bk)) → σ[7]? = some (some (.ref p)) → σ[8]? = some (some (.ref sd)) → σ[9]? = some (some pv) → σ[13]? = some (some (.ref td)) → σ[16]? = some (some bv) → σ[17]? = some (some (vN h2)) → σ[20]? = some (some (.str z)) → σ.length = 21 →
      RB B c q sd p bk f0 f1 f2 td pv bt bv n ns least D near far k h2 t b t2 b2 →
      ((z = "far" ∧ bT ns n near far least * b2 < t2 * bB ns n near far least ∧ Auc B a sc n ns near (far ||| 2 ^ h2) (sum2 1 t b t2 b2).1 (sum2 1 t b t2 b2).2 (k + 1)) ∨
       (z = "near" ∧ t2 * bB ns n near far least ≤ bT ns n near far least * b2 ∧ Auc B a sc n ns (near ||| 2 ^ pickN ns n near far least) far (sum2 (-1) t b (bT ns n near far least) (bB ns n near far least)).1 (sum2 (-1) t b (bT ns n near far least) (bB ns n near far least)).2 (k + 1))) →
      (∀ H' near' far' t' b', RS H' c q a sc bk sd p n ns least D near' far' (k + 1) t' b' → (fOf n near' far').length + 1 = (fOf n near far).length → Q (.bl true) H') → tt { nx := fun _ H' => Q .non H', rt := Q } σ B := by
  obtain ⟨tc, pc, hc⟩ := round_c (P := P) (w := w) (base := base) T (cdv := cdv) (A := A) (outer := outer) (s := s) (H0 := H0) (E := E) hr
  refine ⟨_, (pss_cons (ps_if (pt_val (pe_cal (C__law_no_more T) (hr.mono (by decide)) (pa_cons (pv 16) (pa_cons (pe_ix ix_tup (pv 13) pe_int (fun _ _ => rfl)) pa_nil)))) (pss_cons (ps_set (i := 17) sc__law_round_right.nd rfl (Or.inr rfl) (pe_ix ix_tup (pv 13) pe_int (fun _ _ => rfl)))
      (pss_cons (ps_asg (pe_cal (C__law_sum T) (hr.mono (by decide)) (pa_cons (pv 9) (pa_cons (pe_ix ix_tup (pv 13) pe_int (fun _ _ => rfl)) (pa_cons (pe_un un_neg pe_int) pa_nil)))) (pg_sub (pv 4) pe_int set_list))
      (pss_cons (ps_asg (pe_callB cr_sorted (by rfl) T.n_sorted (by decide +kernel) (pa_cons (pe_op op_cat (pe_ix ix_list (pv 8) pe_int (fun _ _ => rfl)) (pe_lst (pa_cons (pv 17) pa_nil))) pa_nil)) (pg_sub (pv 8) pe_int set_list))
      (pss_one (ps_set (i := 13) sc__law_round_right.nd rfl (Or.inl rfl) pe_str))))) (pss_cons (ps_asg (pe_cal (C__law_sum T) (hr.mono (by decide)) (pa_cons (pv 9) (pa_cons (pv 16) (pa_cons pe_int pa_nil)))) (pg_sub (pv 4) pe_int set_list))
      (pss_cons (ps_asg (pe_callB cr_sorted (by rfl) T.n_sorted (by decide +kernel) (pa_cons (pe_op op_cat (pe_ix ix_list (pv 8) pe_int (fun _ _ => rfl)) (pe_lst (pa_cons (pv 17) pa_nil))) pa_nil)) (pg_sub (pv 8) pe_int set_list))
      (pss_one (ps_set (i := 13) sc__law_round_right.nd rfl (Or.inl rfl) pe_str)))))
      pc), ?_⟩
  intro Q σ B c q a sc bk sd p f0 f1 f2 td pv' bt bv z n ns least D near far k h2 t b t2 b2 s2 s4 s7 s8 s9 s13 s16 s17 s20 sl R hw fin
  obtain ⟨dg, S, hk, inv, G, hbk, hpv, hsd, hf0, hf1, hf2, ⟨n0q, n0s, n0b⟩, ⟨n1q, n1s, n1b⟩, ⟨n2q, n2s, n2b⟩, hp, ⟨npq, nps, npb, nsq, nbq, nsb, ncs, ncb⟩, lo, hi, hm2, htd, hbt, hbv, bl2, bn2, ble2, b26, bdv2⟩ := R
  have f6 := fOf_len S
  have hf : fOf n near far ≠ [] := List.ne_nil_of_mem hm2
  have pk := picks (least := least) G S hf
  obtain ⟨bl, bn, b64, bdv, ble, g, hg, hg1, hg2⟩ := bid_facts G S hf inv
  have p64 := p6 f6
  have ppos : 0 < 2 ^ (fOf n near far).length := Nat.pow_pos (by decide)
  have bD : b ≤ D := Int.le_of_dvd inv.d0 inv.dv
  have bpos := inv.low.pos
  have t0 := inv.t0
  have tb := inv.tb
  have Dm := inv.dm
  have st : Sm t := by unfold Sm; omega
  have sb : Sm b := by unfold Sm; omega
  have bB6 : bB ns n near far least ≤ 64 := by have := Int.le_of_dvd (by omega) bdv; omega
  have bBp := bl.pos
  have b2p := bl2.pos
  have t2b2 : t2 ≤ b2 := by
    refine le_cancel bpos ?_
    have : (b - t) * b2 ≤ b * b2 := Int.mul_le_mul_of_nonneg_right (by omega) (by omega)
    have : b * b2 = b2 * b := Int.mul_comm _ _
    omega
  have st2 : Sm t2 := by unfold Sm; omega
  have sb2 : Sm b2 := by unfold Sm; omega
  have stT : Sm (bT ns n near far least) := by unfold Sm; omega
  have stB : Sm (bB ns n near far least) := by unfold Sm; omega
  have n6 := S.n6
  refine ⟨_, s16, _, s13, td, _, _, _, rfl, rfl, sqT htd, rfl, bv, bt, t2, b2, _, _, rfl, hbv, hbt, st2, sb2, stT, stB, _, rfl, ?_⟩
  rcases hw with ⟨rfl, hw, au⟩ | ⟨rfl, hw, au⟩
  · refine no (decide_eq_false (by omega)) ?_
    have F := S.facts.2 h2 hm2
    have r2 := s2; have r4 := s4; have r7 := s7; have r8 := s8; have r9 := s9; have r17 := s17; have r20 := s20; have rl := sl
    refine ⟨_, r9, _, s16, pv', bv, t, b, t2, b2, 1, rfl, hpv, hbv, st, sb, st2, sb2, by unfold Sm; omega, bpos, b2p, Nat.lt_of_lt_of_le (by rw [Int.one_mul]; exact bndS (x := t * b2) (y := t2 * b) (st.c51 t0 tb bD Dm b26 b2p) (Sm.c51' bn2 t2b2 b26 bpos bD Dm)) (by decide), fun nv H18 e18 hnv => ⟨_, r4, bk, _, 2, 2, rfl, rfl, e18 _ _ hbk, rfl, ?_⟩⟩
    have A18 : K2 bk sd B (upd H18 bk (.lst ([V.ref p, V.ref sd, pv'].set 2 nv))) := ((K2.refl B).same e18).up1
    have hsd18 : (upd H18 bk (.lst ([V.ref p, V.ref sd, pv'].set 2 nv))) sd = some (.lst [.ref f0, .ref f1, .ref f2]) := (upd_ne nsb).trans (e18 _ _ hsd)
    have hnv18 : Pr (upd H18 bk (.lst ([V.ref p, V.ref sd, pv'].set 2 nv))) nv _ _ := hnv.kept (e18 _ _ hbk) (Keep.refl H18).up
    have hbk18 : (upd H18 bk (.lst ([V.ref p, V.ref sd, pv'].set 2 nv))) bk = some (.lst [.ref p, .ref sd, nv]) := upd_same
    have hf218 := A18 _ _ n2b n2s hf2
    generalize hH18' : upd H18 bk (.lst ([V.ref p, V.ref sd, pv'].set 2 nv)) = A' at *
    refine ⟨_, r8, sd, _, _, _, rfl, rfl, sqL hsd18, rfl, _, r17, by show 1 ≤ sizeLine; decide, fun l19 hl19 => ⟨f2, l19, _, _, rfl, rfl, (Same.new hl19) _ _ hf218, upd_same, by rw [List.length_map, sizeLine_eq]; have := hOf_len far; show _ + 1 ≤ _; omega, fun l20 hl20 => ⟨l20, ((hOf far) ++ [h2]).map (fun x : Nat => (x : Int)), rfl, sqL (by rw [upd_same, ← map_vN, List.map_append]; rfl), by rw [List.length_map, List.length_append]; have := hOf_len far; show _ + 1 < 64; omega, fun ns' p21 hperm hsort hp21 => ?_⟩⟩⟩
    have hns := sorted_hOf (by have := F.lt; omega) F.fb hperm hsort
    subst hns
    have eA20 : Same A' (upd (upd A' l19 (.lst [vN h2])) l20 (.lst ((hOf far).map vN ++ [vN h2]))) := Same.up (Same.new hl19) hl20
    have eA21 := Same.up (o := .lst (((hOf (far ||| 2 ^ h2)).map fun x : Nat => (x : Int)).map V.int)) eA20 hp21
    have hsd21 := eA21 _ _ hsd18
    have hp21A : A' p21 = none := Same.free eA20 hp21
    have c21 : (upd (upd (upd A' l19 (.lst [vN h2])) l20 (.lst ((hOf far).map vN ++ [vN h2]))) p21 (.lst (((hOf (far ||| 2 ^ h2)).map fun x : Nat => (x : Int)).map V.int))) p21 = some (.lst ((hOf (far ||| 2 ^ h2)).map vN)) := by rw [upd_same, ← map_vN]
    refine ⟨_, r8, sd, _, 2, 2, rfl, rfl, hsd21, rfl, ?_⟩
    have ns21 : sd ≠ p21 := ne_of_none hsd18 hp21A
    generalize hH21 : upd (upd (upd A' l19 (.lst [vN h2])) l20 (.lst ((hOf far).map vN ++ [vN h2]))) p21 (.lst (((hOf (far ||| 2 ^ h2)).map fun x : Nat => (x : Int)).map V.int)) = A2 at *
    have KA : Keep sd A' (upd A2 sd (.lst [.ref f0, .ref f1, .ref p21])) := (Same.keep eA21 sd).up
    have KF : K2 bk sd B (upd A2 sd (.lst [.ref f0, .ref f1, .ref p21])) := fun z o h1 h2 h => KA _ _ h2 (A18 z o h1 h2 h)
    have hq : ∃ xs, B q = some (.lst xs) := by
      obtain ⟨cs, i, r, w1, w2, w3, w4⟩ := dg
      exact ⟨_, w3⟩
    obtain ⟨qxs, hq⟩ := hq
    have hqA := A18 _ _ nbq.symm nsq.symm hq
    have dgF : Dg (upd A2 sd (.lst [.ref f0, .ref f1, .ref p21])) c q := by
      obtain ⟨cs, i, r, w1, w2, w3, w4⟩ := dg
      exact ⟨cs, i, r, KF _ _ ncb ncs w1, w2, KF _ _ nbq.symm nsq.symm w3, w4⟩
    have fl := filter_ne_len (fOf_nd n near far) hm2
    rw [← F.f2] at fl
    have S' := F.S2
    have cn := S.facts.1.cnt
    have cn' := S'.facts.1.cnt
    have c21' : (upd A2 sd (.lst [.ref f0, .ref f1, .ref p21])) p21 = some (.lst ((hOf (far ||| 2 ^ h2)).map vN)) := (upd_ne ns21.symm).trans c21
    refine hc Q _ _ c q a sc bk sd p f0 f1 p21 nv _ n ns least D near far near (far ||| 2 ^ h2) (k + 1) h2 _ _ (slot_ne (by decide) r2) (slot_ne (by decide) r4) (slot_ne (by decide) r7) (slot_ne (by decide) r8) (slot_at (Nat.lt_of_lt_of_eq (by decide : 13 < 21) rl.symm)) (slot_ne (by decide) r17) (slot_ne (by decide) r20) (slot_len rl)
      ⟨dgF, KF.auc hbk hsd au, S', by omega, (inv_far G S inv hm2 bl2 bn2 (bdv2.elim (fun z => Int.dvd_trans z inv.d1) fun z => z ▸ inv.dv) hw ble2), G, KA _ _ nsb.symm hbk18, hnv18.kept hsd18 KA, upd_same, KF _ _ n0b n0s hf0, (KF _ _ n1b n1s hf1), c21', n0s, ⟨n1q, n1s, n1b⟩, ⟨(ne_of_none hqA hp21A).symm, ns21.symm, (ne_of_none hbk18 hp21A).symm⟩, KF _ _ npb nps hp, ⟨npq, nps, npb, nsq, nbq, nsb, ncs, ncb⟩, lo, hi, hm2, F.f2, f6⟩ fun H' R' => fin H' _ _ _ _ R' fl
  · refine yes (decide_eq_true hw) ?_
    have F := S.facts.2 (pickN ns n near far least) pk.1
    refine ⟨_, s13, td, _, _, _, rfl, rfl, sqT htd, rfl, ?_⟩
    have r2 := slot_ne (i := 17) (v := some (vN (pickN ns n near far least))) (by decide) s2; have r4 := slot_ne (i := 17) (v := some (vN (pickN ns n near far least))) (by decide) s4; have r7 := slot_ne (i := 17) (v := some (vN (pickN ns n near far least))) (by decide) s7; have r8 := slot_ne (i := 17) (v := some (vN (pickN ns n near far least))) (by decide) s8; have r9 := slot_ne (i := 17) (v := some (vN (pickN ns n near far least))) (by decide) s9; have r20 := slot_ne (i := 17) (v := some (vN (pickN ns n near far least))) (by decide) s20; have rl := slot_len (i := 17) (v := some (vN (pickN ns n near far least))) sl
    have r17 : (σ.set 17 (some (vN (pickN ns n near far least))))[17]? = some (some (vN (pickN ns n near far least))) := slot_at (by omega)
    refine ⟨_, r9, _, slot_ne (by decide) s13, td, _, _, _, rfl, rfl, sqT htd, rfl, _, rfl, pv', bt, t, b, bT ns n near far least, bB ns n near far least, -1, rfl, hpv, hbt, st, sb, stT, stB, by unfold Sm; omega, bpos, bBp, Nat.lt_of_lt_of_le (bndD (st.c51 t0 tb bD Dm (by omega) bBp) (Sm.c51' (y := 1000000) bn (by omega) (by decide) bpos bD Dm)) (by decide), fun nv H18 e18 hnv => ⟨_, r4, bk, _, 2, 2, rfl, rfl, e18 _ _ hbk, rfl, ?_⟩⟩
    have A18 : K2 bk sd B (upd H18 bk (.lst ([V.ref p, V.ref sd, pv'].set 2 nv))) := ((K2.refl B).same e18).up1
    have hsd18 : (upd H18 bk (.lst ([V.ref p, V.ref sd, pv'].set 2 nv))) sd = some (.lst [.ref f0, .ref f1, .ref f2]) := (upd_ne nsb).trans (e18 _ _ hsd)
    have hnv18 : Pr (upd H18 bk (.lst ([V.ref p, V.ref sd, pv'].set 2 nv))) nv _ _ := hnv.kept (e18 _ _ hbk) (Keep.refl H18).up
    have hbk18 : (upd H18 bk (.lst ([V.ref p, V.ref sd, pv'].set 2 nv))) bk = some (.lst [.ref p, .ref sd, nv]) := upd_same
    have hf118 := A18 _ _ n1b n1s hf1
    generalize hH18' : upd H18 bk (.lst ([V.ref p, V.ref sd, pv'].set 2 nv)) = A' at *
    refine ⟨_, r8, sd, _, _, _, rfl, rfl, sqL hsd18, rfl, _, r17, by show 1 ≤ sizeLine; decide, fun l19 hl19 => ⟨f1, l19, _, _, rfl, rfl, (Same.new hl19) _ _ hf118, upd_same, by rw [List.length_map, sizeLine_eq]; have := hOf_len near; show _ + 1 ≤ _; omega, fun l20 hl20 => ⟨l20, ((hOf near) ++ [(pickN ns n near far least)]).map (fun x : Nat => (x : Int)), rfl, sqL (by rw [upd_same, ← map_vN, List.map_append]; rfl), by rw [List.length_map, List.length_append]; have := hOf_len near; show _ + 1 < 64; omega, fun ns' p21 hperm hsort hp21 => ?_⟩⟩⟩
    have hns := sorted_hOf (by have := F.lt; omega) F.nb hperm hsort
    subst hns
    have eA20 : Same A' (upd (upd A' l19 (.lst [vN (pickN ns n near far least)])) l20 (.lst ((hOf near).map vN ++ [vN (pickN ns n near far least)]))) := Same.up (Same.new hl19) hl20
    have eA21 := Same.up (o := .lst (((hOf (near ||| 2 ^ (pickN ns n near far least))).map fun x : Nat => (x : Int)).map V.int)) eA20 hp21
    have hsd21 := eA21 _ _ hsd18
    have hp21A : A' p21 = none := Same.free eA20 hp21
    have c21 : (upd (upd (upd A' l19 (.lst [vN (pickN ns n near far least)])) l20 (.lst ((hOf near).map vN ++ [vN (pickN ns n near far least)]))) p21 (.lst (((hOf (near ||| 2 ^ (pickN ns n near far least))).map fun x : Nat => (x : Int)).map V.int))) p21 = some (.lst ((hOf (near ||| 2 ^ (pickN ns n near far least))).map vN)) := by rw [upd_same, ← map_vN]
    refine ⟨_, r8, sd, _, 1, 1, rfl, rfl, hsd21, rfl, ?_⟩
    have ns21 : sd ≠ p21 := ne_of_none hsd18 hp21A
    generalize hH21 : upd (upd (upd A' l19 (.lst [vN (pickN ns n near far least)])) l20 (.lst ((hOf near).map vN ++ [vN (pickN ns n near far least)]))) p21 (.lst (((hOf (near ||| 2 ^ (pickN ns n near far least))).map fun x : Nat => (x : Int)).map V.int)) = A2 at *
    have KA : Keep sd A' (upd A2 sd (.lst [.ref f0, .ref p21, .ref f2])) := (Same.keep eA21 sd).up
    have KF : K2 bk sd B (upd A2 sd (.lst [.ref f0, .ref p21, .ref f2])) := fun z o h1 h2 h => KA _ _ h2 (A18 z o h1 h2 h)
    have hq : ∃ xs, B q = some (.lst xs) := by
      obtain ⟨cs, i, r, w1, w2, w3, w4⟩ := dg
      exact ⟨_, w3⟩
    obtain ⟨qxs, hq⟩ := hq
    have hqA := A18 _ _ nbq.symm nsq.symm hq
    have dgF : Dg (upd A2 sd (.lst [.ref f0, .ref p21, .ref f2])) c q := by
      obtain ⟨cs, i, r, w1, w2, w3, w4⟩ := dg
      exact ⟨cs, i, r, KF _ _ ncb ncs w1, w2, KF _ _ nbq.symm nsq.symm w3, w4⟩
    have fl := filter_ne_len (fOf_nd n near far) pk.1
    rw [← F.f1] at fl
    have S' := F.S1
    have cn := S.facts.1.cnt
    have cn' := S'.facts.1.cnt
    have c21' : (upd A2 sd (.lst [.ref f0, .ref p21, .ref f2])) p21 = some (.lst ((hOf (near ||| 2 ^ (pickN ns n near far least))).map vN)) := (upd_ne ns21.symm).trans c21
    refine hc Q _ _ c q a sc bk sd p f0 p21 f2 nv _ n ns least D near far (near ||| 2 ^ pickN ns n near far least) far (k + 1) (pickN ns n near far least) _ _ (slot_ne (by decide) r2) (slot_ne (by decide) r4) (slot_ne (by decide) r7) (slot_ne (by decide) r8) (slot_at (Nat.lt_of_lt_of_eq (by decide : 13 < 21) rl.symm)) (slot_ne (by decide) r17) (slot_ne (by decide) r20) (slot_len rl)
      ⟨dgF, KF.auc hbk hsd au, S', by omega, (inv_near G S hf inv), G, KA _ _ nsb.symm hbk18, hnv18.kept hsd18 KA, upd_same, KF _ _ n0b n0s hf0, c21', (KF _ _ n2b n2s hf2), n0s, ⟨(ne_of_none hqA hp21A).symm, ns21.symm, (ne_of_none hbk18 hp21A).symm⟩, ⟨n2q, n2s, n2b⟩, KF _ _ npb nps hp, ⟨npq, nps, npb, nsq, nbq, nsb, ncs, ncb⟩, lo, hi, pk.1, F.f1, f6⟩ fun H' R' => fin H' _ _ _ _ R' fl
theorem round_a2 (T : Txt K mg) {cdv : Value} {A : Around} {outer : List Env} {s : Shared} {H0 : Hp} {E : XK} (hr : Room 7 (A.deeper (envOfC "_law_round_right" (defScope st__law_round_right) s.heap.objs.size 1021 cdv))) :
    ∃ tt : TS, PSs (cxOf CX0 P w K mg base N__law_round_right "_law_round_right" (defScope st__law_round_right) 1021 cdv A outer s H0 E).nox ((defBody st__law_round_right).drop 9) tt ∧ ∀ (Q : VK) (σ : L2.St) (H : Hp) (c q a sc bk sd p f0 f1 f2 td : Addr) (pv' bt : V) (n : Nat) (ns : List Int) (least D : Int) (near far k : Nat) (t b turn : Int),
      σ[0]? = some (some (.ref c)) → σ[1]? = some (some (.ref q)) → σ[2]? = some (some (.ref a)) → σ[3]? = some (some (.ref sc)) → σ[4]? = some (some (.ref bk)) → σ[5]? = some (some (.int least)) → σ[6]? = some (some (.int turn)) → σ[7]? = some (some (.ref p)) → σ[8]? = some (some (.ref sd)) → σ[9]? = some (some pv') → σ[13]? = some (some (.ref td)) → σ.length = 21 →
      Dg H c q → Auc H a sc n ns near far t b k → Stand n near far → k = (hOf near).length + (hOf far).length → RInv ns n near far least t b D → Good n ns 1000000000 → H bk = some (.lst [.ref p, .ref sd, pv']) → Pr H pv' t b → H sd = some (.lst [.ref f0, .ref f1, .ref f2]) → H f0 = some (.lst ((fOf n near far).map vN)) → H f1 = some (.lst ((hOf near).map vN)) → H f2 = some (.lst ((hOf far).map vN)) →
      ((f0 ≠ q ∧ f0 ≠ sd ∧ f0 ≠ bk) ∧ (f1 ≠ q ∧ f1 ≠ sd ∧ f1 ≠ bk) ∧ f2 ≠ q ∧ f2 ≠ sd ∧ f2 ≠ bk) → H p = some (.lst (ns.map V.int)) → (p ≠ q ∧ p ≠ sd ∧ p ≠ bk ∧ sd ≠ q ∧ bk ≠ q ∧ sd ≠ bk ∧ c ≠ sd ∧ c ≠ bk) → -1000000000 ≤ least → least ≤ 1000000000 →
      fOf n near far ≠ [] → k < 900 → H td = some (.tup [vN (pickN ns n near far least), vN (pickF ns n near far least), bt]) → Pr H bt (bT ns n near far least) (bB ns n near far least) →
      (∀ H' near' far' t' b', RS H' c q a sc bk sd p n ns least D near' far' (k + 1) t' b' → (fOf n near' far').length + 1 = (fOf n near far).length → Q (.bl true) H') → tt { nx := fun _ H' => Q .non H', rt := Q } σ H := by
  obtain ⟨tb', pb, hb⟩ := round_b (P := P) (w := w) (base := base) T (cdv := cdv) (A := A) (outer := outer) (s := s) (H0 := H0) (E := E) hr
  refine ⟨_, (pss_cons (ps_set (i := 14) sc__law_round_right.nd rfl (Or.inl rfl) (pe_op op_mod (pe_callTy call_int1 (by rfl) T.n_int (by decide +kernel) (pa_cons (pe_op op_add (pe_op op_add (pe_cal (C__law_digit T) (hr.mono (by decide)) (pa_cons (pv 0) (pa_cons (pv 1) (pa_cons pe_int pa_nil)))) pe_int) (pv 6)) pa_nil)) pe_int))
      (pss_cons (ps_set (i := 15) sc__law_round_right.nd rfl (Or.inl rfl) (pe_cal (C__law_sum T) (hr.mono (by decide)) (pa_cons (pe_tup (pa_cons pe_int (pa_cons pe_int pa_nil))) (pa_cons (pv 9) (pa_cons (pe_un un_neg pe_int) pa_nil)))))
      (pss_cons (ps_set (i := 16) sc__law_round_right.nd rfl (Or.inl rfl) (pe_cal (C__law_any_bid T) (hr.mono (by decide)) (pa_cons (pv 0) (pa_cons (pv 1) (pa_cons (pv 15) (pa_cons (pe_ix ix_tup (pv 13) pe_int (fun _ _ => rfl)) (pa_cons (pv 14) pa_nil)))))))
      (pss_cons (ps_set (i := 17) sc__law_round_right.nd rfl (Or.inr rfl) (pe_ix ix_list (pe_ix ix_list (pv 8) pe_int (fun _ _ => rfl)) (pe_cal (C__law_digit T) (hr.mono (by decide)) (pa_cons (pv 0) (pa_cons (pv 1) (pa_cons (pe_callB call_len_seq (by rfl) T.n_len (by decide +kernel) (pa_cons (pe_ix ix_list (pv 8) pe_int (fun _ _ => rfl)) pa_nil)) pa_nil)))) (fun _ _ => rfl)))
      (pss_cons (ps_set (i := 18) sc__law_round_right.nd rfl (Or.inl rfl) (pe_cmpR op_eq (pe_cal (C__law_digit T) (hr.mono (by decide)) (pa_cons (pv 0) (pa_cons (pv 1) (pa_cons pe_int pa_nil)))) pe_int (nomark _)))
      (pss_cons (ps_set (i := 19) sc__law_round_right.nd rfl (Or.inl rfl) (pe_cal (C_told_bid T) (hr.mono (by decide)) (pa_cons (pv 3) (pa_cons (pe_callTy call_list_of (by rfl) T.n_list (by decide +kernel) (pa_cons (pe_ix ix_list (pv 8) pe_int (fun _ _ => rfl)) pa_nil)) (pa_cons (pe_callTy call_list_of (by rfl) T.n_list (by decide +kernel) (pa_cons (pe_ix ix_list (pv 8) pe_int (fun _ _ => rfl)) pa_nil)) (pa_cons (pv 5) (pa_cons pe_str pa_nil)))))))
      (pss_cons (ps_set (i := 20) sc__law_round_right.nd rfl (Or.inl rfl) (pe_mcalX (M_bidding T) passX0 (pv 2) (hr.mono (by decide)) (pa_cons (pe_ix ix_tup (pv 19) pe_int (fun _ _ => rfl)) (pa_cons (pe_ix ix_tup (pv 19) pe_int (fun _ _ => rfl)) (pa_cons (pv 17) (pa_cons (pe_cal (C__law_value T) (hr.mono (by decide)) (pa_cons (pv 16) (pa_cons (pv 18) pa_nil))) pa_nil))))))
      pb))))))), ?_⟩
  intro Q σ H c q a sc bk sd p f0 f1 f2 td pv' bt n ns least D near far k t b turn s0 s1 s2 s3 s4 s5 s6 s7 s8 s9 s13 sl dg au S hk inv G hbk hpv hsd hf0 hf1 hf2 nf8 hp ne8 lo hi hf k9 htd7 hbt7 fin
  obtain ⟨⟨n0q, n0s, n0b⟩, ⟨n1q, n1s, n1b⟩, n2q, n2s, n2b⟩ := nf8
  obtain ⟨npq, nps, npb, nsq, nbq, nsb, ncs, ncb⟩ := ne8
  have g7 : Same H H := Same.refl H
  have f6 := fOf_len S
  have l1 := hOf_len near
  have flt : ∀ h ∈ fOf n near far, h < n := fun h hh => (S.facts.2 h hh).lt
  have n6 := S.n6
  have pl : 0 < (fOf n near far).length := List.length_pos_iff.mpr hf
  have sumS : ((fOf n near far).map vN).length = (fOf n near far).length := by rw [List.length_map]
  have gl := G.len
  obtain ⟨bl, bn, b64, bdv, ble, g, hg, hg1, hg2⟩ := bid_facts G S hf inv
  have p64 := p6 f6
  have ppos : 0 < 2 ^ (fOf n near far).length := Nat.pow_pos (by decide)
  have hble := bel_le (ns := ns) (least := least) S
  have bD : b ≤ D := Int.le_of_dvd inv.d0 inv.dv
  have bpos := inv.low.pos
  have t0 := inv.t0
  have tb := inv.tb
  have Dm := inv.dm
  have st : Sm t := by unfold Sm; omega
  have sb : Sm b := by unfold Sm; omega
  have bB6 : bB ns n near far least ≤ 64 := by have := Int.le_of_dvd (by omega) bdv; omega
  have bBp := bl.pos
  have dg7 := dg.same g7
  refine ⟨_, s0, _, s1, c, q, 5, rfl, dg7, by decide, by decide, fun d8 H8 hd8 k8 dg8 => ⟨_, _, rfl, rfl, _, s6, _, _, rfl, rfl, .inl ⟨_, rfl, _, _, rfl, rfl, by show (0 : Int) < 5; decide, ?_⟩⟩⟩
  have K8 : Keep q H H8 := (Same.keep g7 q).trans k8
  refine ⟨by show 2 ≤ sizeLine; decide, fun t9 ht9 => ?_⟩
  have K8' := K8.new (o := .tup [.int 1, .int 1]) ht9
  refine ⟨_, (slot_ne (by decide) s9), _, rfl, .ref t9, pv', 1, 1, t, b, -1, rfl, ⟨t9, rfl, upd_same⟩, Keep.pr dg K8' hpv, by unfold Sm; omega, by unfold Sm; omega, st, sb, by unfold Sm; omega, by omega, bpos, Nat.lt_of_lt_of_le (by omega : (1 * b + -1 * t * 1).natAbs < 2 ^ 60) (by decide), fun cv H9 e9 hcv => ?_⟩
  rw [coins_eq inv.low] at hcv
  have K9 : Keep q H H9 := K8'.trans (Same.keep e9 q)
  have k79 : Keep q H H9 := ((k8.new (o := .tup [.int 1, .int 1]) ht9)).trans (Same.keep e9 q)
  have dg9 := (dg8.new (o := .tup [.int 1, .int 1]) ht9).same e9
  have htd9 : H9 td = some (.tup [vN (pickN ns n near far least), vN (pickF ns n near far least), bt]) := by
    obtain ⟨cs, i, r, _, _, h3, _⟩ := dg7
    exact k79 _ _ (ne_of htd7 h3 fun z => nomatch z) htd7
  have hbt9 := Keep.pr dg7 k79 hbt7
  have D52 : D < 2 ^ 52 := by omega
  refine ⟨_, (slot_ne (by decide) (slot_ne (by decide) s0)), _, (slot_ne (by decide) (slot_ne (by decide) s1)), _, (slot_at (by first | omega | (simp only [List.length_set]; omega))), _, (slot_ne (by decide) (slot_ne (by decide) s13)), td, _, _, _, rfl, rfl, sqT htd9, rfl, _, (slot_ne (by decide) (slot_at (by first | omega | (simp only [List.length_set]; omega)))), c, q, cv, bt, b - t, b, _, _, _, rfl, dg9, hcv, hbt9, inv.low.rest, bl, by omega, by omega, by omega, bn, by omega, Int.dvd_trans bdv (by
    have : (fOf n near far).length = 0 ∨ (fOf n near far).length = 1 ∨ (fOf n near far).length = 2 ∨ (fOf n near far).length = 3 ∨ (fOf n near far).length = 4 ∨ (fOf n near far).length = 5 ∨ (fOf n near far).length = 6 := by omega
    rcases this with h | h | h | h | h | h | h <;> rw [h] <;> decide), fun bv t2 b2 H10 k10 dg10 hbv hbid => ?_⟩
  obtain ⟨bl2, bn2, ble2, b26, bdv2⟩ := hbid
  have K10 := K9.trans k10
  refine ⟨_, (slot_ne (by decide) (slot_ne (by decide) (slot_ne (by decide) s8))), sd, _, _, _, rfl, rfl, sqL (K10 _ _ nsq hsd), rfl, _, (slot_ne (by decide) (slot_ne (by decide) (slot_ne (by decide) s0))), _, (slot_ne (by decide) (slot_ne (by decide) (slot_ne (by decide) s1))), _, (slot_ne (by decide) (slot_ne (by decide) (slot_ne (by decide) s8))), sd, _, _, _, rfl, rfl, sqL (K10 _ _ nsq hsd), rfl, f0, _, rfl, .inl (sqL (K10 _ _ n0q hf0)), c, q, (fOf n near far).length, congrArg (fun z : Nat => [V.ref c, V.ref q, V.int (z : Int)]) sumS, dg10, pl, Nat.lt_of_le_of_lt f6 (by decide), fun d11 H11 hd11 k11 dg11 => ?_⟩
  have K11 := K10.trans k11
  have hm2 := List.getElem_mem hd11
  refine ⟨f0, _, _, .int ((fOf n near far)[d11] : Nat), rfl, rfl, sqL (K11 _ _ n0q hf0), atI_nat (by rw [List.getElem?_map, List.getElem?_eq_getElem hd11]; rfl), ?_⟩
  generalize (fOf n near far)[d11] = h2 at *
  refine ⟨_, (slot_ne (by decide) (slot_ne (by decide) (slot_ne (by decide) (slot_ne (by decide) s0)))), _, (slot_ne (by decide) (slot_ne (by decide) (slot_ne (by decide) (slot_ne (by decide) s1)))), c, q, 2, rfl, dg11, by decide, by decide, fun d12 H12 hd12 k12 dg12 => ⟨rfl, ?_⟩⟩
  have K12 := K11.trans k12
  refine ⟨_, (slot_ne (by decide) (slot_ne (by decide) (slot_ne (by decide) (slot_ne (by decide) (slot_ne (by decide) s3))))), _, (slot_ne (by decide) (slot_ne (by decide) (slot_ne (by decide) (slot_ne (by decide) (slot_ne (by decide) s8))))), sd, _, _, _, rfl, rfl, sqL (K12 _ _ nsq hsd), rfl, f1, _, rfl, .inl (sqL (K12 _ _ n1q hf1)), fun l13 hl13 => ?_⟩
  have K13 := K12.new (o := .lst ((hOf near).map vN)) hl13
  refine ⟨_, (slot_ne (by decide) (slot_ne (by decide) (slot_ne (by decide) (slot_ne (by decide) (slot_ne (by decide) s8))))), sd, _, _, _, rfl, rfl, sqL (K13 _ _ nsq hsd), rfl, f2, _, rfl, .inl (sqL (K13 _ _ n2q hf2)), fun l14 hl14 => ?_⟩
  have K14 := K13.new (o := .lst ((hOf far).map vN)) hl14
  have dg14 := (dg12.new (o := .lst ((hOf near).map vN)) hl13).new (o := .lst ((hOf far).map vN)) hl14
  have h13 : (upd (upd H12 l13 (.lst ((hOf near).map vN))) l14 (.lst ((hOf far).map vN))) l13 = some (.lst ((hOf near).map vN)) := (Same.new hl14) _ _ upd_same
  have au14 := au.kq dg K14
  refine ⟨_, (slot_ne (by decide) (slot_ne (by decide) (slot_ne (by decide) (slot_ne (by decide) (slot_ne (by decide) s5))))), sc, l13, l14, n, near, far, ns, _, _, least, "near", _, rfl, ⟨au14.1, .inl (sqL h13), .inl (sqL upd_same), lot_h S, lot_f S, S⟩, G, lo, hi, .inl rfl, hf, fun r tp H15 e15 htp htq hr15 => ?_⟩
  rw [if_pos rfl] at htq
  have K15 := K14.trans (Same.keep e15 q)
  have dg15 := dg14.same e15
  have au15 := au14.same e15
  have k915 : Keep q H9 H15 := (((k10.trans (k11.trans k12)).new (o := .lst ((hOf near).map vN)) hl13).new (o := .lst ((hOf far).map vN)) hl14).trans (Same.keep e15 q)
  have k1015 : Keep q H10 H15 := (((k11.trans k12).new (o := .lst ((hOf near).map vN)) hl13).new (o := .lst ((hOf far).map vN)) hl14).trans (Same.keep e15 q)
  have hbv15 := Keep.pr dg10 k1015 hbv
  have hbt15 := Keep.pr dg9 k915 hbt9
  have htd15 : H15 td = some (.tup [vN (pickN ns n near far least), vN (pickF ns n near far least), bt]) := by
    obtain ⟨cs, i, r, _, _, h3, _⟩ := dg9
    exact k915 _ _ (ne_of htd9 h3 fun z => nomatch z) htd9
  obtain ⟨dx, st', pa, fu, hA⟩ : ∃ dx st pa fu, H15 a = some (AuO dx st pa fu sc) := by
    obtain ⟨_, dx, st, pa, fu, pv, xs, h, _⟩ := au15
    exact ⟨dx, st, pa, fu, h⟩
  have b2p := bl2.pos
  have t2b2 : t2 ≤ b2 := by
    refine le_cancel bpos ?_
    have : (b - t) * b2 ≤ b * b2 := Int.mul_le_mul_of_nonneg_right (by omega) (by omega)
    have : b * b2 = b2 * b := Int.mul_comm _ _
    omega
  have st2 : Sm t2 := by unfold Sm; omega
  have sb2 : Sm b2 := by unfold Sm; omega
  have stT : Sm (bT ns n near far least) := by unfold Sm; omega
  have stB : Sm (bB ns n near far least) := by unfold Sm; omega
  refine ⟨_, (slot_ne (by decide) (slot_ne (by decide) (slot_ne (by decide) (slot_ne (by decide) (slot_ne (by decide) (slot_ne (by decide) s2)))))), a, dx, _, rfl, hA, rfl, _, (slot_at (by first | omega | (simp only [List.length_set]; omega))), tp, _, _, _, rfl, rfl, sqT htq, rfl, _, (slot_at (by first | omega | (simp only [List.length_set]; omega))), tp, _, _, _, rfl, rfl, sqT htq, rfl, _, (slot_ne (by decide) (slot_ne (by decide) (slot_at (by first | omega | (simp only [List.length_set]; omega))))), _, (slot_ne (by decide) (slot_ne (by decide) (slot_ne (by decide) (slot_at (by first | omega | (simp only [List.length_set]; omega)))))), _, (slot_ne (by decide) (slot_at (by first | omega | (simp only [List.length_set]; omega)))), bv, t2, b2, _, rfl, hbv15, bl2, st2, sb2, fun u H16 e16 hu => ?_⟩
  have H16A := e16 _ _ hA
  have K16 := K15.trans (Same.keep e16 q)
  have dg16 := dg15.same e16
  have at17 : ∀ {H17 : Hp}, (∀ y o, y ≠ a → H16 y = some o → H17 y = some o) → ∀ z o, H16 z = some o → (∀ dx st pa fu s, o ≠ AuO dx st pa fu s) → H17 z = some o := fun k z o h hn => k z o (ne_of h H16A (hn _ _ _ _ _)) h
  have lst17 : ∀ {H17 : Hp}, (∀ y o, y ≠ a → H16 y = some o → H17 y = some o) → ∀ z xs, z ≠ q → H z = some (.lst xs) → H17 z = some (.lst xs) := fun k z xs hz h => at17 k z _ (K16 _ _ hz h) (fun _ _ _ _ _ z => HO.noConfusion z)
  have pr17 : ∀ {H17 : Hp}, (∀ y o, y ≠ a → H16 y = some o → H17 y = some o) → ∀ v t b, Pr H16 v t b → Pr H17 v t b := fun k v t b ⟨z, e, h⟩ => ⟨z, e, at17 k z _ h (fun _ _ _ _ _ z => HO.noConfusion z)⟩
  have dg17 : ∀ {H17 : Hp}, (∀ y o, y ≠ a → H16 y = some o → H17 y = some o) → Dg H17 c q := fun k => by
    obtain ⟨cs, i, r, g1, g2, g3, g4⟩ := dg16
    exact ⟨cs, i, r, at17 k _ _ g1 (fun _ _ _ _ _ z => HO.noConfusion z), g2, at17 k _ _ g3 (fun _ _ _ _ _ z => HO.noConfusion z), g4⟩
  have hpv16 := Keep.pr dg K16 hpv
  have hbv16 := hbv15.same e16
  have hbt16 := hbt15.same e16
  have htd16 := e16 _ _ htd15
  have RBB : ∀ {H17 : Hp}, (∀ y o, y ≠ a → H16 y = some o → H17 y = some o) → RB H17 c q sd p bk f0 f1 f2 td pv' bt bv n ns least D near far k h2 t b t2 b2 := fun k17 =>
    ⟨dg17 k17, S, hk, inv, G, lst17 k17 _ _ nbq hbk, pr17 k17 _ _ _ hpv16, lst17 k17 _ _ nsq hsd, lst17 k17 _ _ n0q hf0, lst17 k17 _ _ n1q hf1, lst17 k17 _ _ n2q hf2, ⟨n0q, n0s, n0b⟩, ⟨n1q, n1s, n1b⟩, ⟨n2q, n2s, n2b⟩, lst17 k17 _ _ npq hp, ⟨npq, nps, npb, nsq, nbq, nsb, ncs, ncb⟩, lo, hi, hm2,
      at17 k17 _ _ htd16 (fun _ _ _ _ _ z => HO.noConfusion z), pr17 k17 _ _ _ hbt16, pr17 k17 _ _ _ hbv16, bl2, bn2, ble2, b26, bdv2⟩
  have pk := picks (least := least) G S hf
  refine ⟨a, sc, n, ns, near, far, t, b, k, pickN ns n near far least, h2, r, u, rfl, au15.same e16, S, k9, .inr ⟨bT ns n near far least, bB ns n near far least, t2, b2, pk.1, hm2, .inr (hr15.same e16), hu, bl, bl2, inv.low, st, sb, stT, st2, by omega, b26, t0, tb, bn, ble, bn2, ble2, fun hw H17 k17 au17 => ?_, fun hw H17 k17 au17 => ?_⟩⟩
  · exact hb Q _ H17 c q a sc bk sd p f0 f1 f2 td pv' bt bv "far" n ns least D near far k h2 t b t2 b2 (slot_ne (by decide) (slot_ne (by decide) (slot_ne (by decide) (slot_ne (by decide) (slot_ne (by decide) (slot_ne (by decide) (slot_ne (by decide) s2))))))) (slot_ne (by decide) (slot_ne (by decide) (slot_ne (by decide) (slot_ne (by decide) (slot_ne (by decide) (slot_ne (by decide) (slot_ne (by decide) s4))))))) (slot_ne (by decide) (slot_ne (by decide) (slot_ne (by decide) (slot_ne (by decide) (slot_ne (by decide) (slot_ne (by decide) (slot_ne (by decide) s7))))))) (slot_ne (by decide) (slot_ne (by decide) (slot_ne (by decide) (slot_ne (by decide) (slot_ne (by decide) (slot_ne (by decide) (slot_ne (by decide) s8))))))) (slot_ne (by decide) (slot_ne (by decide) (slot_ne (by decide) (slot_ne (by decide) (slot_ne (by decide) (slot_ne (by decide) (slot_ne (by decide) s9))))))) (slot_ne (by decide) (slot_ne (by decide) (slot_ne (by decide) (slot_ne (by decide) (slot_ne (by decide) (slot_ne (by decide) (slot_ne (by decide) s13))))))) (slot_ne (by decide) (slot_ne (by decide) (slot_ne (by decide) (slot_ne (by decide) (slot_at (by first | omega | (simp only [List.length_set]; omega))))))) (slot_ne (by decide) (slot_ne (by decide) (slot_ne (by decide) (slot_at (by first | omega | (simp only [List.length_set]; omega)))))) (slot_at (by first | omega | (simp only [List.length_set]; omega))) (by simp only [List.length_set]; exact sl) (RBB k17) (.inl ⟨rfl, hw, au17⟩) fin
  · exact hb Q _ H17 c q a sc bk sd p f0 f1 f2 td pv' bt bv "near" n ns least D near far k h2 t b t2 b2 (slot_ne (by decide) (slot_ne (by decide) (slot_ne (by decide) (slot_ne (by decide) (slot_ne (by decide) (slot_ne (by decide) (slot_ne (by decide) s2))))))) (slot_ne (by decide) (slot_ne (by decide) (slot_ne (by decide) (slot_ne (by decide) (slot_ne (by decide) (slot_ne (by decide) (slot_ne (by decide) s4))))))) (slot_ne (by decide) (slot_ne (by decide) (slot_ne (by decide) (slot_ne (by decide) (slot_ne (by decide) (slot_ne (by decide) (slot_ne (by decide) s7))))))) (slot_ne (by decide) (slot_ne (by decide) (slot_ne (by decide) (slot_ne (by decide) (slot_ne (by decide) (slot_ne (by decide) (slot_ne (by decide) s8))))))) (slot_ne (by decide) (slot_ne (by decide) (slot_ne (by decide) (slot_ne (by decide) (slot_ne (by decide) (slot_ne (by decide) (slot_ne (by decide) s9))))))) (slot_ne (by decide) (slot_ne (by decide) (slot_ne (by decide) (slot_ne (by decide) (slot_ne (by decide) (slot_ne (by decide) (slot_ne (by decide) s13))))))) (slot_ne (by decide) (slot_ne (by decide) (slot_ne (by decide) (slot_ne (by decide) (slot_at (by first | omega | (simp only [List.length_set]; omega))))))) (slot_ne (by decide) (slot_ne (by decide) (slot_ne (by decide) (slot_at (by first | omega | (simp only [List.length_set]; omega)))))) (slot_at (by first | omega | (simp only [List.length_set]; omega))) (by simp only [List.length_set]; exact sl) (RBB k17) (.inr ⟨rfl, hw, au17⟩) fin
theorem C__law_round_right (T : Txt K mg) : Cal P w K mg base CX0 8 "_law_round_right" spRound := by
  refine cal_of T.d__law_round_right T.g__law_round_right sc__law_round_right (fun kV doc pm an cdv ct us h => ?_) (fun vs H Q E h => ?_) fun cdv A outer s H vs Q E hr h => ?_
  · match us, h with
    | [_, _, _, _, _, _, _], _ => rfl
  · obtain ⟨c, q, a, sc, bk, sd, p, n, ns, least, D, near, far, k, t, b, turn, rfl, R, hf, k9, fin⟩ := h; rfl
  obtain ⟨c, q, a, sc, bk, sd, p, n, ns, least, D, near, far, k, t, b, turn, rfl, R, hf, k9, fin⟩ := h
  obtain ⟨ta', pa', ha'⟩ := round_a2 (P := P) (w := w) (base := base) T (cdv := cdv) (A := A) (outer := outer) (s := s) (H0 := H) (E := E) hr
  refine ⟨_, (pss_cons (ps_set (i := 7) sc__law_round_right.nd rfl (Or.inl rfl) (pe_ix ix_list (pv 4) pe_int (fun _ _ => rfl)))
      (pss_cons (ps_set (i := 8) sc__law_round_right.nd rfl (Or.inl rfl) (pe_ix ix_list (pv 4) pe_int (fun _ _ => rfl)))
      (pss_cons (ps_set (i := 9) sc__law_round_right.nd rfl (Or.inl rfl) (pe_ix ix_list (pv 4) pe_int (fun _ _ => rfl)))
      (pss_cons (ps_set (i := 10) sc__law_round_right.nd rfl (Or.inl rfl) (pe_callB (cr_sum rfl) (by rfl) T.n_sum (by decide +kernel) (pa_cons (pe_lc (own := [("_law_h", 11)]) (g := gName 11) (by rfl) sc__law_round_right.nd (pi_list (pe_ix ix_list (pv 8) pe_int (fun _ _ => rfl))) (blkOk_by (own := [("_law_h", 11)]) (N := N__law_round_right) (sc := defScope st__law_round_right) (by decide +kernel)) (fun _ _ _ _ _ => pg_name (i := 11) sc__law_round_right.nd rfl (Or.inl rfl)) (fun _ _ _ _ _ => pts_nil) (fun _ _ _ _ _ => (pe_op op_shl1 pe_int (pv 11)))) pa_nil)))
      (pss_cons (ps_set (i := 12) sc__law_round_right.nd rfl (Or.inl rfl) (pe_cal (C__law_below T) (hr.mono (by decide)) (pa_cons (pv 7) (pa_cons (pv 10) (pa_cons (pe_ix ix_list (pv 8) pe_int (fun _ _ => rfl)) (pa_cons (pv 5) pa_nil))))))
      (pss_cons (ps_if (pt_cmpR op_eq (pv 12) (pe_op op_shl1 pe_int (pe_callB call_len_seq (by rfl) T.n_len (by decide +kernel) (pa_cons (pe_ix ix_list (pv 8) pe_int (fun _ _ => rfl)) pa_nil))) (nomark _)) (pss_one (ps_ret pe_bl)) pss_nil)
      (pss_cons (ps_if (pt_not (pt_val (pe_cal (C__law_no_more T) (hr.mono (by decide)) (pa_cons (pe_tup (pa_cons (pv 12) (pa_cons (pe_op op_shl1 pe_int (pe_callB call_len_seq (by rfl) T.n_len (by decide +kernel) (pa_cons (pe_ix ix_list (pv 8) pe_int (fun _ _ => rfl)) pa_nil))) pa_nil))) (pa_cons (pv 9) pa_nil))))) (pss_one (ps_ret pe_bl)) pss_nil)
      (pss_cons (ps_set (i := 13) sc__law_round_right.nd rfl (Or.inl rfl) (pe_cal (C__law_bid_due T) (hr.mono (by decide)) (pa_cons (pv 7) (pa_cons (pv 10) (pa_cons (pe_ix ix_list (pv 8) pe_int (fun _ _ => rfl)) (pa_cons (pv 5) pa_nil))))))
      (pss_cons (ps_if (pt_not (pt_val (pe_cal (C__law_told_right T) (hr.mono (by decide)) (pa_cons (pv 3) (pa_cons (pv 7) (pa_cons (pv 8) (pa_cons (pv 5) (pa_cons (pv 13) (pa_cons (pv 6) pa_nil))))))))) (pss_one (ps_ret pe_bl)) pss_nil)
      pa'))))))))), ?_⟩
  obtain ⟨dg, au, S, hk, inv, G, bks, hp, ne8, lo, hi⟩ := R
  obtain ⟨f0, f1, f2, pv', hbk, hpv, hsd, hf0, hf1, hf2, ⟨n0q, n0s, n0b⟩, ⟨n1q, n1s, n1b⟩, n2q, n2s, n2b⟩ := bks
  obtain ⟨npq, nps, npb, nsq, nbq, nsb, ncs, ncb⟩ := ne8
  have gl := G.len
  have f6 := fOf_len S
  have l1 := hOf_len near
  have flt : ∀ h ∈ fOf n near far, h < n := fun h hh => (S.facts.2 h hh).lt
  have n6 := S.n6
  have pl : 0 < (fOf n near far).length := List.length_pos_iff.mpr hf
  have sumS : ((fOf n near far).map vN).length = (fOf n near far).length := by rw [List.length_map]
  refine ⟨_, rfl, bk, _, _, _, rfl, rfl, sqL hbk, rfl, _, rfl, bk, _, _, _, rfl, rfl, sqL hbk, rfl, _, rfl, bk, _, _, _, rfl, rfl, sqL hbk, rfl, ?_⟩
  refine ⟨_, rfl, sd, _, _, _, rfl, rfl, sqL hsd, rfl, f1, rfl, ⟨_, sqL hf1⟩, fun D1 hD1 => lcW (wkL (sqL hf1)) hD1 (by rw [List.length_map, sizeLine_eq]; omega) (fun _ => true) (fun i => vN (2 ^ (hOf near).getD i 0)) (fun i x H3 Ry Rn hi3 e y ky kn => ?_) (fun i H x H' y => y.1) fun H1 e1 hl1 => ?_⟩
  · obtain ⟨_, hx⟩ := y
    obtain ⟨hi', rfl⟩ := item_vN hx
    rw [getD_at hi'] at ky
    exact ⟨rfl, _, rfl, _, rfl, rfl, by have := hOf_lt (List.getElem_mem hi'); omega, ky rfl _ (Same.refl _)⟩
  rw [List.length_map, range_map (hOf near) 0 (fun h => vN (2 ^ h))] at hl1
  refine ⟨D1, (hOf near).map fun h => ((2 ^ h : Nat) : Int), rfl, sqL (by rw [hl1, List.map_map]; rfl), ?_⟩
  rw [sum_hOf near (st64 S.nn S.n6)]
  refine ⟨_, rfl, _, rfl, _, rfl, sd, _, _, _, rfl, rfl, sqL (e1 _ _ hsd), rfl, _, rfl, p, f0, ns, near, _, least, rfl, sqL (e1 _ _ hp), sqL (e1 _ _ hf0), f6, (fun h hh => by have := flt h hh; omega), (by rw [gl]; exact dLaw_lt S), fun H2 e2 => ?_⟩
  rw [cnt_dOf S]
  have g2 := Same.trans e1 e2
  refine ⟨_, rfl, _, rfl, sd, _, _, _, rfl, rfl, sqL (g2 _ _ hsd), rfl, f0, _, rfl, .inl (sqL (g2 _ _ hf0)), (fOf n near far).length, rfl, congrArg (fun z : Nat => V.int (z : Int)) sumS, by omega, rfl, _, rfl, no ?_ ?_⟩
  · rw [vN_dec]
    have := inv.lt
    exact beq_false_of_ne (by omega)
  obtain ⟨bl, bn, b64, bdv, ble, g, hg, hg1, hg2⟩ := bid_facts G S hf inv
  have p64 := p6 f6
  have ppos : 0 < 2 ^ (fOf n near far).length := Nat.pow_pos (by decide)
  have hble := bel_le (ns := ns) (least := least) S
  have bD : b ≤ D := Int.le_of_dvd inv.d0 inv.dv
  have bpos := inv.low.pos
  have t0 := inv.t0
  have tb := inv.tb
  have Dm := inv.dm
  have st : Sm t := by unfold Sm; omega
  have sb : Sm b := by unfold Sm; omega
  have bB6 : bB ns n near far least ≤ 64 := by have := Int.le_of_dvd (by omega) bdv; omega
  have bBp := bl.pos
  refine ⟨_, rfl, _, rfl, sd, _, _, _, rfl, rfl, sqL (g2 _ _ hsd), rfl, f0, _, rfl, .inl (sqL (g2 _ _ hf0)), (fOf n near far).length, rfl, congrArg (fun z : Nat => V.int (z : Int)) sumS, by omega, by show 2 ≤ sizeLine; decide, fun t5 ht5 => ?_⟩
  have g3 := Same.up (o := .tup [vN (bel ns n near far least), vN (2 ^ (fOf n near far).length)]) g2 ht5
  refine ⟨_, rfl, .ref t5, pv', _, _, t, b, rfl, ⟨t5, rfl, upd_same⟩, hpv.same g3, by unfold Sm; omega, by unfold Sm; omega, st, sb, ⟨_, rfl, no (by rw [decide_eq_true inv.le]; rfl) ?_⟩⟩
  refine ⟨_, rfl, _, rfl, _, rfl, sd, _, _, _, rfl, rfl, sqL (g3 _ _ hsd), rfl, _, rfl, p, f0, n, near, far, ns, least, _, rfl, sqL (g3 _ _ hp), sqL (g3 _ _ hf0), G, S, hf, fun td bt H6 e6 htd hbt => ?_⟩
  have g6 := Same.trans g3 e6
  have hbt6 : Pr H6 bt (bT ns n near far least) (bB ns n near far least) := hbt
  refine ⟨_, rfl, _, rfl, _, rfl, _, rfl, _, rfl, _, rfl, sc, p, sd, td, bt, n, near, far, ns, least, turn, _, rfl, au.1.same g6, S, G, ⟨f0, f1, f2, g6 _ _ hsd, g6 _ _ hf0, g6 _ _ hf1, g6 _ _ hf2⟩, hf, lo, hi, htd, hbt, fun H7 e7 => ⟨_, rfl, no rfl ?_⟩⟩
  have g7 := Same.trans g6 e7
  have htd7 := e7 _ _ htd
  have hbt7 := hbt6.same e7
  have dg7 := dg.same g7
  exact ha' Q _ H7 c q a sc bk sd p f0 f1 f2 td pv' bt n ns least D near far k t b turn rfl rfl rfl rfl rfl rfl rfl rfl rfl rfl rfl rfl dg7 (au.same g7) S hk inv G (g7 _ _ hbk) (hpv.same g7) (g7 _ _ hsd) (g7 _ _ hf0) (g7 _ _ hf1) (g7 _ _ hf2) ⟨⟨n0q, n0s, n0b⟩, ⟨n1q, n1s, n1b⟩, n2q, n2s, n2b⟩ (g7 _ _ hp) ⟨npq, nps, npb, nsq, nbq, nsb, ncs, ncb⟩ lo hi hf k9 htd7 hbt7 fin
end
end Wf

namespace Wf
open PySem PySem.Spec PyProof.Rows L2
theorem dOf_one {n near far : Nat} (S : Stand n near far) (h : fOf n near far = []) : dOf n near far = [near] := by
  rw [S.facts.1.law, h]
  rfl
theorem res_least {ns : List Int} {n near far : Nat} {least t b D : Int} (S : Stand n near far) (h : fOf n near far = []) (I : RInv ns n near far least t b D) : ¬ num ns near < least := by
  intro z
  have lt := I.lt
  rw [h] at lt
  unfold bel at lt
  rw [dOf_one S h] at lt
  simp [z] at lt
theorem eqv_ref {H : Hp} {t1 t2 l1 l2 : Addr} (h1 : H t1 = some (.tup [.str "refused", .ref l1])) (h2 : H t2 = some (.tup [.str "refused", .ref l2])) (g1 : H l1 = some (.lst [.bl true, .bl false])) (g2 : H l2 = some (.lst [.bl true, .bl false])) : Eqv 2 H (.ref t1) (.ref t2) := by
  refine .inr ⟨t1, t2, _, _, rfl, rfl, .inr ⟨h1, h2⟩, rfl, by show 2 ≤ 1000; decide, fun i w1 w2 => ?_⟩
  match i, w1 with
  | 0, _ => exact Eqv.zero ⟨rfl, .inr (.inr (.inr ⟨_, rfl⟩))⟩
  | 1, _ =>
    refine .inr ⟨l1, l2, _, _, rfl, rfl, .inl ⟨g1, g2⟩, rfl, by show 2 ≤ 1000; decide, fun j w3 w4 => ?_⟩
    match j, w3 with
    | 0, _ => exact Eqv.zero ⟨rfl, .inr (.inl ⟨_, rfl⟩)⟩
    | 1, _ => exact Eqv.zero ⟨rfl, .inr (.inl ⟨_, rfl⟩)⟩
section
variable {P : Program} {w : World} {K : PySem.W.Frag} {mg : Str → Option Value} {base : Heap}
def N_law : List Str := ["_law_script", "_law_cells", "_law_x", "_law_box", "_law_hands", "_law_numbers", "_law_factor", "_law_number", "_law_free", "_law_least", "_law_many", "_law_share_here", "_law_plain", "_law_scale", "_law_due", "_law_told", "_law_auction", "_law_book", "_law_turn", "_law_hand"]
theorem sc_law : FnScope N_law ["_law_script"] (defScope st_law) := ⟨rfl, rfl, rfl, by decide +kernel, rfl, by decide +kernel, by decide +kernel⟩
theorem law_3 (T : Txt K mg) {cdv : Value} {A : Around} {outer : List Env} {s : Shared} {H0 : Hp} {E : XK} (hr : Room 9 (A.deeper (envOfC "law" (defScope st_law) s.heap.objs.size 1026 cdv))) :
    ∃ tt : TS, PSs (cxOf CX0 P w K mg base N_law "law" (defScope st_law) 1026 cdv A outer s H0 E).nox ((defBody st_law).drop 19) tt ∧ ∀ (Q : VK) (σ : L2.St) (B : Hp) (c q a sc bk sd p : Addr) (n : Nat) (ns : List Int) (least D : Int) (t b : Int),
      σ[1]? = some (some (.ref c)) → σ[3]? = some (some (.ref q)) → σ[4]? = some (some (vN n)) → σ[5]? = some (some (.ref p)) → σ[9]? = some (some (.int least)) → σ[13]? = some (some (.ref sc)) → σ[16]? = some (some (.ref a)) → σ[17]? = some (some (.ref bk)) → σ.length = 20 →
      n ≤ 6 → RS B c q a sc bk sd p n ns least D 0 0 0 t b → (∀ H', Q (.bl true) H') → tt { nx := fun _ H' => Q .non H', rt := Q } σ B := by
  refine ⟨_, (pss_cons (ps_for PassesOwn.never rfl (pi_range1 rfl T.n_range (pa_cons (pv 4) pa_nil)) (pg_name (i := 18) sc_law.nd rfl (Or.inl rfl)) (pss_one (ps_if (pt_not (pt_val (pe_cal (C__law_round_right T) (hr.mono (by decide)) (pa_cons (pv 1) (pa_cons (pv 3) (pa_cons (pv 16) (pa_cons (pv 13) (pa_cons (pv 17) (pa_cons (pv 9) (pa_cons (pv 18) pa_nil)))))))))) (pss_one (ps_ret pe_bl)) pss_nil)))
      (pss_cons (ps_set (i := 15) sc_law.nd rfl (Or.inl rfl) (pe_pr (pv 16) (hr.mono (by decide)) (P_result T)))
      (pss_cons (ps_if (PW.pt (pw_or (pt_not (pt_val (pe_callB call_isi (by rfl) T.n_isinstance (by decide +kernel) (pa_cons (pv 15) (pa_cons (pe_bty (n := "int") T.n_int) pa_nil))))) (pw_or1 (pt_cmpR op_lt (pv 15) (pv 9) (nomark _))))) (pss_one (ps_ret pe_bl)) pss_nil)
      (pss_cons (ps_for PassesOwn.never rfl (pi_list (pe_lst (pa_cons pe_int (pa_cons (pv 4) pa_nil)))) (pg_name (i := 19) sc_law.nd rfl (Or.inl rfl)) (pss_one (ps_if (pt_not (pt_val (pe_cal (C__law_same T) (hr.mono (by decide)) (pa_cons (pe_cal (C__law_ended T) (hr.mono (by decide)) (pa_cons (pv 16) (pa_cons (pv 19) pa_nil))) (pa_cons (pe_tup (pa_cons pe_str (pa_cons (pe_lst (pa_cons pe_bl (pa_cons pe_bl pa_nil))) pa_nil))) pa_nil))))) (pss_one (ps_ret pe_bl)) pss_nil)))
      (pss_one (ps_ret (pe_cal (C__law_state_right T) (hr.mono (by decide)) (pa_cons (pv 16) (pa_cons (pv 5) (pa_cons (pe_ix ix_list (pv 17) pe_int (fun _ _ => rfl)) (pa_cons (pe_ix ix_list (pv 17) pe_int (fun _ _ => rfl)) pa_nil))))))))))), ?_⟩
  intro Q σ B c q a sc bk sd p n ns least D t b s1 s3 s4 s5 s9 s13 s16 s17 sl n6 R0 q0
  have f0 : (fOf n 0 0).length = n := by rw [fOf00 n (by omega), List.length_range]
  refine ⟨_, s4, _, rfl, by omega, by omega, ?_⟩
  refine for_it (wkR0 (m := (n : Int).toNat)) (fun i σ H' => (∃ near far t b, RS H' c q a sc bk sd p n ns least D near far i t b ∧ (fOf n near far).length + i = n) ∧ σ[1]? = some (some (.ref c)) ∧ σ[3]? = some (some (.ref q)) ∧ σ[4]? = some (some (vN n)) ∧ σ[5]? = some (some (.ref p)) ∧ σ[9]? = some (some (.int least)) ∧ σ[13]? = some (some (.ref sc)) ∧ σ[16]? = some (some (.ref a)) ∧ σ[17]? = some (some (.ref bk)) ∧ σ.length = 20)
    ⟨⟨0, 0, t, b, R0, by omega⟩, s1, s3, s4, s5, s9, s13, s16, s17, sl⟩ (fun _ _ _ _ _ => True.intro) (fun i x σ H1 H' hi p' y => ?_) fun σ H' p' => ?_
  · obtain ⟨⟨near, far, t, b, R, hl⟩, s1, s3, s4, s5, s9, s13, s16, s17, sl⟩ := p'
    obtain ⟨e, rfl⟩ := y
    subst e
    rw [Int.toNat_natCast] at hi
    have r1 := slot_ne (i := 18) (v := some (vN i)) (by decide) s1
    have r3 := slot_ne (i := 18) (v := some (vN i)) (by decide) s3
    have r4 := slot_ne (i := 18) (v := some (vN i)) (by decide) s4
    have r5 := slot_ne (i := 18) (v := some (vN i)) (by decide) s5
    have r9 := slot_ne (i := 18) (v := some (vN i)) (by decide) s9
    have r13 := slot_ne (i := 18) (v := some (vN i)) (by decide) s13
    have r16 := slot_ne (i := 18) (v := some (vN i)) (by decide) s16
    have r17 := slot_ne (i := 18) (v := some (vN i)) (by decide) s17
    have rl := slot_len (i := 18) (v := some (vN i)) sl
    have r18 : (σ.set 18 (some (vN i)))[18]? = some (some (vN i)) := slot_at (by omega)
    refine ⟨_, r1, _, r3, _, r16, _, r13, _, r17, _, r9, _, r18, c, q, a, sc, bk, sd, p, n, ns, least, D, near, far, i, t, b, _, rfl, R, (fun z => by rw [z] at hl; simp at hl; omega), by omega, fun H2 near' far' t' b' R' hl' => ⟨_, rfl, no rfl ⟨⟨near', far', t', b', R', by omega⟩, r1, r3, r4, r5, r9, r13, r16, r17, rl⟩⟩⟩
  · obtain ⟨⟨near, far, t, b, R, hl⟩, s1, s3, s4, s5, s9, s13, s16, s17, sl⟩ := p'
    rw [Int.toNat_natCast] at hl R
    have hf : fOf n near far = [] := List.eq_nil_of_length_eq_zero (by omega)
    obtain ⟨dx, st, pa, fu, hA⟩ : ∃ dx st pa fu, H' a = some (AuO dx st pa fu sc) := by
      obtain ⟨_, dx, st, pa, fu, pv, xs, h, _⟩ := R.au
      exact ⟨dx, st, pa, fu, h⟩
    have hres := res_least R.st hf R.inv
    refine ⟨_, s16, a, dx, _, rfl, hA, a, sc, n, ns, near, far, t, b, _, rfl, R.au, R.st, fun H2 e2 => ?_⟩
    have hv : resV n ns near far = .int (num ns near) := by unfold resV; rw [if_pos hf]
    rw [hv]
    have R2 := R.same e2
    have r15 : (σ.set 15 (some (.int (num ns near))))[15]? = some (some (.int (num ns near))) := slot_at (by omega)
    have r4 := slot_ne (i := 15) (v := some (.int (num ns near))) (by decide) s4
    have r5 := slot_ne (i := 15) (v := some (.int (num ns near))) (by decide) s5
    have r9 := slot_ne (i := 15) (v := some (.int (num ns near))) (by decide) s9
    have r16 := slot_ne (i := 15) (v := some (.int (num ns near))) (by decide) s16
    have r17 := slot_ne (i := 15) (v := some (.int (num ns near))) (by decide) s17
    have rl := slot_len (i := 15) (v := some (.int (num ns near))) sl
    refine ⟨_, r15, _, _, _, _, true, rfl, .ty _, .base (.int _), kit_ty (by decide +kernel), _, rfl, no rfl ⟨_, r15, _, r9, _, _, rfl, rfl, _, rfl, no (decide_eq_false hres) ?_⟩⟩
    refine ⟨_, r4, by show 2 ≤ sizeLine; decide, fun l3 hl3 => ⟨l3, rfl, ⟨_, sqL upd_same⟩, ?_⟩⟩
    have R3 := R2.same (Same.new (o := .lst [.int 0, vN n]) hl3)
    refine for_it (wkL (xs := [.int 0, vN n]) (sqL upd_same)) (fun i σ H5 => Same (upd H2 l3 (.lst [.int 0, vN n])) H5 ∧ σ[5]? = some (some (.ref p)) ∧ σ[16]? = some (some (.ref a)) ∧ σ[17]? = some (some (.ref bk)) ∧ σ.length = 20) ⟨Same.refl _, r5, r16, r17, rl⟩ (fun i σ H' _ p => p.1) (fun i x σ H5 H6 hi p' y => ?_) fun σ H5 p' => ?_
    · obtain ⟨e5, s5, s16, s17, sl⟩ := p'
      obtain ⟨e, hx⟩ := y
      subst e
      obtain ⟨hh, rfl⟩ : ∃ h : Nat, x = .int (h : Int) := by
        match i, hi with
        | 0, _ => exact ⟨0, (Option.some.inj hx).symm⟩
        | 1, _ => exact ⟨n, (Option.some.inj hx).symm⟩
      have R5 := R3.same e5
      have r5 := slot_ne (i := 19) (v := some (.int (hh : Int))) (by decide) s5
      have r16 := slot_ne (i := 19) (v := some (.int (hh : Int))) (by decide) s16
      have r17 := slot_ne (i := 19) (v := some (.int (hh : Int))) (by decide) s17
      have rl := slot_len (i := 19) (v := some (.int (hh : Int))) sl
      have r19 : (σ.set 19 (some (.int (hh : Int))))[19]? = some (some (.int (hh : Int))) := slot_at (by omega)
      refine ⟨_, r16, _, r19, a, sc, _, n, near, far, _, ns, t, b, rfl, ⟨hh, rfl⟩, R5.au, R5.st, hf, by omega, fun tp lp H7 e7 htp hlp => ?_⟩
      refine ⟨by show 2 ≤ sizeLine; decide, fun l8 hl8 => ⟨by show 2 ≤ sizeLine; decide, fun t9 ht9 => ⟨_, _, rfl, eqv_ref ((Same.up (o := .tup [.str "refused", .ref l8]) (Same.new (o := .lst [.bl true, .bl false]) hl8) ht9) _ _ htp) upd_same ((Same.up (o := .tup [.str "refused", .ref l8]) (Same.new (o := .lst [.bl true, .bl false]) hl8) ht9) _ _ hlp) ((Same.new ht9) _ _ upd_same), fun H10 e10 => ⟨_, rfl, no rfl ⟨Same.trans e5 (Same.trans (Same.up (Same.up e7 hl8) ht9) e10), r5, r16, r17, rl⟩⟩⟩⟩⟩
    · obtain ⟨e5, s5, s16, s17, sl⟩ := p'
      have R5 := R3.same e5
      obtain ⟨f0, f1, f2, pv, h1, h2, h3, h4, h5, h6, h7⟩ := R5.bks
      exact ⟨_, s16, _, s5, _, s17, bk, _, _, _, rfl, rfl, sqL h1, rfl, _, s17, bk, _, _, _, rfl, rfl, sqL h1, rfl, a, p, sd, sc, pv, n, near, far, _, ns, t, b, rfl, R5.au, R5.st, sqL R5.hp, ⟨f0, f1, f2, h3, h4, h5, h6⟩, R5.hk, h2, fun H11 _ => q0 _⟩
theorem lot0 (n : Nat) : Lot n 0 [] := ⟨(fun h hh => nomatch hh), List.nodup_nil, rfl⟩
theorem lead_ex {ns : List Int} {n : Nat} {least t b : Int} (n6 : n ≤ 6) (lt : bel ns n 0 0 least < 2 ^ n) (sh : (bel ns n 0 0 least : Int) * b ≤ t * ((2 ^ n : Nat) : Int)) :
    ∃ x ∈ (dOf n 0 0).map (num ns), least ≤ x ∧ sureP ((dOf n 0 0).map (num ns)) t b x := by
  have hl : ((dOf n 0 0).map (num ns)).length = 2 ^ n := by rw [List.length_map, dOf00, List.length_range]
  have hb := bel_nums ns n 0 0 least
  have ex : ∃ x ∈ (dOf n 0 0).map (num ns), ¬ x < least := by
    refine Classical.byContradiction fun z => ?_
    have all : ((dOf n 0 0).map (num ns)).filter (fun x => decide (x < least)) = (dOf n 0 0).map (num ns) := List.filter_eq_self.mpr fun x hx => decide_eq_true (Classical.byContradiction fun w => z ⟨x, hx, w⟩)
    rw [all, hl] at hb
    omega
  obtain ⟨x, hx, h1, h2⟩ := least_up ex
  refine ⟨x, hx, h1, ?_⟩
  show (((((dOf n 0 0).map (num ns)).filter fun y => decide (y < x)).length : Nat) : Int) * b ≤ t * (((dOf n 0 0).map (num ns)).length : Nat)
  rw [h2, hb, hl]
  exact sh
theorem law_2 (hP : PF P) (T : Txt K mg) {cdv : Value} {A : Around} {outer : List Env} {s : Shared} {H0 : Hp} {E : XK} (hr : Room 9 (A.deeper (envOfC "law" (defScope st_law) s.heap.objs.size 1026 cdv))) :
    ∃ tt : TS, PSs (cxOf CX0 P w K mg base N_law "law" (defScope st_law) 1026 cdv A outer s H0 E).nox ((defBody st_law).drop 11) tt ∧ ∀ (Q : VK) (σ : L2.St) (H : Hp) (c q p f0 : Addr) (v : V) (plain : Bool) (n : Nat) (ns : List Int) (least : Int) (t b : Int),
      σ[1]? = some (some (.ref c)) → σ[3]? = some (some (.ref q)) → σ[4]? = some (some (vN n)) → σ[5]? = some (some (.ref p)) → σ[8]? = some (some (.ref f0)) → σ[9]? = some (some (.int least)) → σ[10]? = some (some (vN (bel ns n 0 0 least))) → σ[11]? = some (some v) → σ[12]? = some (some (.bl plain)) → σ.length = 20 →
      Dg H c q → 1 ≤ n → n ≤ 6 → Good n ns 1000000000 → H p = some (.lst (ns.map V.int)) → H f0 = some (.lst ((List.range n).map vN)) → p ≠ q → f0 ≠ q → -1000000000 ≤ least → least ≤ 1000000000 → bel ns n 0 0 least < 2 ^ n → Pr H v t b → Share (bel ns n 0 0 least) (2 ^ n) t b →
      (∀ H', Q (.bl true) H') → tt { nx := fun _ H' => Q .non H', rt := Q } σ H := by
  obtain ⟨t3, p3, h3⟩ := law_3 (P := P) (w := w) (base := base) T (cdv := cdv) (A := A) (outer := outer) (s := s) (H0 := H0) (E := E) hr
  obtain ⟨fdS, psS, FS, bS⟩ := F_Scale___init__ (P := P) (w := w) (mg := mg) (base := base) T
  obtain ⟨fdA, FA, bA⟩ := F_AInit (P := P) (w := w) (mg := mg) (base := base) hP T
  refine ⟨_, (pss_cons (ps_set (i := 13) sc_law.nd rfl (Or.inl rfl) (pe_make T.mkS FS (hr.mono (by decide)) rfl T.m_Scale bS .nil pass0 (pa_cons (pv 4) (pa_cons (pe_callTy call_list_of (by rfl) T.n_list (by decide +kernel) (pa_cons (pv 5) pa_nil)) pa_nil))))
      (pss_cons (ps_set (i := 14) sc_law.nd rfl (Or.inl rfl) (pe_cal (C__law_reduced T) (hr.mono (by decide)) (pa_cons (pv 10) (pa_cons (pe_op op_shl1 pe_int (pv 4)) pa_nil))))
      (pss_cons (ps_if (pt_not (pt_val (pe_cal (C__law_same T) (hr.mono (by decide)) (pa_cons (pe_cal (C__law_pair T) (hr.mono (by decide)) (pa_cons (pe_cal (C_least_share T) (hr.mono (by decide)) (pa_cons (pv 13) (pa_cons (pe_lst pa_nil) (pa_cons (pe_tup pa_nil) (pa_cons (pv 9) pa_nil))))) pa_nil)) (pa_cons (pv 14) pa_nil))))) (pss_one (ps_ret pe_bl)) pss_nil)
      (pss_cons (ps_set (i := 15) sc_law.nd rfl (Or.inl rfl) (pe_cal (C_purse_lead T) (hr.mono (by decide)) (pa_cons (pv 13) (pa_cons (pe_lst pa_nil) (pa_cons (pe_lst pa_nil) (pa_cons (pe_cal (C__law_value T) (hr.mono (by decide)) (pa_cons (pv 11) (pa_cons (pv 12) pa_nil))) pa_nil))))))
      (pss_cons (ps_if (PW.pt (pw_or (pt_not (pt_val (pe_callB call_isi (by rfl) T.n_isinstance (by decide +kernel) (pa_cons (pv 15) (pa_cons (pe_bty (n := "int") T.n_int) pa_nil))))) (pw_or1 (pt_cmpR op_lt (pv 15) (pv 9) (nomark _))))) (pss_one (ps_ret pe_bl)) pss_nil)
      (pss_cons (ps_set (i := 16) sc_law.nd rfl (Or.inl rfl) (pe_make T.mkA FA (hr.mono (by decide)) rfl T.m_Auction bA .nil pass0 (pa_cons (pv 13) (pa_cons (pe_cal (C__law_value T) (hr.mono (by decide)) (pa_cons (pv 11) (pa_cons (pv 12) pa_nil))) pa_nil))))
      (pss_cons (ps_set (i := 17) sc_law.nd rfl (Or.inl rfl) (pe_lst (pa_cons (pv 5) (pa_cons (pe_lst (pa_cons (pv 8) (pa_cons (pe_lst pa_nil) (pa_cons (pe_lst pa_nil) pa_nil)))) (pa_cons (pv 11) pa_nil)))))
      (pss_cons (ps_if (pt_not (pt_val (pe_cal (C__law_state_right T) (hr.mono (by decide)) (pa_cons (pv 16) (pa_cons (pv 5) (pa_cons (pe_ix ix_list (pv 17) pe_int (fun _ _ => rfl)) (pa_cons (pv 11) pa_nil))))))) (pss_one (ps_ret pe_bl)) pss_nil)
      p3)))))))), ?_⟩
  intro Q σ H c q p f0 v plain n ns least t b s1 s3 s4 s5 s8 s9 s10 s11 s12 sl dg n1 n6 G hp hf0 npq nf0q lo hi lt hv sh q0
  have S0 := stand0 n6
  have h64 := p6 n6
  have ppos : 0 < 2 ^ n := Nat.pow_pos (by decide)
  obtain ⟨slow, snn, sle1, sb6, sge⟩ := sh
  have bpos := slow.pos
  have st : Sm t := by unfold Sm; omega
  have sb : Sm b := by unfold Sm; omega
  have f0e := fOf00 n (by omega)
  have f0l : (fOf n 0 0).length = n := by rw [f0e, List.length_range]
  refine ⟨_, s4, _, s5, p, _, rfl, .inl (sqL hp), fun l11 hl11 => fun x dx hx hdx hne => ⟨x, dx, l11, n, ns, rfl, upd_same, ?_, G, n1, n6, fun H1 k1 hsc => ⟨rfl, ?_⟩⟩⟩
  · refine sqL ?_
    rw [upd_ne (fun z => by rw [← z, upd_same] at hx; cases hx), upd_ne (fun z => by rw [← z, upd_same] at hdx; cases hdx), upd_same]
  have g1 : Same H H1 := Same.trans (Same.new hl11) (made_R hx hdx k1)
  have r1 := slot_ne (i := 13) (v := some (.ref x)) (by decide) s1
  have r3 := slot_ne (i := 13) (v := some (.ref x)) (by decide) s3
  have r4 := slot_ne (i := 13) (v := some (.ref x)) (by decide) s4
  have r5 := slot_ne (i := 13) (v := some (.ref x)) (by decide) s5
  have r8 := slot_ne (i := 13) (v := some (.ref x)) (by decide) s8
  have r9 := slot_ne (i := 13) (v := some (.ref x)) (by decide) s9
  have r10 := slot_ne (i := 13) (v := some (.ref x)) (by decide) s10
  have r11 := slot_ne (i := 13) (v := some (.ref x)) (by decide) s11
  have r12 := slot_ne (i := 13) (v := some (.ref x)) (by decide) s12
  have rl := slot_len (i := 13) (v := some (.ref x)) sl
  have r13 : (σ.set 13 (some (.ref x)))[13]? = some (some (.ref x)) := slot_at (by omega)
  refine ⟨_, r10, _, r4, n, rfl, rfl, by omega, _, _, rfl, by omega, Nat.lt_of_le_of_lt (by omega : (((2 ^ n : Nat) : Int)).natAbs ≤ 64) (by decide), Nat.lt_of_le_of_lt (by omega : ((bel ns n 0 0 least : Nat) : Int).natAbs ≤ 64) (by decide), fun dv H2 e2 hdv => ?_⟩
  have g2 := Same.trans g1 e2
  have hsc2 := hsc.same e2
  have t3' := slot_ne (i := 14) (v := some dv) (by decide) r3
  have t1 := slot_ne (i := 14) (v := some dv) (by decide) r1
  have t4 := slot_ne (i := 14) (v := some dv) (by decide) r4
  have t5 := slot_ne (i := 14) (v := some dv) (by decide) r5
  have t8 := slot_ne (i := 14) (v := some dv) (by decide) r8
  have t9 := slot_ne (i := 14) (v := some dv) (by decide) r9
  have t11 := slot_ne (i := 14) (v := some dv) (by decide) r11
  have t12 := slot_ne (i := 14) (v := some dv) (by decide) r12
  have t13 := slot_ne (i := 14) (v := some dv) (by decide) r13
  have tl := slot_len (i := 14) (v := some dv) rl
  have t14 : ((σ.set 13 (some (.ref x))).set 14 (some dv))[14]? = some (some dv) := slot_at (by omega)
  refine ⟨_, t13, by show 0 ≤ sizeLine; decide, fun l3 hl3 => ⟨by show 0 ≤ sizeLine; decide, fun u3 hu3 => ⟨_, t9, x, l3, u3, n, 0, 0, ns, [], [], least, rfl, ⟨(hsc2.same (Same.new hl3)).same (Same.new hu3), .inl (sqL ((Same.new hu3) _ _ upd_same)), .inr (sqT upd_same), lot0 n, lot0 n, S0⟩, lo, hi, fun r H3 e3 hr3 => ?_⟩⟩⟩
  have e23 : Same H2 H3 := Same.trans (Same.up (o := .tup []) (Same.new (o := .lst []) hl3) hu3) e3
  rw [f0l] at hr3
  refine ⟨r, _, _, rfl, hr3, fun u H4 e4 hu => ⟨_, t14, _, _, rfl, eqv_pr hu (hdv.same (Same.trans e23 e4)), fun H5 e5 => ⟨_, rfl, no rfl ?_⟩⟩⟩
  have e25 := Same.trans e23 (Same.trans e4 e5)
  have g5 := Same.trans g2 e25
  refine ⟨_, t13, by show 0 ≤ sizeLine; decide, fun l6 hl6 => ⟨by show 0 ≤ sizeLine; decide, fun l7 hl7 => ?_⟩⟩
  have g7 := Same.up (o := .lst []) (Same.up (o := .lst []) g5 hl6) hl7
  have e27 := Same.up (o := .lst []) (Same.up (o := .lst []) e25 hl6) hl7
  refine ⟨_, t11, _, t12, v, t, b, plain, rfl, hv.same g7, slow, st, sb, fun u8 H8 e8 hu8 => ?_⟩
  obtain ⟨x0, hx0, hx1, hx2⟩ := lead_ex n6 lt sge
  refine ⟨x, l6, l7, n, 0, 0, ns, [], [], u8, t, b, rfl, ⟨hsc2.same (Same.trans e27 e8), .inl (sqL (e8 _ _ ((Same.new hl7) _ _ upd_same))), .inl (sqL (e8 _ _ upd_same)), lot0 n, lot0 n, S0⟩, hu8, slow, st, sb6, snn, sle1, ⟨x0, hx0, hx2⟩, fun m H9 e9 hm => ?_⟩
  have hm0 := hm x0 hx0 hx2
  have g9 := Same.trans g7 (Same.trans e8 e9)
  have e29 := Same.trans e27 (Same.trans e8 e9)
  have w1 := slot_ne (i := 15) (v := some (.int m)) (by decide) t1
  have w3 := slot_ne (i := 15) (v := some (.int m)) (by decide) t3'
  have w4 := slot_ne (i := 15) (v := some (.int m)) (by decide) t4
  have w5 := slot_ne (i := 15) (v := some (.int m)) (by decide) t5
  have w8 := slot_ne (i := 15) (v := some (.int m)) (by decide) t8
  have w9 := slot_ne (i := 15) (v := some (.int m)) (by decide) t9
  have w11 := slot_ne (i := 15) (v := some (.int m)) (by decide) t11
  have w12 := slot_ne (i := 15) (v := some (.int m)) (by decide) t12
  have w13 := slot_ne (i := 15) (v := some (.int m)) (by decide) t13
  have wl := slot_len (i := 15) (v := some (.int m)) tl
  have w15 : (((σ.set 13 (some (.ref x))).set 14 (some dv)).set 15 (some (.int m)))[15]? = some (some (.int m)) := slot_at (by omega)
  refine ⟨_, w15, _, _, _, _, true, rfl, .ty _, .base (.int _), kit_ty (by decide +kernel), _, rfl, no rfl ⟨_, w15, _, w9, _, _, rfl, rfl, _, rfl, no (decide_eq_false (by omega)) ?_⟩⟩
  refine ⟨_, w13, _, w11, _, w12, v, t, b, plain, rfl, hv.same g9, slow, st, sb, fun u10 H10 e10 hu10 => fun y dy hy hdy hne2 => ?_⟩
  have e210 := Same.trans e29 e10
  have nyx : Same H10 (upd (upd H10 dy (.own y)) y (.ins cA dy [])) := fun z o h => by rw [upd_ne (ne_of_none h hy), upd_ne (ne_of_none h hdy)]; exact h
  refine ⟨y, dy, x, n, ns, u10, t, b, rfl, upd_same, (hsc2.same e210).same nyx, hu10.same nyx, slow, st, sb6, snn, sle1, fun H11 k11 au11 => ⟨rfl, ?_⟩⟩
  have g11 : Same H H11 := Same.trans (Same.trans g9 e10) (made_R hy hdy k11)
  have v1 := slot_ne (i := 16) (v := some (.ref y)) (by decide) w1
  have v3 := slot_ne (i := 16) (v := some (.ref y)) (by decide) w3
  have v4 := slot_ne (i := 16) (v := some (.ref y)) (by decide) w4
  have v5 := slot_ne (i := 16) (v := some (.ref y)) (by decide) w5
  have v8 := slot_ne (i := 16) (v := some (.ref y)) (by decide) w8
  have v9 := slot_ne (i := 16) (v := some (.ref y)) (by decide) w9
  have v11 := slot_ne (i := 16) (v := some (.ref y)) (by decide) w11
  have v13 := slot_ne (i := 16) (v := some (.ref y)) (by decide) w13
  have vl := slot_len (i := 16) (v := some (.ref y)) wl
  have v16 : ((((σ.set 13 (some (.ref x))).set 14 (some dv)).set 15 (some (.int m))).set 16 (some (.ref y)))[16]? = some (some (.ref y)) := slot_at (by omega)
  refine ⟨_, v5, _, v8, by show 0 ≤ sizeLine; decide, fun a1 ha1 => ⟨by show 0 ≤ sizeLine; decide, fun a2 ha2 => ⟨by show 3 ≤ sizeLine; decide, fun sd hsd => ⟨_, v11, by show 3 ≤ sizeLine; decide, fun bk hbk => ?_⟩⟩⟩⟩
  have i1 : Same H11 (upd H11 a1 (.lst [])) := Same.new ha1
  have i2 := Same.up (o := .lst []) i1 ha2
  have i3 := Same.up (o := .lst [.ref f0, .ref a1, .ref a2]) i2 hsd
  have i4 := Same.up (o := .lst [.ref p, .ref sd, v]) i3 hbk
  have g15 := Same.trans g11 i4
  have z1 := slot_ne (i := 17) (v := some (.ref bk)) (by decide) v1
  have z3 := slot_ne (i := 17) (v := some (.ref bk)) (by decide) v3
  have z4 := slot_ne (i := 17) (v := some (.ref bk)) (by decide) v4
  have z5 := slot_ne (i := 17) (v := some (.ref bk)) (by decide) v5
  have z9 := slot_ne (i := 17) (v := some (.ref bk)) (by decide) v9
  have z11 := slot_ne (i := 17) (v := some (.ref bk)) (by decide) v11
  have z13 := slot_ne (i := 17) (v := some (.ref bk)) (by decide) v13
  have z16 := slot_ne (i := 17) (v := some (.ref bk)) (by decide) v16
  have zl := slot_len (i := 17) (v := some (.ref bk)) vl
  have z17 : (((((σ.set 13 (some (.ref x))).set 14 (some dv)).set 15 (some (.int m))).set 16 (some (.ref y))).set 17 (some (.ref bk)))[17]? = some (some (.ref bk)) := slot_at (by omega)
  have cbk : (upd (upd (upd (upd H11 a1 (.lst [])) a2 (.lst [])) sd (.lst [.ref f0, .ref a1, .ref a2])) bk (.lst [.ref p, .ref sd, v])) bk = some (.lst [.ref p, .ref sd, v]) := upd_same
  have csd : (upd (upd (upd (upd H11 a1 (.lst [])) a2 (.lst [])) sd (.lst [.ref f0, .ref a1, .ref a2])) bk (.lst [.ref p, .ref sd, v])) sd = some (.lst [.ref f0, .ref a1, .ref a2]) := (Same.new hbk) _ _ upd_same
  have ca2 : (upd (upd (upd (upd H11 a1 (.lst [])) a2 (.lst [])) sd (.lst [.ref f0, .ref a1, .ref a2])) bk (.lst [.ref p, .ref sd, v])) a2 = some (.lst []) := (Same.up (Same.new hsd) hbk) _ _ upd_same
  have ca1 : (upd (upd (upd (upd H11 a1 (.lst [])) a2 (.lst [])) sd (.lst [.ref f0, .ref a1, .ref a2])) bk (.lst [.ref p, .ref sd, v])) a1 = some (.lst []) := (Same.up (Same.up (Same.new ha2) hsd) hbk) _ _ upd_same
  have dgF := dg.same g15
  have hqH : ∃ xs, H q = some (.lst xs) := by
    obtain ⟨cs, i, r, w1, w2, w3, w4⟩ := dg
    exact ⟨_, w3⟩
  have hcH : ∃ xs, H c = some (.lst xs) := by
    obtain ⟨cs, i, r, w1, w2, w3, w4⟩ := dg
    exact ⟨_, w1⟩
  obtain ⟨qxs, hqH⟩ := hqH
  obtain ⟨cxs, hcH⟩ := hcH
  have old : ∀ z o, H z = some o → a1 ≠ z ∧ a2 ≠ z ∧ sd ≠ z ∧ bk ≠ z := fun z o h => ⟨(ne_of_none (g11 _ _ h) ha1).symm, (ne_of_none (i1 _ _ (g11 _ _ h)) ha2).symm, (ne_of_none (i2 _ _ (g11 _ _ h)) hsd).symm, (ne_of_none (i3 _ _ (g11 _ _ h)) hbk).symm⟩
  have a1sd : a1 ≠ sd := ne_of_none (i2 _ _ (g11 _ _ hp) |> fun _ => (Same.new ha2) _ _ upd_same) hsd
  have a1bk : a1 ≠ bk := ne_of_none ((Same.up (Same.new ha2) hsd) _ _ upd_same) hbk
  have a2sd : a2 ≠ sd := ne_of_none upd_same hsd
  have a2bk : a2 ≠ bk := ne_of_none ((Same.new hsd) _ _ upd_same) hbk
  have sdbk : sd ≠ bk := ne_of_none upd_same hbk
  have h00 : hOf 0 = [] := by decide
  have RSF : RS (upd (upd (upd (upd H11 a1 (.lst [])) a2 (.lst [])) sd (.lst [.ref f0, .ref a1, .ref a2])) bk (.lst [.ref p, .ref sd, v])) c q y x bk sd p n ns least (b * 2037000000) 0 0 0 t b :=
    ⟨dgF, au11.same i4, S0, by rw [h00]; rfl, ⟨slow, snn, sle1, ⟨_, rfl⟩, ⟨b, Int.mul_comm _ _⟩, by omega, by omega, by rw [f0l]; exact lt, by rw [f0l]; exact sge⟩, G,
      ⟨f0, a1, a2, v, cbk, hv.same g15, csd, by rw [f0e]; exact g15 _ _ hf0, by rw [h00]; exact ca1, by rw [h00]; exact ca2, ⟨nf0q, (old _ _ hf0).2.2.1.symm, (old _ _ hf0).2.2.2.symm⟩, ⟨(old _ _ hqH).1, a1sd, a1bk⟩, (old _ _ hqH).2.1, a2sd, a2bk⟩,
      g15 _ _ hp, ⟨npq, (old _ _ hp).2.2.1.symm, (old _ _ hp).2.2.2.symm, (old _ _ hqH).2.2.1, (old _ _ hqH).2.2.2, sdbk, (old _ _ hcH).2.2.1.symm, (old _ _ hcH).2.2.2.symm⟩, lo, hi⟩
  refine ⟨_, z16, _, z5, _, z17, bk, _, _, _, rfl, rfl, sqL cbk, rfl, _, z11, y, p, sd, x, v, n, 0, 0, 0, ns, t, b, rfl, RSF.au, S0, sqL RSF.hp, ⟨f0, a1, a2, csd, by rw [f0e]; exact g15 _ _ hf0, by rw [h00]; exact ca1, by rw [h00]; exact ca2⟩, RSF.hk, hv.same g15, fun H16 e16 => ⟨_, rfl, no rfl ?_⟩⟩
  exact h3 Q _ H16 c q y x bk sd p n ns least (b * 2037000000) t b z1 z3 z4 z5 z9 z13 z16 z17 zl n6 (RSF.same e16) q0

def tabH : List Int := [3, 2, 4, 1, 3, 2, 4, 6]
theorem tabH_b : ∀ d < 8, ∃ n : Nat, num tabH d = (n : Int) ∧ 1 ≤ n ∧ n ≤ 6 := by
  intro d hd
  have : d = 0 ∨ d = 1 ∨ d = 2 ∨ d = 3 ∨ d = 4 ∨ d = 5 ∨ d = 6 ∨ d = 7 := by omega
  rcases this with rfl | rfl | rfl | rfl | rfl | rfl | rfl | rfl
  · exact ⟨3, rfl, by decide, by decide⟩
  · exact ⟨2, rfl, by decide, by decide⟩
  · exact ⟨4, rfl, by decide, by decide⟩
  · exact ⟨1, rfl, by decide, by decide⟩
  · exact ⟨3, rfl, by decide, by decide⟩
  · exact ⟨2, rfl, by decide, by decide⟩
  · exact ⟨4, rfl, by decide, by decide⟩
  · exact ⟨6, rfl, by decide, by decide⟩
theorem cutV_ints (ns : List Int) (lo hi : Option Int) : ∃ cs : List Int, cutV (ns.map V.int) lo hi = cs.map V.int ∧ cs.length ≤ ns.length := by
  unfold cutV
  refine ⟨(ns.drop _).take _, by rw [List.map_take, List.map_drop], ?_⟩
  rw [List.length_take, List.length_drop]
  omega
theorem good_max {n : Nat} {ns : List Int} {B m : Int} (G : Good n ns B) (h : ∀ y ∈ ns, y ≤ m) : Good n ns m := by
  have up : ∀ i, i < 2 ^ n → num ns i ≤ m := fun i hi => by
    have hl : i < ns.length := by rw [G.len]; exact hi
    unfold num
    rw [List.getD_eq_getElem?_getD, List.getElem?_eq_getElem hl]
    exact h _ (List.getElem_mem hl)
  refine ⟨G.len, G.opp, G.ris, fun i hi => ⟨?_, up i hi⟩⟩
  have h1 := up (2 ^ n - 1 - i) (by omega)
  have h2 := G.opp i hi
  omega
theorem rgV_vN (n : Nat) : rgV 0 (n : Int) = (List.range n).map vN := by
  unfold rgV
  rw [Int.sub_zero, Int.toNat_natCast]
  refine List.map_congr_left fun i _ => ?_
  rw [Int.zero_add]
def tabF (mx : Int) : List Int := [1, 1, (10 : Int) ^ ((9 : Int).toNat) / mx]
theorem tabF_b {n : Nat} {ns : List Int} {mx : Int} {d : Nat} (G : Good n ns 63) (Gm : Good n ns mx) (m1 : 1 ≤ mx) (hd : d < 3) : ∃ B, Good n ns B ∧ 0 ≤ num (tabF mx) d ∧ num (tabF mx) d ≤ 1000000000 ∧ num (tabF mx) d * B ≤ 1000000000 := by
  have p9 : (10 : Int) ^ ((9 : Int).toNat) = 1000000000 := by decide
  have h0 : 0 ≤ (1000000000 : Int) / mx := Int.ediv_nonneg (by decide) (by omega)
  have h1 : (1000000000 : Int) / mx ≤ 1000000000 := Int.ediv_le_self _ (by decide)
  have h2 := Int.mul_ediv_self_le (x := 1000000000) (k := mx) (by omega)
  have : d = 0 ∨ d = 1 ∨ d = 2 := by omega
  rcases this with rfl | rfl | rfl
  · exact ⟨63, G, by show (0 : Int) ≤ 1; decide, by show (1 : Int) ≤ 1000000000; decide, by show (1 : Int) * 63 ≤ 1000000000; decide⟩
  · exact ⟨63, G, by show (0 : Int) ≤ 1; decide, by show (1 : Int) ≤ 1000000000; decide, by show (1 : Int) * 63 ≤ 1000000000; decide⟩
  · refine ⟨mx, Gm, ?_, ?_, ?_⟩
    · show (0 : Int) ≤ (10 : Int) ^ ((9 : Int).toNat) / mx
      rw [p9]; exact h0
    · show (10 : Int) ^ ((9 : Int).toNat) / mx ≤ 1000000000
      rw [p9]; exact h1
    · show (10 : Int) ^ ((9 : Int).toNat) / mx * mx ≤ 1000000000
      rw [p9, Int.mul_comm]; exact h2
def spLaw (K : PySem.W.Frag) : Sp := fun vs H Q _ => ∃ (a : Addr) (ns : List Int), vs = [.ref a] ∧ SqL K H a (ns.map V.int) ∧ ns.length ≤ 63 ∧ ∀ H', Q (.bl true) H'
theorem F_law (hP : PF P) (T : Txt K mg) {fd : FuncData} (F : FunD K "law" "law" (defArgs st_law) (defBody st_law) (defScope st_law) [] [] 1026 fd) : (∀ (s : Shared) (v : Value), BindsTo s fd ⟨[v], []⟩ [("_law_script", v)]) ∧ FnOk P w K mg base CX0 20 1026 fd ["_law_script"] (spLaw K) := by
  refine ⟨?_, F.ok sc_law (fun vs H Q E h => by obtain ⟨a, ns, rfl, _⟩ := h; rfl) fun cdv A outer s H vs Q E hr h => ?_⟩
  · intro s v
    obtain ⟨oc, od, dV, kV, doc, pm, an, cdv, ct, osl, rfl, lk, hcd, hD, hK⟩ := F.ex
    rcases hD with ⟨_, rfl⟩ | ⟨z, _⟩
    · exact BindsTo.of_looks fun M => PySem.W.Looks.of_pure rfl
    · exact absurd rfl z
  obtain ⟨a, ns0, rfl, ha, hl63, q0⟩ := h
  obtain ⟨t2, p2, h2⟩ := law_2 (P := P) (w := w) (base := base) hP T (cdv := cdv) (A := A) (outer := outer) (s := s) (H0 := H) (E := E) (hr.mono (by decide))
  refine ⟨_, PSs.nox ((pss_cons (ps_setLc (i := 1) (own := [("_law_x", 2)]) (g := gName 2) (by rfl) sc_law.nd rfl rfl (sw_true rfl rfl rfl (by decide +kernel)) (pi_list (pe_slice sl_list (pv 0) po_none (po_some pe_int))) (blkOk_by (own := [("_law_x", 2)]) (N := N_law) (sc := defScope st_law) (by decide +kernel)) (fun _ _ _ _ _ => pg_name (i := 2) sc_law.nd rfl (Or.inl rfl)) (fun _ _ _ _ _ => pts_nil) (fun _ _ _ _ _ => (pe_callTy call_int1 (by rfl) T.n_int (by decide +kernel) (pa_cons (pv 2) pa_nil))))
      (pss_cons (ps_set (i := 3) sc_law.nd rfl (Or.inl rfl) (pe_lst (pa_cons pe_int (pa_cons pe_int pa_nil))))
      (pss_cons (ps_set (i := 4) sc_law.nd rfl (Or.inl rfl) (pe_ix ix_list (pe_lst (pa_cons pe_int (pa_cons pe_int (pa_cons pe_int (pa_cons pe_int (pa_cons pe_int (pa_cons pe_int (pa_cons pe_int (pa_cons pe_int pa_nil))))))))) (pe_cal (C__law_digit T) (hr.mono (by decide)) (pa_cons (pv 1) (pa_cons (pv 3) (pa_cons pe_int pa_nil)))) (fun _ _ => rfl)))
      (pss_cons (ps_set (i := 5) sc_law.nd rfl (Or.inl rfl) (pe_cal (C__law_pushed T) (hr.mono (by decide)) (pa_cons (pv 1) (pa_cons (pv 3) (pa_cons (pv 4) pa_nil)))))
      (pss_cons (ps_set (i := 6) sc_law.nd rfl (Or.inr rfl) (pe_ix ix_list (pe_lst (pa_cons pe_int (pa_cons pe_int (pa_cons (pe_op op_fdivW (pe_op op_pow pe_int pe_int) (pe_callB (cr_max rfl) (by rfl) T.n_max (by decide +kernel) (pa_cons (pe_op op_cat (pe_lst (pa_cons pe_int pa_nil)) (pv 5)) pa_nil))) pa_nil)))) (pe_cal (C__law_digit T) (hr.mono (by decide)) (pa_cons (pv 1) (pa_cons (pv 3) (pa_cons pe_int pa_nil)))) (fun _ _ => rfl)))
      (pss_cons (ps_setLc (i := 5) (own := [("_law_number", 7)]) (g := gName 7) (by rfl) sc_law.nd rfl rfl (sw_true rfl rfl rfl (by decide +kernel)) (pi_list (pv 5)) (blkOk_by (own := [("_law_number", 7)]) (N := N_law) (sc := defScope st_law) (by decide +kernel)) (fun _ _ _ _ _ => pg_name (i := 7) sc_law.nd rfl (Or.inl rfl)) (fun _ _ _ _ _ => pts_nil) (fun _ _ _ _ _ => (pe_op op_mul (pv 6) (pv 7))))
      (pss_cons (ps_set (i := 8) sc_law.nd rfl (Or.inl rfl) (pe_listRg rfl rfl T.n_list (prg_1 rfl T.n_range (pv 4))))
      (pss_cons (ps_set (i := 9) sc_law.nd rfl (Or.inl rfl) (pe_cal (C__law_wished T) (hr.mono (by decide)) (pa_cons (pv 1) (pa_cons (pv 3) (pa_cons (pv 5) (pa_cons (pv 8) pa_nil))))))
      (pss_cons (ps_set (i := 10) sc_law.nd rfl (Or.inl rfl) (pe_cal (C__law_below T) (hr.mono (by decide)) (pa_cons (pv 5) (pa_cons pe_int (pa_cons (pv 8) (pa_cons (pv 9) pa_nil))))))
      (pss_cons (ps_set (i := 11) sc_law.nd rfl (Or.inl rfl) (pe_cal (C__law_share T) (hr.mono (by decide)) (pa_cons (pv 1) (pa_cons (pv 3) (pa_cons (pv 10) (pa_cons (pe_op op_shl1 pe_int (pv 4)) pa_nil))))))
      (pss_cons (ps_set (i := 12) sc_law.nd rfl (Or.inl rfl) (pe_cmpR op_eq (pe_cal (C__law_digit T) (hr.mono (by decide)) (pa_cons (pv 1) (pa_cons (pv 3) (pa_cons pe_int pa_nil)))) pe_int (nomark _)))
      p2)))))))))))), ?_⟩
  obtain ⟨cs, hcs, hcl⟩ := cutV_ints ns0 none (some 63)
  refine ⟨_, rfl, _, rfl, a, _, rfl, ha, fun l0 hl0 => ⟨l0, rfl, ⟨_, sqL upd_same⟩, fun D1 hD1 => ?_⟩⟩
  have hl0' : (upd H l0 (.lst (cutV (ns0.map V.int) none (some 63)))) l0 = some (.lst (cs.map V.int)) := by rw [upd_same, hcs]
  refine lcW (wkL (sqL hl0')) hD1 (by rw [List.length_map, sizeLine_eq]; omega) (fun _ => true) (fun i => .int (cs.getD i 0)) (fun i x H3 Ry Rn hi3 e y ky kn => ?_) (fun i H x H' y => y.1) fun H1 e1 hl1 => ?_
  · obtain ⟨_, hx⟩ := y
    rw [List.length_map] at hi3
    have ex : cs.getD i 0 = cs[i] := by rw [List.getD_eq_getElem?_getD, List.getElem?_eq_getElem hi3]; rfl
    obtain rfl : x = .int (cs.getD i 0) := by rw [List.getElem?_map, List.getElem?_eq_getElem hi3] at hx; rw [ex]; exact (Option.some.inj hx).symm
    exact ⟨rfl, _, rfl, .inl ⟨_, rfl, ky rfl _ (Same.refl _)⟩⟩
  rw [List.length_map, range_map cs 0 V.int] at hl1
  refine ⟨by show 2 ≤ sizeLine; decide, fun q hq => ?_⟩
  have nq : D1 ≠ q := ne_of_none hl1 hq
  have dg2 : Dg (upd H1 q (.lst [.int 0, .int 0])) D1 q := ⟨cs, 0, 0, (upd_ne nq).trans hl1, nq, upd_same, by omega⟩
  generalize hA2 : upd H1 q (.lst [.int 0, .int 0]) = H2 at *
  refine ⟨by show 8 ≤ sizeLine; decide, fun l3 hl3 => ⟨_, rfl, _, rfl, D1, q, 8, rfl, dg2.new hl3, by decide, by decide, fun d4 H4 hd4 k4 dg4 => ?_⟩⟩
  obtain ⟨n, hn, n1, n6⟩ := tabH_b d4 hd4
  refine ⟨l3, _, _, vN n, rfl, rfl, sqL (k4 _ _ (dg2.ne hl3).1 upd_same), ?_, ?_⟩
  · have := atI_nat (num_at (ns := tabH) (m := d4) hd4)
    rw [hn] at this
    exact this
  have S0 := stand0 n6
  have h64 := p6 n6
  have ppos : 0 < 2 ^ n := Nat.pow_pos (by decide)
  refine ⟨_, rfl, _, rfl, _, rfl, D1, q, n, rfl, dg4, n1, n6, fun p ns H5 k5 hp4 dg5 hp5 G5 => ?_⟩
  have npq : p ≠ q := (dg4.ne hp4).1
  have pw : CPow 10 9 := by unfold CPow; decide
  have p9 : (10 : Int) ^ ((9 : Int).toNat) = 1000000000 := by decide
  refine ⟨_, _, rfl, rfl, pw, by show 1 ≤ sizeLine; decide, fun l6 hl6 => ⟨_, rfl, l6, p, _, _, rfl, rfl, upd_same, (Same.new hl6) _ _ hp5, by rw [List.length_map, G5.len, sizeLine_eq]; show 1 + _ ≤ _; omega, fun l7 hl7 => ⟨l7, 1 :: ns, rfl, sqL upd_same, by rw [List.length_cons]; omega, fun mx hmx hmax => ?_⟩⟩⟩
  have m1 : 1 ≤ mx := hmax 1 List.mem_cons_self
  have m63 : mx ≤ 63 := by
    rcases List.mem_cons.mp hmx with h | h
    · omega
    · obtain ⟨j, hj, e⟩ := List.getElem_of_mem h
      have := (G5.lo j (by rw [← G5.len]; exact hj)).2
      unfold num at this
      rw [List.getD_eq_getElem?_getD, List.getElem?_eq_getElem hj] at this
      have e2 : (some ns[j]).getD 0 = mx := e
      omega
  have Gm := good_max G5 fun y hy => hmax y (List.mem_cons_of_mem _ hy)
  refine ⟨_, _, rfl, rfl, wide_div (by omega) (b := 10) (by omega) (by decide) (by decide), ?_⟩
  have hd7 : (upd (upd H5 l6 (.lst [.int 1])) l7 (.lst ([V.int 1] ++ ns.map V.int))) q = H5 q ∨ True := .inr trivial
  have g57 : Same H5 (upd (upd H5 l6 (.lst [.int 1])) l7 (.lst ([V.int 1] ++ ns.map V.int))) := Same.up (Same.new hl6) hl7
  have dg7 := dg5.same g57
  have hp7 := g57 _ _ hp5
  refine ⟨by show 3 ≤ sizeLine; decide, fun l8 hl8 => ⟨_, rfl, _, rfl, D1, q, 3, rfl, dg7.new hl8, by decide, by decide, fun d9 H9 hd9 k9 dg9 => ?_⟩⟩
  have hp9 := k9 _ _ npq ((Same.new hl8) _ _ hp7)
  refine ⟨l8, _, _, .int (num (tabF mx) d9), rfl, rfl, sqL (k9 _ _ (dg7.ne hl8).1 upd_same), atI_nat (num_at (ns := tabF mx) hd9), ?_⟩
  obtain ⟨fB, hfB, f0, fle, fm⟩ := tabF_b G5 Gm m1 hd9
  have nsl : ns.length = 2 ^ n := G5.len
  generalize num (tabF mx) d9 = f at *
  refine ⟨_, rfl, p, rfl, ⟨_, sqL hp9⟩, fun D10 hD10 => lcW (wkL (sqL hp9)) hD10 (by rw [List.length_map, nsl, sizeLine_eq]; omega) (fun _ => true) (fun i => .int (f * ns.getD i 0)) (fun i x H3 Ry Rn hi3 e y ky kn => ?_) (fun i H x H' y => y.1) fun H10 e10 hl10 => ?_⟩
  · obtain ⟨_, hx⟩ := y
    rw [List.length_map] at hi3
    have ex : ns.getD i 0 = ns[i] := by rw [List.getD_eq_getElem?_getD, List.getElem?_eq_getElem hi3]; rfl
    obtain rfl : x = .int (ns.getD i 0) := by rw [List.getElem?_map, List.getElem?_eq_getElem hi3] at hx; rw [ex]; exact (Option.some.inj hx).symm
    exact ⟨rfl, _, rfl, _, rfl, _, _, rfl, rfl, .inl ⟨by omega, by omega⟩, ky rfl _ (Same.refl _)⟩
  rw [List.length_map, range_map ns 0 (fun x => V.int (f * x))] at hl10
  have hl10' : H10 D10 = some (.lst ((ns.map fun x => f * x).map V.int)) := by rw [hl10, List.map_map]; rfl
  have G' := good_mul hfB f0 fm
  have dg10 := dg9.same e10
  have n10q : D10 ≠ q := (dg9.ne hD10).1
  generalize (ns.map fun x => f * x) = ns' at *
  refine ⟨_, rfl, _, rfl, RgOk.of_le (by omega) (by omega) (by omega) (by omega), fun f11 hf11 => ?_⟩
  have n11q : f11 ≠ q := (dg10.ne hf11).1
  have hf11' : (upd H10 f11 (.lst (rgV 0 (n : Int)))) f11 = some (.lst ((List.range n).map vN)) := by rw [upd_same, rgV_vN]
  have hp11 : (upd H10 f11 (.lst (rgV 0 (n : Int)))) D10 = some (.lst (ns'.map V.int)) := (Same.new hf11) _ _ hl10'
  have dg11 := dg10.new (o := .lst (rgV 0 (n : Int))) hf11
  refine ⟨_, rfl, _, rfl, _, rfl, _, rfl, D1, q, D10, f11, n, ns', rfl, dg11, hp11, n10q, hf11', n11q, G', n1, n6, fun least H12 k12 dg12 lo hi lt => ?_⟩
  have hp12 := k12 _ _ n10q hp11
  have hf12 := k12 _ _ n11q hf11'
  have cl := cnt_dOf (ns := ns') (least := least) S0
  rw [fOf00 n (by omega)] at cl
  have hdl := dLaw_lt S0
  rw [fOf00 n (by omega)] at hdl
  have hbl := bel_le (ns := ns') (least := least) S0
  rw [fOf00 n (by omega), List.length_range] at hbl
  refine ⟨_, rfl, _, rfl, _, rfl, D10, f11, ns', 0, List.range n, least, rfl, sqL hp12, sqL hf12, by rw [List.length_range]; exact n6, (fun h hh => by have := List.mem_range.mp hh; omega), (by rw [G'.len]; exact hdl), fun H13 e13 => ?_⟩
  rw [cl]
  have dg13 := dg12.same e13
  refine ⟨_, rfl, _, rfl, _, rfl, _, rfl, n, rfl, rfl, by omega, D1, q, bel ns' n 0 0 least, 2 ^ n, rfl, dg13, hbl, ppos, h64, fun v t b H14 k14 dg14 hv sh => ?_⟩
  refine ⟨_, rfl, _, rfl, D1, q, 2, rfl, dg14, by decide, by decide, fun d15 H15 hd15 k15 dg15 => ⟨rfl, ?_⟩⟩
  refine h2 Q _ H15 D1 q D10 f11 v (decide (vN d15 = V.int 0)) n ns' least t b ?_ ?_ ?_ ?_ ?_ ?_ ?_ ?_ ?_ ?_ dg15 n1 n6 G' (k15 _ _ n10q (k14 _ _ n10q (e13 _ _ hp12))) (k15 _ _ n11q (k14 _ _ n11q (e13 _ _ hf12))) n10q n11q lo hi lt (Keep.pr dg14 k15 hv) sh q0
  all_goals rfl

end
end Wf

namespace Wf
open PySem PySem.Spec PyProof.Rows L2
theorem prog_pf : PF (PySem.Challenge.rw_whosefork_k82_whole_purses_near).prog := ⟨by kernel_rfl, by kernel_rfl⟩
theorem facts {w : World} {K : PySem.W.Frag} {h : Heap} {mg : Str → Option Value} {f : Addr} (X : K.In h) (G : h.Ns mainGlobals mg) (hfa : mg ("law" : Str) = some (.ref f)) (c : SaysW K) :
    ∃ fd : FuncData, (∀ (s : Shared) (v : Value), BindsTo s fd ⟨[v], []⟩ [("_law_script", v)]) ∧ ∀ base : Heap, K.In base → base.Ns mainGlobals mg → FnOk (PySem.Challenge.rw_whosefork_k82_whole_purses_near).prog w K mg base CX0 20 f fd ["_law_script"] (spLaw K) := by
  have T : Txt K mg := ⟨⟨h, X, G⟩, c⟩
  have ef : f = 1026 := by
    have := T.g_law
    rw [hfa] at this
    exact Value.ref.inj (Option.some.inj this)
  subst ef
  obtain ⟨fd, F⟩ := T.d_law
  exact ⟨fd, (F_law (w := w) (base := h) prog_pf T F).1, fun base hb _ => (F_law (w := w) (base := base) prog_pf T F).2⟩
end Wf
open PySem PySem.W PySem.Calls PyProof.Rows
theorem PySem.Challenge.cw_whosefork_k82_whole_purses_near_holds : PySem.Challenge.rw_whosefork_k82_whole_purses_near.Holds := by
  w_on; o_law
  refine HandSHeadRun.head_imp (r := Wf.RW) (q := view Wf.RW.prog [0, 93]) (H := Wf.hookW) (ob := Wf.obT) (M := 12000) (loose := Wf.names) (d := HandSHeadRun.topDef Wf.RW.prog 93) (kwd := []) Wf.obT_eq
    Wf.run (by kernel_rfl) (by kernel_rfl) (by rfl) (by rfl) (by first | assumption | decide +kernel) (by decide +kernel) ⟨rfl, rfl, rfl, rfl, rfl, by decide +kernel⟩ ?hw ?hc
  case hw => w_witness2
  case hc =>
    refine L2.walk_ofE (l := PySem.Challenge.rw_whosefork_k82_whole_purses_near) (n := 63) (k := 20) (x := "_law_script") (CX := L2.CX0) rfl (by decide) (by kernel_rfl) ⟨rfl, by decide, by decide⟩ ?F (fun _ _ _ _ z => z)
    intro w mg fa h Y G hmg0
    obtain ⟨K, KX, c⟩ := Y
    have hmg : mg ("law" : PySem.Str) = some (.ref fa) := by
      have e : (HandSHeadRun.topDef Wf.RW.prog 93).name = ("law" : PySem.Str) := by kernel_rfl
      rw [← e]
      exact hmg0
    obtain ⟨fd, hb, hF⟩ := Wf.facts (w := w) KX G hmg c
    exact ⟨K, fd, Wf.spLaw K, KX, hb, fun H a ns hl _ hS => ⟨a, ns, rfl, hS, hl, fun _ => rfl⟩, hF⟩
