import PyProof.Rows.All
import Wide.All
import OpenK.AllK
import Wide.FinOn
import KE.KStateDown
import Lean
import HandS.Base
import HandS.Call
import HandS.Ends
import HandS.More
import HandS.Words
import HandS.WordsExc
import HandS.Defaults
import HandS.Head0
import HandS.Head1
import HandS.Head2
import HandS.HeadEnd
import HandS.HeadHook1
import HandS.HeadHook2
import HandS.HeadHook3
import HandS.HeadHook4
import KE.DatumOrd
import HandS.ForMost
import HandS.IsInst
import HandS.SortKw
import HandS.Wide
import HandS.Flow
import HandS.Zip
import HandS.Codes
import PySem.Challenge.RW_gavelhall_k89_whole_no_bid_gains_more
set_option Elab.async false
set_option linter.all false
set_option maxRecDepth 100000
set_option maxHeartbeats 0
set_option autoImplicit false
namespace Gv
open PySem PySem.Spec PyProof.Rows L2
def top (i : Nat) : Stmt := PySem.Challenge.pw_gavelhall_k89_whole_no_bid_gains_more.main.body.getD i (.Pass ⟨0, 0, 0, 0⟩)
abbrev s_is_whole : Stmt := top 5
abbrev s_things_in : Stmt := top 8
abbrev s_size_of : Stmt := top 9
abbrev s_holds : Stmt := top 10
abbrev s_parts_of : Stmt := top 11
abbrev s_is_least : Stmt := top 13
abbrev s_offers_of : Stmt := top 14
abbrev s_pursed : Stmt := top 15
abbrev s_amount_at : Stmt := top 17
abbrev s_plan_worth : Stmt := top 18
abbrev s_best_behind : Stmt := top 19
abbrev s_greatest_of : Stmt := top 20
abbrev s_chosen_at : Stmt := top 21
abbrev s_winners_of : Stmt := top 22
abbrev s_without : Stmt := top 24
abbrev s_receipts_of : Stmt := top 25
abbrev s_pays_of : Stmt := top 26
abbrev s_counted : Stmt := top 28
abbrev s_gain_told : Stmt := top 29
abbrev s_within : Stmt := top 31
abbrev s_ticket_prices : Stmt := top 32
abbrev s_sure_gain : Stmt := top 33
abbrev s_checked : Stmt := top 40
abbrev s_shared : Stmt := top 41
abbrev s_Bid_worths : Stmt := inClass (top 42) 0
abbrev s_Bid_depth : Stmt := inClass (top 42) 1
abbrev s_Bid_tally : Stmt := inClass (top 42) 2
abbrev s_Only_init : Stmt := inClass (top 43) 0
abbrev s_Only_worths : Stmt := inClass (top 43) 1
abbrev s_SoMany_init : Stmt := inClass (top 44) 0
abbrev s_SoMany_worths : Stmt := inClass (top 44) 1
abbrev s_UpTo_init : Stmt := inClass (top 45) 0
abbrev s_UpTo_worths : Stmt := inClass (top 45) 1
abbrev s_Several_init : Stmt := inClass (top 46) 0
abbrev s_Several_depth : Stmt := inClass (top 46) 1
abbrev s_Several_tally : Stmt := inClass (top 46) 2
abbrev s_AnyOf_worths : Stmt := inClass (top 47) 0
abbrev s_OneOf_worths : Stmt := inClass (top 48) 0
abbrev s_l_cell_at : Stmt := top 50
abbrev s_l_whole : Stmt := top 51
abbrev s_l_spec_by : Stmt := top 52
abbrev s_l_bid_of : Stmt := top 53
abbrev s_l_scale : Stmt := top 54
abbrev s_l_many : Stmt := top 55
abbrev s_l_purse_by : Stmt := top 56
abbrev s_l_told_by : Stmt := top 57
abbrev s_l_handed : Stmt := top 58
abbrev s_l_lie_by : Stmt := top 59
abbrev s_l_no_more : Stmt := top 60
abbrev s_law : Stmt := top 61
def d_is_whole : He.DefD := ⟨("is_whole", none), "is_whole", "is_whole", defArgs s_is_whole, defBody s_is_whole, defScope s_is_whole, [], []⟩
def d_things_in : He.DefD := ⟨("things_in", none), "things_in", "things_in", defArgs s_things_in, defBody s_things_in, defScope s_things_in, [], []⟩
def d_size_of : He.DefD := ⟨("size_of", none), "size_of", "size_of", defArgs s_size_of, defBody s_size_of, defScope s_size_of, [], []⟩
def d_holds : He.DefD := ⟨("holds", none), "holds", "holds", defArgs s_holds, defBody s_holds, defScope s_holds, [], []⟩
def d_parts_of : He.DefD := ⟨("parts_of", none), "parts_of", "parts_of", defArgs s_parts_of, defBody s_parts_of, defScope s_parts_of, [], []⟩
def d_is_least : He.DefD := ⟨("is_least", none), "is_least", "is_least", defArgs s_is_least, defBody s_is_least, defScope s_is_least, [], []⟩
def d_offers_of : He.DefD := ⟨("offers_of", none), "offers_of", "offers_of", defArgs s_offers_of, defBody s_offers_of, defScope s_offers_of, [], []⟩
def d_pursed : He.DefD := ⟨("pursed", none), "pursed", "pursed", defArgs s_pursed, defBody s_pursed, defScope s_pursed, [.non], []⟩
def d_amount_at : He.DefD := ⟨("amount_at", none), "amount_at", "amount_at", defArgs s_amount_at, defBody s_amount_at, defScope s_amount_at, [], []⟩
def d_plan_worth : He.DefD := ⟨("plan_worth", none), "plan_worth", "plan_worth", defArgs s_plan_worth, defBody s_plan_worth, defScope s_plan_worth, [], []⟩
def d_best_behind : He.DefD := ⟨("best_behind", none), "best_behind", "best_behind", defArgs s_best_behind, defBody s_best_behind, defScope s_best_behind, [], []⟩
def d_greatest_of : He.DefD := ⟨("greatest_of", none), "greatest_of", "greatest_of", defArgs s_greatest_of, defBody s_greatest_of, defScope s_greatest_of, [], []⟩
def d_chosen_at : He.DefD := ⟨("chosen_at", none), "chosen_at", "chosen_at", defArgs s_chosen_at, defBody s_chosen_at, defScope s_chosen_at, [], []⟩
def d_winners_of : He.DefD := ⟨("winners_of", none), "winners_of", "winners_of", defArgs s_winners_of, defBody s_winners_of, defScope s_winners_of, [], []⟩
def d_without : He.DefD := ⟨("without", none), "without", "without", defArgs s_without, defBody s_without, defScope s_without, [], []⟩
def d_receipts_of : He.DefD := ⟨("receipts_of", none), "receipts_of", "receipts_of", defArgs s_receipts_of, defBody s_receipts_of, defScope s_receipts_of, [], []⟩
def d_pays_of : He.DefD := ⟨("pays_of", none), "pays_of", "pays_of", defArgs s_pays_of, defBody s_pays_of, defScope s_pays_of, [], []⟩
def d_counted : He.DefD := ⟨("counted", none), "counted", "counted", defArgs s_counted, defBody s_counted, defScope s_counted, [], []⟩
def d_gain_told : He.DefD := ⟨("gain_told", none), "gain_told", "gain_told", defArgs s_gain_told, defBody s_gain_told, defScope s_gain_told, [.non], []⟩
def d_within : He.DefD := ⟨("within", none), "within", "within", defArgs s_within, defBody s_within, defScope s_within, [], []⟩
def d_ticket_prices : He.DefD := ⟨("ticket_prices", none), "ticket_prices", "ticket_prices", defArgs s_ticket_prices, defBody s_ticket_prices, defScope s_ticket_prices, [], []⟩
def d_sure_gain : He.DefD := ⟨("sure_gain", none), "sure_gain", "sure_gain", defArgs s_sure_gain, defBody s_sure_gain, defScope s_sure_gain, [], []⟩
def d_checked : He.DefD := ⟨("checked", none), "checked", "checked", defArgs s_checked, defBody s_checked, defScope s_checked, [], []⟩
def d_shared : He.DefD := ⟨("shared", none), "shared", "shared", defArgs s_shared, defBody s_shared, defScope s_shared, [], []⟩
def d_Bid_worths : He.DefD := ⟨("Bid", some "worths"), "worths", "Bid.worths", defArgs s_Bid_worths, defBody s_Bid_worths, defScope s_Bid_worths, [], []⟩
def d_Bid_depth : He.DefD := ⟨("Bid", some "depth"), "depth", "Bid.depth", defArgs s_Bid_depth, defBody s_Bid_depth, defScope s_Bid_depth, [], []⟩
def d_Bid_tally : He.DefD := ⟨("Bid", some "tally"), "tally", "Bid.tally", defArgs s_Bid_tally, defBody s_Bid_tally, defScope s_Bid_tally, [], []⟩
def d_Only_init : He.DefD := ⟨("Only", some "__init__"), "__init__", "Only.__init__", defArgs s_Only_init, defBody s_Only_init, defScope s_Only_init, [], []⟩
def d_Only_worths : He.DefD := ⟨("Only", some "worths"), "worths", "Only.worths", defArgs s_Only_worths, defBody s_Only_worths, defScope s_Only_worths, [], []⟩
def d_SoMany_init : He.DefD := ⟨("SoMany", some "__init__"), "__init__", "SoMany.__init__", defArgs s_SoMany_init, defBody s_SoMany_init, defScope s_SoMany_init, [], []⟩
def d_SoMany_worths : He.DefD := ⟨("SoMany", some "worths"), "worths", "SoMany.worths", defArgs s_SoMany_worths, defBody s_SoMany_worths, defScope s_SoMany_worths, [], []⟩
def d_UpTo_init : He.DefD := ⟨("UpTo", some "__init__"), "__init__", "UpTo.__init__", defArgs s_UpTo_init, defBody s_UpTo_init, defScope s_UpTo_init, [], []⟩
def d_UpTo_worths : He.DefD := ⟨("UpTo", some "worths"), "worths", "UpTo.worths", defArgs s_UpTo_worths, defBody s_UpTo_worths, defScope s_UpTo_worths, [], []⟩
def d_Several_init : He.DefD := ⟨("Several", some "__init__"), "__init__", "Several.__init__", defArgs s_Several_init, defBody s_Several_init, defScope s_Several_init, [], []⟩
def d_Several_depth : He.DefD := ⟨("Several", some "depth"), "depth", "Several.depth", defArgs s_Several_depth, defBody s_Several_depth, defScope s_Several_depth, [], []⟩
def d_Several_tally : He.DefD := ⟨("Several", some "tally"), "tally", "Several.tally", defArgs s_Several_tally, defBody s_Several_tally, defScope s_Several_tally, [], []⟩
def d_AnyOf_worths : He.DefD := ⟨("AnyOf", some "worths"), "worths", "AnyOf.worths", defArgs s_AnyOf_worths, defBody s_AnyOf_worths, defScope s_AnyOf_worths, [], []⟩
def d_OneOf_worths : He.DefD := ⟨("OneOf", some "worths"), "worths", "OneOf.worths", defArgs s_OneOf_worths, defBody s_OneOf_worths, defScope s_OneOf_worths, [], []⟩
def d_l_cell_at : He.DefD := ⟨("_law_cell_at", none), "_law_cell_at", "_law_cell_at", defArgs s_l_cell_at, defBody s_l_cell_at, defScope s_l_cell_at, [], []⟩
def d_l_whole : He.DefD := ⟨("_law_whole", none), "_law_whole", "_law_whole", defArgs s_l_whole, defBody s_l_whole, defScope s_l_whole, [], []⟩
def d_l_spec_by : He.DefD := ⟨("_law_spec_by", none), "_law_spec_by", "_law_spec_by", defArgs s_l_spec_by, defBody s_l_spec_by, defScope s_l_spec_by, [], []⟩
def d_l_bid_of : He.DefD := ⟨("_law_bid_of", none), "_law_bid_of", "_law_bid_of", defArgs s_l_bid_of, defBody s_l_bid_of, defScope s_l_bid_of, [], []⟩
def d_l_scale : He.DefD := ⟨("_law_scale", none), "_law_scale", "_law_scale", defArgs s_l_scale, defBody s_l_scale, defScope s_l_scale, [], []⟩
def d_l_many : He.DefD := ⟨("_law_many", none), "_law_many", "_law_many", defArgs s_l_many, defBody s_l_many, defScope s_l_many, [], []⟩
def d_l_purse_by : He.DefD := ⟨("_law_purse_by", none), "_law_purse_by", "_law_purse_by", defArgs s_l_purse_by, defBody s_l_purse_by, defScope s_l_purse_by, [], []⟩
def d_l_told_by : He.DefD := ⟨("_law_told_by", none), "_law_told_by", "_law_told_by", defArgs s_l_told_by, defBody s_l_told_by, defScope s_l_told_by, [], []⟩
def d_l_handed : He.DefD := ⟨("_law_handed", none), "_law_handed", "_law_handed", defArgs s_l_handed, defBody s_l_handed, defScope s_l_handed, [], []⟩
def d_l_lie_by : He.DefD := ⟨("_law_lie_by", none), "_law_lie_by", "_law_lie_by", defArgs s_l_lie_by, defBody s_l_lie_by, defScope s_l_lie_by, [], []⟩
def d_l_no_more : He.DefD := ⟨("_law_no_more", none), "_law_no_more", "_law_no_more", defArgs s_l_no_more, defBody s_l_no_more, defScope s_l_no_more, [], []⟩
def d_law : He.DefD := ⟨("law", none), "law", "law", defArgs s_law, defBody s_law, defScope s_law, [], []⟩
def fn : List He.DefD := [d_is_whole, d_things_in, d_size_of, d_holds, d_parts_of, d_is_least, d_offers_of, d_pursed, d_amount_at, d_plan_worth, d_best_behind, d_greatest_of, d_chosen_at, d_winners_of, d_without, d_receipts_of, d_pays_of, d_counted, d_gain_told, d_within, d_ticket_prices, d_sure_gain, d_checked, d_shared] ++ [d_Bid_worths, d_Bid_depth, d_Bid_tally, d_Only_init, d_Only_worths, d_SoMany_init, d_SoMany_worths, d_UpTo_init, d_UpTo_worths, d_Several_init, d_Several_depth, d_Several_tally, d_AnyOf_worths, d_OneOf_worths, d_l_cell_at, d_l_whole, d_l_spec_by, d_l_bid_of, d_l_scale, d_l_many, d_l_purse_by, d_l_told_by, d_l_handed, d_l_lie_by, d_l_no_more, d_law]
def fa0 : List He.Fa := [.glo "is_whole", .glo "things_in", .glo "size_of", .glo "holds", .glo "parts_of", .glo "is_least", .glo "offers_of", .glo "pursed", .glo "amount_at", .glo "plan_worth", .glo "best_behind", .glo "greatest_of", .glo "chosen_at", .glo "winners_of", .glo "without", .glo "receipts_of", .glo "pays_of", .glo "counted", .glo "gain_told", .glo "within", .glo "ticket_prices", .glo "sure_gain", .glo "checked", .glo "shared", .glo "_law_cell_at", .glo "_law_whole", .glo "_law_spec_by", .glo "_law_bid_of", .glo "_law_scale", .glo "_law_many"]
def fa1 : List He.Fa := [.glo "_law_purse_by", .glo "_law_told_by", .glo "_law_handed", .glo "_law_lie_by", .glo "_law_no_more", .glo "law", .glo "Bid", .glo "Only", .glo "SoMany", .glo "UpTo", .glo "Several", .glo "AnyOf", .glo "OneOf", .free "isinstance", .free "int", .free "bool", .free "len", .free "range", .free "list", .free "min", .free "max", .free "sum", .free "zip", .free "tuple", .int "MOST" 6, .int "DEEPEST" 4, .int "MOST_BIDS" 24, .int "MOST_AMOUNT" 1000000000, .int "MOST_THINGS" 6, .int "LAST_BUNDLE" 63]
def fa2 : List He.Fa := [.cls "Bid", .cls "Only", .cls "SoMany", .cls "UpTo", .cls "AnyOf", .cls "OneOf", .meth "Bid" "worths", .meth "Bid" "depth", .meth "Bid" "tally", .meth "Only" "worths", .meth "Only" "depth", .meth "Only" "tally", .meth "SoMany" "worths", .meth "SoMany" "depth", .meth "SoMany" "tally", .meth "UpTo" "worths", .meth "UpTo" "depth", .meth "UpTo" "tally", .meth "AnyOf" "worths", .meth "AnyOf" "depth", .meth "AnyOf" "tally", .meth "OneOf" "worths", .meth "OneOf" "depth", .meth "OneOf" "tally", .mkr "Only", .mkr "SoMany", .mkr "UpTo", .mkr "AnyOf", .mkr "OneOf", .noat "Only" "bundle"]
def fa3 : List He.Fa := [.noat "Only" "amount", .noat "SoMany" "kind", .noat "SoMany" "least", .noat "SoMany" "amount", .noat "UpTo" "kind", .noat "UpTo" "most", .noat "UpTo" "each", .noat "AnyOf" "listed", .noat "OneOf" "listed"]
def fa : List He.Fa := fa0 ++ fa1 ++ fa2 ++ fa3
def loose1 : List Str := ["_wall", "__name__", "HallError", "NoBid", "is_whole", "MOST", "things_in", "size_of", "holds", "parts_of", "is_least", "offers_of", "pursed", "amount_at", "plan_worth", "best_behind", "greatest_of", "chosen_at", "winners_of", "without", "receipts_of", "pays_of", "counted", "gain_told", "within", "ticket_prices", "sure_gain", "DEEPEST"]
def loose2 : List Str := ["MOST_BIDS", "MOST_AMOUNT", "MOST_THINGS", "LAST_BUNDLE", "checked", "shared", "Bid", "Only", "SoMany", "UpTo", "Several", "AnyOf", "OneOf", "_law_cell_at", "_law_whole", "_law_spec_by", "_law_bid_of", "_law_scale", "_law_many", "_law_purse_by", "_law_told_by", "_law_handed", "_law_lie_by", "_law_no_more"]
def kits : List Str := ["Bid", "Only", "SoMany", "UpTo", "AnyOf", "OneOf"]
def alike : List (Str × Str × Str) := [("Only", "depth", "Bid"), ("Only", "tally", "Bid"), ("SoMany", "depth", "Bid"), ("SoMany", "tally", "Bid"), ("UpTo", "depth", "Bid"), ("UpTo", "tally", "Bid"),
  ("AnyOf", "depth", "Several"), ("AnyOf", "tally", "Several"), ("AnyOf", "__init__", "Several"), ("OneOf", "depth", "Several"), ("OneOf", "tally", "Several"), ("OneOf", "__init__", "Several")]
def exC (K : PySem.W.Frag) (c : Str) : Bool := decide (PySem.W.kitOne K (.ref (He.ga K c)) (.ref (He.ga K "Bid")) = some true) &&
  (He.eqO (PySem.W.findIn K (.ref (He.ga K c)) "__class__") (some (some (.builtin "object.__class__"))) && decide (PySem.W.mroIn K (He.ga K c) (.type "object") = some true))
def ex (K : PySem.W.Frag) : Bool :=
  (He.eqO (PySem.W.findIn K (.ref (He.ga K "Bid")) "__init__") (some (some (.builtin "object.__init__"))) && (PySem.W.makesIn K (He.ga K "Bid") && PySem.W.keepIn K (.ref (He.ga K "Bid")))) &&
  ((He.eqO (PySem.W.specialIn K (.builtin "object.__class__") "__get__") (some (some (.builtin "getset_descriptor.__get__"))) && decide (PySem.W.takesIn K (.builtin "object.__class__") = some true)) && (kits.all (exC K) && (decide ((kits.map (He.ga K)).Nodup) && alike.all fun q => decide (He.ma K (He.ga K q.1) q.2.1 = He.ma K (He.ga K q.2.2) q.2.1))))
abbrev R : PySem.W.OpenRow := PySem.W.OpenLaw.row PySem.Challenge.rw_gavelhall_k89_whole_no_bid_gains_more
abbrev hk : PySem.W.Hook := He.hookX 6 fa fn [] [] ex
def ob (s : PySem.W.SharedT) : He.AlX := He.obsX 6 fa fn [] [] ex (HandSHeadRun.getT s)
theorem ob_eq (s : PySem.W.SharedT) : ob s = hk.obs s.abs := He.obsX_eq (HandSHeadRun.getT_eq s)
theorem run (w : World) : HandSHeadRun.RunEq R (PySem.W.view R.prog [61]) hk ob 6000 (loose1 ++ loose2) w := by
  intro os
  kernel_rfl
end Gv
namespace Gv
open PySem PySem.Spec PyProof.Rows L2
/-! ### a def of the module, called by its name -/
structure Cal (P : Program) (w : World) (K : PySem.W.Frag) (mg : Str → Option Value) (base : Heap) (k : Nat) (x : Str) (sp : Sp) (dvs : List V) : Prop where
  ex : ∃ (f : Addr) (fd : FuncData) (ps : List Str) (ds : List Value), FnOk P w K mg base CX0 k f fd ps sp ∧ mg x = some (.ref f) ∧ PySem.W.keepIn K (.ref f) = true ∧ Binds K fd ps ds ∧ Vals dvs ds
/-- an own class that is made by its __init__ -/
structure Mak (P : Program) (w : World) (K : PySem.W.Frag) (mg : Str → Option Value) (base : Heap) (k : Nat) (x : Str) (C : Addr) (sp : Sp) : Prop where
  ex : ∃ (f : Addr) (fd : FuncData) (ps : List Str), FnOk P w K mg base CX0 k f fd ps sp ∧ Mk K C f ∧ mg x = some (.ref C) ∧ Binds K fd ps []
/-- a method of a class, its own or one above it -/
structure Vir (P : Program) (w : World) (K : PySem.W.Frag) (mg : Str → Option Value) (base : Heap) (k : Nat) (m : Str) (C : Addr) (sp : Sp) : Prop where
  ex : ∃ (f : Addr) (fd : FuncData) (ps : List Str), FnOk P w K mg base CX0 k f fd ps sp ∧ Cls K C ∧ Meth K C m f ∧ Binds K fd ps []
section
variable {X : Cx} {j k : Nat} {x m : Str} {C : Addr} {sp : Sp} {dvs : List V} {p pos apos : Pos} {e o : Expr} {es : List Expr} {ta : TE} {t : TA}
theorem pe_c (c : Cal X.prog X.w X.K X.mg X.base k x sp dvs) (hr : Room j X.A) (hk : k ≤ j) (hg : Gl X x) (ha : PA X (e :: es) t)
    (hdb : (x == ("__debug__" : Str)) = false := by decide) (he : starEach (e :: es) X.env = (false, eval e X.env) :: starEach es X.env := by rfl) (hpl : (backTo pos (starEach es X.env)).any (·.1) = false := by rfl) :
    PE X (.Call (.Name x p) (e :: es) [] pos) (tCall sp dvs E0 t) := by
  obtain ⟨f, fd, ps, ds, F, hm, kp, b, d⟩ := c.ex
  exact pe_call F (hr.mono hk) hg hm kp b d pass0 ha hdb he hpl
theorem pe_mk (c : Mak X.prog X.w X.K X.mg X.base k x C sp) (hr : Room j X.A) (hk : k + 1 ≤ j) (hg : Gl X x) (ha : PA X (e :: es) t)
    (hdb : (x == ("__debug__" : Str)) = false := by decide) (he : starEach (e :: es) X.env = (false, eval e X.env) :: starEach es X.env := by rfl) (hpl : (backTo pos (starEach es X.env)).any (·.1) = false := by rfl) :
    PE X (.Call (.Name x p) (e :: es) [] pos) (tMake C sp [] E0 t) := by
  obtain ⟨f, fd, ps, F, M, hm, b⟩ := c.ex
  exact pe_make M F (hr.mono hk) hg hm b .nil pass0 ha hdb he hpl
/-- o.m(..) of an instance of one of some classes -/
def tMethV (Cs : Addr → Prop) (m : Str) (sp : Addr → Sp) (ta : TE) (t : TA) : TE := fun σ H Q => ta σ H fun x H1 => ∃ a C dx fs, x = .ref a ∧ H1 a = some (.ins C dx fs) ∧ Cs C ∧ fs.lookup m = none ∧
  t σ H1 fun vs H2 => sp C (x :: vs) H2 Q E0
theorem pe_methV {sp : Addr → Sp} {Cs : Addr → Prop} {pl : Sem Bool} (he : PE X o ta) (hV : ∀ C, Cs C → Vir X.prog X.w X.K X.mg X.base k m C (sp C)) (hr : Room j X.A) (hk : k ≤ j) (ha : PA X (e :: es) t)
    (hst : starEach (e :: es) X.env = (false, eval e X.env) :: starEach es X.env := by rfl) (hpl : (backTo pos (starEach es X.env)).any (·.1) = false := by rfl)
    (ht : eval (.Call (.Attribute o m apos) (e :: es) [] pos) X.env = (do
      let ov ← eval o X.env
      standAt apos.atName
      let (f, first) ← holding [ov] (getMethod ov m pl)
      callWith pos f first (backTo pos (starEach (e :: es) X.env)) (backToKw pos (keywordEach [] X.env))) := by rfl) :
    PE X (.Call (.Attribute o m apos) (e :: es) [] pos) (tMethV Cs m sp ta t) := by
  refine ⟨fun pins s σ H Q I h => ?_⟩
  refine PySem.W.methodCall_KW (pl := pl) (thn (he.run pins s σ H _ I h) fun u s1 ⟨x, H1, I1, rx, a, C, dx, fs, ex, ea, hc, l, q⟩ => ?_) ht
  subst ex
  obtain rfl : u = Value.ref a := rx
  obtain ⟨f, fd, ps, F, c, hm, hb⟩ := (hV C hc).ex
  refine getmeth_ok I1 ea c hm l ?_
  refine PySem.W.callWith_K (first := [.ref a]) (h₀ := X.base) I.ok.mod.kin hm.kp (thn (ha.run pos pins s1 σ H1 _ I1 q) fun us s2 ⟨vs, H2, I2, r, q2⟩ => ⟨I2.kIn, ?_⟩) hst hpl
  exact run_fn (us := .ref a :: us) (vs := .ref a :: vs) (dvs := []) (E := E0) F (hr.mono hk) hb .nil pass0 I2 (.cons rfl r) (by rw [List.append_nil]; exact q2)
theorem pe_methV0 {sp : Addr → Sp} {Cs : Addr → Prop} {pl : Sem Bool} (he : PE X o ta) (hV : ∀ C, Cs C → Vir X.prog X.w X.K X.mg X.base k m C (sp C)) (hr : Room j X.A) (hk : k ≤ j)
    (ht : eval (.Call (.Attribute o m apos) [] [] pos) X.env = (do
      let ov ← eval o X.env
      standAt apos.atName
      let (f, first) ← holding [ov] (getMethod ov m pl)
      callWith pos f first (backTo pos (starEach [] X.env)) (backToKw pos (keywordEach [] X.env))) := by rfl) :
    PE X (.Call (.Attribute o m apos) [] [] pos) (tMethV Cs m sp ta tNil) := by
  refine ⟨fun pins s σ H Q I h => ?_⟩
  refine PySem.W.methodCall_KW (pl := pl) (thn (he.run pins s σ H _ I h) fun u s1 ⟨x, H1, I1, rx, a, C, dx, fs, ex, ea, hc, l, q⟩ => ?_) ht
  subst ex
  obtain rfl : u = Value.ref a := rx
  obtain ⟨f, fd, ps, F, c, hm, hb⟩ := (hV C hc).ex
  refine getmeth_ok I1 ea c hm l ?_
  exact PySem.W.callWith_K0 (first := [.ref a]) I1.kIn hm.kp (run_fn (us := [.ref a]) (vs := [.ref a]) (dvs := []) (E := E0) F (hr.mono hk) hb .nil pass0 I1 (.cons rfl .nil) q)
/-! ### a class without __init__, made -/
structure Bare (K : PySem.W.Frag) (mg : Str → Option Value) (x : Str) (C : Addr) : Prop where
  makes : PySem.W.makesIn K C = true
  ini : PySem.W.findIn K (.ref C) "__init__" = some (some (.builtin "object.__init__"))
  kp : PySem.W.keepIn K (.ref C) = true
  g : mg x = some (.ref C)
def tBare (C : Addr) : TE := fun _ H Q => ∀ x dx, H x = none → H dx = none → dx ≠ x → Q (.ref x) (upd (upd H dx (.own x)) x (.ins C dx []))
theorem run_bare {X : Cx} {C : Addr} {pins : List (Addr × Obj)} {σ : L2.St} {H : Hp} {s : Shared} {Q : VK} {x : Str} (B : Bare X.K X.mg x C) (I : Inv X pins σ H s)
    (h : ∀ x dx, H x = none → H dx = none → dx ≠ x → Q (.ref x) (upd (upd H dx (.own x)) x (.ins C dx []))) :
    wpAny (model X.prog X.w) X.A (call (.ref C) []) (EP X pins σ Q) X.xe s := by
  have hq := h (s.heap.objs.size + 1) s.heap.objs.size (I.hok.fresh (Nat.le_succ _)) (I.hok.fresh (Nat.le_refl _)) (Nat.ne_of_lt (Nat.lt_succ_self _))
  have I2 := Inv.made (C := C) I
  have kI := I.kIn
  obtain ⟨hh, g, d, t, os⟩ := s
  have e2 : ((hh.push PySem.W.emptyDict).push (PySem.W.instObj C hh.objs.size)).get? (hh.objs.size + 1) = some (PySem.W.instObj C hh.objs.size) := by
    have := Heap.get?_push_size (hh.push PySem.W.emptyDict) (o := PySem.W.instObj C hh.objs.size) rfl
    rwa [Heap.size_push] at this
  refine wpAny_call ?_
  have Y := PySem.W.makes_of (M := model X.prog X.w) kI B.makes
  refine PySem.W.make_core Y (PySem.W.looks_findIn kI B.ini) (fun self => PySem.W.Looks.of_pure (PySem.W.oi_bind self)) (.inr ⟨rfl, rfl⟩) ?_
  have t1 : PySem.W.Looks (model X.prog X.w) ((hh.push PySem.W.emptyDict).push (PySem.W.instObj C hh.objs.size)) (typeOf (.ref (hh.objs.size + 1))) (.ref C) := (PySem.W.Looks.ld e2).andThen .now
  have t2 : PySem.W.Looks (model X.prog X.w) ((hh.push PySem.W.emptyDict).push (PySem.W.instObj C hh.objs.size)) (isInstance (.ref (hh.objs.size + 1)) (.type "object")) true := t1.andThen (Y.top.keeps fun b o e => Heap.get?_push_of_some _ (Heap.get?_push_of_some _ e))
  refine codeAny_call_builtin PySem.W.oi_plain PySem.W.entry_oi (@PySem.W.check_slot (model X.prog X.w) _ _ _ "object.__init__" "object" "__init__" (.ref (hh.objs.size + 1)) [] [] _ PySem.W.oi_kind PySem.W.oi_split t2 (PySem.W.oi_args (.ref (hh.objs.size + 1))) ?_)
  rw [PySem.W.oi_run]
  exact wpAny_pure (And.intro rfl ⟨V.ref (hh.objs.size + 1), _, I2, rfl, hq⟩)
theorem pe_bare {X : Cx} {C : Addr} {x : Str} {p pos : Pos} (B : Bare X.K X.mg x C) (hg : Gl X x) (hdb : (x == ("__debug__" : Str)) = false := by decide) : PE X (.Call (.Name x p) [] [] pos) (tBare C) := by
  refine ⟨fun pins s σ H Q I h => ?_⟩
  refine wpAny_Call_Name_kw (ld_glob I hg B.g ?_ hdb)
  exact PySem.W.callWith_K0 I.kIn B.kp (run_bare B I h)
end
/-! ### max(xs, default=d) of ints -/
theorem readsAll_ints {h : Heap} {its : List Value} {ns : List Int} (r : IntsAre its ns) : ReadsAll h its (ns.map PySem.W.Datum.toD) [] := by
  induction r with
  | nil => exact .nil
  | cons n t r ih => exact ReadsAll.cons (as := []) (bs := []) (.int n t) ih
theorem maxOf_ge (x : Int) (xs : List Int) : (PySem.W.maxOf x xs = x ∨ PySem.W.maxOf x xs ∈ xs) ∧ x ≤ PySem.W.maxOf x xs ∧ ∀ y ∈ xs, y ≤ PySem.W.maxOf x xs := by
  unfold PySem.W.maxOf
  induction xs generalizing x with
  | nil => exact ⟨.inl rfl, Int.le_refl _, fun _ h => by cases h⟩
  | cons z zs ih =>
    rw [List.foldl_cons]
    obtain ⟨h1, h2, h3⟩ := ih (if PySem.W.DatumOrd.lt x z = true then z else x)
    have e : (if PySem.W.DatumOrd.lt x z = true then z else x) = if x < z then z else x := by
      show (if decide (x < z) = true then z else x) = _
      by_cases c : x < z <;> simp [c]
    rw [e] at h1 h2 h3 ⊢
    refine ⟨?_, ?_, fun y hy => ?_⟩
    · rcases h1 with h1 | h1
      · by_cases c : x < z
        · rw [if_pos c] at h1 ⊢
          exact .inr (by rw [h1]; exact List.mem_cons_self)
        · rw [if_neg c] at h1 ⊢
          exact .inl h1
      · exact .inr (List.mem_cons_of_mem _ h1)
    · by_cases c : x < z
      · rw [if_pos c] at h2 ⊢
        omega
      · rw [if_neg c] at h2 ⊢
        exact h2
    · rcases List.mem_cons.mp hy with rfl | hm
      · by_cases c : x < y
        · rw [if_pos c] at h2 ⊢
          exact h2
        · rw [if_neg c] at h2 ⊢
          omega
      · exact h3 y hm
def rMaxD (K : PySem.W.Frag) : List V → List V → Hp → VK → Prop := fun xs zs H Q => ∃ (a : Addr) (ns : List Int) (d : Int), xs = [V.ref a] ∧ zs = [V.int d] ∧ SqL K H a (ns.map V.int) ∧ (ns = [] → Q (.int d) H) ∧ ∀ m, m ∈ ns → (∀ y, y ∈ ns → y ≤ m) → Q (.int m) H
theorem cr_maxD {X : Cx} (hc : X.calm = true) (hu : X.A.units + 1 < cLine) : CallRK X (.builtin "max") [Str.ofString "default"] (rMaxD X.K) := by
  intro pins s σ H xs zs us ws Q I r r2 h
  obtain ⟨a, ns, d, rfl, rfl, hs, q0, q⟩ := h
  obtain ⟨its, rv, hl, _⟩ := I.list hs
  rw [Vals.ref1 r]
  obtain ⟨u, rfl, t, rfl⟩ := vals1 r2
  show wpAny _ _ (call (.builtin "max") [.ref a] [(Str.ofString "default", .int d t)]) _ _ _
  refine PySem.W.max_list_datum_default (α := Int) (xs := ns) (I.ok.hd hc) hl.isList ⟨[], readsAll_ints (its := its) rv.ints⟩ (by show X.A.units + 1 + 0 < cLine; omega) (fun e h' tk hk => ?_) fun y ys i v h' tk e hi hv hk => ?_
  · exact ⟨.int d, H, I.kept hk, ⟨t, rfl⟩, q0 e⟩
  · obtain ⟨as, hv⟩ := hv
    have hv' : Reads h' v (.int (PySem.W.maxOf y ys)) as := hv
    cases hv' with
    | int _ t' =>
      obtain ⟨h1, h2, h3⟩ := maxOf_ge y ys
      subst e
      refine ⟨.int _, H, I.kept hk, ⟨t', rfl⟩, q _ ?_ fun z hz => ?_⟩
      · rcases h1 with h1 | h1
        · rw [h1]; exact List.mem_cons_self
        · exact List.mem_cons_of_mem _ h1
      · rcases List.mem_cons.mp hz with rfl | hm
        · exact h2
        · exact h3 z hm
end Gv
namespace Gv
open PySem PySem.Spec PyProof.Rows L2
/-! ### what the top has left, by names -/
structure Tx (K : PySem.W.Frag) (mg : Str → Option Value) : Prop where
  c : He.SaysD fa fn K
  e : ex K = true
  ctx : ∃ h : Heap, K.In h ∧ h.Ns mainGlobals mg
section
variable {K : PySem.W.Frag} {mg : Str → Option Value}
abbrev ga (K : PySem.W.Frag) (x : Str) : Addr := He.ga K x
theorem Tx.g_is_whole (T : Tx K mg) : mg "is_whole" = some (.ref (ga K "is_whole")) := by obtain ⟨h, X, G⟩ := T.ctx; exact He.glo_ok X G (T.c.fact 0 (f := .glo "is_whole") rfl)
theorem Tx.g_things_in (T : Tx K mg) : mg "things_in" = some (.ref (ga K "things_in")) := by obtain ⟨h, X, G⟩ := T.ctx; exact He.glo_ok X G (T.c.fact 1 (f := .glo "things_in") rfl)
theorem Tx.g_size_of (T : Tx K mg) : mg "size_of" = some (.ref (ga K "size_of")) := by obtain ⟨h, X, G⟩ := T.ctx; exact He.glo_ok X G (T.c.fact 2 (f := .glo "size_of") rfl)
theorem Tx.g_holds (T : Tx K mg) : mg "holds" = some (.ref (ga K "holds")) := by obtain ⟨h, X, G⟩ := T.ctx; exact He.glo_ok X G (T.c.fact 3 (f := .glo "holds") rfl)
theorem Tx.g_parts_of (T : Tx K mg) : mg "parts_of" = some (.ref (ga K "parts_of")) := by obtain ⟨h, X, G⟩ := T.ctx; exact He.glo_ok X G (T.c.fact 4 (f := .glo "parts_of") rfl)
theorem Tx.g_is_least (T : Tx K mg) : mg "is_least" = some (.ref (ga K "is_least")) := by obtain ⟨h, X, G⟩ := T.ctx; exact He.glo_ok X G (T.c.fact 5 (f := .glo "is_least") rfl)
theorem Tx.g_offers_of (T : Tx K mg) : mg "offers_of" = some (.ref (ga K "offers_of")) := by obtain ⟨h, X, G⟩ := T.ctx; exact He.glo_ok X G (T.c.fact 6 (f := .glo "offers_of") rfl)
theorem Tx.g_pursed (T : Tx K mg) : mg "pursed" = some (.ref (ga K "pursed")) := by obtain ⟨h, X, G⟩ := T.ctx; exact He.glo_ok X G (T.c.fact 7 (f := .glo "pursed") rfl)
theorem Tx.g_amount_at (T : Tx K mg) : mg "amount_at" = some (.ref (ga K "amount_at")) := by obtain ⟨h, X, G⟩ := T.ctx; exact He.glo_ok X G (T.c.fact 8 (f := .glo "amount_at") rfl)
theorem Tx.g_plan_worth (T : Tx K mg) : mg "plan_worth" = some (.ref (ga K "plan_worth")) := by obtain ⟨h, X, G⟩ := T.ctx; exact He.glo_ok X G (T.c.fact 9 (f := .glo "plan_worth") rfl)
theorem Tx.g_best_behind (T : Tx K mg) : mg "best_behind" = some (.ref (ga K "best_behind")) := by obtain ⟨h, X, G⟩ := T.ctx; exact He.glo_ok X G (T.c.fact 10 (f := .glo "best_behind") rfl)
theorem Tx.g_greatest_of (T : Tx K mg) : mg "greatest_of" = some (.ref (ga K "greatest_of")) := by obtain ⟨h, X, G⟩ := T.ctx; exact He.glo_ok X G (T.c.fact 11 (f := .glo "greatest_of") rfl)
theorem Tx.g_chosen_at (T : Tx K mg) : mg "chosen_at" = some (.ref (ga K "chosen_at")) := by obtain ⟨h, X, G⟩ := T.ctx; exact He.glo_ok X G (T.c.fact 12 (f := .glo "chosen_at") rfl)
theorem Tx.g_winners_of (T : Tx K mg) : mg "winners_of" = some (.ref (ga K "winners_of")) := by obtain ⟨h, X, G⟩ := T.ctx; exact He.glo_ok X G (T.c.fact 13 (f := .glo "winners_of") rfl)
theorem Tx.g_without (T : Tx K mg) : mg "without" = some (.ref (ga K "without")) := by obtain ⟨h, X, G⟩ := T.ctx; exact He.glo_ok X G (T.c.fact 14 (f := .glo "without") rfl)
theorem Tx.g_receipts_of (T : Tx K mg) : mg "receipts_of" = some (.ref (ga K "receipts_of")) := by obtain ⟨h, X, G⟩ := T.ctx; exact He.glo_ok X G (T.c.fact 15 (f := .glo "receipts_of") rfl)
theorem Tx.g_pays_of (T : Tx K mg) : mg "pays_of" = some (.ref (ga K "pays_of")) := by obtain ⟨h, X, G⟩ := T.ctx; exact He.glo_ok X G (T.c.fact 16 (f := .glo "pays_of") rfl)
theorem Tx.g_counted (T : Tx K mg) : mg "counted" = some (.ref (ga K "counted")) := by obtain ⟨h, X, G⟩ := T.ctx; exact He.glo_ok X G (T.c.fact 17 (f := .glo "counted") rfl)
theorem Tx.g_gain_told (T : Tx K mg) : mg "gain_told" = some (.ref (ga K "gain_told")) := by obtain ⟨h, X, G⟩ := T.ctx; exact He.glo_ok X G (T.c.fact 18 (f := .glo "gain_told") rfl)
theorem Tx.g_within (T : Tx K mg) : mg "within" = some (.ref (ga K "within")) := by obtain ⟨h, X, G⟩ := T.ctx; exact He.glo_ok X G (T.c.fact 19 (f := .glo "within") rfl)
theorem Tx.g_ticket_prices (T : Tx K mg) : mg "ticket_prices" = some (.ref (ga K "ticket_prices")) := by obtain ⟨h, X, G⟩ := T.ctx; exact He.glo_ok X G (T.c.fact 20 (f := .glo "ticket_prices") rfl)
theorem Tx.g_sure_gain (T : Tx K mg) : mg "sure_gain" = some (.ref (ga K "sure_gain")) := by obtain ⟨h, X, G⟩ := T.ctx; exact He.glo_ok X G (T.c.fact 21 (f := .glo "sure_gain") rfl)
theorem Tx.g_checked (T : Tx K mg) : mg "checked" = some (.ref (ga K "checked")) := by obtain ⟨h, X, G⟩ := T.ctx; exact He.glo_ok X G (T.c.fact 22 (f := .glo "checked") rfl)
theorem Tx.g_shared (T : Tx K mg) : mg "shared" = some (.ref (ga K "shared")) := by obtain ⟨h, X, G⟩ := T.ctx; exact He.glo_ok X G (T.c.fact 23 (f := .glo "shared") rfl)
theorem Tx.g_l_cell_at (T : Tx K mg) : mg "_law_cell_at" = some (.ref (ga K "_law_cell_at")) := by obtain ⟨h, X, G⟩ := T.ctx; exact He.glo_ok X G (T.c.fact 24 (f := .glo "_law_cell_at") rfl)
theorem Tx.g_l_whole (T : Tx K mg) : mg "_law_whole" = some (.ref (ga K "_law_whole")) := by obtain ⟨h, X, G⟩ := T.ctx; exact He.glo_ok X G (T.c.fact 25 (f := .glo "_law_whole") rfl)
theorem Tx.g_l_spec_by (T : Tx K mg) : mg "_law_spec_by" = some (.ref (ga K "_law_spec_by")) := by obtain ⟨h, X, G⟩ := T.ctx; exact He.glo_ok X G (T.c.fact 26 (f := .glo "_law_spec_by") rfl)
theorem Tx.g_l_bid_of (T : Tx K mg) : mg "_law_bid_of" = some (.ref (ga K "_law_bid_of")) := by obtain ⟨h, X, G⟩ := T.ctx; exact He.glo_ok X G (T.c.fact 27 (f := .glo "_law_bid_of") rfl)
theorem Tx.g_l_scale (T : Tx K mg) : mg "_law_scale" = some (.ref (ga K "_law_scale")) := by obtain ⟨h, X, G⟩ := T.ctx; exact He.glo_ok X G (T.c.fact 28 (f := .glo "_law_scale") rfl)
theorem Tx.g_l_many (T : Tx K mg) : mg "_law_many" = some (.ref (ga K "_law_many")) := by obtain ⟨h, X, G⟩ := T.ctx; exact He.glo_ok X G (T.c.fact 29 (f := .glo "_law_many") rfl)
theorem Tx.g_l_purse_by (T : Tx K mg) : mg "_law_purse_by" = some (.ref (ga K "_law_purse_by")) := by obtain ⟨h, X, G⟩ := T.ctx; exact He.glo_ok X G (T.c.fact 30 (f := .glo "_law_purse_by") rfl)
theorem Tx.g_l_told_by (T : Tx K mg) : mg "_law_told_by" = some (.ref (ga K "_law_told_by")) := by obtain ⟨h, X, G⟩ := T.ctx; exact He.glo_ok X G (T.c.fact 31 (f := .glo "_law_told_by") rfl)
theorem Tx.g_l_handed (T : Tx K mg) : mg "_law_handed" = some (.ref (ga K "_law_handed")) := by obtain ⟨h, X, G⟩ := T.ctx; exact He.glo_ok X G (T.c.fact 32 (f := .glo "_law_handed") rfl)
theorem Tx.g_l_lie_by (T : Tx K mg) : mg "_law_lie_by" = some (.ref (ga K "_law_lie_by")) := by obtain ⟨h, X, G⟩ := T.ctx; exact He.glo_ok X G (T.c.fact 33 (f := .glo "_law_lie_by") rfl)
theorem Tx.g_l_no_more (T : Tx K mg) : mg "_law_no_more" = some (.ref (ga K "_law_no_more")) := by obtain ⟨h, X, G⟩ := T.ctx; exact He.glo_ok X G (T.c.fact 34 (f := .glo "_law_no_more") rfl)
theorem Tx.g_law (T : Tx K mg) : mg "law" = some (.ref (ga K "law")) := by obtain ⟨h, X, G⟩ := T.ctx; exact He.glo_ok X G (T.c.fact 35 (f := .glo "law") rfl)
theorem Tx.g_Bid (T : Tx K mg) : mg "Bid" = some (.ref (ga K "Bid")) := by obtain ⟨h, X, G⟩ := T.ctx; exact He.glo_ok X G (T.c.fact 36 (f := .glo "Bid") rfl)
theorem Tx.g_Only (T : Tx K mg) : mg "Only" = some (.ref (ga K "Only")) := by obtain ⟨h, X, G⟩ := T.ctx; exact He.glo_ok X G (T.c.fact 37 (f := .glo "Only") rfl)
theorem Tx.g_SoMany (T : Tx K mg) : mg "SoMany" = some (.ref (ga K "SoMany")) := by obtain ⟨h, X, G⟩ := T.ctx; exact He.glo_ok X G (T.c.fact 38 (f := .glo "SoMany") rfl)
theorem Tx.g_UpTo (T : Tx K mg) : mg "UpTo" = some (.ref (ga K "UpTo")) := by obtain ⟨h, X, G⟩ := T.ctx; exact He.glo_ok X G (T.c.fact 39 (f := .glo "UpTo") rfl)
theorem Tx.g_Several (T : Tx K mg) : mg "Several" = some (.ref (ga K "Several")) := by obtain ⟨h, X, G⟩ := T.ctx; exact He.glo_ok X G (T.c.fact 40 (f := .glo "Several") rfl)
theorem Tx.g_AnyOf (T : Tx K mg) : mg "AnyOf" = some (.ref (ga K "AnyOf")) := by obtain ⟨h, X, G⟩ := T.ctx; exact He.glo_ok X G (T.c.fact 41 (f := .glo "AnyOf") rfl)
theorem Tx.g_OneOf (T : Tx K mg) : mg "OneOf" = some (.ref (ga K "OneOf")) := by obtain ⟨h, X, G⟩ := T.ctx; exact He.glo_ok X G (T.c.fact 42 (f := .glo "OneOf") rfl)
theorem Tx.n_isinstance (T : Tx K mg) : mg "isinstance" = none := by obtain ⟨h, X, G⟩ := T.ctx; exact He.free_ok X G (T.c.fact 43 (f := .free "isinstance") rfl)
theorem Tx.n_int (T : Tx K mg) : mg "int" = none := by obtain ⟨h, X, G⟩ := T.ctx; exact He.free_ok X G (T.c.fact 44 (f := .free "int") rfl)
theorem Tx.n_bool (T : Tx K mg) : mg "bool" = none := by obtain ⟨h, X, G⟩ := T.ctx; exact He.free_ok X G (T.c.fact 45 (f := .free "bool") rfl)
theorem Tx.n_len (T : Tx K mg) : mg "len" = none := by obtain ⟨h, X, G⟩ := T.ctx; exact He.free_ok X G (T.c.fact 46 (f := .free "len") rfl)
theorem Tx.n_range (T : Tx K mg) : mg "range" = none := by obtain ⟨h, X, G⟩ := T.ctx; exact He.free_ok X G (T.c.fact 47 (f := .free "range") rfl)
theorem Tx.n_list (T : Tx K mg) : mg "list" = none := by obtain ⟨h, X, G⟩ := T.ctx; exact He.free_ok X G (T.c.fact 48 (f := .free "list") rfl)
theorem Tx.n_min (T : Tx K mg) : mg "min" = none := by obtain ⟨h, X, G⟩ := T.ctx; exact He.free_ok X G (T.c.fact 49 (f := .free "min") rfl)
theorem Tx.n_max (T : Tx K mg) : mg "max" = none := by obtain ⟨h, X, G⟩ := T.ctx; exact He.free_ok X G (T.c.fact 50 (f := .free "max") rfl)
theorem Tx.n_sum (T : Tx K mg) : mg "sum" = none := by obtain ⟨h, X, G⟩ := T.ctx; exact He.free_ok X G (T.c.fact 51 (f := .free "sum") rfl)
theorem Tx.n_zip (T : Tx K mg) : mg "zip" = none := by obtain ⟨h, X, G⟩ := T.ctx; exact He.free_ok X G (T.c.fact 52 (f := .free "zip") rfl)
theorem Tx.n_tuple (T : Tx K mg) : mg "tuple" = none := by obtain ⟨h, X, G⟩ := T.ctx; exact He.free_ok X G (T.c.fact 53 (f := .free "tuple") rfl)
theorem Tx.i_MOST (T : Tx K mg) : ∃ u, mg "MOST" = some u ∧ RelV (.int 6) u := by obtain ⟨h, X, G⟩ := T.ctx; obtain ⟨t, e⟩ := He.int_ok X G (T.c.fact 54 (f := .int "MOST" 6) rfl); exact ⟨_, e, t, rfl⟩
theorem Tx.i_DEEPEST (T : Tx K mg) : ∃ u, mg "DEEPEST" = some u ∧ RelV (.int 4) u := by obtain ⟨h, X, G⟩ := T.ctx; obtain ⟨t, e⟩ := He.int_ok X G (T.c.fact 55 (f := .int "DEEPEST" 4) rfl); exact ⟨_, e, t, rfl⟩
theorem Tx.i_MOST_BIDS (T : Tx K mg) : ∃ u, mg "MOST_BIDS" = some u ∧ RelV (.int 24) u := by obtain ⟨h, X, G⟩ := T.ctx; obtain ⟨t, e⟩ := He.int_ok X G (T.c.fact 56 (f := .int "MOST_BIDS" 24) rfl); exact ⟨_, e, t, rfl⟩
theorem Tx.i_MOST_AMOUNT (T : Tx K mg) : ∃ u, mg "MOST_AMOUNT" = some u ∧ RelV (.int 1000000000) u := by obtain ⟨h, X, G⟩ := T.ctx; obtain ⟨t, e⟩ := He.int_ok X G (T.c.fact 57 (f := .int "MOST_AMOUNT" 1000000000) rfl); exact ⟨_, e, t, rfl⟩
theorem Tx.i_MOST_THINGS (T : Tx K mg) : ∃ u, mg "MOST_THINGS" = some u ∧ RelV (.int 6) u := by obtain ⟨h, X, G⟩ := T.ctx; obtain ⟨t, e⟩ := He.int_ok X G (T.c.fact 58 (f := .int "MOST_THINGS" 6) rfl); exact ⟨_, e, t, rfl⟩
theorem Tx.i_LAST_BUNDLE (T : Tx K mg) : ∃ u, mg "LAST_BUNDLE" = some u ∧ RelV (.int 63) u := by obtain ⟨h, X, G⟩ := T.ctx; obtain ⟨t, e⟩ := He.int_ok X G (T.c.fact 59 (f := .int "LAST_BUNDLE" 63) rfl); exact ⟨_, e, t, rfl⟩
theorem Tx.c_Bid (T : Tx K mg) : Cls K (ga K "Bid") := He.cls_ok (T.c.fact 60 (f := .cls "Bid") rfl)
theorem Tx.c_Only (T : Tx K mg) : Cls K (ga K "Only") := He.cls_ok (T.c.fact 61 (f := .cls "Only") rfl)
theorem Tx.c_SoMany (T : Tx K mg) : Cls K (ga K "SoMany") := He.cls_ok (T.c.fact 62 (f := .cls "SoMany") rfl)
theorem Tx.c_UpTo (T : Tx K mg) : Cls K (ga K "UpTo") := He.cls_ok (T.c.fact 63 (f := .cls "UpTo") rfl)
theorem Tx.c_AnyOf (T : Tx K mg) : Cls K (ga K "AnyOf") := He.cls_ok (T.c.fact 64 (f := .cls "AnyOf") rfl)
theorem Tx.c_OneOf (T : Tx K mg) : Cls K (ga K "OneOf") := He.cls_ok (T.c.fact 65 (f := .cls "OneOf") rfl)
theorem Tx.m_Bid_worths (T : Tx K mg) : Meth K (ga K "Bid") "worths" (He.ma K (ga K "Bid") "worths") := He.meth_ok (T.c.fact 66 (f := .meth "Bid" "worths") rfl)
theorem Tx.m_Bid_depth (T : Tx K mg) : Meth K (ga K "Bid") "depth" (He.ma K (ga K "Bid") "depth") := He.meth_ok (T.c.fact 67 (f := .meth "Bid" "depth") rfl)
theorem Tx.m_Bid_tally (T : Tx K mg) : Meth K (ga K "Bid") "tally" (He.ma K (ga K "Bid") "tally") := He.meth_ok (T.c.fact 68 (f := .meth "Bid" "tally") rfl)
theorem Tx.m_Only_worths (T : Tx K mg) : Meth K (ga K "Only") "worths" (He.ma K (ga K "Only") "worths") := He.meth_ok (T.c.fact 69 (f := .meth "Only" "worths") rfl)
theorem Tx.m_Only_depth (T : Tx K mg) : Meth K (ga K "Only") "depth" (He.ma K (ga K "Only") "depth") := He.meth_ok (T.c.fact 70 (f := .meth "Only" "depth") rfl)
theorem Tx.m_Only_tally (T : Tx K mg) : Meth K (ga K "Only") "tally" (He.ma K (ga K "Only") "tally") := He.meth_ok (T.c.fact 71 (f := .meth "Only" "tally") rfl)
theorem Tx.m_SoMany_worths (T : Tx K mg) : Meth K (ga K "SoMany") "worths" (He.ma K (ga K "SoMany") "worths") := He.meth_ok (T.c.fact 72 (f := .meth "SoMany" "worths") rfl)
theorem Tx.m_SoMany_depth (T : Tx K mg) : Meth K (ga K "SoMany") "depth" (He.ma K (ga K "SoMany") "depth") := He.meth_ok (T.c.fact 73 (f := .meth "SoMany" "depth") rfl)
theorem Tx.m_SoMany_tally (T : Tx K mg) : Meth K (ga K "SoMany") "tally" (He.ma K (ga K "SoMany") "tally") := He.meth_ok (T.c.fact 74 (f := .meth "SoMany" "tally") rfl)
theorem Tx.m_UpTo_worths (T : Tx K mg) : Meth K (ga K "UpTo") "worths" (He.ma K (ga K "UpTo") "worths") := He.meth_ok (T.c.fact 75 (f := .meth "UpTo" "worths") rfl)
theorem Tx.m_UpTo_depth (T : Tx K mg) : Meth K (ga K "UpTo") "depth" (He.ma K (ga K "UpTo") "depth") := He.meth_ok (T.c.fact 76 (f := .meth "UpTo" "depth") rfl)
theorem Tx.m_UpTo_tally (T : Tx K mg) : Meth K (ga K "UpTo") "tally" (He.ma K (ga K "UpTo") "tally") := He.meth_ok (T.c.fact 77 (f := .meth "UpTo" "tally") rfl)
theorem Tx.m_AnyOf_worths (T : Tx K mg) : Meth K (ga K "AnyOf") "worths" (He.ma K (ga K "AnyOf") "worths") := He.meth_ok (T.c.fact 78 (f := .meth "AnyOf" "worths") rfl)
theorem Tx.m_AnyOf_depth (T : Tx K mg) : Meth K (ga K "AnyOf") "depth" (He.ma K (ga K "AnyOf") "depth") := He.meth_ok (T.c.fact 79 (f := .meth "AnyOf" "depth") rfl)
theorem Tx.m_AnyOf_tally (T : Tx K mg) : Meth K (ga K "AnyOf") "tally" (He.ma K (ga K "AnyOf") "tally") := He.meth_ok (T.c.fact 80 (f := .meth "AnyOf" "tally") rfl)
theorem Tx.m_OneOf_worths (T : Tx K mg) : Meth K (ga K "OneOf") "worths" (He.ma K (ga K "OneOf") "worths") := He.meth_ok (T.c.fact 81 (f := .meth "OneOf" "worths") rfl)
theorem Tx.m_OneOf_depth (T : Tx K mg) : Meth K (ga K "OneOf") "depth" (He.ma K (ga K "OneOf") "depth") := He.meth_ok (T.c.fact 82 (f := .meth "OneOf" "depth") rfl)
theorem Tx.m_OneOf_tally (T : Tx K mg) : Meth K (ga K "OneOf") "tally" (He.ma K (ga K "OneOf") "tally") := He.meth_ok (T.c.fact 83 (f := .meth "OneOf" "tally") rfl)
theorem Tx.k_Only (T : Tx K mg) : Mk K (ga K "Only") (He.ma K (ga K "Only") "__init__") := He.mkr_ok (T.c.fact 84 (f := .mkr "Only") rfl)
theorem Tx.k_SoMany (T : Tx K mg) : Mk K (ga K "SoMany") (He.ma K (ga K "SoMany") "__init__") := He.mkr_ok (T.c.fact 85 (f := .mkr "SoMany") rfl)
theorem Tx.k_UpTo (T : Tx K mg) : Mk K (ga K "UpTo") (He.ma K (ga K "UpTo") "__init__") := He.mkr_ok (T.c.fact 86 (f := .mkr "UpTo") rfl)
theorem Tx.k_AnyOf (T : Tx K mg) : Mk K (ga K "AnyOf") (He.ma K (ga K "AnyOf") "__init__") := He.mkr_ok (T.c.fact 87 (f := .mkr "AnyOf") rfl)
theorem Tx.k_OneOf (T : Tx K mg) : Mk K (ga K "OneOf") (He.ma K (ga K "OneOf") "__init__") := He.mkr_ok (T.c.fact 88 (f := .mkr "OneOf") rfl)
theorem Tx.a_Only_bundle (T : Tx K mg) : NoAttr K (ga K "Only") "bundle" := He.noat_ok (T.c.fact 89 (f := .noat "Only" "bundle") rfl)
theorem Tx.a_Only_amount (T : Tx K mg) : NoAttr K (ga K "Only") "amount" := He.noat_ok (T.c.fact 90 (f := .noat "Only" "amount") rfl)
theorem Tx.a_SoMany_kind (T : Tx K mg) : NoAttr K (ga K "SoMany") "kind" := He.noat_ok (T.c.fact 91 (f := .noat "SoMany" "kind") rfl)
theorem Tx.a_SoMany_least (T : Tx K mg) : NoAttr K (ga K "SoMany") "least" := He.noat_ok (T.c.fact 92 (f := .noat "SoMany" "least") rfl)
theorem Tx.a_SoMany_amount (T : Tx K mg) : NoAttr K (ga K "SoMany") "amount" := He.noat_ok (T.c.fact 93 (f := .noat "SoMany" "amount") rfl)
theorem Tx.a_UpTo_kind (T : Tx K mg) : NoAttr K (ga K "UpTo") "kind" := He.noat_ok (T.c.fact 94 (f := .noat "UpTo" "kind") rfl)
theorem Tx.a_UpTo_most (T : Tx K mg) : NoAttr K (ga K "UpTo") "most" := He.noat_ok (T.c.fact 95 (f := .noat "UpTo" "most") rfl)
theorem Tx.a_UpTo_each (T : Tx K mg) : NoAttr K (ga K "UpTo") "each" := He.noat_ok (T.c.fact 96 (f := .noat "UpTo" "each") rfl)
theorem Tx.a_AnyOf_listed (T : Tx K mg) : NoAttr K (ga K "AnyOf") "listed" := He.noat_ok (T.c.fact 97 (f := .noat "AnyOf" "listed") rfl)
theorem Tx.a_OneOf_listed (T : Tx K mg) : NoAttr K (ga K "OneOf") "listed" := He.noat_ok (T.c.fact 98 (f := .noat "OneOf" "listed") rfl)
abbrev N_is_whole : List Str := ["thing"]
theorem sc_is_whole : FnScope N_is_whole ["thing"] (defScope s_is_whole) := ⟨rfl, rfl, rfl, by decide +kernel, rfl, by decide +kernel, by decide +kernel⟩
theorem Tx.d_is_whole (T : Tx K mg) : ∃ fd, FunD K "is_whole" "is_whole" (defArgs s_is_whole) (defBody s_is_whole) (defScope s_is_whole) [] [] (ga K "is_whole") fd := T.c.def_ 0 (d := Gv.d_is_whole) rfl
abbrev N_things_in : List Str := ["bundle", "number"]
theorem sc_things_in : FnScope N_things_in ["bundle"] (defScope s_things_in) := ⟨rfl, rfl, rfl, by decide +kernel, rfl, by decide +kernel, by decide +kernel⟩
theorem Tx.d_things_in (T : Tx K mg) : ∃ fd, FunD K "things_in" "things_in" (defArgs s_things_in) (defBody s_things_in) (defScope s_things_in) [] [] (ga K "things_in") fd := T.c.def_ 1 (d := Gv.d_things_in) rfl
abbrev N_size_of : List Str := ["bundle"]
theorem sc_size_of : FnScope N_size_of ["bundle"] (defScope s_size_of) := ⟨rfl, rfl, rfl, by decide +kernel, rfl, by decide +kernel, by decide +kernel⟩
theorem Tx.d_size_of (T : Tx K mg) : ∃ fd, FunD K "size_of" "size_of" (defArgs s_size_of) (defBody s_size_of) (defScope s_size_of) [] [] (ga K "size_of") fd := T.c.def_ 2 (d := Gv.d_size_of) rfl
abbrev N_holds : List Str := ["one", "other"]
theorem sc_holds : FnScope N_holds ["one", "other"] (defScope s_holds) := ⟨rfl, rfl, rfl, by decide +kernel, rfl, by decide +kernel, by decide +kernel⟩
theorem Tx.d_holds (T : Tx K mg) : ∃ fd, FunD K "holds" "holds" (defArgs s_holds) (defBody s_holds) (defScope s_holds) [] [] (ga K "holds") fd := T.c.def_ 3 (d := Gv.d_holds) rfl
abbrev N_parts_of : List Str := ["bundle", "part"]
theorem sc_parts_of : FnScope N_parts_of ["bundle"] (defScope s_parts_of) := ⟨rfl, rfl, rfl, by decide +kernel, rfl, by decide +kernel, by decide +kernel⟩
theorem Tx.d_parts_of (T : Tx K mg) : ∃ fd, FunD K "parts_of" "parts_of" (defArgs s_parts_of) (defBody s_parts_of) (defScope s_parts_of) [] [] (ga K "parts_of") fd := T.c.def_ 4 (d := Gv.d_parts_of) rfl
abbrev N_is_least : List Str := ["worths", "bundle", "number"]
theorem sc_is_least : FnScope N_is_least ["worths", "bundle"] (defScope s_is_least) := ⟨rfl, rfl, rfl, by decide +kernel, rfl, by decide +kernel, by decide +kernel⟩
theorem Tx.d_is_least (T : Tx K mg) : ∃ fd, FunD K "is_least" "is_least" (defArgs s_is_least) (defBody s_is_least) (defScope s_is_least) [] [] (ga K "is_least") fd := T.c.def_ 5 (d := Gv.d_is_least) rfl
abbrev N_offers_of : List Str := ["worths", "bundle"]
theorem sc_offers_of : FnScope N_offers_of ["worths"] (defScope s_offers_of) := ⟨rfl, rfl, rfl, by decide +kernel, rfl, by decide +kernel, by decide +kernel⟩
theorem Tx.d_offers_of (T : Tx K mg) : ∃ fd, FunD K "offers_of" "offers_of" (defArgs s_offers_of) (defBody s_offers_of) (defScope s_offers_of) [] [] (ga K "offers_of") fd := T.c.def_ 6 (d := Gv.d_offers_of) rfl
abbrev N_pursed : List Str := ["worths", "purse", "worth"]
theorem sc_pursed : FnScope N_pursed ["worths", "purse"] (defScope s_pursed) := ⟨rfl, rfl, rfl, by decide +kernel, rfl, by decide +kernel, by decide +kernel⟩
theorem Tx.d_pursed (T : Tx K mg) : ∃ fd, FunD K "pursed" "pursed" (defArgs s_pursed) (defBody s_pursed) (defScope s_pursed) [.non] [] (ga K "pursed") fd := T.c.def_ 7 (d := Gv.d_pursed) rfl
abbrev N_amount_at : List Str := ["listed", "bundle", "offer"]
theorem sc_amount_at : FnScope N_amount_at ["listed", "bundle"] (defScope s_amount_at) := ⟨rfl, rfl, rfl, by decide +kernel, rfl, by decide +kernel, by decide +kernel⟩
theorem Tx.d_amount_at (T : Tx K mg) : ∃ fd, FunD K "amount_at" "amount_at" (defArgs s_amount_at) (defBody s_amount_at) (defScope s_amount_at) [] [] (ga K "amount_at") fd := T.c.def_ 8 (d := Gv.d_amount_at) rfl
abbrev N_plan_worth : List Str := ["offers", "plan", "found", "listed", "bundle"]
theorem sc_plan_worth : FnScope N_plan_worth ["offers", "plan"] (defScope s_plan_worth) := ⟨rfl, rfl, rfl, by decide +kernel, rfl, by decide +kernel, by decide +kernel⟩
theorem Tx.d_plan_worth (T : Tx K mg) : ∃ fd, FunD K "plan_worth" "plan_worth" (defArgs s_plan_worth) (defBody s_plan_worth) (defScope s_plan_worth) [] [] (ga K "plan_worth") fd := T.c.def_ 9 (d := Gv.d_plan_worth) rfl
abbrev N_best_behind : List Str := ["offers", "at", "free", "memo", "key", "found", "bundle", "amount"]
theorem sc_best_behind : FnScope N_best_behind ["offers", "at", "free", "memo"] (defScope s_best_behind) := ⟨rfl, rfl, rfl, by decide +kernel, rfl, by decide +kernel, by decide +kernel⟩
theorem Tx.d_best_behind (T : Tx K mg) : ∃ fd, FunD K "best_behind" "best_behind" (defArgs s_best_behind) (defBody s_best_behind) (defScope s_best_behind) [] [] (ga K "best_behind") fd := T.c.def_ 10 (d := Gv.d_best_behind) rfl
abbrev N_greatest_of : List Str := ["many", "offers"]
theorem sc_greatest_of : FnScope N_greatest_of ["many", "offers"] (defScope s_greatest_of) := ⟨rfl, rfl, rfl, by decide +kernel, rfl, by decide +kernel, by decide +kernel⟩
theorem Tx.d_greatest_of (T : Tx K mg) : ∃ fd, FunD K "greatest_of" "greatest_of" (defArgs s_greatest_of) (defBody s_greatest_of) (defScope s_greatest_of) [] [] (ga K "greatest_of") fd := T.c.def_ 11 (d := Gv.d_greatest_of) rfl
abbrev N_chosen_at : List Str := ["offers", "at", "free", "memo", "due", "chosen", "bundle", "amount"]
theorem sc_chosen_at : FnScope N_chosen_at ["offers", "at", "free", "memo"] (defScope s_chosen_at) := ⟨rfl, rfl, rfl, by decide +kernel, rfl, by decide +kernel, by decide +kernel⟩
theorem Tx.d_chosen_at (T : Tx K mg) : ∃ fd, FunD K "chosen_at" "chosen_at" (defArgs s_chosen_at) (defBody s_chosen_at) (defScope s_chosen_at) [] [] (ga K "chosen_at") fd := T.c.def_ 12 (d := Gv.d_chosen_at) rfl
abbrev N_winners_of : List Str := ["many", "offers", "memo", "free", "plan", "at", "chosen"]
theorem sc_winners_of : FnScope N_winners_of ["many", "offers"] (defScope s_winners_of) := ⟨rfl, rfl, rfl, by decide +kernel, rfl, by decide +kernel, by decide +kernel⟩
theorem Tx.d_winners_of (T : Tx K mg) : ∃ fd, FunD K "winners_of" "winners_of" (defArgs s_winners_of) (defBody s_winners_of) (defScope s_winners_of) [] [] (ga K "winners_of") fd := T.c.def_ 13 (d := Gv.d_winners_of) rfl
abbrev N_without : List Str := ["offers", "who", "made", "listed"]
theorem sc_without : FnScope N_without ["offers", "who"] (defScope s_without) := ⟨rfl, rfl, rfl, by decide +kernel, rfl, by decide +kernel, by decide +kernel⟩
theorem Tx.d_without (T : Tx K mg) : ∃ fd, FunD K "without" "without" (defArgs s_without) (defBody s_without) (defScope s_without) [] [] (ga K "without") fd := T.c.def_ 14 (d := Gv.d_without) rfl
abbrev N_receipts_of : List Str := ["many", "offers", "plan", "most", "rows", "who", "amount", "lacking", "beside"]
theorem sc_receipts_of : FnScope N_receipts_of ["many", "offers"] (defScope s_receipts_of) := ⟨rfl, rfl, rfl, by decide +kernel, rfl, by decide +kernel, by decide +kernel⟩
theorem Tx.d_receipts_of (T : Tx K mg) : ∃ fd, FunD K "receipts_of" "receipts_of" (defArgs s_receipts_of) (defBody s_receipts_of) (defScope s_receipts_of) [] [] (ga K "receipts_of") fd := T.c.def_ 15 (d := Gv.d_receipts_of) rfl
abbrev N_pays_of : List Str := ["many", "offers", "row"]
theorem sc_pays_of : FnScope N_pays_of ["many", "offers"] (defScope s_pays_of) := ⟨rfl, rfl, rfl, by decide +kernel, rfl, by decide +kernel, by decide +kernel⟩
theorem Tx.d_pays_of (T : Tx K mg) : ∃ fd, FunD K "pays_of" "pays_of" (defArgs s_pays_of) (defBody s_pays_of) (defScope s_pays_of) [] [] (ga K "pays_of") fd := T.c.def_ 16 (d := Gv.d_pays_of) rfl
abbrev N_counted : List Str := ["many", "told", "made", "bid", "purse"]
theorem sc_counted : FnScope N_counted ["many", "told"] (defScope s_counted) := ⟨rfl, rfl, rfl, by decide +kernel, rfl, by decide +kernel, by decide +kernel⟩
theorem Tx.d_counted (T : Tx K mg) : ∃ fd, FunD K "counted" "counted" (defArgs s_counted) (defBody s_counted) (defScope s_counted) [] [] (ga K "counted") fd := T.c.def_ 17 (d := Gv.d_counted) rfl
abbrev N_gain_told : List Str := ["many", "told", "who", "bid", "own", "purse", "rows", "receipt"]
theorem sc_gain_told : FnScope N_gain_told ["many", "told", "who", "bid"] (defScope s_gain_told) := ⟨rfl, rfl, rfl, by decide +kernel, rfl, by decide +kernel, by decide +kernel⟩
theorem Tx.d_gain_told (T : Tx K mg) : ∃ fd, FunD K "gain_told" "gain_told" (defArgs s_gain_told) (defBody s_gain_told) (defScope s_gain_told) [.non] [] (ga K "gain_told") fd := T.c.def_ 18 (d := Gv.d_gain_told) rfl
abbrev N_within : List Str := ["offers", "free", "made", "listed", "offer"]
theorem sc_within : FnScope N_within ["offers", "free"] (defScope s_within) := ⟨rfl, rfl, rfl, by decide +kernel, rfl, by decide +kernel, by decide +kernel⟩
theorem Tx.d_within (T : Tx K mg) : ∃ fd, FunD K "within" "within" (defArgs s_within) (defBody s_within) (defScope s_within) [] [] (ga K "within") fd := T.c.def_ 19 (d := Gv.d_within) rfl
abbrev N_ticket_prices : List Str := ["many", "offers", "who", "others", "most", "whole", "bundle"]
theorem sc_ticket_prices : FnScope N_ticket_prices ["many", "offers", "who"] (defScope s_ticket_prices) := ⟨rfl, rfl, rfl, by decide +kernel, rfl, by decide +kernel, by decide +kernel⟩
theorem Tx.d_ticket_prices (T : Tx K mg) : ∃ fd, FunD K "ticket_prices" "ticket_prices" (defArgs s_ticket_prices) (defBody s_ticket_prices) (defScope s_ticket_prices) [] [] (ga K "ticket_prices") fd := T.c.def_ 20 (d := Gv.d_ticket_prices) rfl
abbrev N_sure_gain : List Str := ["many", "told", "who", "bid", "purse", "worths", "tickets", "gain", "best", "bundle"]
theorem sc_sure_gain : FnScope N_sure_gain ["many", "told", "who"] (defScope s_sure_gain) := ⟨rfl, rfl, rfl, by decide +kernel, rfl, by decide +kernel, by decide +kernel⟩
theorem Tx.d_sure_gain (T : Tx K mg) : ∃ fd, FunD K "sure_gain" "sure_gain" (defArgs s_sure_gain) (defBody s_sure_gain) (defScope s_sure_gain) [] [] (ga K "sure_gain") fd := T.c.def_ 21 (d := Gv.d_sure_gain) rfl
abbrev N_checked : List Str := ["number", "low", "high"]
theorem sc_checked : FnScope N_checked ["number", "low", "high"] (defScope s_checked) := ⟨rfl, rfl, rfl, by decide +kernel, rfl, by decide +kernel, by decide +kernel⟩
theorem Tx.d_checked (T : Tx K mg) : ∃ fd, FunD K "checked" "checked" (defArgs s_checked) (defBody s_checked) (defScope s_checked) [] [] (ga K "checked") fd := T.c.def_ 22 (d := Gv.d_checked) rfl
abbrev N_shared : List Str := ["one", "other", "found", "bundle", "part"]
theorem sc_shared : FnScope N_shared ["one", "other"] (defScope s_shared) := ⟨rfl, rfl, rfl, by decide +kernel, rfl, by decide +kernel, by decide +kernel⟩
theorem Tx.d_shared (T : Tx K mg) : ∃ fd, FunD K "shared" "shared" (defArgs s_shared) (defBody s_shared) (defScope s_shared) [] [] (ga K "shared") fd := T.c.def_ 23 (d := Gv.d_shared) rfl
abbrev N_Bid_worths : List Str := ["self", "many", "bundle"]
theorem sc_Bid_worths : FnScope N_Bid_worths ["self", "many"] (defScope s_Bid_worths) := ⟨rfl, rfl, rfl, by decide +kernel, rfl, by decide +kernel, by decide +kernel⟩
theorem Tx.d_Bid_worths (T : Tx K mg) : ∃ fd, FunD K "worths" "Bid.worths" (defArgs s_Bid_worths) (defBody s_Bid_worths) (defScope s_Bid_worths) [] [] (He.ma K (ga K "Bid") "worths") fd := T.c.def_ 24 (d := Gv.d_Bid_worths) rfl
abbrev N_Bid_depth : List Str := ["self"]
theorem sc_Bid_depth : FnScope N_Bid_depth ["self"] (defScope s_Bid_depth) := ⟨rfl, rfl, rfl, by decide +kernel, rfl, by decide +kernel, by decide +kernel⟩
theorem Tx.d_Bid_depth (T : Tx K mg) : ∃ fd, FunD K "depth" "Bid.depth" (defArgs s_Bid_depth) (defBody s_Bid_depth) (defScope s_Bid_depth) [] [] (He.ma K (ga K "Bid") "depth") fd := T.c.def_ 25 (d := Gv.d_Bid_depth) rfl
abbrev N_Bid_tally : List Str := ["self"]
theorem sc_Bid_tally : FnScope N_Bid_tally ["self"] (defScope s_Bid_tally) := ⟨rfl, rfl, rfl, by decide +kernel, rfl, by decide +kernel, by decide +kernel⟩
theorem Tx.d_Bid_tally (T : Tx K mg) : ∃ fd, FunD K "tally" "Bid.tally" (defArgs s_Bid_tally) (defBody s_Bid_tally) (defScope s_Bid_tally) [] [] (He.ma K (ga K "Bid") "tally") fd := T.c.def_ 26 (d := Gv.d_Bid_tally) rfl
abbrev N_Only_init : List Str := ["self", "bundle", "amount"]
theorem sc_Only_init : FnScope N_Only_init ["self", "bundle", "amount"] (defScope s_Only_init) := ⟨rfl, rfl, rfl, by decide +kernel, rfl, by decide +kernel, by decide +kernel⟩
theorem Tx.d_Only_init (T : Tx K mg) : ∃ fd, FunD K "__init__" "Only.__init__" (defArgs s_Only_init) (defBody s_Only_init) (defScope s_Only_init) [] [] (He.ma K (ga K "Only") "__init__") fd := T.c.def_ 27 (d := Gv.d_Only_init) rfl
abbrev N_Only_worths : List Str := ["self", "many", "bundle"]
theorem sc_Only_worths : FnScope N_Only_worths ["self", "many"] (defScope s_Only_worths) := ⟨rfl, rfl, rfl, by decide +kernel, rfl, by decide +kernel, by decide +kernel⟩
theorem Tx.d_Only_worths (T : Tx K mg) : ∃ fd, FunD K "worths" "Only.worths" (defArgs s_Only_worths) (defBody s_Only_worths) (defScope s_Only_worths) [] [] (He.ma K (ga K "Only") "worths") fd := T.c.def_ 28 (d := Gv.d_Only_worths) rfl
abbrev N_SoMany_init : List Str := ["self", "kind", "least", "amount"]
theorem sc_SoMany_init : FnScope N_SoMany_init ["self", "kind", "least", "amount"] (defScope s_SoMany_init) := ⟨rfl, rfl, rfl, by decide +kernel, rfl, by decide +kernel, by decide +kernel⟩
theorem Tx.d_SoMany_init (T : Tx K mg) : ∃ fd, FunD K "__init__" "SoMany.__init__" (defArgs s_SoMany_init) (defBody s_SoMany_init) (defScope s_SoMany_init) [] [] (He.ma K (ga K "SoMany") "__init__") fd := T.c.def_ 29 (d := Gv.d_SoMany_init) rfl
abbrev N_SoMany_worths : List Str := ["self", "many", "found", "bundle", "enough"]
theorem sc_SoMany_worths : FnScope N_SoMany_worths ["self", "many"] (defScope s_SoMany_worths) := ⟨rfl, rfl, rfl, by decide +kernel, rfl, by decide +kernel, by decide +kernel⟩
theorem Tx.d_SoMany_worths (T : Tx K mg) : ∃ fd, FunD K "worths" "SoMany.worths" (defArgs s_SoMany_worths) (defBody s_SoMany_worths) (defScope s_SoMany_worths) [] [] (He.ma K (ga K "SoMany") "worths") fd := T.c.def_ 30 (d := Gv.d_SoMany_worths) rfl
abbrev N_UpTo_init : List Str := ["self", "kind", "most", "each"]
theorem sc_UpTo_init : FnScope N_UpTo_init ["self", "kind", "most", "each"] (defScope s_UpTo_init) := ⟨rfl, rfl, rfl, by decide +kernel, rfl, by decide +kernel, by decide +kernel⟩
theorem Tx.d_UpTo_init (T : Tx K mg) : ∃ fd, FunD K "__init__" "UpTo.__init__" (defArgs s_UpTo_init) (defBody s_UpTo_init) (defScope s_UpTo_init) [] [] (He.ma K (ga K "UpTo") "__init__") fd := T.c.def_ 31 (d := Gv.d_UpTo_init) rfl
abbrev N_UpTo_worths : List Str := ["self", "many", "bundle"]
theorem sc_UpTo_worths : FnScope N_UpTo_worths ["self", "many"] (defScope s_UpTo_worths) := ⟨rfl, rfl, rfl, by decide +kernel, rfl, by decide +kernel, by decide +kernel⟩
theorem Tx.d_UpTo_worths (T : Tx K mg) : ∃ fd, FunD K "worths" "UpTo.worths" (defArgs s_UpTo_worths) (defBody s_UpTo_worths) (defScope s_UpTo_worths) [] [] (He.ma K (ga K "UpTo") "worths") fd := T.c.def_ 32 (d := Gv.d_UpTo_worths) rfl
abbrev N_Several_init : List Str := ["self", "bids", "bid"]
theorem sc_Several_init : FnScope N_Several_init ["self", "bids"] (defScope s_Several_init) := ⟨rfl, rfl, rfl, by decide +kernel, rfl, by decide +kernel, by decide +kernel⟩
theorem Tx.d_Several_init (T : Tx K mg) : ∃ fd, FunD K "__init__" "Several.__init__" (defArgs s_Several_init) (defBody s_Several_init) (defScope s_Several_init) [] [] (He.ma K (ga K "Several") "__init__") fd := T.c.def_ 33 (d := Gv.d_Several_init) rfl
abbrev N_Several_depth : List Str := ["self", "bid"]
theorem sc_Several_depth : FnScope N_Several_depth ["self"] (defScope s_Several_depth) := ⟨rfl, rfl, rfl, by decide +kernel, rfl, by decide +kernel, by decide +kernel⟩
theorem Tx.d_Several_depth (T : Tx K mg) : ∃ fd, FunD K "depth" "Several.depth" (defArgs s_Several_depth) (defBody s_Several_depth) (defScope s_Several_depth) [] [] (He.ma K (ga K "Several") "depth") fd := T.c.def_ 34 (d := Gv.d_Several_depth) rfl
abbrev N_Several_tally : List Str := ["self", "bid"]
theorem sc_Several_tally : FnScope N_Several_tally ["self"] (defScope s_Several_tally) := ⟨rfl, rfl, rfl, by decide +kernel, rfl, by decide +kernel, by decide +kernel⟩
theorem Tx.d_Several_tally (T : Tx K mg) : ∃ fd, FunD K "tally" "Several.tally" (defArgs s_Several_tally) (defBody s_Several_tally) (defScope s_Several_tally) [] [] (He.ma K (ga K "Several") "tally") fd := T.c.def_ 35 (d := Gv.d_Several_tally) rfl
abbrev N_AnyOf_worths : List Str := ["self", "many", "found", "bid", "bundle"]
theorem sc_AnyOf_worths : FnScope N_AnyOf_worths ["self", "many"] (defScope s_AnyOf_worths) := ⟨rfl, rfl, rfl, by decide +kernel, rfl, by decide +kernel, by decide +kernel⟩
theorem Tx.d_AnyOf_worths (T : Tx K mg) : ∃ fd, FunD K "worths" "AnyOf.worths" (defArgs s_AnyOf_worths) (defBody s_AnyOf_worths) (defScope s_AnyOf_worths) [] [] (He.ma K (ga K "AnyOf") "worths") fd := T.c.def_ 36 (d := Gv.d_AnyOf_worths) rfl
abbrev N_OneOf_worths : List Str := ["self", "many", "found", "bid", "told", "bundle"]
theorem sc_OneOf_worths : FnScope N_OneOf_worths ["self", "many"] (defScope s_OneOf_worths) := ⟨rfl, rfl, rfl, by decide +kernel, rfl, by decide +kernel, by decide +kernel⟩
theorem Tx.d_OneOf_worths (T : Tx K mg) : ∃ fd, FunD K "worths" "OneOf.worths" (defArgs s_OneOf_worths) (defBody s_OneOf_worths) (defScope s_OneOf_worths) [] [] (He.ma K (ga K "OneOf") "worths") fd := T.c.def_ 37 (d := Gv.d_OneOf_worths) rfl
abbrev N_l_cell_at : List Str := ["_law_script", "_law_k"]
theorem sc_l_cell_at : FnScope N_l_cell_at ["_law_script", "_law_k"] (defScope s_l_cell_at) := ⟨rfl, rfl, rfl, by decide +kernel, rfl, by decide +kernel, by decide +kernel⟩
theorem Tx.d_l_cell_at (T : Tx K mg) : ∃ fd, FunD K "_law_cell_at" "_law_cell_at" (defArgs s_l_cell_at) (defBody s_l_cell_at) (defScope s_l_cell_at) [] [] (ga K "_law_cell_at") fd := T.c.def_ 38 (d := Gv.d_l_cell_at) rfl
abbrev N_l_whole : List Str := ["_law_found"]
theorem sc_l_whole : FnScope N_l_whole ["_law_found"] (defScope s_l_whole) := ⟨rfl, rfl, rfl, by decide +kernel, rfl, by decide +kernel, by decide +kernel⟩
theorem Tx.d_l_whole (T : Tx K mg) : ∃ fd, FunD K "_law_whole" "_law_whole" (defArgs s_l_whole) (defBody s_l_whole) (defScope s_l_whole) [] [] (ga K "_law_whole") fd := T.c.def_ 39 (d := Gv.d_l_whole) rfl
abbrev N_l_spec_by : List Str := ["_law_script", "_law_at", "_law_scale_here", "_law_rows", "_law_k", "_law_cell", "_law_rest", "_law_way"]
theorem sc_l_spec_by : FnScope N_l_spec_by ["_law_script", "_law_at", "_law_scale_here"] (defScope s_l_spec_by) := ⟨rfl, rfl, rfl, by decide +kernel, rfl, by decide +kernel, by decide +kernel⟩
theorem Tx.d_l_spec_by (T : Tx K mg) : ∃ fd, FunD K "_law_spec_by" "_law_spec_by" (defArgs s_l_spec_by) (defBody s_l_spec_by) (defScope s_l_spec_by) [] [] (ga K "_law_spec_by") fd := T.c.def_ 40 (d := Gv.d_l_spec_by) rfl
abbrev N_l_bid_of : List Str := ["_law_spec", "_law_singles", "_law_row"]
theorem sc_l_bid_of : FnScope N_l_bid_of ["_law_spec"] (defScope s_l_bid_of) := ⟨rfl, rfl, rfl, by decide +kernel, rfl, by decide +kernel, by decide +kernel⟩
theorem Tx.d_l_bid_of (T : Tx K mg) : ∃ fd, FunD K "_law_bid_of" "_law_bid_of" (defArgs s_l_bid_of) (defBody s_l_bid_of) (defScope s_l_bid_of) [] [] (ga K "_law_bid_of") fd := T.c.def_ 41 (d := Gv.d_l_bid_of) rfl
abbrev N_l_scale : List Str := ["_law_cell"]
theorem sc_l_scale : FnScope N_l_scale ["_law_cell"] (defScope s_l_scale) := ⟨rfl, rfl, rfl, by decide +kernel, rfl, by decide +kernel, by decide +kernel⟩
theorem Tx.d_l_scale (T : Tx K mg) : ∃ fd, FunD K "_law_scale" "_law_scale" (defArgs s_l_scale) (defBody s_l_scale) (defScope s_l_scale) [] [] (ga K "_law_scale") fd := T.c.def_ 42 (d := Gv.d_l_scale) rfl
abbrev N_l_many : List Str := ["_law_cell"]
theorem sc_l_many : FnScope N_l_many ["_law_cell"] (defScope s_l_many) := ⟨rfl, rfl, rfl, by decide +kernel, rfl, by decide +kernel, by decide +kernel⟩
theorem Tx.d_l_many (T : Tx K mg) : ∃ fd, FunD K "_law_many" "_law_many" (defArgs s_l_many) (defBody s_l_many) (defScope s_l_many) [] [] (ga K "_law_many") fd := T.c.def_ 43 (d := Gv.d_l_many) rfl
abbrev N_l_purse_by : List Str := ["_law_cell", "_law_scale_here"]
theorem sc_l_purse_by : FnScope N_l_purse_by ["_law_cell", "_law_scale_here"] (defScope s_l_purse_by) := ⟨rfl, rfl, rfl, by decide +kernel, rfl, by decide +kernel, by decide +kernel⟩
theorem Tx.d_l_purse_by (T : Tx K mg) : ∃ fd, FunD K "_law_purse_by" "_law_purse_by" (defArgs s_l_purse_by) (defBody s_l_purse_by) (defScope s_l_purse_by) [] [] (ga K "_law_purse_by") fd := T.c.def_ 44 (d := Gv.d_l_purse_by) rfl
abbrev N_l_told_by : List Str := ["_law_script", "_law_at", "_law_bidders", "_law_scale_here", "_law_told", "_law_who", "_law_place"]
theorem sc_l_told_by : FnScope N_l_told_by ["_law_script", "_law_at", "_law_bidders", "_law_scale_here"] (defScope s_l_told_by) := ⟨rfl, rfl, rfl, by decide +kernel, rfl, by decide +kernel, by decide +kernel⟩
theorem Tx.d_l_told_by (T : Tx K mg) : ∃ fd, FunD K "_law_told_by" "_law_told_by" (defArgs s_l_told_by) (defBody s_l_told_by) (defScope s_l_told_by) [] [] (ga K "_law_told_by") fd := T.c.def_ 45 (d := Gv.d_l_told_by) rfl
abbrev N_l_handed : List Str := ["_law_told", "_law_row"]
theorem sc_l_handed : FnScope N_l_handed ["_law_told"] (defScope s_l_handed) := ⟨rfl, rfl, rfl, by decide +kernel, rfl, by decide +kernel, by decide +kernel⟩
theorem Tx.d_l_handed (T : Tx K mg) : ∃ fd, FunD K "_law_handed" "_law_handed" (defArgs s_l_handed) (defBody s_l_handed) (defScope s_l_handed) [] [] (ga K "_law_handed") fd := T.c.def_ 46 (d := Gv.d_l_handed) rfl
abbrev N_l_lie_by : List Str := ["_law_script", "_law_at", "_law_scale_here", "_law_parts", "_law_way", "_law_k"]
theorem sc_l_lie_by : FnScope N_l_lie_by ["_law_script", "_law_at", "_law_scale_here"] (defScope s_l_lie_by) := ⟨rfl, rfl, rfl, by decide +kernel, rfl, by decide +kernel, by decide +kernel⟩
theorem Tx.d_l_lie_by (T : Tx K mg) : ∃ fd, FunD K "_law_lie_by" "_law_lie_by" (defArgs s_l_lie_by) (defBody s_l_lie_by) (defScope s_l_lie_by) [] [] (ga K "_law_lie_by") fd := T.c.def_ 47 (d := Gv.d_l_lie_by) rfl
abbrev N_l_no_more : List Str := ["_law_many_here", "_law_handed_here", "_law_who", "_law_bid", "_law_most", "_law_gain", "_law_rows", "_law_pay"]
theorem sc_l_no_more : FnScope N_l_no_more ["_law_many_here", "_law_handed_here", "_law_who", "_law_bid", "_law_most"] (defScope s_l_no_more) := ⟨rfl, rfl, rfl, by decide +kernel, rfl, by decide +kernel, by decide +kernel⟩
theorem Tx.d_l_no_more (T : Tx K mg) : ∃ fd, FunD K "_law_no_more" "_law_no_more" (defArgs s_l_no_more) (defBody s_l_no_more) (defScope s_l_no_more) [] [] (ga K "_law_no_more") fd := T.c.def_ 48 (d := Gv.d_l_no_more) rfl
abbrev N_law : List Str := ["_law_script", "_law_many_here", "_law_scale_here", "_law_bidders", "_law_who", "_law_handed_here", "_law_sure", "_law_bid"]
theorem sc_law : FnScope N_law ["_law_script"] (defScope s_law) := ⟨rfl, rfl, rfl, by decide +kernel, rfl, by decide +kernel, by decide +kernel⟩
theorem Tx.d_law (T : Tx K mg) : ∃ fd, FunD K "law" "law" (defArgs s_law) (defBody s_law) (defScope s_law) [] [] (ga K "law") fd := T.c.def_ 49 (d := Gv.d_law) rfl
/-- Bid() -/
theorem Tx.bare (T : Tx K mg) : Bare K mg "Bid" (ga K "Bid") := by
  have h := (He.ba T.e).1
  obtain ⟨h1, h2⟩ := He.ba h
  obtain ⟨h2, h3⟩ := He.ba h2
  exact ⟨h2, He.eqO_ok h1, h3, T.g_Bid⟩
theorem Tx.kit (T : Tx K mg) {c : Str} (hc : c ∈ kits) (cl : Cls K (ga K c)) {H : Hp} {a dx : Addr} {fs : List (Str × V)} (e : H a = some (.ins (ga K c) dx fs)) : TyX K H (.ref a) (.ref (ga K c)) ∧ PySem.W.kitOne K (.ref (ga K c)) (.ref (ga K "Bid")) = some true := by
  obtain ⟨h1, h2⟩ := He.ba (He.ba T.e).2
  obtain ⟨h3, h4⟩ := He.ba h1
  obtain ⟨h5, h6⟩ := He.ba (List.all_eq_true.mp (He.ba h2).1 c hc)
  obtain ⟨h7, h8⟩ := He.ba h6
  exact ⟨.base (.ins e cl (He.eqO_ok h7) (He.eqO_ok h3) (of_decide_eq_true h4) (of_decide_eq_true h8)), of_decide_eq_true h5⟩
theorem Tx.nd (T : Tx K mg) : (kits.map (He.ga K)).Nodup := of_decide_eq_true (He.ba (He.ba (He.ba (He.ba T.e).2).2).2).1
theorem Tx.al (T : Tx K mg) {q : Str × Str × Str} (h : q ∈ alike) : He.ma K (ga K q.1) q.2.1 = He.ma K (ga K q.2.2) q.2.1 :=
  of_decide_eq_true (List.all_eq_true.mp (He.ba (He.ba (He.ba (He.ba T.e).2).2).2).2 q h)
end
end Gv
/-! The plain law: what the hall computes answers as asked. No program in sight. -/
namespace Gv
/-- one bidder's offers: (bundle, amount) -/
abbrev Lst := List (Nat × Int)
def hld (a b : Nat) : Bool := a &&& b == b
theorem hld_iff {a b : Nat} : hld a b = true ↔ a &&& b = b := by unfold hld; exact beq_iff_eq
theorem sub_xor (f : Nat) : ∀ b, f &&& b = b → f - b = f ^^^ b := by
  induction f using Nat.strongRecOn with
  | ind f ih =>
    intro b h
    by_cases f0 : f = 0
    · subst f0
      simp at h
      subst h
      rfl
    · have h1 : f / 2 &&& b / 2 = b / 2 := by rw [← Nat.and_div_two, h]
      have i1 := ih (f / 2) (by omega) (b / 2) h1
      have x1 : (f ^^^ b) / 2 = f / 2 ^^^ b / 2 := Nat.xor_div_two
      have x2 : (f ^^^ b) % 2 = 1 ↔ ¬ (f % 2 = 1 ↔ b % 2 = 1) := Nat.xor_mod_two_eq_one
      have x3 : (f &&& b) % 2 = b % 2 := by rw [h]
      have le1 : b / 2 ≤ f / 2 := by
        have : f / 2 &&& b / 2 ≤ f / 2 := Nat.and_le_left
        rw [h1] at this; exact this
      have x4 : b % 2 = 1 → f % 2 = 1 := by
        intro z
        rw [z] at x3
        exact (Nat.and_mod_two_eq_one.mp x3).1
      rw [x1.symm] at i1
      omega
theorem hld_bit {a b : Nat} : hld a b = true ↔ ∀ i, b.testBit i = true → a.testBit i = true := by
  rw [hld_iff]
  constructor
  · intro h i hi
    rw [← h, Nat.testBit_and] at hi
    exact (Bool.and_eq_true_iff.mp hi).1
  · intro h
    apply Nat.eq_of_testBit_eq
    intro i
    rw [Nat.testBit_and]
    cases e : b.testBit i with
    | false => simp
    | true => simp [h i e]
theorem sub_bit {f b : Nat} (h : hld f b = true) (i : Nat) : (f - b).testBit i = (f.testBit i && !b.testBit i) := by
  have h' := hld_iff.mp h
  rw [sub_xor f b h', Nat.testBit_xor]
  have := hld_bit.mp h i
  cases e : b.testBit i with
  | false => simp
  | true => simp [this e]
theorem hld_le {f b : Nat} (h : hld f b = true) : b ≤ f := by
  have h' := hld_iff.mp h
  rw [← h']
  exact Nat.and_le_left
theorem hld_zero (f : Nat) : hld f 0 = true := hld_iff.mpr (by simp)
theorem hld_refl (f : Nat) : hld f f = true := hld_iff.mpr (by simp)
theorem hld_trans {a b c : Nat} (h : hld a b = true) (h' : hld b c = true) : hld a c = true := hld_bit.mpr fun i e => hld_bit.mp h i (hld_bit.mp h' i e)
theorem hld_sub {f b : Nat} (h : hld f b = true) : hld f (f - b) = true := hld_bit.mpr fun i e => by
  rw [sub_bit h] at e
  exact (Bool.and_eq_true_iff.mp e).1
/-- two apart things can be taken in either order -/
theorem hld_swap {f a b : Nat} (h : hld f a = true) (h' : hld (f - a) b = true) : hld f b = true ∧ hld (f - b) a = true := by
  have hb : hld f b = true := hld_trans (hld_sub h) h'
  refine ⟨hb, hld_bit.mpr fun i e => ?_⟩
  rw [sub_bit hb]
  have h1 := hld_bit.mp h i e
  cases q : b.testBit i with
  | false => simp [h1]
  | true =>
    have h2 := hld_bit.mp h' i q
    rw [sub_bit h, e] at h2
    simp at h2
theorem hld_and {f g o : Nat} : hld (f &&& g) o = true ↔ hld f o = true ∧ hld g o = true := by
  rw [hld_bit, hld_bit, hld_bit]
  constructor
  · intro h
    constructor
    · intro i e
      have := h i e
      rw [Nat.testBit_and] at this
      exact (Bool.and_eq_true_iff.mp this).1
    · intro i e
      have := h i e
      rw [Nat.testBit_and] at this
      exact (Bool.and_eq_true_iff.mp this).2
  · rintro ⟨h1, h2⟩ i e
    rw [Nat.testBit_and, h1 i e, h2 i e]
    rfl
theorem and_sub {f g o : Nat} (hf : hld f o = true) (hg : hld g o = true) : (f - o) &&& g = (f &&& g) - o := by
  apply Nat.eq_of_testBit_eq
  intro i
  rw [Nat.testBit_and, sub_bit hf, sub_bit (hld_and.mpr ⟨hf, hg⟩), Nat.testBit_and]
  cases f.testBit i <;> cases o.testBit i <;> cases g.testBit i <;> rfl
theorem sub_mono {f g o : Nat} (hfg : hld f g = true) (ho : hld g o = true) : hld (f - o) (g - o) = true := hld_bit.mpr fun i e => by
  rw [sub_bit ho] at e
  rw [sub_bit (hld_trans hfg ho), hld_bit.mp hfg i (Bool.and_eq_true_iff.mp e).1, (Bool.and_eq_true_iff.mp e).2]
  rfl
theorem sub_anti {f a b : Nat} (hb : hld f b = true) (hab : hld b a = true) : hld (f - a) (f - b) = true := hld_bit.mpr fun i e => by
  rw [sub_bit hb] at e
  rw [sub_bit (hld_trans hb hab)]
  have ⟨e1, e2⟩ := Bool.and_eq_true_iff.mp e
  rw [e1]
  cases q : a.testBit i with
  | false => rfl
  | true => rw [hld_bit.mp hab i q] at e2; exact e2

/-! ### the greatest worth -/
def stepB (rec : Nat → Int) (free : Nat) (f : Int) (o : Nat × Int) : Int := if hld free o.1 then max f (o.2 + rec (free - o.1)) else f
def best : List Lst → Nat → Int
  | [], _ => 0
  | l :: ls, free => l.foldl (stepB (best ls) free) (best ls free)
theorem best_nil (free : Nat) : best [] free = 0 := rfl
theorem best_cons (l : Lst) (ls : List Lst) (free : Nat) : best (l :: ls) free = l.foldl (stepB (best ls) free) (best ls free) := rfl
theorem foldB_ge (rec : Nat → Int) (free : Nat) : ∀ (l : Lst) (z : Int), z ≤ l.foldl (stepB rec free) z ∧ ∀ o ∈ l, hld free o.1 = true → o.2 + rec (free - o.1) ≤ l.foldl (stepB rec free) z
  | [], z => ⟨Int.le_refl _, fun _ h => by cases h⟩
  | o :: l, z => by
    have h := foldB_ge rec free l (stepB rec free z o)
    rw [List.foldl_cons]
    have hz : z ≤ stepB rec free z o := by unfold stepB; split <;> omega
    refine ⟨Int.le_trans hz h.1, fun o' ho' hh => ?_⟩
    rcases List.mem_cons.mp ho' with rfl | hm
    · refine Int.le_trans ?_ h.1
      unfold stepB
      rw [if_pos hh]
      omega
    · exact h.2 o' hm hh
theorem foldB_at (rec : Nat → Int) (free : Nat) : ∀ (l : Lst) (z : Int), l.foldl (stepB rec free) z = z ∨ ∃ o ∈ l, hld free o.1 = true ∧ l.foldl (stepB rec free) z = o.2 + rec (free - o.1)
  | [], z => .inl rfl
  | o :: l, z => by
    rw [List.foldl_cons]
    rcases foldB_at rec free l (stepB rec free z o) with h | ⟨o', hm, hh, h⟩
    · rw [h]
      unfold stepB
      by_cases c : hld free o.1 = true
      · rw [if_pos c]
        by_cases d : z ≤ o.2 + rec (free - o.1)
        · exact .inr ⟨o, List.mem_cons_self, c, by omega⟩
        · exact .inl (by omega)
      · rw [if_neg c]
        exact .inl rfl
    · exact .inr ⟨o', List.mem_cons_of_mem _ hm, hh, h⟩
theorem best_skip (l : Lst) (ls : List Lst) (free : Nat) : best ls free ≤ best (l :: ls) free := (foldB_ge _ _ _ _).1
theorem best_take {l : Lst} {ls : List Lst} {free : Nat} {o : Nat × Int} (ho : o ∈ l) (hh : hld free o.1 = true) : o.2 + best ls (free - o.1) ≤ best (l :: ls) free := (foldB_ge _ _ _ _).2 o ho hh
theorem best_at (l : Lst) (ls : List Lst) (free : Nat) : best (l :: ls) free = best ls free ∨ ∃ o ∈ l, hld free o.1 = true ∧ best (l :: ls) free = o.2 + best ls (free - o.1) := foldB_at _ _ _ _
theorem best_empty (ls : List Lst) (free : Nat) : best ([] :: ls) free = best ls free := rfl
/-- more things, no less worth -/
theorem best_mono : ∀ (L : List Lst) {f g : Nat}, hld f g = true → best L g ≤ best L f
  | [], _, _, _ => Int.le_refl _
  | l :: ls, f, g, h => by
    rcases best_at l ls g with e | ⟨o, ho, hh, e⟩
    · rw [e]
      exact Int.le_trans (best_mono ls h) (best_skip _ _ _)
    · rw [e]
      have h1 := best_mono ls (sub_mono h hh)
      have h2 := best_take (ls := ls) ho (hld_trans h hh)
      omega
/-- one bidder's offer, and the others in the rest -/
theorem best_in : ∀ (L : List Lst) (i : Nat) {free : Nat} {o : Nat × Int} (l : Lst), L[i]? = some l → o ∈ l → hld free o.1 = true → o.2 + best (L.set i []) (free - o.1) ≤ best L free
  | [], i, _, _, _, h, _, _ => by simp at h
  | l :: ls, 0, free, o, l', h, ho, hh => by
    simp at h
    subst h
    exact best_take ho hh
  | l :: ls, i + 1, free, o, l', h, ho, hh => by
    have h' : ls[i]? = some l' := by simpa using h
    show o.2 + best (l :: ls.set i []) (free - o.1) ≤ _
    rcases best_at l (ls.set i []) (free - o.1) with e | ⟨q, hq, hh', e⟩
    · rw [e]
      exact Int.le_trans (best_in ls i l' h' ho hh) (best_skip _ _ _)
    · rw [e]
      obtain ⟨h1, h2⟩ := hld_swap hh hh'
      have i1 := best_in ls i l' h' ho h2
      rw [Nat.sub_right_comm] at i1
      have i2 := best_take (ls := ls) hq h1
      omega
theorem best_out : ∀ (L : List Lst) (i : Nat) (free : Nat), best (L.set i []) free ≤ best L free
  | [], i, _ => by simp
  | l :: ls, 0, free => by
    show best ([] :: ls) free ≤ _
    rw [best_empty]
    exact best_skip _ _ _
  | l :: ls, i + 1, free => by
    show best (l :: ls.set i []) free ≤ _
    rcases best_at l (ls.set i []) free with e | ⟨q, hq, hh', e⟩
    · rw [e]
      exact Int.le_trans (best_out ls i free) (best_skip _ _ _)
    · rw [e]
      have i1 := best_out ls i (free - q.1)
      have i2 := best_take (ls := ls) hq hh'
      omega
/-- what is left of a list where only some things are free -/
def cutL (g : Nat) (l : Lst) : Lst := l.filter fun o => hld g o.1
theorem best_within (g : Nat) : ∀ (L : List Lst) (f : Nat), best (L.map (cutL g)) f = best L (f &&& g)
  | [], f => rfl
  | l :: ls, f => by
    show (cutL g l).foldl (stepB (best (ls.map (cutL g))) f) (best (ls.map (cutL g)) f) = l.foldl (stepB (best ls) (f &&& g)) (best ls (f &&& g))
    rw [best_within g ls f]
    unfold cutL
    rw [List.foldl_filter]
    have e : (fun x y => if hld g y.1 = true then stepB (best (ls.map (cutL g))) f x y else x) = stepB (best ls) (f &&& g) := by
      funext x y
      unfold stepB
      by_cases c : hld g y.1 = true
      · rw [if_pos c]
        by_cases d : hld f y.1 = true
        · rw [if_pos d, if_pos (hld_and.mpr ⟨d, c⟩), best_within g ls, and_sub d c]
        · rw [if_neg d, if_neg fun z => d (hld_and.mp z).1]
      · rw [if_neg c, if_neg fun z => c (hld_and.mp z).2]
    exact congrArg (fun F => l.foldl F (best ls (f &&& g))) e
/-! ### the first of the best plans -/
/-- a list of offers as the program makes them -/
structure LOk (l : Lst) : Prop where
  pos : ∀ o ∈ l, 0 < o.1 ∧ 0 < o.2
  nd : (l.map (·.1)).Nodup
def stepC (rec : Nat → Int) (due : Int) (free : Nat) (c o : Nat × Int) : Nat × Int :=
  if hld free o.1 = false ∨ o.2 ≤ c.2 then c else if o.2 + rec (free - o.1) = due then o else c
def chos (l : Lst) (ls : List Lst) (free : Nat) : Nat × Int := l.foldl (stepC (best ls) (best (l :: ls) free) free) (0, 0)
def plan : List Lst → Nat → List Nat
  | [], _ => []
  | l :: ls, free => (chos l ls free).1 :: plan ls (free - (chos l ls free).1)
theorem plan_length : ∀ (L : List Lst) (free : Nat), (plan L free).length = L.length
  | [], _ => rfl
  | l :: ls, free => by
    show (plan ls _).length + 1 = ls.length + 1
    rw [plan_length]
/-- what is chosen: nothing, or an offer that comes to what is due -/
def Good (rec : Nat → Int) (due : Int) (free : Nat) (l : Lst) (c : Nat × Int) : Prop := c = (0, 0) ∨ (c ∈ l ∧ hld free c.1 = true ∧ c.2 + rec (free - c.1) = due)
theorem foldC_good (rec : Nat → Int) (due : Int) (free : Nat) (all : Lst) : ∀ (l : Lst) (c : Nat × Int), (∀ o ∈ l, o ∈ all) → 0 ≤ c.2 → Good rec due free all c →
    Good rec due free all (l.foldl (stepC rec due free) c) ∧ c.2 ≤ (l.foldl (stepC rec due free) c).2 ∧ ∀ o ∈ l, hld free o.1 = true → o.2 + rec (free - o.1) = due → o.2 ≤ (l.foldl (stepC rec due free) c).2
  | [], c, _, _, g => ⟨g, Int.le_refl _, fun _ h => by cases h⟩
  | o :: l, c, hs, h0, g => by
    rw [List.foldl_cons]
    have hs' : ∀ q ∈ l, q ∈ all := fun q hq => hs q (List.mem_cons_of_mem _ hq)
    have key : Good rec due free all (stepC rec due free c o) ∧ c.2 ≤ (stepC rec due free c o).2 ∧ (hld free o.1 = true → o.2 + rec (free - o.1) = due → o.2 ≤ (stepC rec due free c o).2) := by
      unfold stepC
      by_cases c1 : hld free o.1 = false ∨ o.2 ≤ c.2
      · rw [if_pos c1]
        refine ⟨g, Int.le_refl _, fun h _ => ?_⟩
        rcases c1 with c1 | c1
        · rw [c1] at h; cases h
        · exact c1
      · rw [if_neg c1]
        have c2 : hld free o.1 = true := by
          cases q : hld free o.1 with
          | true => rfl
          | false => exact (c1 (.inl q)).elim
        have c3 : c.2 < o.2 := by
          by_cases q : o.2 ≤ c.2
          · exact (c1 (.inr q)).elim
          · omega
        by_cases d : o.2 + rec (free - o.1) = due
        · rw [if_pos d]
          exact ⟨.inr ⟨hs o List.mem_cons_self, c2, d⟩, by omega, fun _ _ => Int.le_refl _⟩
        · rw [if_neg d]
          exact ⟨g, Int.le_refl _, fun _ z => (d z).elim⟩
    obtain ⟨k1, k2, k3⟩ := key
    obtain ⟨r1, r2, r3⟩ := foldC_good rec due free all l (stepC rec due free c o) hs' (by omega) k1
    refine ⟨r1, by omega, fun q hq hh he => ?_⟩
    rcases List.mem_cons.mp hq with rfl | hm
    · have := k3 hh he
      omega
    · exact r3 q hm hh he
theorem chos_good {l : Lst} (ok : LOk l) (ls : List Lst) (free : Nat) :
    (chos l ls free).2 + best ls (free - (chos l ls free).1) = best (l :: ls) free ∧ hld free (chos l ls free).1 = true ∧ (chos l ls free = (0, 0) ∨ chos l ls free ∈ l) := by
  obtain ⟨g, _, t⟩ := foldC_good (best ls) (best (l :: ls) free) free l l (0, 0) (fun _ h => h) (Int.le_refl _) (.inl rfl)
  rcases g with g | ⟨g1, g2, g3⟩
  · have e : chos l ls free = (0, 0) := g
    rw [e]
    refine ⟨?_, hld_zero _, .inl rfl⟩
    show 0 + best ls (free - 0) = _
    rw [Nat.sub_zero, Int.zero_add]
    rcases best_at l ls free with h | ⟨o, ho, hh, h⟩
    · exact h.symm
    · have := t o ho hh h.symm
      rw [show l.foldl (stepC (best ls) (best (l :: ls) free) free) (0, 0) = chos l ls free from rfl, e] at this
      have p := (ok.pos o ho).2
      simp at this
      omega
  · exact ⟨g3, g2, .inr g1⟩
/-- the amount of the offer of a bundle -/
def amt (l : Lst) (b : Nat) : Option Int := if b = 0 then some 0 else (l.find? fun o => o.1 == b).map (·.2)
theorem find_of_nd : ∀ {l : Lst} {o : Nat × Int}, (l.map (·.1)).Nodup → o ∈ l → (l.find? fun q => q.1 == o.1) = some o
  | [], _, _, h => by cases h
  | q :: l, o, nd, h => by
    have nd' : (q.1 :: l.map (·.1)).Nodup := nd
    rw [List.nodup_cons] at nd'
    rcases List.mem_cons.mp h with rfl | hm
    · rw [List.find?_cons]
      simp
    · have hne : ¬ q.1 = o.1 := fun e => nd'.1 (e ▸ List.mem_map_of_mem hm)
      rw [List.find?_cons]
      have : (q.1 == o.1) = false := beq_false_of_ne hne
      rw [this]
      exact find_of_nd nd'.2 hm
theorem amt_of {l : Lst} (ok : LOk l) {c : Nat × Int} (h : c = (0, 0) ∨ c ∈ l) : amt l c.1 = some c.2 := by
  rcases h with rfl | h
  · rfl
  · unfold amt
    have := (ok.pos c h).1
    rw [if_neg (by omega), find_of_nd ok.nd h]
    rfl
/-- what the plan gives to one bidder, and what the others have then -/
theorem plan_at : ∀ (L : List Lst) (i : Nat) (free : Nat) (l : Lst), (∀ q ∈ L, LOk q) → L[i]? = some l →
    ∃ c : Nat × Int, (plan L free)[i]? = some c.1 ∧ amt l c.1 = some c.2 ∧ (c = (0, 0) ∨ c ∈ l) ∧ hld free c.1 = true ∧ best L free = c.2 + best (L.set i []) (free - c.1)
  | [], i, _, _, _, h => by simp at h
  | l :: ls, 0, free, l', ok, h => by
    simp at h
    subst h
    have okl := ok l List.mem_cons_self
    obtain ⟨h1, h2, h3⟩ := chos_good okl ls free
    exact ⟨chos l ls free, rfl, amt_of okl h3, h3, h2, h1.symm⟩
  | l :: ls, i + 1, free, l', ok, h => by
    have h' : ls[i]? = some l' := by simpa using h
    have okl := ok l List.mem_cons_self
    obtain ⟨h1, h2, h3⟩ := chos_good okl ls free
    obtain ⟨c, p1, p2, p3, p4, p5⟩ := plan_at ls i (free - (chos l ls free).1) l' (fun q hq => ok q (List.mem_cons_of_mem _ hq)) h'
    obtain ⟨s1, s2⟩ := hld_swap h2 p4
    refine ⟨c, p1, p2, p3, s1, ?_⟩
    show _ = c.2 + best (l :: ls.set i []) (free - c.1)
    have e1 : best (l :: ls) free ≤ c.2 + best (l :: ls.set i []) (free - c.1) := by
      rw [Nat.sub_right_comm] at p5
      have : (chos l ls free).2 + best (ls.set i []) (free - c.1 - (chos l ls free).1) ≤ best (l :: ls.set i []) (free - c.1) := by
        rcases h3 with h3 | h3
        · rw [h3]
          show 0 + best (ls.set i []) (free - c.1 - 0) ≤ _
          rw [Nat.sub_zero, Int.zero_add]
          exact best_skip _ _ _
        · exact best_take h3 s2
      omega
    have e2 : c.2 + best ((l :: ls).set (i + 1) []) (free - c.1) ≤ best (l :: ls) free := by
      rcases p3 with p3 | p3
      · rw [p3]
        show 0 + best _ (free - 0) ≤ _
        rw [Nat.sub_zero, Int.zero_add]
        exact best_out _ _ _
      · exact best_in (l :: ls) (i + 1) l' h p3 s1
    have e2' : c.2 + best (l :: ls.set i []) (free - c.1) ≤ best (l :: ls) free := e2
    omega
/-- the sum of the amounts of a plan -/
def worthOf : List Lst → List Nat → Option Int
  | l :: ls, b :: bs => (amt l b).bind fun a => (worthOf ls bs).map fun z => a + z
  | _, _ => some 0
theorem worth_plan : ∀ (L : List Lst) (free : Nat), (∀ q ∈ L, LOk q) → worthOf L (plan L free) = some (best L free)
  | [], _, _ => rfl
  | l :: ls, free, ok => by
    have okl := ok l List.mem_cons_self
    obtain ⟨h1, h2, h3⟩ := chos_good okl ls free
    show (amt l (chos l ls free).1).bind _ = _
    rw [amt_of okl h3, worth_plan ls _ fun q hq => ok q (List.mem_cons_of_mem _ hq)]
    show some ((chos l ls free).2 + best ls _) = _
    rw [h1]
/-! ### worths and offers -/
def things (b : Nat) : List Nat := (List.range 6).filter fun n => b.testBit n
def wAt (w : List Int) (b : Nat) : Int := w.getD b 0
def isLeast (w : List Int) (b : Nat) : Bool := (things b).all fun n => decide (wAt w (b - 2 ^ n) < wAt w b)
def offOf (w : List Int) : Lst := ((List.range' 1 (w.length - 1)).filter (isLeast w)).map fun b => (b, wAt w b)
def cutW (w : List Int) : Option Int → List Int
  | none => w
  | some p => w.map fun x => min x p
structure WOk (m : Nat) (w : List Int) : Prop where
  len : w.length = 2 ^ m
  zero : wAt w 0 = 0
  nn : ∀ b, 0 ≤ wAt w b
theorem mem_things {b n : Nat} : n ∈ things b ↔ n < 6 ∧ b.testBit n = true := by
  unfold things
  rw [List.mem_filter, List.mem_range]
theorem full_bit (m i : Nat) : (2 ^ m - 1).testBit i = decide (i < m) := Nat.testBit_two_pow_sub_one m i
theorem hld_full {m b : Nat} (h : b < 2 ^ m) : hld (2 ^ m - 1) b = true := hld_bit.mpr fun i e => by
  rw [full_bit]
  refine decide_eq_true ?_
  by_cases q : i < m
  · exact q
  · have : b.testBit i = false := Nat.testBit_lt_two_pow (Nat.lt_of_lt_of_le h (Nat.pow_le_pow_right (by decide) (by omega)))
    rw [this] at e
    cases e
theorem lt_of_hld {m b : Nat} (h : hld (2 ^ m - 1) b = true) : b < 2 ^ m := by
  have h1 := hld_le h
  have : 0 < 2 ^ m := Nat.pow_pos (by decide)
  omega
theorem hld_thing {b n : Nat} (h : b.testBit n = true) : hld b (2 ^ n) = true := hld_bit.mpr fun i e => by
  rw [Nat.testBit_two_pow] at e
  have := of_decide_eq_true e
  rw [← this]
  exact h
theorem things_some {m b : Nat} (h0 : 0 < b) (h : b < 2 ^ m) (hm : m ≤ 6) : ∃ n, n ∈ things b := by
  obtain ⟨i, hi⟩ := Nat.exists_testBit_of_ne_zero (show b ≠ 0 by omega)
  refine ⟨i, mem_things.mpr ⟨?_, hi⟩⟩
  have := hld_bit.mp (hld_full h) i hi
  rw [full_bit] at this
  have := of_decide_eq_true this
  omega
theorem least_iff {w : List Int} {b : Nat} : isLeast w b = true ↔ ∀ n ∈ things b, wAt w (b - 2 ^ n) < wAt w b := by
  unfold isLeast
  rw [List.all_eq_true]
  exact ⟨fun h n hn => of_decide_eq_true (h n hn), fun h n hn => decide_eq_true (h n hn)⟩
theorem mem_off {w : List Int} {o : Nat × Int} : o ∈ offOf w ↔ 1 ≤ o.1 ∧ o.1 < w.length ∧ isLeast w o.1 = true ∧ o.2 = wAt w o.1 := by
  unfold offOf
  rw [List.mem_map]
  constructor
  · rintro ⟨b, hb, rfl⟩
    rw [List.mem_filter, List.mem_range'_1] at hb
    exact ⟨hb.1.1, by show b < _; omega, hb.2, rfl⟩
  · rintro ⟨h1, h2, h3, h4⟩
    refine ⟨o.1, ?_, ?_⟩
    · rw [List.mem_filter, List.mem_range'_1]
      exact ⟨⟨h1, by omega⟩, h3⟩
    · rw [← h4]
theorem off_ok {m : Nat} {w : List Int} (ok : WOk m w) (hm : m ≤ 6) : LOk (offOf w) := by
  refine ⟨fun o ho => ?_, ?_⟩
  · obtain ⟨h1, h2, h3, h4⟩ := mem_off.mp ho
    rw [ok.len] at h2
    obtain ⟨n, hn⟩ := things_some h1 h2 hm
    have := least_iff.mp h3 n hn
    have := ok.nn (o.1 - 2 ^ n)
    omega
  · unfold offOf
    rw [List.map_map]
    have e : ((fun x : Nat × Int => x.1) ∘ fun b => (b, wAt w b)) = id := rfl
    rw [e, List.map_id]
    exact List.Pairwise.filter _ List.nodup_range'
theorem cut_ok {m : Nat} {w : List Int} (ok : WOk m w) {p : Option Int} (hp : ∀ q, p = some q → 0 ≤ q) : WOk m (cutW w p) := by
  cases p with
  | none => exact ok
  | some q =>
    have hq := hp q rfl
    have e : ∀ b, wAt (w.map fun x => min x q) b = if b < w.length then min (wAt w b) q else 0 := by
      intro b
      unfold wAt
      rw [List.getD_eq_getElem?_getD, List.getElem?_map, List.getD_eq_getElem?_getD]
      by_cases c : b < w.length
      · rw [if_pos c, List.getElem?_eq_getElem c]
        rfl
      · rw [if_neg c, List.getElem?_eq_none (by omega)]
        rfl
    refine ⟨?_, ?_, fun b => ?_⟩
    · show (w.map _).length = _
      rw [List.length_map, ok.len]
    · show wAt (w.map _) 0 = 0
      rw [e, ok.zero]
      split <;> omega
    · show 0 ≤ wAt (w.map _) b
      rw [e]
      have := ok.nn b
      split <;> omega
theorem cut_le {w : List Int} {q : Int} (hq : 0 ≤ q) (b : Nat) : wAt (cutW w (some q)) b ≤ q := by
  show wAt (w.map fun x => min x q) b ≤ q
  unfold wAt
  rw [List.getD_eq_getElem?_getD, List.getElem?_map]
  cases w[b]? with
  | none => exact hq
  | some x => show min x q ≤ q; omega
theorem wAt_cut {w : List Int} {q : Int} {b : Nat} (h : b < w.length) : wAt (cutW w (some q)) b = min (wAt w b) q := by
  show wAt (w.map fun x => min x q) b = _
  unfold wAt
  rw [List.getD_eq_getElem?_getD, List.getElem?_map, List.getD_eq_getElem?_getD, List.getElem?_eq_getElem h]
  rfl
/-- below each bundle stands a least one that is worth no less -/
theorem least_below {m : Nat} {w : List Int} (ok : WOk m w) : ∀ s : Nat, s < 2 ^ m → ∃ c, hld s c = true ∧ wAt w s ≤ wAt w c ∧ (c = 0 ∨ (c, wAt w c) ∈ offOf w) := by
  intro s
  induction s using Nat.strongRecOn with
  | ind s ih =>
    intro hs
    by_cases s0 : s = 0
    · subst s0
      exact ⟨0, hld_zero _, Int.le_refl _, .inl rfl⟩
    · cases c : isLeast w s with
      | true => exact ⟨s, hld_refl _, Int.le_refl _, .inr (mem_off.mpr ⟨by show 1 ≤ s; omega, by rw [ok.len]; exact hs, c, rfl⟩)⟩
      | false =>
        have : ∃ n ∈ things s, ¬ wAt w (s - 2 ^ n) < wAt w s := by
          apply Classical.byContradiction
          intro h
          have : isLeast w s = true := least_iff.mpr fun n hn => Classical.byContradiction fun z => h ⟨n, hn, z⟩
          rw [this] at c
          cases c
        obtain ⟨n, hn, hlt⟩ := this
        have hb := hld_thing (mem_things.mp hn).2
        have p : 0 < 2 ^ n := Nat.pow_pos (by decide)
        obtain ⟨d, d1, d2, d3⟩ := ih (s - 2 ^ n) (by omega) (by omega)
        exact ⟨d, hld_trans (hld_sub hb) d1, by omega, d3⟩
/-! ### tickets and the sure gain -/
def ticket (O : List Lst) (full b : Nat) : Int := best O full - best O (full - b)
def reach (p : Option Int) (t : Int) : Bool := match p with
  | none => true
  | some q => decide (t < q)
def stepS (W tk : Nat → Int) (p : Option Int) (c : Int × Nat) (b : Nat) : Int × Nat :=
  if reach p (tk b) = false then c else if W b - tk b > c.1 then (W b - tk b, b) else c
def sure (W tk : Nat → Int) (p : Option Int) (N : Nat) : Int × Nat := (List.range' 1 (N - 1)).foldl (stepS W tk p) (0, 0)
structure SureOk (W tk : Nat → Int) (p : Option Int) (l : List Nat) (c : Int × Nat) : Prop where
  nn : 0 ≤ c.1
  eq0 : c.1 = 0 ↔ c.2 = 0
  at_ : c.2 ≠ 0 → c.2 ∈ l ∧ reach p (tk c.2) = true ∧ c.1 = W c.2 - tk c.2
  top : ∀ b ∈ l, reach p (tk b) = true → W b - tk b ≤ c.1
theorem foldS_ok (W tk : Nat → Int) (p : Option Int) : ∀ (l done : List Nat) (c : Int × Nat), (∀ b ∈ l, 0 < b) → SureOk W tk p done c → SureOk W tk p (done ++ l) (l.foldl (stepS W tk p) c)
  | [], done, c, _, h => by rw [List.append_nil]; exact h
  | b :: l, done, c, hp, h => by
    rw [List.foldl_cons]
    have e : done ++ b :: l = (done ++ [b]) ++ l := by simp
    rw [e]
    refine foldS_ok W tk p l (done ++ [b]) _ (fun x hx => hp x (List.mem_cons_of_mem _ hx)) ?_
    have b0 := hp b List.mem_cons_self
    unfold stepS
    by_cases c1 : reach p (tk b) = false
    · rw [if_pos c1]
      refine ⟨h.nn, h.eq0, fun z => ?_, fun x hx hr => ?_⟩
      · obtain ⟨z1, z2⟩ := h.at_ z
        exact ⟨List.mem_append_left _ z1, z2⟩
      · rcases List.mem_append.mp hx with hx | hx
        · exact h.top x hx hr
        · rw [List.mem_singleton] at hx
          subst hx
          rw [c1] at hr
          cases hr
    · rw [if_neg c1]
      have c1' : reach p (tk b) = true := by
        cases q : reach p (tk b) with
        | true => rfl
        | false => exact (c1 q).elim
      by_cases c2 : W b - tk b > c.1
      · rw [if_pos c2]
        have := h.nn
        refine ⟨by show 0 ≤ W b - tk b; omega, ?_, fun _ => ⟨List.mem_append_right _ (List.mem_singleton.mpr rfl), c1', rfl⟩, fun x hx hr => ?_⟩
        · show W b - tk b = 0 ↔ b = 0
          constructor <;> intro z <;> omega
        · show W x - tk x ≤ W b - tk b
          rcases List.mem_append.mp hx with hx | hx
          · have := h.top x hx hr
            omega
          · rw [List.mem_singleton] at hx
            subst hx
            exact Int.le_refl _
      · rw [if_neg c2]
        refine ⟨h.nn, h.eq0, fun z => ?_, fun x hx hr => ?_⟩
        · obtain ⟨z1, z2⟩ := h.at_ z
          exact ⟨List.mem_append_left _ z1, z2⟩
        · rcases List.mem_append.mp hx with hx | hx
          · exact h.top x hx hr
          · rw [List.mem_singleton] at hx
            subst hx
            omega
theorem sure_ok (W tk : Nat → Int) (p : Option Int) (N : Nat) : SureOk W tk p (List.range' 1 (N - 1)) (sure W tk p N) := by
  have := foldS_ok W tk p (List.range' 1 (N - 1)) [] (0, 0) (fun b hb => by rw [List.mem_range'_1] at hb; omega) ⟨Int.le_refl _, ⟨fun _ => rfl, fun _ => rfl⟩, fun z => (z rfl).elim, fun _ h => by cases h⟩
  rw [List.nil_append] at this
  exact this
/-! ### the law -/
/-- what a bidder tells: worths, a purse -/
abbrev Told := List (List Int × Option Int)
def offs (T : Told) : List Lst := T.map fun t => offOf (cutW t.1 t.2)
structure TOk (m : Nat) (T : Told) : Prop where
  w : ∀ t ∈ T, WOk m t.1
  p : ∀ t ∈ T, ∀ q, t.2 = some q → 0 ≤ q
theorem offs_ok {m : Nat} {T : Told} (ok : TOk m T) (hm : m ≤ 6) : ∀ l ∈ offs T, LOk l := fun l hl => by
  obtain ⟨t, ht, rfl⟩ := List.mem_map.mp hl
  exact off_ok (cut_ok (ok.w t ht) (ok.p t ht)) hm
theorem offs_set (T : Told) (i : Nat) (t : List Int × Option Int) : offs (T.set i t) = (offs T).set i (offOf (cutW t.1 t.2)) := by
  unfold offs
  rw [List.map_set]
theorem offs_without (T : Told) (i : Nat) (t : List Int × Option Int) : (offs (T.set i t)).set i [] = (offs T).set i [] := by
  rw [offs_set, List.set_set]
theorem TOk.set {m : Nat} {T : Told} (ok : TOk m T) {i : Nat} {w : List Int} {p : Option Int} (hw : WOk m w) (hp : ∀ q, p = some q → 0 ≤ q) : TOk m (T.set i (w, p)) := by
  refine ⟨fun t ht => ?_, fun t ht => ?_⟩
  · rcases List.mem_or_eq_of_mem_set ht with h | rfl
    · exact ok.w t h
    · exact hw
  · rcases List.mem_or_eq_of_mem_set ht with h | rfl
    · exact ok.p t h
    · exact hp
theorem ticket_nn (O : List Lst) {full b : Nat} (h : hld full b = true) : 0 ≤ ticket O full b := by
  have := best_mono O (hld_sub h)
  unfold ticket
  omega
/-- one receipt: the bundle, the amount, what lacks, what is beside, the pay -/
structure RecAt (L : List Lst) (full i : Nat) (l : Lst) (c : Nat × Int) : Prop where
  pl : (plan L full)[i]? = some c.1
  am : amt l c.1 = some c.2
  of : c = (0, 0) ∨ c ∈ l
  hl : hld full c.1 = true
  be : best L full = c.2 + best (L.set i []) (full - c.1)
theorem RecAt.pay {L : List Lst} {full i : Nat} {l : Lst} {c : Nat × Int} (r : RecAt L full i l c) : best (L.set i []) full - (best L full - c.2) = ticket (L.set i []) full c.1 := by
  have := r.be
  unfold ticket
  omega
theorem rec_at {L : List Lst} {full i : Nat} {l : Lst} (ok : ∀ q ∈ L, LOk q) (h : L[i]? = some l) : ∃ c, RecAt L full i l c := by
  obtain ⟨c, h1, h2, h3, h4, h5⟩ := plan_at L i full l ok h
  exact ⟨c, h1, h2, h3, h4, h5⟩
section
variable {m : Nat} {T : Told} {i : Nat} {W : List Int} {p : Option Int}
/-- by no bid at all more than the sure gain, unless the whole purse is paid -/
theorem no_more (hm : m ≤ 6) (ok : TOk m T) (hi : T[i]? = some (W, p)) {w : List Int} (hw : WOk m w) {c : Nat × Int}
    (r : RecAt (offs (T.set i (w, p))) (2 ^ m - 1) i (offOf (cutW w p)) c) :
    wAt W c.1 - ticket ((offs T).set i []) (2 ^ m - 1) c.1 ≤ (sure (wAt W) (ticket ((offs T).set i []) (2 ^ m - 1)) p (2 ^ m)).1 ∨
      ∃ q, p = some q ∧ ticket ((offs T).set i []) (2 ^ m - 1) c.1 = q := by
  have hmem : (W, p) ∈ T := List.mem_of_getElem? hi
  have hW : WOk m W := ok.w _ hmem
  have hp : ∀ q, p = some q → 0 ≤ q := ok.p _ hmem
  have S := sure_ok (wAt W) (ticket ((offs T).set i []) (2 ^ m - 1)) p (2 ^ m)
  have ec : c.1 < 2 ^ m := lt_of_hld r.hl
  by_cases c0 : c.1 = 0
  · left
    rw [c0, hW.zero]
    have := ticket_nn ((offs T).set i []) (hld_zero (2 ^ m - 1))
    have := S.nn
    omega
  · cases hr : reach p (ticket ((offs T).set i []) (2 ^ m - 1) c.1) with
    | true => exact .inl (S.top c.1 (by rw [List.mem_range'_1]; omega) hr)
    | false =>
      right
      cases p with
      | none => cases hr
      | some q =>
        have hq := hp q rfl
        have h1 : ¬ ticket ((offs T).set i []) (2 ^ m - 1) c.1 < q := of_decide_eq_false hr
        refine ⟨q, rfl, ?_⟩
        have hc : c ∈ offOf (cutW w (some q)) := by
          rcases r.of with z | z
          · rw [z] at c0
            exact (c0 rfl).elim
          · exact z
        obtain ⟨_, _, _, e⟩ := mem_off.mp hc
        have h2 : c.2 ≤ q := by
          rw [e]
          exact cut_le hq _
        have h3 := r.be
        rw [offs_without] at h3
        have h4 := best_out (offs (T.set i (w, some q))) i (2 ^ m - 1)
        rw [offs_without] at h4
        have h5 : ticket ((offs T).set i []) (2 ^ m - 1) c.1 ≤ c.2 := by
          unfold ticket
          omega
        omega
/-- without a purse the own bid gains just so much -/
theorem own_gains (hm : m ≤ 6) (ok : TOk m T) (hi : T[i]? = some (W, none)) {c : Nat × Int} (r : RecAt (offs T) (2 ^ m - 1) i (offOf W) c) :
    wAt W c.1 - ticket ((offs T).set i []) (2 ^ m - 1) c.1 = (sure (wAt W) (ticket ((offs T).set i []) (2 ^ m - 1)) none (2 ^ m)).1 := by
  have hmem : (W, none) ∈ T := List.mem_of_getElem? hi
  have hW : WOk m W := ok.w _ hmem
  have S := sure_ok (wAt W) (ticket ((offs T).set i []) (2 ^ m - 1)) none (2 ^ m)
  have eT : T.set i (W, none) = T := by
    apply List.ext_getElem?
    intro j
    rw [List.getElem?_set]
    by_cases e : i = j
    · subst e
      rw [if_pos rfl]
      have : i < T.length := by
        rcases Nat.lt_or_ge i T.length with h | h
        · exact h
        · rw [List.getElem?_eq_none h] at hi
          cases hi
      rw [if_pos this, hi]
    · rw [if_neg e]
  have le1 : wAt W c.1 - ticket ((offs T).set i []) (2 ^ m - 1) c.1 ≤ (sure (wAt W) (ticket ((offs T).set i []) (2 ^ m - 1)) none (2 ^ m)).1 := by
    rcases no_more (w := W) (c := c) hm ok hi hW (by rw [eT]; exact r) with h | ⟨q, h, _⟩
    · exact h
    · cases h
  have hc : c.2 = wAt W c.1 := by
    rcases r.of with z | z
    · rw [z]
      exact hW.zero.symm
    · exact (mem_off.mp z).2.2.2
  have hbe := r.be
  have hout := best_out (offs T) i (2 ^ m - 1)
  have hl : (offs T)[i]? = some (offOf W) := by
    unfold offs
    rw [List.getElem?_map, hi]
    rfl
  have nn : 0 ≤ wAt W c.1 - ticket ((offs T).set i []) (2 ^ m - 1) c.1 := by
    unfold ticket
    omega
  by_cases s0 : (sure (wAt W) (ticket ((offs T).set i []) (2 ^ m - 1)) none (2 ^ m)).2 = 0
  · have := S.eq0.mpr s0
    omega
  · obtain ⟨s1, _, s3⟩ := S.at_ s0
    generalize (sure (wAt W) (ticket ((offs T).set i []) (2 ^ m - 1)) none (2 ^ m)).2 = s at *
    rw [List.mem_range'_1] at s1
    have hs : s < 2 ^ m := by
      have : 0 < 2 ^ m := Nat.pow_pos (by decide)
      omega
    obtain ⟨d, d1, d2, d3⟩ := least_below hW s hs
    have fs := hld_full hs
    have anti := best_mono ((offs T).set i []) (sub_anti fs d1)
    have ub : wAt W d + best ((offs T).set i []) (2 ^ m - 1 - d) ≤ best (offs T) (2 ^ m - 1) := by
      rcases d3 with rfl | d3
      · rw [hW.zero, Nat.sub_zero]
        omega
      · exact best_in (offs T) i (offOf W) hl d3 (hld_trans fs d1)
    have : (sure (wAt W) (ticket ((offs T).set i []) (2 ^ m - 1)) none (2 ^ m)).1 ≤ wAt W c.1 - ticket ((offs T).set i []) (2 ^ m - 1) c.1 := by
      rw [s3]
      unfold ticket
      omega
    omega
/-- so much for one bundle alone -/
def onlyW (m b : Nat) (a : Int) : List Int := (List.range (2 ^ m)).map fun x => if hld x b then a else 0
theorem wAt_only {m b : Nat} {a : Int} {x : Nat} : wAt (onlyW m b a) x = if x < 2 ^ m ∧ hld x b = true then a else 0 := by
  unfold wAt onlyW
  rw [List.getD_eq_getElem?_getD, List.getElem?_map]
  by_cases h : x < 2 ^ m
  · rw [List.getElem?_range h]
    by_cases q : hld x b = true
    · rw [if_pos ⟨h, q⟩]
      simp [q]
    · rw [if_neg fun z => q z.2]
      simp [q]
  · rw [List.getElem?_eq_none (by rw [List.length_range]; omega), if_neg fun z => h z.1]
    rfl
theorem only_ok {m b : Nat} {a : Int} (hb : 0 < b) (ha : 0 ≤ a) : WOk m (onlyW m b a) := by
  refine ⟨by unfold onlyW; rw [List.length_map, List.length_range], ?_, fun x => ?_⟩
  · rw [wAt_only, if_neg]
    rintro ⟨_, h⟩
    have := hld_le h
    omega
  · rw [wAt_only]
    split <;> omega
/-- with a purse: so much for the sure gain's bundle alone gains just so much -/
theorem all_in (hm : m ≤ 6) (ok : TOk m T) {q : Int} (hi : T[i]? = some (W, some q)) {big : Int} (hq : q ≤ big)
    (s0 : (sure (wAt W) (ticket ((offs T).set i []) (2 ^ m - 1)) (some q) (2 ^ m)).2 ≠ 0) {w : List Int}
    (hw : w = onlyW m (sure (wAt W) (ticket ((offs T).set i []) (2 ^ m - 1)) (some q) (2 ^ m)).2 big) {c : Nat × Int}
    (r : RecAt (offs (T.set i (w, some q))) (2 ^ m - 1) i (offOf (cutW w (some q))) c) :
    wAt W c.1 - ticket ((offs T).set i []) (2 ^ m - 1) c.1 = (sure (wAt W) (ticket ((offs T).set i []) (2 ^ m - 1)) (some q) (2 ^ m)).1 := by
  have S := sure_ok (wAt W) (ticket ((offs T).set i []) (2 ^ m - 1)) (some q) (2 ^ m)
  obtain ⟨s1, s2, s3⟩ := S.at_ s0
  rw [s3]
  generalize (sure (wAt W) (ticket ((offs T).set i []) (2 ^ m - 1)) (some q) (2 ^ m)).2 = s at *
  have hr : ticket ((offs T).set i []) (2 ^ m - 1) s < q := of_decide_eq_true s2
  rw [List.mem_range'_1] at s1
  have hs : s < 2 ^ m := by
    have : 0 < 2 ^ m := Nat.pow_pos (by decide)
    omega
  have fs := hld_full hs
  have tn := ticket_nn ((offs T).set i []) fs
  have wl : w.length = 2 ^ m := by
    rw [hw]
    exact (only_ok (b := s) (a := big) (by omega) (by omega)).len
  have cw : ∀ x, x < 2 ^ m → wAt (cutW w (some q)) x = if hld x s = true then q else 0 := by
    intro x hx
    rw [wAt_cut (by omega), hw, wAt_only]
    by_cases z : hld x s = true
    · rw [if_pos ⟨hx, z⟩, if_pos z]
      omega
    · rw [if_neg fun y => z y.2, if_neg z]
      omega
  have cl : (cutW w (some q)).length = 2 ^ m := by
    show (w.map _).length = _
    rw [List.length_map, wl]
  have o1 : (s, q) ∈ offOf (cutW w (some q)) := by
    refine mem_off.mpr ⟨by show 1 ≤ s; omega, by show s < _; rw [cl]; exact hs, ?_, ?_⟩
    · refine least_iff.mpr fun n hn => ?_
      have hb := hld_thing (mem_things.mp hn).2
      have pn : 0 < 2 ^ n := Nat.pow_pos (by decide)
      show wAt (cutW w (some q)) (s - 2 ^ n) < wAt (cutW w (some q)) s
      have hle := hld_le hb
      rw [cw _ (by omega), cw _ hs, if_pos (hld_refl s), if_neg]
      · omega
      · intro z
        have := hld_le z
        omega
    · show q = _
      rw [cw _ hs, if_pos (hld_refl s)]
  have o2 : ∀ o ∈ offOf (cutW w (some q)), o = (s, q) := by
    intro o ho
    obtain ⟨h1, h2, h3, h4⟩ := mem_off.mp ho
    rw [cl] at h2
    rw [cw _ h2] at h4
    have h5 := least_iff.mp h3
    by_cases z : hld o.1 s = true
    · rw [if_pos z] at h4
      by_cases e : o.1 = s
      · exact Prod.ext e h4
      · -- a thing beside
        have hlt : s < o.1 := by
          have := hld_le z
          omega
        obtain ⟨n, hn⟩ := Nat.exists_testBit_of_ne_zero (show o.1 - s ≠ 0 by omega)
        rw [sub_bit z] at hn
        obtain ⟨n1, n2⟩ := Bool.and_eq_true_iff.mp hn
        have n6 : n < 6 := by
          have := hld_bit.mp (hld_full h2) n n1
          rw [full_bit] at this
          have := of_decide_eq_true this
          omega
        have := h5 n (mem_things.mpr ⟨n6, n1⟩)
        have hb := hld_thing n1
        rw [cw _ h2, if_pos z, cw _ (Nat.lt_of_le_of_lt (Nat.sub_le _ _) h2), if_pos] at this
        · omega
        · refine hld_bit.mpr fun j e => ?_
          rw [sub_bit hb, hld_bit.mp z j e, Nat.testBit_two_pow]
          by_cases nj : n = j
          · subst nj
            rw [e] at n2
            cases n2
          · simp [nj]
    · rw [if_neg z] at h4
      obtain ⟨n, hn⟩ := things_some h1 h2 hm
      have := h5 n hn
      have hb := hld_thing (mem_things.mp hn).2
      rw [cw _ h2, if_neg z, cw _ (Nat.lt_of_le_of_lt (Nat.sub_le _ _) h2)] at this
      split at this <;> omega
  have hlen : i < T.length := by
    rcases Nat.lt_or_ge i T.length with h | h
    · exact h
    · rw [List.getElem?_eq_none h] at hi
      cases hi
  have hl : (offs (T.set i (w, some q)))[i]? = some (offOf (cutW w (some q))) := by
    unfold offs
    rw [List.getElem?_map, List.getElem?_set, if_pos rfl, if_pos hlen]
    rfl
  have b1 := best_in (offs (T.set i (w, some q))) i (offOf (cutW w (some q))) hl o1 fs
  have b2 := r.be
  rw [offs_without] at b1 b2
  have b1' : q + best ((offs T).set i []) (2 ^ m - 1 - s) ≤ best (offs (T.set i (w, some q))) (2 ^ m - 1) := b1
  have ec : c = (s, q) := by
    rcases r.of with z | z
    · exfalso
      rw [z] at b2
      have b2' : best (offs (T.set i (w, some q))) (2 ^ m - 1) = 0 + best ((offs T).set i []) (2 ^ m - 1 - 0) := b2
      rw [Nat.sub_zero] at b2'
      unfold ticket at hr
      omega
    · exact o2 c z
  rw [ec]
end
end Gv
namespace Gv
open PySem PySem.Spec PyProof.Rows L2
/-! ### heaps, lists -/
theorem Same.upd {H H' : Hp} (s : Same H H') {D : Addr} {o : HO} (hD : H D = none) : Same H (L2.upd H' D o) := fun b u e => by
  rw [upd_ne (ne_of_none e hD)]
  exact s b u e
theorem Same.new {H : Hp} {D : Addr} {o : HO} (hD : H D = none) : Same H (L2.upd H D o) := Same.upd (Same.refl H) hD
/-- a new object comes out, what was tracked stands -/
def New (H : Hp) (o : HO) (Q : VK) : Prop := ∀ (p : Addr) (H' : Hp), H p = none → Same H H' → H' p = some o → Q (.ref p) H'
theorem take_more {α : Type} {l : List α} {i : Nat} {x : α} (h : l[i]? = some x) : l.take (i + 1) = l.take i ++ [x] := by
  rw [List.take_succ, h]
  rfl
theorem range_more (i : Nat) : List.range (i + 1) = List.range i ++ [i] := List.range_succ
theorem range'_more (i : Nat) : List.range' 1 (i + 1) = List.range' 1 i ++ [1 + i] := by
  rw [List.range'_concat]
  simp
theorem andN (a b : Nat) : Builtin.bitAnd (a : Int) (b : Int) = ((a &&& b : Nat) : Int) := by
  rw [bitAnd_pp (by omega) (by omega), Int.toNat_natCast, Int.toNat_natCast]
theorem shrN (a n : Nat) : (a : Int) / 2 ^ ((n : Int).toNat) = ((a / 2 ^ n : Nat) : Int) := by
  rw [Int.toNat_natCast, Int.natCast_ediv, Int.natCast_pow]
  rfl
theorem bitN (b n : Nat) : decide (V.int (Builtin.bitAnd ((b : Int) / 2 ^ ((n : Int).toNat)) 1) = V.int 1) = b.testBit n := by
  rw [dec_int, shrN, show (1 : Int) = ((1 : Nat) : Int) from rfl, andN, Nat.and_one_is_mod, Nat.testBit_eq_decide_div_mod_eq]
  by_cases c : b / 2 ^ n % 2 = 1
  · rw [c]; rfl
  · rw [decide_eq_false c]
    exact beq_false_of_ne fun z => c (by exact_mod_cast z)
def nI (n : Nat) : V := .int (n : Int)
section
variable {P : Program} {w : World} {K : PySem.W.Frag} {mg : Str → Option Value} {base : Heap}
abbrev CalT (P : Program) (w : World) (K : PySem.W.Frag) (mg : Str → Option Value) (base : Heap) (k : Nat) (x : Str) (sp : Sp) : Prop := Cal P w K mg base k x sp []
theorem cal_of {x qual : Str} {a : Arguments} {b : List Stmt} {sc : Scope} {f : Addr} {fd : FuncData} {ps : List Str} {k : Nat} {sp : Sp} (F : FunD K x qual a b sc [] [] f fd) (g : mg x = some (.ref f))
    (ok : FnOk P w K mg base CX0 k f fd ps sp) (h : ∀ (kV doc pm : Value) (an : Option Addr) (cdv ct : Value) (us : List Value), us.length = ps.length → bindArgs (PySem.W.fnOf x qual a b sc .none kV doc pm an cdv ct) ⟨us, []⟩ = pure (ps.zip us)) : CalT P w K mg base k x sp :=
  ⟨f, fd, ps, [], ok, g, F.kp, F.bindsN h, .nil⟩
theorem okD {x qual : Str} {a : Arguments} {b : List Stmt} {sc : Scope} {dvs : List V} {f : Addr} {fd : FuncData} {N ps : List Str} {k : Nat} {sp : Sp} (F : FunD K x qual a b sc dvs [] f fd) (S : FnScope N ps sc) (len : ∀ vs H Q E, sp vs H Q E → vs.length = ps.length)
    (hbody : ∀ (cdv : Value) (A : Around) (outer : List Env) (s : Shared) (H : Hp) (vs : List V) (Q : VK) (E : XK), Room k (A.deeper (envOfC qual sc s.heap.objs.size f cdv)) → sp vs H Q E →
      ∃ t, PSs (cxOf CX0 P w K mg base N qual sc f cdv A outer s H E).nox b t ∧ t { nx := fun _ H' => Q .non H', rt := Q } (start N vs) H) : FnOk P w K mg base CX0 (k + 1) f fd ps sp :=
  FunD.ok F S len fun cdv A outer s H vs Q E hr h => let ⟨t, h1, h2⟩ := hbody cdv A outer s H vs Q E hr h; ⟨t, PSs.nox h1, h2⟩
/-! ### is_whole -/
def spWhole : Sp := fun vs H Q _ => ∃ i : Int, vs = [.int i] ∧ Q (.bl true) H
theorem c_is_whole (T : Tx K mg) : CalT P w K mg base 1 "is_whole" spWhole := by
  obtain ⟨fd, F⟩ := T.d_is_whole
  refine cal_of F T.g_is_whole (okD F sc_is_whole (fun vs H Q E h => ?_) (fun cdv A outer s H vs Q E hr h => ?_)) (fun _ _ _ _ _ _ us hl => match us, hl with | [_], _ => rfl)
  · obtain ⟨i, rfl, _⟩ := h
    rfl
  · obtain ⟨i, rfl, hQ⟩ := h
    refine ⟨_, pss_one (ps_ret (pe_and (pe_callB call_isi rfl T.n_isinstance (by decide +kernel) (pa_cons (pv 0) (pa_cons (pe_bltn (v := .ty "int") (u := .type "int") rfl T.n_int (by decide +kernel) rfl) pa_nil)))
      (pe_one (pe_not (pe_callB call_isi rfl T.n_isinstance (by decide +kernel) (pa_cons (pv 0) (pa_cons (pe_bltn (v := .ty "bool") (u := .type "bool") rfl T.n_bool (by decide +kernel) rfl) pa_nil))))))), ?_⟩
    refine ⟨_, rfl, _, _, _, _, true, rfl, .ty "int", .base (.int i), kit_ty (by decide +kernel), _, rfl, iteT ?_⟩
    exact ⟨_, rfl, _, _, _, _, false, rfl, .ty "bool", .base (.int i), kit_ty (by decide +kernel), _, rfl, hQ⟩
/-! ### things_in -/
def spThings : Sp := fun vs H Q _ => ∃ b : Nat, vs = [nI b] ∧ New H (.lst ((things b).map nI)) Q
theorem c_things_in (T : Tx K mg) : CalT P w K mg base 1 "things_in" spThings := by
  obtain ⟨fd, F⟩ := T.d_things_in
  refine cal_of F T.g_things_in (okD F sc_things_in (fun vs H Q E h => ?_) (fun cdv A outer s H vs Q E hr h => ?_)) (fun _ _ _ _ _ _ us hl => match us, hl with | [_], _ => rfl)
  · obtain ⟨b, rfl, _⟩ := h
    rfl
  · obtain ⟨b, rfl, hQ⟩ := h
    obtain ⟨u, hm, ru⟩ := T.i_MOST
    refine ⟨_, pss_one (ps_ret (pe_lc (own := [("number", 1)]) (g := gName 1) rfl sc_things_in.nd (pi_range1 rfl T.n_range (pa_cons (pe_glob rfl hm ru) pa_nil))
      (blkOk_by (own := [("number", 1)]) (N := N_things_in) (sc := defScope s_things_in) (by decide +kernel))
      (fun _ _ _ _ _ => pg_name (i := 1) sc_things_in.nd rfl (Or.inl rfl)) (fun _ _ _ _ _ => pts_one (pt_cmpR op_eq (pe_op op_and (pe_op op_shr (pv 0) (pv 1)) pe_int) pe_int (nomark _))) (fun _ _ _ _ _ => pv 1))), ?_⟩
    refine ⟨6, rfl, by decide, by decide, fun D hD => lc_range (lo := 0) (n := 6) (fun i H' => Same H H' ∧ H' D = some (.lst (((List.range i).filter fun n => b.testBit n).map nI)))
      ⟨Same.new hD, upd_same⟩ (fun i H' hi hP => ?_) (fun H' hP => hQ D H' hD hP.1 hP.2)⟩
    obtain ⟨s1, d1⟩ := hP
    refine ⟨rfl, _, rfl, _, rfl, _, _, rfl, rfl, by omega, _, _, rfl, rfl, rfl, _, rfl, ?_⟩
    have eb : decide (V.int (Builtin.bitAnd ((b : Int) / 2 ^ ((0 + (i : Int)).toNat)) 1) = V.int 1) = b.testBit i := by
      rw [Int.zero_add]
      exact bitN b i
    show if decide (V.int (Builtin.bitAnd ((b : Int) / 2 ^ ((0 + (i : Int)).toNat)) 1) = V.int 1) = true then _ else _
    rw [eb]
    have er : ((List.range (i + 1)).filter fun n => b.testBit n) = ((List.range i).filter fun n => b.testBit n) ++ if b.testBit i = true then [i] else [] := by
      rw [range_more, List.filter_append]
      congr 1
      cases q : b.testBit i <;> simp [q]
    cases q : b.testBit i with
    | true =>
      rw [q, if_pos rfl] at er
      refine iteT ⟨_, rfl, _, d1, ?_, Same.upd s1 hD, ?_⟩
      · refine small1000 ?_
        rw [List.length_map]
        have := List.length_filter_le (fun n => b.testBit n) (List.range i)
        rw [List.length_range] at this
        omega
      · rw [upd_same, er, List.map_append]
        show some (HO.lst (_ ++ [V.int (0 + (i : Int))])) = _
        rw [Int.zero_add]
        rfl
    | false =>
      rw [q, if_neg Bool.false_ne_true, List.append_nil] at er
      refine iteF ⟨s1, ?_⟩
      rw [er]
      exact d1
/-! ### size_of, holds -/
def spSize : Sp := fun vs H Q _ => ∃ b : Nat, vs = [nI b] ∧ ∀ H', Same H H' → Q (nI (things b).length) H'
theorem c_size_of (T : Tx K mg) : CalT P w K mg base 2 "size_of" spSize := by
  obtain ⟨fd, F⟩ := T.d_size_of
  refine cal_of F T.g_size_of (okD F sc_size_of (fun vs H Q E h => ?_) (fun cdv A outer s H vs Q E hr h => ?_)) (fun _ _ _ _ _ _ us hl => match us, hl with | [_], _ => rfl)
  · obtain ⟨b, rfl, _⟩ := h
    rfl
  · obtain ⟨b, rfl, hQ⟩ := h
    refine ⟨_, pss_one (ps_ret (pe_callB call_len_seq rfl T.n_len PySem.boot_len (pa_cons (pe_c (c_things_in T) hr (Nat.le_refl _) rfl (pa_cons (pv 0) pa_nil)) pa_nil))), ?_⟩
    refine ⟨_, rfl, b, rfl, fun p H' hp s1 h1 => ⟨p, _, rfl, .inl (SqL.of h1), ?_⟩⟩
    rw [List.length_map]
    exact hQ H' s1
def spHolds : Sp := fun vs H Q _ => ∃ a b : Nat, vs = [nI a, nI b] ∧ Q (.bl (hld a b)) H
theorem hldI (a b : Nat) : decide (V.int (Builtin.bitAnd (a : Int) (b : Int)) = V.int (b : Int)) = hld a b := by
  rw [dec_int, andN]
  unfold hld
  by_cases c : a &&& b = b
  · rw [c]; simp
  · rw [beq_false_of_ne c]
    exact beq_false_of_ne fun z => c (by exact_mod_cast z)
theorem c_holds (T : Tx K mg) : CalT P w K mg base 1 "holds" spHolds := by
  obtain ⟨fd, F⟩ := T.d_holds
  refine cal_of F T.g_holds (okD F sc_holds (fun vs H Q E h => ?_) (fun cdv A outer s H vs Q E hr h => ?_)) (fun _ _ _ _ _ _ us hl => match us, hl with | [_, _], _ => rfl)
  · obtain ⟨a, b, rfl, _⟩ := h
    rfl
  · obtain ⟨a, b, rfl, hQ⟩ := h
    refine ⟨_, pss_one (ps_ret (pe_cmpR op_eq (pe_op op_and (pv 0) (pv 1)) (pv 1) (nomark _))), ?_⟩
    refine ⟨_, rfl, _, rfl, _, _, rfl, rfl, _, rfl, rfl, ?_⟩
    show Q (.bl (decide (V.int (Builtin.bitAnd (a : Int) (b : Int)) = V.int (b : Int)))) H
    rw [hldI]
    exact hQ
/-! ### parts_of -/
def parts (b : Nat) : List Nat := (List.range (b + 1)).filter fun p => hld b p
def spParts : Sp := fun vs H Q _ => ∃ b : Nat, vs = [nI b] ∧ b < 64 ∧ New H (.lst ((parts b).map nI)) Q
theorem c_parts_of (T : Tx K mg) : CalT P w K mg base 2 "parts_of" spParts := by
  obtain ⟨fd, F⟩ := T.d_parts_of
  refine cal_of F T.g_parts_of (okD F sc_parts_of (fun vs H Q E h => ?_) (fun cdv A outer s H vs Q E hr h => ?_)) (fun _ _ _ _ _ _ us hl => match us, hl with | [_], _ => rfl)
  · obtain ⟨b, rfl, _⟩ := h
    rfl
  · obtain ⟨b, rfl, hb, hQ⟩ := h
    refine ⟨_, pss_one (ps_ret (pe_lc (own := [("part", 1)]) (g := gName 1) rfl sc_parts_of.nd (pi_range1 rfl T.n_range (pa_cons (pe_op op_add (pv 0) pe_int) pa_nil))
      (blkOk_by (own := [("part", 1)]) (N := N_parts_of) (sc := defScope s_parts_of) (by decide +kernel))
      (fun _ _ _ _ _ => pg_name (i := 1) sc_parts_of.nd rfl (Or.inl rfl)) (fun _ _ _ _ _ => pts_one (pt_val (pe_c (c_holds T) hr (Nat.le_refl _) rfl (pa_cons (pv 0) (pa_cons (pv 1) pa_nil))))) (fun _ _ _ _ _ => pv 1))), ?_⟩
    refine ⟨_, rfl, _, _, rfl, rfl, (b : Int) + 1, rfl, by omega, by omega, fun D hD => ?_⟩
    have en : ((b : Int) + 1).toNat = b + 1 := by omega
    rw [en]
    refine lc_range (lo := 0) (n := b + 1) (fun i H' => Same H H' ∧ H' D = some (.lst (((List.range i).filter fun n => hld b n).map nI)))
      ⟨Same.new hD, upd_same⟩ (fun i H' hi hP => ?_) (fun H' hP => hQ D H' hD hP.1 hP.2)
    obtain ⟨s1, d1⟩ := hP
    refine ⟨rfl, _, rfl, _, rfl, b, i, by rw [Int.zero_add]; rfl, _, rfl, ?_⟩
    have er : ((List.range (i + 1)).filter fun n => hld b n) = ((List.range i).filter fun n => hld b n) ++ if hld b i = true then [i] else [] := by
      rw [range_more, List.filter_append]
      congr 1
      cases q : hld b i <;> simp [q]
    cases q : hld b i with
    | true =>
      rw [q, if_pos rfl] at er
      refine iteT ⟨_, rfl, _, d1, ?_, Same.upd s1 hD, ?_⟩
      · refine small1000 ?_
        rw [List.length_map]
        have := List.length_filter_le (fun n => hld b n) (List.range i)
        rw [List.length_range] at this
        omega
      · rw [upd_same, er, List.map_append]
        show some (HO.lst (_ ++ [V.int (0 + (i : Int))])) = _
        rw [Int.zero_add]
        rfl
    | false =>
      rw [q, if_neg Bool.false_ne_true, List.append_nil] at er
      refine iteF ⟨s1, ?_⟩
      rw [er]
      exact d1
/-! ### is_least -/
theorem wAt_get {ws : List Int} {b : Nat} (h : b < ws.length) : (ws.map V.int)[b]? = some (V.int (wAt ws b)) := by
  rw [List.getElem?_map, List.getElem?_eq_getElem h]
  unfold wAt
  rw [List.getD_eq_getElem?_getD, List.getElem?_eq_getElem h]
  rfl
theorem get_map {α β : Type} {f : α → β} {l : List α} {i : Nat} {x : β} (h : (l.map f)[i]? = some x) : ∃ y, l[i]? = some y ∧ x = f y := by
  rw [List.getElem?_map] at h
  cases e : l[i]? with
  | none => rw [e] at h; cases h
  | some y => rw [e] at h; exact ⟨y, rfl, (Option.some.inj h).symm⟩
theorem lt_get {α : Type} {l : List α} {i : Nat} {x : α} (h : l[i]? = some x) : i < l.length := (List.getElem?_eq_some_iff.mp h).1
def spLeast : Sp := fun vs H Q _ => ∃ (a : Addr) (ws : List Int) (b : Nat), vs = [.ref a, nI b] ∧ H a = some (.lst (ws.map V.int)) ∧ b < ws.length ∧ ∀ H', Same H H' → Q (.bl (isLeast ws b)) H'
theorem c_is_least (T : Tx K mg) : CalT P w K mg base 2 "is_least" spLeast := by
  obtain ⟨fd, F⟩ := T.d_is_least
  refine cal_of F T.g_is_least (okD F sc_is_least (fun vs H Q E h => ?_) (fun cdv A outer s H vs Q E hr h => ?_)) (fun _ _ _ _ _ _ us hl => match us, hl with | [_, _], _ => rfl)
  · obtain ⟨a, ws, b, rfl, _⟩ := h
    rfl
  · obtain ⟨a, ws, b, rfl, ha, hb, hQ⟩ := h
    refine ⟨_, pss_cons (ps_for PassesOwn.never rfl (pi_list (pe_c (c_things_in T) hr (Nat.le_refl _) rfl (pa_cons (pv 1) pa_nil))) (pg_name (i := 2) sc_is_least.nd rfl (Or.inl rfl))
      (pss_one (ps_if (pt_cmpR op_ge (pe_ix ix_list (pv 0) (pe_op op_sub (pv 1) (pe_op op_shl pe_int (pv 2))) (fun _ _ => rfl)) (pe_ix ix_list (pv 0) (pv 1) (fun _ _ => rfl)) (nomark _))
        (pss_one (ps_ret pe_bl)) pss_nil))) (pss_one (ps_ret pe_bl)), ?_⟩
    refine ⟨_, rfl, b, rfl, fun p H1 hp s1 h1 => ⟨p, rfl, ⟨_, SqL.of h1⟩, for_list (K := K) (a := p) (xs := (things b).map nI)
      (fun i σ H' => (∃ v : Option V, σ = [some (.ref a), some (nI b), v]) ∧ Same H1 H' ∧ ∀ n ∈ (things b).take i, wAt ws (b - 2 ^ n) < wAt ws b)
      ⟨⟨none, rfl⟩, Same.refl _, fun _ h => by simp at h⟩ (fun i σ H' _ hP => hP.2.1.seq (SqL.of h1)) ?_ ?_⟩⟩
    · rintro i x σ H' hi ⟨⟨v, rfl⟩, s2, hl⟩
      obtain ⟨n, hn, rfl⟩ := get_map hi
      have ht := mem_things.mp (List.mem_of_getElem? hn)
      have hle := hld_le (hld_thing ht.2)
      have ha' := s2 _ _ (s1 _ _ ha)
      refine ⟨_, rfl, _, rfl, _, rfl, _, _, rfl, rfl, ⟨by omega, by omega, by decide⟩, _, _, rfl, rfl, a, ws.map V.int, _, _, rfl, rfl, SqL.of ha', at_of (j := b - 2 ^ n) ?_ (wAt_get (Nat.lt_of_le_of_lt (Nat.sub_le _ _) hb)), ?_⟩
      · rw [Int.toNat_natCast, Int.one_mul]
        have : ((2 : Int) ^ n) = ((2 ^ n : Nat) : Int) := by rw [Int.natCast_pow]; rfl
        rw [this]
        omega
      refine ⟨_, rfl, _, rfl, a, ws.map V.int, _, _, rfl, rfl, SqL.of ha', atI_nat (wAt_get hb), _, _, rfl, rfl, _, rfl, ite2 (fun c => ?_) (fun c => ?_)⟩
      · have c1 := of_decide_eq_true c
        have : isLeast ws b = false := by
          cases q : isLeast ws b with
          | false => rfl
          | true =>
            have := least_iff.mp q n (List.mem_of_getElem? hn)
            omega
        have hq := hQ H' (s1.trans s2)
        rw [this] at hq
        exact hq
      · have c1 : ¬ wAt ws b ≤ wAt ws (b - 2 ^ n) := fun z => c (decide_eq_true z)
        refine ⟨⟨_, rfl⟩, s2, fun k hk => ?_⟩
        rw [take_more hn] at hk
        rcases List.mem_append.mp hk with hk | hk
        · exact hl k hk
        · rw [List.mem_singleton] at hk
          subst hk
          omega
    · rintro σ H' ⟨⟨v, rfl⟩, s2, hl⟩
      rw [List.length_map, List.take_length] at hl
      have hq := hQ H' (s1.trans s2)
      rw [least_iff.mpr hl] at hq
      exact hq
end
end Gv
namespace Gv
open PySem PySem.Spec PyProof.Rows L2
/-! ### two lists alike in length, item by item -/
structure Each {α β : Type} (R : α → β → Prop) (xs : List α) (ys : List β) : Prop where
  len : xs.length = ys.length
  at_ : ∀ (i : Nat) (x : α) (y : β), xs[i]? = some x → ys[i]? = some y → R x y
section
variable {α β : Type} {R S : α → β → Prop} {xs : List α} {ys : List β}
theorem Each.nil : Each R [] [] := ⟨rfl, fun i x y h => by simp at h⟩
theorem Each.imp (h : Each R xs ys) (f : ∀ x y, R x y → S x y) : Each S xs ys := ⟨h.len, fun i x y a b => f x y (h.at_ i x y a b)⟩
theorem Each.snoc (h : Each R xs ys) {x : α} {y : β} (r : R x y) : Each R (xs ++ [x]) (ys ++ [y]) := by
  refine ⟨by rw [List.length_append, List.length_append, h.len]; rfl, fun i a b ha hb => ?_⟩
  have hl := h.len
  by_cases c : i < xs.length
  · rw [List.getElem?_append_left c] at ha
    rw [List.getElem?_append_left (by omega)] at hb
    exact h.at_ i a b ha hb
  · rw [List.getElem?_append_right (by omega)] at ha
    rw [List.getElem?_append_right (by omega)] at hb
    rw [show i - ys.length = i - xs.length by omega] at hb
    cases q : i - xs.length with
    | zero =>
      rw [q] at ha hb
      cases ha
      cases hb
      exact r
    | succ n =>
      rw [q] at ha
      simp at ha
theorem Each.l (h : Each R xs ys) {i : Nat} {x : α} (e : xs[i]? = some x) : ∃ y, ys[i]? = some y ∧ R x y := by
  have hl := lt_get e
  have hl2 : i < ys.length := by rw [← h.len]; exact hl
  exact ⟨ys[i], List.getElem?_eq_getElem hl2, h.at_ i x _ e (List.getElem?_eq_getElem hl2)⟩
theorem Each.r (h : Each R xs ys) {i : Nat} {y : β} (e : ys[i]? = some y) : ∃ x, xs[i]? = some x ∧ R x y := by
  have hl := lt_get e
  have hl2 : i < xs.length := by rw [h.len]; exact hl
  exact ⟨xs[i], List.getElem?_eq_getElem hl2, h.at_ i _ y (List.getElem?_eq_getElem hl2) e⟩
theorem Each.set (h : Each R xs ys) (i : Nat) {x : α} {y : β} (r : R x y) : Each R (xs.set i x) (ys.set i y) := by
  refine ⟨by rw [List.length_set, List.length_set, h.len], fun j a b ha hb => ?_⟩
  rw [List.getElem?_set] at ha hb
  by_cases e : i = j
  · subst e
    rw [if_pos rfl] at ha hb
    split at ha
    · split at hb
      · cases ha
        cases hb
        exact r
      · cases hb
    · cases ha
  · rw [if_neg e] at ha hb
    exact h.at_ j a b ha hb
theorem Each.mapL {γ : Type} {f : γ → α} {zs : List γ} (h : Each R (zs.map f) ys) : Each (fun z y => R (f z) y) zs ys :=
  ⟨by rw [← h.len, List.length_map], fun i z y a b => h.at_ i (f z) y (by rw [List.getElem?_map, a]; rfl) b⟩
end
theorem yesI {σ : L2.St} {H : Hp} {A B : Hp → Prop} (h : A H) : tYes σ H (fun b H3 => if b = true then A H3 else B H3) := iteT (A := A H) (B := B H) h
/-! ### offers in the heap -/
abbrev rf (l : List Addr) : List V := l.map V.ref
def TupAt (H : Hp) (t : Addr) (o : Nat × Int) : Prop := H t = some (.tup [nI o.1, .int o.2])
def OffAt (H : Hp) (a : Addr) (l : Lst) : Prop := ∃ ts : List Addr, H a = some (.lst (rf ts)) ∧ Each (TupAt H) ts l
def OffsAt (H : Hp) (a : Addr) (L : List Lst) : Prop := ∃ ls : List Addr, H a = some (.lst (rf ls)) ∧ Each (OffAt H) ls L
/-- lists and tuples stand -/
def Sm (H H' : Hp) : Prop := ∀ b xs, (H b = some (.lst xs) → H' b = some (.lst xs)) ∧ (H b = some (.tup xs) → H' b = some (.tup xs))
theorem Same.sm {H H' : Hp} (s : Same H H') : Sm H H' := fun b xs => ⟨s b _, s b _⟩
theorem OffAt.sm {H H' : Hp} {a : Addr} {l : Lst} (s : Sm H H') (h : OffAt H a l) : OffAt H' a l := by
  obtain ⟨ts, h1, h2⟩ := h
  exact ⟨ts, (s a _).1 h1, h2.imp fun t o q => (s t _).2 q⟩
theorem OffsAt.sm {H H' : Hp} {a : Addr} {L : List Lst} (s : Sm H H') (h : OffsAt H a L) : OffsAt H' a L := by
  obtain ⟨ls, h1, h2⟩ := h
  exact ⟨ls, (s a _).1 h1, h2.imp fun p l q => q.sm s⟩
theorem OffAt.same {H H' : Hp} {a : Addr} {l : Lst} (s : Same H H') (h : OffAt H a l) : OffAt H' a l := h.sm (Same.sm s)
theorem OffsAt.same {H H' : Hp} {a : Addr} {L : List Lst} (s : Same H H') (h : OffsAt H a L) : OffsAt H' a L := h.sm (Same.sm s)
theorem OffAt.nil {H : Hp} {a : Addr} (h : H a = some (.lst [])) : OffAt H a [] := ⟨[], h, .nil⟩
def pI : Option Int → V
  | none => .non
  | some q => .int q
section
variable {P : Program} {w : World} {K : PySem.W.Frag} {mg : Str → Option Value} {base : Heap}
/-! ### offers_of -/
def spOff : Sp := fun vs H Q _ => ∃ (a : Addr) (ws : List Int), vs = [.ref a] ∧ H a = some (.lst (ws.map V.int)) ∧ 0 < ws.length ∧ ws.length ≤ 64 ∧ ∀ p H', H p = none → Same H H' → OffAt H' p (offOf ws) → Q (.ref p) H'
theorem c_offers_of (T : Tx K mg) : CalT P w K mg base 3 "offers_of" spOff := by
  obtain ⟨fd, F⟩ := T.d_offers_of
  refine cal_of F T.g_offers_of (okD F sc_offers_of (fun vs H Q E h => ?_) (fun cdv A outer s H vs Q E hr h => ?_)) (fun _ _ _ _ _ _ us hl => match us, hl with | [_], _ => rfl)
  · obtain ⟨a, ws, rfl, _⟩ := h
    rfl
  · obtain ⟨a, ws, rfl, ha, h0, h64, hQ⟩ := h
    refine ⟨_, pss_one (ps_ret (pe_lc (own := [("bundle", 1)]) (g := gName 1) rfl sc_offers_of.nd (pi_range2 rfl T.n_range (pa_cons pe_int (pa_cons (pe_callB call_len_seq rfl T.n_len PySem.boot_len (pa_cons (pv 0) pa_nil)) pa_nil)))
      (blkOk_by (own := [("bundle", 1)]) (N := N_offers_of) (sc := defScope s_offers_of) (by decide +kernel))
      (fun _ _ _ _ _ => pg_name (i := 1) sc_offers_of.nd rfl (Or.inl rfl)) (fun _ _ _ _ _ => pts_one (pt_val (pe_c (c_is_least T) hr (Nat.le_refl _) rfl (pa_cons (pv 0) (pa_cons (pv 1) pa_nil)))))
      (fun _ _ _ _ _ => pe_tup (pa_cons (pv 1) (pa_cons (pe_ix (r := rIxL K) ix_list (pv 0) (pv 1) (fun _ _ => rfl)) pa_nil))))), ?_⟩
    refine ⟨_, rfl, a, _, rfl, .inl (SqL.of ha), 1, _, rfl, ⟨by decide, by decide, by omega, by rw [List.length_map]; omega⟩, fun D hD => ?_⟩
    have en : (((ws.map V.int).length : Int) - 1).toNat = ws.length - 1 := by rw [List.length_map]; omega
    rw [en]
    refine lc_range (lo := 1) (n := ws.length - 1) (fun i H' => Same H H' ∧ ∃ ts : List Addr, H' D = some (.lst (rf ts)) ∧ Each (TupAt H') ts (((List.range' 1 i).filter (isLeast ws)).map fun b => (b, wAt ws b)))
      ⟨Same.new hD, [], upd_same, .nil⟩ (fun i H' hi hP => ?_) (fun H' hP => ?_)
    · obtain ⟨s1, ts, d1, e1⟩ := hP
      have hb : 1 + i < ws.length := by omega
      refine ⟨rfl, _, rfl, _, rfl, a, ws, 1 + i, by rw [show ((1 : Int) + (i : Int)) = ((1 + i : Nat) : Int) by omega]; rfl, s1 _ _ ha, hb, fun H2 s2 => ⟨_, rfl, ?_⟩⟩
      have er : ((List.range' 1 (i + 1)).filter (isLeast ws)) = ((List.range' 1 i).filter (isLeast ws)) ++ if isLeast ws (1 + i) = true then [1 + i] else [] := by
        rw [range'_more, List.filter_append]
        congr 1
        cases q : isLeast ws (1 + i) <;> simp [q]
      cases q : isLeast ws (1 + i) with
      | true =>
        rw [q, if_pos rfl] at er
        refine iteT ⟨_, rfl, _, rfl, _, rfl, a, ws.map V.int, _, _, rfl, rfl, SqL.of (s2 _ _ (s1 _ _ ha)), at_of (j := 1 + i) (by omega) (wAt_get hb), (by show 2 ≤ sizeLine; decide), fun t ht => ?_⟩
        have d2 := s2 _ _ d1
        have nDt : D ≠ t := ne_of_none d2 ht
        refine ⟨_, (upd_ne nDt).trans d2, ?_, Same.upd (Same.upd (s1.trans s2) ((s1.trans s2).free ht)) hD, ts ++ [t], ?_, ?_⟩
        · refine small1000 ?_
          rw [List.length_map, e1.len, List.length_map]
          have := List.length_filter_le (isLeast ws) (List.range' 1 i)
          rw [List.length_range'] at this
          omega
        · rw [upd_same]
          show _ = some (HO.lst ((ts ++ [t]).map V.ref))
          rw [List.map_append]
          rfl
        · rw [er, List.map_append]
          have key : ∀ b xs, (H2 b = some (.tup xs) ∨ (b = t ∧ xs = [V.int (1 + (i : Int)), V.int (wAt ws (1 + i))])) → L2.upd (L2.upd H2 t (.tup [V.int (1 + (i : Int)), V.int (wAt ws (1 + i))])) D (.lst (rf ts ++ [V.ref t])) b = some (.tup xs) := by
            intro b xs h
            rcases h with h | ⟨rfl, rfl⟩
            · have n1 : b ≠ D := ne_of h d2 (by intro z; cases z)
              have n2 : b ≠ t := ne_of_none h ht
              rw [upd_ne n1, upd_ne n2]
              exact h
            · rw [upd_ne nDt.symm, upd_same]
          refine (e1.imp fun u o h => key u _ (.inl (s2 _ _ h))).snoc (key t _ (.inr ⟨rfl, ?_⟩))
          show [nI (1 + i), V.int (wAt ws (1 + i))] = _
          unfold nI
          rw [show ((1 + i : Nat) : Int) = 1 + (i : Int) by omega]
      | false =>
        rw [q, if_neg Bool.false_ne_true, List.append_nil] at er
        refine iteF ⟨s1.trans s2, ts, s2 _ _ d1, ?_⟩
        rw [er]
        exact e1.imp fun u o h => s2 _ _ h
    · obtain ⟨s1, ts, d1, e1⟩ := hP
      exact hQ D H' hD s1 ⟨ts, d1, e1⟩
/-! ### pursed -/
def spPurse : Sp := fun vs H Q _ => ∃ (a : Addr) (ws : List Int) (p : Option Int), vs = [.ref a, pI p] ∧ H a = some (.lst (ws.map V.int)) ∧ ws.length ≤ 64 ∧ New H (.lst ((cutW ws p).map V.int)) Q
theorem c_pursed (T : Tx K mg) : CalT P w K mg base 1 "pursed" spPurse := by
  obtain ⟨fd, F⟩ := T.d_pursed
  obtain ⟨ds, hd, hb⟩ := F.binds1 (ps := ["worths", "purse"]) 2 1 (by intro z; cases z) rfl fun Ta kV doc pm an cdv ct us its h1 h2 => match us, h1, its, h2 with | [_, _], _, [_], _ => ⟨_, rfl, rfl⟩
  refine ⟨_, fd, _, ds, okD F sc_pursed (fun vs H Q E h => ?_) (fun cdv A outer s H vs Q E hr h => ?_), T.g_pursed, F.kp, hb, hd⟩
  · obtain ⟨a, ws, p, rfl, _⟩ := h
    rfl
  · obtain ⟨a, ws, p, rfl, ha, h64, hQ⟩ := h
    refine ⟨_, pss_cons (ps_if (pt_cmp (pc_isN (pv 1))) (pss_one (ps_ret (pe_callTy call_list_of rfl T.n_list (by decide +kernel) (pa_cons (pv 0) pa_nil)))) pss_nil)
      (pss_one (ps_ret (pe_lc (own := [("worth", 2)]) (g := gName 2) rfl sc_pursed.nd (pi_list (pv 0))
      (blkOk_by (own := [("worth", 2)]) (N := N_pursed) (sc := defScope s_pursed) (by decide +kernel))
      (fun _ _ _ _ _ => pg_name (i := 2) sc_pursed.nd rfl (Or.inl rfl)) (fun _ _ _ _ _ => pts_nil)
      (fun _ _ _ _ _ => pe_callB (call_min2 rfl) rfl T.n_min (by decide +kernel) (pa_cons (pv 2) (pa_cons (pv 1) pa_nil)))))), ?_⟩
    cases p with
    | none =>
      refine ⟨_, rfl, _, rfl, iteT ⟨_, rfl, a, _, rfl, .inl (SqL.of ha), fun l hl => ?_⟩⟩
      exact hQ l _ hl (Same.new hl) upd_same
    | some q =>
      refine ⟨_, rfl, _, rfl, iteF ⟨_, rfl, a, rfl, ⟨_, SqL.of ha⟩, fun D hD => ?_⟩⟩
      refine lc_list (K := K) (a := a) (xs := ws.map V.int) (fun i H' => Same H H' ∧ H' D = some (.lst (((ws.take i).map fun x => min x q).map V.int)))
        ⟨Same.new hD, by rw [upd_same]; rfl⟩ (fun i H' _ hP => SqL.of (hP.1 _ _ ha)) (fun i x H' hx hP => ?_) (fun H' hP => ?_)
      · obtain ⟨z, hz, rfl⟩ := get_map hx
        obtain ⟨s1, d1⟩ := hP
        refine ⟨rfl, yesI ?_⟩
        refine ⟨_, rfl, _, rfl, z, q, rfl, _, d1, ?_, Same.upd s1 hD, ?_⟩
        · refine small1000 ?_
          rw [List.length_map, List.length_map, List.length_take]
          omega
        · rw [upd_same, take_more hz, List.map_append, List.map_append]
          have : (if q < z then q else z) = min z q := by
            by_cases c : q < z
            · rw [if_pos c]; omega
            · rw [if_neg c]; omega
          rw [this]
          rfl
      · refine hQ D H' hD hP.1 ?_
        have := hP.2
        rw [List.length_map, List.take_length] at this
        exact this
/-! ### amount_at -/
theorem find_take {l : Lst} {i b : Nat} (h : ∀ o ∈ l.take i, o.1 ≠ b) {o : Nat × Int} (hi : l[i]? = some o) (e : o.1 = b) : l.find? (fun o => o.1 == b) = some o := by
  have e1 : l = l.take i ++ o :: l.drop (i + 1) := by
    have hl := lt_get hi
    have := List.getElem?_eq_getElem hl
    rw [this] at hi
    have hg : l[i] = o := Option.some.inj hi
    rw [← hg, List.getElem_cons_drop hl, List.take_append_drop]
  rw [e1, List.find?_append, List.find?_eq_none.mpr fun x hx => by simpa using h x hx]
  simp [e]
def spAmt : Sp := fun vs H Q _ => ∃ (a : Addr) (l : Lst) (b : Nat) (z : Int), vs = [.ref a, nI b] ∧ OffAt H a l ∧ amt l b = some z ∧ Q (.int z) H
theorem c_amount_at (T : Tx K mg) : CalT P w K mg base 1 "amount_at" spAmt := by
  obtain ⟨fd, F⟩ := T.d_amount_at
  refine cal_of F T.g_amount_at (okD F sc_amount_at (fun vs H Q E h => ?_) (fun cdv A outer s H vs Q E hr h => ?_)) (fun _ _ _ _ _ _ us hl => match us, hl with | [_, _], _ => rfl)
  · obtain ⟨a, l, b, z, rfl, _⟩ := h
    rfl
  · obtain ⟨a, l, b, z, rfl, ⟨ts, ha, ht⟩, hz, hQ⟩ := h
    refine ⟨_, pss_cons (ps_if (pt_cmpR op_eq (pv 1) pe_int (nomark _)) (pss_one (ps_ret pe_int)) pss_nil)
      (pss_cons (ps_for PassesOwn.never rfl (pi_list (pv 0)) (pg_name (i := 2) sc_amount_at.nd rfl (Or.inl rfl))
        (pss_one (ps_if (pt_cmpR op_eq (pe_ix ix_tup (pv 2) pe_int (fun _ _ => rfl)) (pv 1) (nomark _)) (pss_one (ps_ret (pe_ix ix_tup (pv 2) pe_int (fun _ _ => rfl)))) pss_nil)))
      (pss_one (ps_ret pe_non))), ?_⟩
    refine ⟨_, rfl, rfl, _, rfl, ?_⟩
    have e0 : decide (nI b = V.int 0) = decide (b = 0) := by
      unfold nI
      rw [dec_int]
      by_cases c : b = 0
      · subst c; rfl
      · rw [decide_eq_false c]
        exact beq_false_of_ne fun z => c (by exact_mod_cast z)
    show if decide (nI b = V.int 0) = true then _ else _
    rw [e0]
    unfold amt at hz
    by_cases c : b = 0
    · rw [if_pos c] at hz
      cases hz
      rw [decide_eq_true c]
      exact iteT hQ
    · rw [if_neg c] at hz
      rw [decide_eq_false c]
      refine iteF ⟨_, rfl, a, rfl, ⟨_, SqL.of ha⟩, for_list (K := K) (a := a) (xs := rf ts) (fun i σ H' => (∃ v : Option V, σ = [some (.ref a), some (nI b), v]) ∧ H' = H ∧ ∀ o ∈ l.take i, o.1 ≠ b)
        ⟨⟨none, rfl⟩, rfl, fun _ h => by simp at h⟩ (fun i σ H' _ hP => by rw [hP.2.1]; exact SqL.of ha) ?_ ?_⟩
      · rintro i x σ H' hi ⟨⟨v, rfl⟩, rfl, hl⟩
        obtain ⟨t, hti, rfl⟩ := get_map hi
        obtain ⟨o, ho, hto⟩ := ht.l hti
        refine ⟨_, rfl, t, _, _, _, rfl, rfl, SqT.of hto, atI_nat (j := 0) rfl, _, rfl, rfl, _, rfl, ?_⟩
        have e1 : decide (nI o.1 = nI b) = decide (o.1 = b) := by
          unfold nI
          rw [dec_int]
          by_cases c : o.1 = b
          · rw [c]; simp
          · rw [decide_eq_false c]
            exact beq_false_of_ne fun z => c (by exact_mod_cast z)
        show if decide (nI o.1 = nI b) = true then _ else _
        rw [e1]
        by_cases d : o.1 = b
        · rw [decide_eq_true d]
          refine iteT ⟨_, rfl, t, _, _, _, rfl, rfl, SqT.of hto, atI_nat (j := 1) rfl, ?_⟩
          rw [find_take hl ho d] at hz
          cases hz
          exact hQ
        · rw [decide_eq_false d]
          refine iteF ⟨⟨_, rfl⟩, rfl, fun q hq => ?_⟩
          rw [take_more ho] at hq
          rcases List.mem_append.mp hq with hq | hq
          · exact hl q hq
          · rw [List.mem_singleton] at hq
            subst hq
            exact d
      · rintro σ H' ⟨⟨v, rfl⟩, rfl, hl⟩
        rw [List.length_map, ht.len, List.take_length] at hl
        rw [List.find?_eq_none.mpr fun x hx => by simpa using hl x hx] at hz
        cases hz
end
end Gv
namespace Gv
open PySem PySem.Spec PyProof.Rows L2
/-! ### the memo -/
theorem nodup_len : ∀ (N : Nat) (l : List Nat), l.Nodup → (∀ x ∈ l, x < N) → l.length ≤ N
  | 0, [], _, _ => Nat.le_refl _
  | 0, x :: l, _, h => by have := h x List.mem_cons_self; omega
  | N + 1, l, nd, h => by
    have key : l.length ≤ (l.filter fun x => decide (x ≠ N)).length + 1 := by
      clear h
      induction l with
      | nil => simp
      | cons x l ih =>
        rw [List.nodup_cons] at nd
        have := ih nd.2
        by_cases c : x = N
        · subst c
          have e : l.filter (fun y => decide (y ≠ x)) = l := by
            rw [List.filter_eq_self]
            intro a ha
            refine decide_eq_true fun z => nd.1 (z ▸ ha)
          rw [List.filter_cons_of_neg (by simp), e, List.length_cons]
          omega
        · rw [List.filter_cons_of_pos (by simp [c]), List.length_cons, List.length_cons]
          omega
    have := nodup_len N (l.filter fun x => decide (x ≠ N)) (List.Pairwise.filter _ nd) fun x hx => by
      rw [List.mem_filter] at hx
      have h1 := h x hx.1
      have h2 := of_decide_eq_true hx.2
      omega
    omega
def keyN (at_ free : Nat) : List Key := [Sum.inl (at_ : Int), Sum.inl (free : Int)]
def codeN : List Key → Nat
  | [Sum.inl a, Sum.inl b] => a.toNat * 64 + b.toNat
  | _ => 0
structure KvsOk (L : List Lst) (kvs : List (List Key × V)) : Prop where
  nd : (kvs.map (·.1)).Nodup
  at_ : ∀ kv ∈ kvs, ∃ i free : Nat, i < L.length ∧ free < 64 ∧ kv.1 = keyN i free ∧ kv.2 = .int (best (L.drop i) free)
def MemoOk (H : Hp) (d : Addr) (L : List Lst) : Prop := ∃ kvs, H d = some (.dT kvs) ∧ KvsOk L kvs
theorem KvsOk.small {L : List Lst} {kvs : List (List Key × V)} (h : KvsOk L kvs) (hL : L.length ≤ 6) : kvs.length ≤ 1000 := by
  have nd2 : (kvs.map fun kv => codeN kv.1).Nodup := by
    have h1 : kvs.Pairwise fun x y => x.1 ≠ y.1 := List.pairwise_map.mp h.nd
    refine List.pairwise_map.mpr (List.Pairwise.imp_of_mem (fun {x y} hx hy hne => ?_) h1)
    obtain ⟨i, f, _, hf, e, _⟩ := h.at_ x hx
    obtain ⟨j, g, _, hg, e', _⟩ := h.at_ y hy
    intro z
    refine hne ?_
    rw [e, e'] at z ⊢
    have z' : (i : Int).toNat * 64 + (f : Int).toNat = (j : Int).toNat * 64 + (g : Int).toNat := z
    have : i = j ∧ f = g := by omega
    rw [this.1, this.2]
  have := nodup_len (L.length * 64) _ nd2 fun x hx => by
    obtain ⟨kv, hkv, rfl⟩ := List.mem_map.mp hx
    obtain ⟨i, f, hi, hf, e, _⟩ := h.at_ kv hkv
    rw [e]
    show (i : Int).toNat * 64 + (f : Int).toNat < _
    omega
  rw [List.length_map] at this
  omega
theorem KvsOk.val {L : List Lst} {kvs : List (List Key × V)} (h : KvsOk L kvs) {i free : Nat} {v : V} (e : valV kvs (keyN i free) = some v) : v = .int (best (L.drop i) free) := by
  unfold valV at e
  cases q : kvs.find? fun kv => decide (kv.1 = keyN i free) with
  | none => rw [q] at e; cases e
  | some kv =>
    rw [q] at e
    cases e
    have h1 : kv.1 = keyN i free := by
      have h0 := List.find?_some (p := fun kv : List Key × V => decide (kv.1 = keyN i free)) q
      exact of_decide_eq_true h0
    obtain ⟨j, f, _, _, e1, e2⟩ := h.at_ kv (List.mem_of_find?_eq_some q)
    show kv.2 = _
    rw [e2]
    rw [e1] at h1
    unfold keyN at h1
    simp at h1
    have : j = i ∧ f = free := by omega
    rw [this.1, this.2]
theorem KvsOk.put {L : List Lst} {kvs : List (List Key × V)} (h : KvsOk L kvs) {i free : Nat} (hi : i < L.length) (hf : free < 64) : KvsOk L (putK kvs (keyN i free) (.int (best (L.drop i) free))) := by
  unfold putK
  split
  · refine ⟨?_, fun kv hkv => ?_⟩
    · rw [List.map_map]
      have e : ((fun x : List Key × V => x.1) ∘ fun kv => if kv.1 = keyN i free then (kv.1, V.int (best (L.drop i) free)) else kv) = fun x => x.1 := by
        funext x
        show (if x.1 = keyN i free then (x.1, V.int (best (L.drop i) free)) else x).1 = x.1
        split <;> rfl
      rw [e]
      exact h.nd
    · obtain ⟨x, hx, rfl⟩ := List.mem_map.mp hkv
      by_cases c : x.1 = keyN i free
      · rw [if_pos c]
        exact ⟨i, free, hi, hf, c, rfl⟩
      · rw [if_neg c]
        exact h.at_ x hx
  · rename_i hn
    refine ⟨?_, fun kv hkv => ?_⟩
    · rw [List.map_append, List.map_singleton]
      refine List.nodup_append.mpr ⟨h.nd, List.pairwise_singleton _ _, fun a ha b hb => ?_⟩
      rw [List.mem_singleton] at hb
      subst hb
      obtain ⟨x, hx, rfl⟩ := List.mem_map.mp ha
      intro z
      exact hn (List.any_eq_true.mpr ⟨x, hx, decide_eq_true z⟩)
    · rcases List.mem_append.mp hkv with hkv | hkv
      · exact h.at_ kv hkv
      · rw [List.mem_singleton] at hkv
        subst hkv
        exact ⟨i, free, hi, hf, rfl, rfl⟩
theorem KvsOk.nil (L : List Lst) : KvsOk L [] := ⟨List.nodup_nil, fun _ h => by cases h⟩
/-- all but one stands -/
def SmX (d : Addr) (H H' : Hp) : Prop := ∀ b o, b ≠ d → H b = some o → H' b = some o
theorem SmX.refl (d : Addr) (H : Hp) : SmX d H H := fun _ _ _ e => e
theorem SmX.trans {d : Addr} {H H1 H2 : Hp} (a : SmX d H H1) (b : SmX d H1 H2) : SmX d H H2 := fun c o n e => b c o n (a c o n e)
theorem Same.x {H H' : Hp} (s : Same H H') (d : Addr) : SmX d H H' := fun b o _ e => s b o e
theorem SmX.sm {d : Addr} {H H' : Hp} {kvs : List (List Key × V)} (s : SmX d H H') (h : H d = some (.dT kvs)) : Sm H H' := fun b xs =>
  ⟨fun e => s b _ (ne_of e h (by intro z; cases z)) e, fun e => s b _ (ne_of e h (by intro z; cases z)) e⟩
theorem SmX.put {d : Addr} {H H' : Hp} {o : HO} (s : SmX d H H') : SmX d H (L2.upd H' d o) := fun b u n e => by
  rw [upd_ne n]
  exact s b u n e
theorem SmX.new {d t : Addr} {H H' : Hp} {o : HO} (s : SmX d H H') (hn : H' t = none) : SmX d H (L2.upd H' t o) := fun b u n e => by
  have := s b u n e
  rw [upd_ne (ne_of_none this hn)]
  exact this
/-- behind a fresh dict: all that stood stands -/
theorem SmX.fresh {d : Addr} {H H1 H' : Hp} (s : SmX d H1 H') (s0 : Same H H1) (hd : H d = none) : Same H H' := fun b o e => s b o (ne_of_none e hd) (s0 b o e)
theorem drop_cons {α : Type} {L : List α} {i : Nat} {l : α} (h : L[i]? = some l) : L.drop i = l :: L.drop (i + 1) := by
  have hl := lt_get h
  have := List.getElem?_eq_getElem hl
  rw [this] at h
  have hg : L[i] = l := Option.some.inj h
  rw [← hg, List.getElem_cons_drop hl]
theorem maxI (i j : Int) : (if j > i then j else i) = max i j := by
  by_cases c : j > i
  · rw [if_pos c]; omega
  · rw [if_neg c]; omega
theorem decN (a b : Nat) : decide (nI a = nI b) = decide (a = b) := by
  unfold nI
  rw [dec_int]
  by_cases c : a = b
  · rw [c]; simp
  · rw [decide_eq_false c]
    exact beq_false_of_ne fun z => c (by exact_mod_cast z)
section
variable {P : Program} {w : World} {K : PySem.W.Frag} {mg : Str → Option Value} {base : Heap}
/-! ### best_behind -/
def spBB (n : Nat) : Sp := fun vs H Q _ => ∃ (a d : Addr) (L : List Lst) (i free : Nat), vs = [.ref a, nI i, nI free, .ref d] ∧ OffsAt H a L ∧ MemoOk H d L ∧ L.length ≤ 6 ∧ i ≤ L.length ∧ L.length - i ≤ n ∧ free < 64 ∧
  ∀ H', SmX d H H' → MemoOk H' d L → Q (.int (best (L.drop i) free)) H'
theorem c_bb (T : Tx K mg) : ∀ n : Nat, CalT P w K mg base (n + 2) "best_behind" (spBB n) := by
  intro n
  induction n with
  | zero =>
    obtain ⟨fd, F⟩ := T.d_best_behind
    refine cal_of F T.g_best_behind (okD F sc_best_behind (fun vs H Q E h => ?_) (fun cdv A outer s H vs Q E hr h => ?_)) (fun _ _ _ _ _ _ us hl => match us, hl with | [_, _, _, _], _ => rfl)
    · obtain ⟨a, d, L, i, free, rfl, _⟩ := h
      rfl
    · obtain ⟨a, d, L, i, free, rfl, ⟨ls, ha, hls⟩, hM, hL, hi, hn, hf, hQ⟩ := h
      refine ⟨_, pss_cons (ps_if (pt_cmpR op_eq (pv 1) (pe_callB call_len_seq rfl T.n_len PySem.boot_len (pa_cons (pv 0) pa_nil)) (nomark _)) (pss_one (ps_ret pe_int)) pss_nil) pss_never, ?_⟩
      refine ⟨_, rfl, _, rfl, a, _, rfl, .inl (SqL.of ha), rfl, _, rfl, ?_⟩
      rw [List.length_map, hls.len]
      show if decide (nI i = nI L.length) = true then _ else _
      have e : i = L.length := by omega
      rw [decN, decide_eq_true e]
      refine iteT ?_
      have := hQ H (SmX.refl d H) hM
      rw [e, List.drop_length] at this
      exact this
  | succ n ih =>
    obtain ⟨fd, F⟩ := T.d_best_behind
    refine cal_of F T.g_best_behind (okD F sc_best_behind (fun vs H Q E h => ?_) (fun cdv A outer s H vs Q E hr h => ?_)) (fun _ _ _ _ _ _ us hl => match us, hl with | [_, _, _, _], _ => rfl)
    · obtain ⟨a, d, L, i, free, rfl, _⟩ := h
      rfl
    · obtain ⟨a, d, L, i, free, rfl, hO, ⟨kvs, hd, hK⟩, hL, hi, hn, hf, hQ⟩ := h
      have hu := hu_of hr
      refine ⟨_, pss_cons (ps_if (pt_cmpR op_eq (pv 1) (pe_callB call_len_seq rfl T.n_len PySem.boot_len (pa_cons (pv 0) pa_nil)) (nomark _)) (pss_one (ps_ret pe_int)) pss_nil)
        (pss_cons (ps_set (i := 4) sc_best_behind.nd rfl (Or.inl rfl) (pe_tup (pa_cons (pv 1) (pa_cons (pv 2) pa_nil))))
        (pss_cons (ps_if (pt_cmp (pc_din hu (pv 4) (pv 3))) (pss_one (ps_ret (pe_dget hu (pv 3) (pv 4) (fun _ _ => rfl)))) pss_nil)
        (pss_cons (ps_set (i := 5) sc_best_behind.nd rfl (Or.inl rfl) (pe_c ih hr (Nat.le_refl _) rfl (pa_cons (pv 0) (pa_cons (pe_op op_add (pv 1) pe_int) (pa_cons (pv 2) (pa_cons (pv 3) pa_nil))))))
        (pss_cons (ps_for PassesOwn.never rfl (pi_list (pe_ix ix_list (pv 0) (pv 1) (fun _ _ => rfl)))
          (pg_tup rfl (pgs_cons (pg_name (i := 6) sc_best_behind.nd rfl (Or.inl rfl)) (pgs_cons (pg_name (i := 7) sc_best_behind.nd rfl (Or.inl rfl)) pgs_nil)))
          (pss_one (ps_if (pt_val (pe_c (c_holds T) hr (by omega) rfl (pa_cons (pv 2) (pa_cons (pv 6) pa_nil))))
            (pss_one (ps_set (i := 5) sc_best_behind.nd rfl (Or.inl rfl) (pe_callB (call_max2 rfl) rfl T.n_max (by decide +kernel) (pa_cons (pv 5) (pa_cons (pe_op op_add (pv 7)
              (pe_c ih hr (Nat.le_refl _) rfl (pa_cons (pv 0) (pa_cons (pe_op op_add (pv 1) pe_int) (pa_cons (pe_op op_sub (pv 2) (pv 6)) (pa_cons (pv 3) pa_nil)))))) pa_nil))))) pss_nil)))
        (pss_cons (ps_dput hu (pv 3) (pv 4) (pv 5) rfl)
        (pss_one (ps_ret (pv 5)))))))), ?_⟩
      obtain ⟨ls, ha, hls⟩ := id hO
      refine ⟨_, rfl, _, rfl, a, _, rfl, .inl (SqL.of ha), rfl, _, rfl, ?_⟩
      rw [List.length_map, hls.len]
      show if decide (nI i = nI L.length) = true then _ else _
      rw [decN]
      by_cases e : i = L.length
      · rw [decide_eq_true e]
        refine iteT ?_
        have := hQ H (SmX.refl d H) ⟨kvs, hd, hK⟩
        rw [e, List.drop_length] at this
        exact this
      · rw [decide_eq_false e]
        refine iteF ?_
        have hi' : i < L.length := by omega
        refine ⟨_, rfl, _, rfl, (by show 2 ≤ sizeLine; decide), fun t ht => ?_⟩
        have ndt : d ≠ t := ne_of_none hd ht
        have s1 : Same H (L2.upd H t (.tup [nI i, nI free])) := Same.new ht
        have d1 : (L2.upd H t (.tup [nI i, nI free])) d = some (.dT kvs) := (upd_ne ndt).trans hd
        have t1 : (L2.upd H t (.tup [nI i, nI free])) t = some (.tup ((keyN i free).map kV)) := upd_same
        refine ⟨_, rfl, _, rfl, d, _, rfl, DGet.t d1 t1, _, rfl, ?_⟩
        cases ev : valV kvs (keyN i free) with
        | some v =>
          refine iteT ⟨_, rfl, _, rfl, d, v, rfl, by rw [← ev]; exact DGet.t d1 t1, ?_⟩
          rw [hK.val ev]
          exact hQ _ (Same.x s1 d) ⟨kvs, d1, hK⟩
        | none =>
          refine iteF ?_
          refine ⟨_, rfl, _, rfl, _, _, rfl, rfl, _, rfl, _, rfl, a, d, L, i + 1, free, rfl, hO.same s1, ⟨kvs, d1, hK⟩, hL, hi', by omega, hf, fun H2 s2 m2 => ?_⟩
          have sm2 : SmX d H H2 := (Same.x s1 d).trans s2
          have sl2 : Sm H H2 := sm2.sm hd
          obtain ⟨l, hl⟩ : ∃ l, L[i]? = some l := ⟨L[i], List.getElem?_eq_getElem hi'⟩
          obtain ⟨p, hp, hpl⟩ := hls.r hl
          obtain ⟨ts, hts, hte⟩ := hpl
          have edrop := drop_cons hl
          have tt2 : H2 t = some (.tup ((keyN i free).map kV)) := s2 t _ ndt.symm t1
          refine ⟨_, rfl, _, rfl, a, rf ls, _, _, rfl, rfl, SqL.of ((sl2 a _).1 ha), atI_nat (j := i) (v := .ref p) (by rw [List.getElem?_map, hp]; rfl), p, rfl, ⟨_, SqL.of ((sl2 p _).1 hts)⟩, ?_⟩
          refine for_list (K := K) (a := p) (xs := rf ts) (fun j σ H' => (∃ (v6 v7 : Option V), σ = [some (.ref a), some (nI i), some (nI free), some (.ref d), some (.ref t), some (.int ((l.take j).foldl (stepB (best (L.drop (i + 1))) free) (best (L.drop (i + 1)) free))), v6, v7]) ∧
              SmX d H H' ∧ MemoOk H' d L ∧ H' t = some (.tup ((keyN i free).map kV)))
            ⟨⟨none, none, rfl⟩, sm2, m2, tt2⟩ (fun j σ H' _ hP => SqL.of ((hP.2.1.sm hd p _).1 hts)) ?_ ?_
          · rintro j x σ H' hj ⟨⟨v6, v7, rfl⟩, s3, m3, t3⟩
            obtain ⟨tj, htj, rfl⟩ := get_map hj
            obtain ⟨o, ho, hto⟩ := hte.l htj
            have sl3 : Sm H H' := s3.sm hd
            refine ⟨tj, _, rfl, SqT.of ((sl3 tj _).2 hto), rfl, _, _, rfl, _, _, rfl, rfl, ?_⟩
            refine ⟨_, rfl, _, rfl, free, o.1, rfl, _, rfl, ?_⟩
            have eo := take_more ho
            cases q : hld free o.1 with
            | true =>
              have hle := hld_le q
              refine iteT ⟨_, rfl, _, rfl, _, rfl, _, rfl, _, _, rfl, rfl, _, rfl, _, rfl, _, _, rfl, rfl, _, rfl, a, d, L, i + 1, free - o.1, ?_, hO.sm sl3, m3, hL, hi', by omega, by omega, fun H4 s4 m4 => ?_⟩
              · show [V.ref a, V.int ((i : Int) + 1), V.int ((free : Int) - (o.1 : Int)), V.ref d] = _
                rw [show (i : Int) + 1 = ((i + 1 : Nat) : Int) by omega, show (free : Int) - (o.1 : Int) = ((free - o.1 : Nat) : Int) by omega]
                rfl
              · refine ⟨_, _, rfl, rfl, _, _, rfl, ⟨some (nI o.1), some (.int o.2), ?_⟩, s3.trans s4, m4, ?_⟩
                · rw [maxI, eo, List.foldl_append]
                  show [_, _, _, _, _, _, _, _] = [_, _, _, _, _, some (V.int (stepB _ _ _ o)), _, _]
                  unfold stepB
                  rw [if_pos q]
                · obtain ⟨kv3, e3, _⟩ := m3
                  exact s4 t _ (ne_of t3 e3 (by intro z; cases z)) t3
            | false =>
              refine iteF ⟨⟨some (nI o.1), some (.int o.2), ?_⟩, s3, m3, t3⟩
              rw [eo, List.foldl_append]
              show [_, _, _, _, _, _, _, _] = [_, _, _, _, _, some (V.int (stepB _ _ _ o)), _, _]
              unfold stepB
              rw [if_neg (by rw [q]; exact Bool.false_ne_true)]
          · rintro σ H' ⟨⟨v6, v7, rfl⟩, s3, m3, t3⟩
            rw [List.length_map, hte.len, List.take_length]
            obtain ⟨kv3, e3, k3⟩ := m3
            have eb : l.foldl (stepB (best (L.drop (i + 1))) free) (best (L.drop (i + 1)) free) = best (L.drop i) free := by rw [edrop]; rfl
            refine ⟨_, rfl, _, rfl, _, rfl, d, _, rfl, DPut.t e3 t3 (small1000 (k3.small hL)), _, rfl, ?_⟩
            rw [eb]
            exact hQ _ s3.put ⟨_, upd_same, k3.put hi' hf⟩
/-! ### greatest_of -/
theorem pow2I (m : Nat) : (1 : Int) * 2 ^ ((m : Int).toNat) = ((2 ^ m : Nat) : Int) := by
  rw [Int.toNat_natCast, Int.one_mul, Int.natCast_pow]
  rfl
theorem fullI (m : Nat) : (1 : Int) * 2 ^ ((m : Int).toNat) - 1 = ((2 ^ m - 1 : Nat) : Int) := by
  rw [pow2I]
  have : 0 < 2 ^ m := Nat.pow_pos (by decide)
  omega
theorem full64 {m : Nat} (h : m ≤ 6) : 2 ^ m - 1 < 64 := by
  have : 2 ^ m ≤ 2 ^ 6 := Nat.pow_le_pow_right (by decide) h
  have : 0 < 2 ^ m := Nat.pow_pos (by decide)
  omega
theorem pow64 {m : Nat} (h : m ≤ 6) : 2 ^ m ≤ 64 := Nat.pow_le_pow_right (by decide) h
def spGreat : Sp := fun vs H Q _ => ∃ (m : Nat) (a : Addr) (L : List Lst), vs = [nI m, .ref a] ∧ m ≤ 6 ∧ OffsAt H a L ∧ L.length ≤ 3 ∧ ∀ H', Same H H' → Q (.int (best L (2 ^ m - 1))) H'
theorem c_greatest_of (T : Tx K mg) : CalT P w K mg base 6 "greatest_of" spGreat := by
  obtain ⟨fd, F⟩ := T.d_greatest_of
  refine cal_of F T.g_greatest_of (okD F sc_greatest_of (fun vs H Q E h => ?_) (fun cdv A outer s H vs Q E hr h => ?_)) (fun _ _ _ _ _ _ us hl => match us, hl with | [_, _], _ => rfl)
  · obtain ⟨m, a, L, rfl, _⟩ := h
    rfl
  · obtain ⟨m, a, L, rfl, hm, hO, hL, hQ⟩ := h
    refine ⟨_, pss_one (ps_ret (pe_c (c_bb T 3) hr (by decide) rfl (pa_cons (pv 1) (pa_cons pe_int (pa_cons (pe_op op_sub (pe_op op_shl pe_int (pv 0)) pe_int) (pa_cons pe_dnewT pa_nil)))))), ?_⟩
    refine ⟨_, rfl, _, rfl, _, _, rfl, rfl, ⟨by omega, by omega, by decide⟩, _, _, rfl, rfl, fun d hd => ?_⟩
    refine ⟨a, d, L, 0, 2 ^ m - 1, ?_, hO.same (Same.new hd), ⟨[], upd_same, KvsOk.nil L⟩, by omega, Nat.zero_le _, by omega, full64 hm, fun H' s' _ => ?_⟩
    · show [V.ref a, V.int 0, V.int ((1 : Int) * 2 ^ ((m : Int).toNat) - 1), V.ref d] = _
      rw [fullI]
      rfl
    · exact hQ H' (s'.fresh (Same.new hd) hd)
/-! ### chosen_at -/
def spChos (n : Nat) : Sp := fun vs H Q _ => ∃ (a d : Addr) (L : List Lst) (i free : Nat) (l : Lst), vs = [.ref a, nI i, nI free, .ref d] ∧ OffsAt H a L ∧ MemoOk H d L ∧ L.length ≤ 6 ∧ L[i]? = some l ∧ L.length - i ≤ n ∧ free < 64 ∧
  ∀ p H', SmX d H H' → MemoOk H' d L → H' p = some (.tup [nI (chos l (L.drop (i + 1)) free).1, .int (chos l (L.drop (i + 1)) free).2]) → Q (.ref p) H'
theorem c_chosen_at (T : Tx K mg) (n : Nat) : CalT P w K mg base (n + 3) "chosen_at" (spChos n) := by
  obtain ⟨fd, F⟩ := T.d_chosen_at
  refine cal_of F T.g_chosen_at (okD F sc_chosen_at (fun vs H Q E h => ?_) (fun cdv A outer s H vs Q E hr h => ?_)) (fun _ _ _ _ _ _ us hl => match us, hl with | [_, _, _, _], _ => rfl)
  · obtain ⟨a, d, L, i, free, l, rfl, _⟩ := h
    rfl
  · obtain ⟨a, d, L, i, free, l, rfl, hO, ⟨kvs, hd, hK⟩, hL, hl, hn, hf, hQ⟩ := h
    refine ⟨_, pss_cons (ps_set (i := 4) sc_chosen_at.nd rfl (Or.inl rfl) (pe_c (c_bb T n) hr (Nat.le_refl _) rfl (pa_cons (pv 0) (pa_cons (pv 1) (pa_cons (pv 2) (pa_cons (pv 3) pa_nil))))))
      (pss_cons (ps_set (i := 5) sc_chosen_at.nd rfl (Or.inl rfl) (pe_tup (pa_cons pe_int (pa_cons pe_int pa_nil))))
      (pss_cons (ps_for PassesOwn.never rfl (pi_list (pe_ix ix_list (pv 0) (pv 1) (fun _ _ => rfl)))
        (pg_tup rfl (pgs_cons (pg_name (i := 6) sc_chosen_at.nd rfl (Or.inl rfl)) (pgs_cons (pg_name (i := 7) sc_chosen_at.nd rfl (Or.inl rfl)) pgs_nil)))
        (pss_cons (ps_if (PW.pt (pw_or (pt_not (pt_val (pe_c (c_holds T) hr (by omega) rfl (pa_cons (pv 2) (pa_cons (pv 6) pa_nil)))))
            (pw_or1 (pt_cmpR op_le (pv 7) (pe_ix ix_tup (pv 5) pe_int (fun _ _ => rfl)) (nomark _))))) (pss_one ps_continue) pss_nil)
        (pss_one (ps_if (pt_cmpR op_eq (pe_op op_add (pv 7) (pe_c (c_bb T n) hr (Nat.le_refl _) rfl (pa_cons (pv 0) (pa_cons (pe_op op_add (pv 1) pe_int) (pa_cons (pe_op op_sub (pv 2) (pv 6)) (pa_cons (pv 3) pa_nil)))))) (pv 4) (nomark _))
          (pss_one (ps_set (i := 5) sc_chosen_at.nd rfl (Or.inl rfl) (pe_tup (pa_cons (pv 6) (pa_cons (pv 7) pa_nil))))) pss_nil))))
      (pss_one (ps_ret (pv 5))))), ?_⟩
    have hi := lt_get hl
    obtain ⟨ls, ha, hls⟩ := id hO
    obtain ⟨p, hp, ts, hts, hte⟩ := hls.r hl
    have edrop := drop_cons hl
    refine ⟨_, rfl, _, rfl, _, rfl, _, rfl, a, d, L, i, free, rfl, hO, ⟨kvs, hd, hK⟩, hL, by omega, hn, hf, fun H1 s1 m1 => ?_⟩
    rw [edrop]
    refine ⟨by show 2 ≤ sizeLine; decide, fun t ht => ?_⟩
    have hd1 : ∃ kv, H1 d = some (.dT kv) := let ⟨kv, e, _⟩ := m1; ⟨kv, e⟩
    obtain ⟨kv1, e1⟩ := hd1
    have s2 : SmX d H (L2.upd H1 t (.tup [.int 0, .int 0])) := s1.new ht
    have sl2 := s2.sm hd
    refine ⟨_, rfl, _, rfl, a, rf ls, _, _, rfl, rfl, SqL.of ((sl2 a _).1 ha), atI_nat (j := i) (v := .ref p) (by rw [List.getElem?_map, hp]; rfl), p, rfl, ⟨_, SqL.of ((sl2 p _).1 hts)⟩, ?_⟩
    refine for_list (K := K) (a := p) (xs := rf ts) (fun j σ H' => (∃ (v6 v7 : Option V) (t : Addr), σ = [some (.ref a), some (nI i), some (nI free), some (.ref d), some (.int (best (l :: L.drop (i + 1)) free)), some (.ref t), v6, v7] ∧
          (∀ c, c = (l.take j).foldl (stepC (best (L.drop (i + 1))) (best (l :: L.drop (i + 1)) free) free) (0, 0) → H' t = some (.tup [nI c.1, .int c.2]))) ∧ SmX d H H' ∧ MemoOk H' d L)
      ⟨⟨none, none, t, rfl, fun c hc => by rw [hc]; exact upd_same⟩, s2, ?_⟩ (fun j σ H' _ hP => SqL.of ((hP.2.1.sm hd p _).1 hts)) ?_ ?_
    · obtain ⟨kv, e, k⟩ := m1
      exact ⟨kv, (upd_ne (ne_of_none e ht)).trans e, k⟩
    · rintro j x σ H' hj ⟨⟨v6, v7, t, rfl, hc⟩, s3, m3⟩
      obtain ⟨tj, htj, rfl⟩ := get_map hj
      obtain ⟨o, ho, hto⟩ := hte.l htj
      have sl3 : Sm H H' := s3.sm hd
      have eo := take_more ho
      have hc := hc _ rfl
      generalize ec : (l.take j).foldl (stepC (best (L.drop (i + 1))) (best (l :: L.drop (i + 1)) free) free) (0, 0) = c at hc
      have en : (l.take (j + 1)).foldl (stepC (best (L.drop (i + 1))) (best (l :: L.drop (i + 1)) free) free) (0, 0) = stepC (best (L.drop (i + 1))) (best (l :: L.drop (i + 1)) free) free c o := by
        rw [eo, List.foldl_append, ec]
        rfl
      refine ⟨tj, _, rfl, SqT.of ((sl3 tj _).2 hto), rfl, _, _, rfl, _, _, rfl, rfl, ?_⟩
      refine ⟨_, rfl, _, rfl, free, o.1, rfl, _, rfl, ?_⟩
      cases q : hld free o.1 with
      | false =>
        refine iteT (iteT ⟨⟨some (nI o.1), some (.int o.2), t, rfl, fun c' hc' => ?_⟩, s3, m3⟩)
        rw [en] at hc'
        unfold stepC at hc'
        rw [if_pos (.inl q)] at hc'
        rw [hc']
        exact hc
      | true =>
        refine iteF ⟨_, rfl, _, rfl, t, _, _, _, rfl, rfl, SqT.of hc, atI_nat (j := 1) rfl, _, _, rfl, rfl, _, rfl, ite2 (fun z => ?_) (fun z => ?_)⟩
        · have z' := of_decide_eq_true z
          refine ⟨⟨some (nI o.1), some (.int o.2), t, rfl, fun c' hc' => ?_⟩, s3, m3⟩
          rw [en] at hc'
          unfold stepC at hc'
          rw [if_pos (.inr z')] at hc'
          rw [hc']
          exact hc
        · have z' : ¬ o.2 ≤ c.2 := fun y => z (decide_eq_true y)
          have nz : ¬ (hld free o.1 = false ∨ o.2 ≤ c.2) := by
            rintro (y | y)
            · rw [q] at y; cases y
            · exact z' y
          have hle := hld_le q
          refine ⟨_, rfl, _, rfl, _, rfl, _, _, rfl, rfl, _, rfl, _, rfl, _, _, rfl, rfl, _, rfl, a, d, L, i + 1, free - o.1, ?_, hO.sm sl3, m3, hL, by omega, by omega, by omega, fun H4 s4 m4 => ?_⟩
          · show [V.ref a, V.int ((i : Int) + 1), V.int ((free : Int) - (o.1 : Int)), V.ref d] = _
            rw [show (i : Int) + 1 = ((i + 1 : Nat) : Int) by omega, show (free : Int) - (o.1 : Int) = ((free - o.1 : Nat) : Int) by omega]
            rfl
          · refine ⟨_, _, rfl, rfl, _, rfl, rfl, _, rfl, ?_⟩
            have hc4 : H4 t = some (.tup [nI c.1, .int c.2]) := by
              obtain ⟨kv3, e3, _⟩ := m3
              exact s4 t _ (ne_of hc e3 (by intro z; cases z)) hc
            rw [dec_int]
            by_cases y : o.2 + best (L.drop (i + 1)) (free - o.1) = best (l :: L.drop (i + 1)) free
            · rw [beq_iff_eq.mpr y]
              refine iteT ⟨_, rfl, _, rfl, (by show 2 ≤ sizeLine; decide), fun t2 ht2 => ⟨⟨some (nI o.1), some (.int o.2), t2, rfl, fun c' hc' => ?_⟩, (s3.trans s4).new ht2, ?_⟩⟩
              · rw [en] at hc'
                unfold stepC at hc'
                rw [if_neg nz, if_pos y] at hc'
                rw [hc']
                exact upd_same
              · obtain ⟨kv, e, k⟩ := m4
                exact ⟨kv, (upd_ne (ne_of_none e ht2)).trans e, k⟩
            · rw [beq_false_of_ne y]
              refine iteF ⟨⟨some (nI o.1), some (.int o.2), t, rfl, fun c' hc' => ?_⟩, s3.trans s4, m4⟩
              rw [en] at hc'
              unfold stepC at hc'
              rw [if_neg nz, if_neg y] at hc'
              rw [hc']
              exact hc4
    · rintro σ H' ⟨⟨v6, v7, t, rfl, hc⟩, s3, m3⟩
      rw [List.length_map, hte.len, List.take_length] at hc
      exact ⟨_, rfl, hQ t H' s3 m3 (hc _ rfl)⟩
end
end Gv
namespace Gv
open PySem PySem.Spec PyProof.Rows L2
theorem OffAt.upd {H : Hp} {p D : Addr} {l : Lst} {xs ys : List V} (h : OffAt H p l) (hp : p ≠ D) (hD : H D = some (.lst xs)) : OffAt (L2.upd H D (.lst ys)) p l := by
  obtain ⟨ts, h1, h2⟩ := h
  exact ⟨ts, (upd_ne hp).trans h1, h2.imp fun t o q => (upd_ne (ne_of q hD (by intro z; cases z))).trans q⟩
theorem OffsAt.each {H : Hp} {a : Addr} {L : List Lst} {ls : List Addr} (h : Each (OffAt H) ls L) (ha : H a = some (.lst (rf ls))) : OffsAt H a L := ⟨ls, ha, h⟩
theorem worth_drop {L : List Lst} {pl : List Nat} {i : Nat} {l : Lst} {b : Nat} {r : Int} (hl : L[i]? = some l) (hb : pl[i]? = some b) (h : worthOf (L.drop i) (pl.drop i) = some r) :
    ∃ z r', amt l b = some z ∧ worthOf (L.drop (i + 1)) (pl.drop (i + 1)) = some r' ∧ r = z + r' := by
  rw [drop_cons hl, drop_cons hb] at h
  have h' : (amt l b).bind (fun a => (worthOf (L.drop (i + 1)) (pl.drop (i + 1))).map fun z => a + z) = some r := h
  cases q : amt l b with
  | none => rw [q] at h'; cases h'
  | some z =>
    rw [q] at h'
    cases q2 : worthOf (L.drop (i + 1)) (pl.drop (i + 1)) with
    | none => rw [q2] at h'; cases h'
    | some r' =>
      rw [q2] at h'
      exact ⟨z, r', rfl, rfl, (Option.some.inj h').symm⟩
/-- the receipts in the heap -/
def recOf (L : List Lst) (full i : Nat) (c : Nat × Int) : List V := [nI c.1, .int c.2, .int (best (L.set i []) full), .int (best L full - c.2), .int (best (L.set i []) full - (best L full - c.2))]
def RecsTo (H : Hp) (rs : List Addr) (L : List Lst) (full : Nat) : Prop := ∀ (i : Nat) (r : Addr) (l : Lst), rs[i]? = some r → L[i]? = some l → ∃ c, RecAt L full i l c ∧ H r = some (.tup (recOf L full i c))
def RecsAt (H : Hp) (p : Addr) (L : List Lst) (full : Nat) : Prop := ∃ rs : List Addr, H p = some (.lst (rf rs)) ∧ rs.length = L.length ∧ RecsTo H rs L full
theorem RecAt.uniq {L : List Lst} {full i : Nat} {l : Lst} {c c' : Nat × Int} (r : RecAt L full i l c) (r' : RecAt L full i l c') : c = c' := by
  have h1 : c.1 = c'.1 := Option.some.inj (r.pl.symm.trans r'.pl)
  have h2 : c.2 = c'.2 := by
    have := r.am
    rw [h1, r'.am] at this
    exact (Option.some.inj this).symm
  exact Prod.ext h1 h2
section
variable {P : Program} {w : World} {K : PySem.W.Frag} {mg : Str → Option Value} {base : Heap}
/-! ### winners_of -/
def spWin : Sp := fun vs H Q _ => ∃ (m : Nat) (a : Addr) (L : List Lst), vs = [nI m, .ref a] ∧ m ≤ 6 ∧ OffsAt H a L ∧ L.length ≤ 3 ∧ (∀ q ∈ L, LOk q) ∧ New H (.lst ((plan L (2 ^ m - 1)).map nI)) Q
theorem c_winners_of (T : Tx K mg) : CalT P w K mg base 7 "winners_of" spWin := by
  obtain ⟨fd, F⟩ := T.d_winners_of
  refine cal_of F T.g_winners_of (okD F sc_winners_of (fun vs H Q E h => ?_) (fun cdv A outer s H vs Q E hr h => ?_)) (fun _ _ _ _ _ _ us hl => match us, hl with | [_, _], _ => rfl)
  · obtain ⟨m, a, L, rfl, _⟩ := h
    rfl
  · obtain ⟨m, a, L, rfl, hm, hO, hL, ok, hQ⟩ := h
    refine ⟨_, pss_cons (ps_set (i := 2) sc_winners_of.nd rfl (Or.inl rfl) pe_dnewT)
      (pss_cons (ps_set (i := 3) sc_winners_of.nd rfl (Or.inl rfl) (pe_op op_sub (pe_op op_shl pe_int (pv 0)) pe_int))
      (pss_cons (ps_set (i := 4) sc_winners_of.nd rfl (Or.inl rfl) (pe_lst pa_nil))
      (pss_cons (ps_for PassesOwn.never rfl (pi_range1 rfl T.n_range (pa_cons (pe_callB call_len_seq rfl T.n_len PySem.boot_len (pa_cons (pv 1) pa_nil)) pa_nil)) (pg_name (i := 5) sc_winners_of.nd rfl (Or.inl rfl))
        (pss_cons (ps_set (i := 6) sc_winners_of.nd rfl (Or.inl rfl) (pe_c (c_chosen_at T 3) hr (Nat.le_refl _) rfl (pa_cons (pv 1) (pa_cons (pv 5) (pa_cons (pv 3) (pa_cons (pv 2) pa_nil))))))
        (pss_cons (ps_expr (pe_bm PySem.F.plainAttrs_list PySem.F.slot_list_append PySem.F.type_list_append mt_append (pv 4) (pa_cons (pe_ix ix_tup (pv 6) pe_int (fun _ _ => rfl)) pa_nil)))
        (pss_one (ps_set (i := 3) sc_winners_of.nd rfl (Or.inl rfl) (pe_op op_sub (pv 3) (pe_ix ix_tup (pv 6) pe_int (fun _ _ => rfl))))))))
      (pss_one (ps_ret (pv 4)))))), ?_⟩
    intro d hd
    refine ⟨_, rfl, _, _, rfl, rfl, ⟨by omega, by omega, by decide⟩, _, _, rfl, rfl, ?_⟩
    refine ⟨Nat.zero_le _, fun pl hpl => ?_⟩
    have ndp : d ≠ pl := ne_of_none upd_same hpl
    have hpl0 : H pl = none := (Same.new hd).free hpl
    have s1 : Same H (L2.upd (L2.upd H d (.dT [])) pl (.lst [])) := Same.upd (Same.new hd) hpl0
    obtain ⟨ls, ha, hls⟩ := id hO
    refine ⟨_, rfl, a, _, rfl, .inl (SqL.of (s1 _ _ ha)), _, rfl, by omega, by rw [List.length_map, hls.len]; omega, ?_⟩
    rw [List.length_map, hls.len, Int.toNat_natCast]
    refine for_range (lo := 0) (n := L.length) (fun i σ H' => ∃ (done : List Nat) (free : Nat) (v5 v6 : Option V), σ = [some (nI m), some (.ref a), some (.ref d), some (nI free), some (.ref pl), v5, v6] ∧ Same H H' ∧ MemoOk H' d L ∧
        H' pl = some (.lst (done.map nI)) ∧ done.length = i ∧ free < 64 ∧ plan L (2 ^ m - 1) = done ++ plan (L.drop i) free) ?_ ?_ ?_
    · refine ⟨[], 2 ^ m - 1, none, none, ?_, s1, ⟨[], (upd_ne ndp).trans upd_same, KvsOk.nil L⟩, upd_same, rfl, full64 hm, rfl⟩
      show [_, _, _, some (V.int ((1 : Int) * 2 ^ ((m : Int).toNat) - 1)), _, _, _] = _
      rw [fullI]
      rfl
    · rintro i σ H' hi ⟨done, free, v5, v6, rfl, s2, m2, p2, hdl, hf, he⟩
      obtain ⟨l, hl⟩ : ∃ l, L[i]? = some l := ⟨L[i], List.getElem?_eq_getElem hi⟩
      have okl := ok l (List.mem_of_getElem? hl)
      obtain ⟨_, g2, _⟩ := chos_good okl (L.drop (i + 1)) free
      have hle := hld_le g2
      refine ⟨_, rfl, _, rfl, _, rfl, _, rfl, a, d, L, i, free, l, ?_, hO.same s2, m2, by omega, hl, by omega, hf, fun p H3 s3 m3 h3 => ?_⟩
      · show [V.ref a, V.int (0 + (i : Int)), nI free, V.ref d] = _
        rw [Int.zero_add]
        rfl
      · generalize ec : chos l (L.drop (i + 1)) free = c at h3 hle
        have p3 : H3 pl = some (.lst (done.map nI)) := by
          obtain ⟨kv, e, _⟩ := m2
          exact s3 pl _ ndp.symm p2
        have npp : p ≠ pl := ne_of h3 p3 (by intro z; cases z)
        refine ⟨_, rfl, .inl ⟨rfl, _, SqL.of p3⟩, _, rfl, p, _, _, _, rfl, rfl, SqT.of h3, atI_nat (j := 0) rfl, pl, _, _, rfl, rfl, p3, ?_, ?_⟩
        · refine small1000 ?_
          rw [List.length_map]
          omega
        refine ⟨_, rfl, _, rfl, p, _, _, _, rfl, rfl, SqT.of ((upd_ne npp).trans h3), atI_nat (j := 0) rfl, _, _, rfl, rfl, ?_⟩
        refine ⟨done ++ [c.1], free - c.1, some (.int (0 + (i : Int))), some (.ref p), ?_, Same.upd (s3.fresh s2 hd) hpl0, ?_, ?_, ?_, by omega, ?_⟩
        · show [_, _, _, some (V.int ((free : Int) - (c.1 : Int))), _, _, _] = _
          rw [show (free : Int) - (c.1 : Int) = ((free - c.1 : Nat) : Int) by omega]
          rfl
        · obtain ⟨kv, e, k⟩ := m3
          exact ⟨kv, (upd_ne ndp).trans e, k⟩
        · rw [upd_same, List.map_append]
          rfl
        · rw [List.length_append, hdl]
          rfl
        · rw [he, drop_cons hl]
          show done ++ ((chos l (L.drop (i + 1)) free).1 :: plan (L.drop (i + 1)) (free - (chos l (L.drop (i + 1)) free).1)) = _
          rw [ec]
          simp
    · rintro σ H' ⟨done, free, v5, v6, rfl, s2, m2, p2, hdl, hf, he⟩
      rw [List.drop_length] at he
      have he' : plan L (2 ^ m - 1) = done := by
        rw [he]
        show done ++ [] = done
        rw [List.append_nil]
      refine ⟨_, rfl, hQ pl H' hpl0 s2 ?_⟩
      rw [he']
      exact p2
/-! ### plan_worth -/
def spPW : Sp := fun vs H Q _ => ∃ (a p : Addr) (L : List Lst) (pl : List Nat) (z : Int), vs = [.ref a, .ref p] ∧ OffsAt H a L ∧ H p = some (.lst (pl.map nI)) ∧ pl.length = L.length ∧ worthOf L pl = some z ∧ ∀ H', Same H H' → Q (.int z) H'
theorem c_plan_worth (T : Tx K mg) : CalT P w K mg base 2 "plan_worth" spPW := by
  obtain ⟨fd, F⟩ := T.d_plan_worth
  refine cal_of F T.g_plan_worth (okD F sc_plan_worth (fun vs H Q E h => ?_) (fun cdv A outer s H vs Q E hr h => ?_)) (fun _ _ _ _ _ _ us hl => match us, hl with | [_, _], _ => rfl)
  · obtain ⟨a, p, L, pl, z, rfl, _⟩ := h
    rfl
  · obtain ⟨a, p, L, pl, z, rfl, hO, hp, hlen, hz, hQ⟩ := h
    refine ⟨_, pss_cons (ps_set (i := 2) sc_plan_worth.nd rfl (Or.inl rfl) pe_int)
      (pss_cons (ps_for PassesOwn.never rfl (pi_zip (by rfl) T.n_zip (pa_cons (pv 0) (pa_cons (pv 1) pa_nil)))
        (pg_tup rfl (pgs_cons (pg_name (i := 3) sc_plan_worth.nd rfl (Or.inl rfl)) (pgs_cons (pg_name (i := 4) sc_plan_worth.nd rfl (Or.inl rfl)) pgs_nil)))
        (pss_one (ps_aug (i := 2) sc_plan_worth.nd rfl (Or.inl rfl) (pe_c (c_amount_at T) hr (Nat.le_refl _) rfl (pa_cons (pv 3) (pa_cons (pv 4) pa_nil))) ip_add)))
      (pss_one (ps_ret (pv 2)))), ?_⟩
    obtain ⟨ls, ha, hls⟩ := id hO
    refine ⟨_, rfl, _, rfl, a, p, rf ls, pl.map nI, rfl, SqL.of ha, SqL.of hp, ?_⟩
    refine RZ.for_zipL (K := K) (by rw [List.length_map, List.length_map, hls.len, hlen]) (fun i σ H' => (∃ (f r : Int) (v3 v4 : Option V), σ = [some (.ref a), some (.ref p), some (.int f), v3, v4] ∧ worthOf (L.drop i) (pl.drop i) = some r ∧ z = f + r) ∧ Same H H')
      ⟨⟨0, z, none, none, rfl, hz, by omega⟩, Same.refl H⟩ (fun i σ H' hP => ⟨hP.2.seq (SqL.of ha), hP.2.seq (SqL.of hp)⟩) ?_ ?_
    · rintro i x y t σ H' hx hy ⟨⟨f, r, v3, v4, rfl, hr2, he⟩, s2⟩ ht
      obtain ⟨q, hq, rfl⟩ := get_map hx
      obtain ⟨b, hb, rfl⟩ := get_map hy
      obtain ⟨l, hl, hql⟩ := hls.l hq
      obtain ⟨z1, r', e1, e2, e3⟩ := worth_drop hl hb hr2
      have s3 : Same H (L2.upd H' t (.tup [.ref q, nI b])) := Same.upd s2 (s2.free ht)
      refine ⟨t, _, rfl, SqT.of upd_same, rfl, _, _, rfl, _, _, rfl, rfl, ?_⟩
      refine ⟨_, rfl, _, rfl, _, rfl, q, l, b, z1, rfl, hql.same s3, e1, _, _, rfl, rfl, ⟨f + z1, r', _, _, rfl, e2, by omega⟩, s3⟩
    · rintro σ H' ⟨⟨f, r, v3, v4, rfl, hr2, he⟩, s2⟩
      rw [List.length_map, hls.len, List.drop_length] at hr2
      have : r = 0 := (Option.some.inj hr2).symm
      have e : z = f := by omega
      subst e
      exact ⟨_, rfl, hQ H' s2⟩
/-! ### without -/
def spWithout : Sp := fun vs H Q _ => ∃ (a : Addr) (L : List Lst) (i : Nat), vs = [.ref a, nI i] ∧ OffsAt H a L ∧ L.length ≤ 6 ∧ i < L.length ∧ ∀ p H', H p = none → Same H H' → OffsAt H' p (L.set i []) → Q (.ref p) H'
theorem c_without (T : Tx K mg) : CalT P w K mg base 1 "without" spWithout := by
  obtain ⟨fd, F⟩ := T.d_without
  refine cal_of F T.g_without (okD F sc_without (fun vs H Q E h => ?_) (fun cdv A outer s H vs Q E hr h => ?_)) (fun _ _ _ _ _ _ us hl => match us, hl with | [_, _], _ => rfl)
  · obtain ⟨a, L, i, rfl, _⟩ := h
    rfl
  · obtain ⟨a, L, i, rfl, hO, hL, hi, hQ⟩ := h
    refine ⟨_, pss_cons (ps_setLc (i := 2) (own := [("listed", 3)]) (g := gName 3) rfl sc_without.nd rfl rfl (sw_true rfl rfl rfl (by decide +kernel)) (pi_list (pv 0))
        (blkOk_by (own := [("listed", 3)]) (N := N_without) (sc := defScope s_without) (by decide +kernel))
        (fun _ _ _ _ _ => pg_name (i := 3) sc_without.nd rfl (Or.inl rfl)) (fun _ _ _ _ _ => pts_nil)
        (fun _ _ _ _ _ => pe_callTy (r := fun xs H Q => ∃ p ys, xs = [.ref p] ∧ (SqL K H p ys ∨ SqT K H p ys) ∧ ∀ l, H l = none → Q (.ref l) (L2.upd H l (.lst ys))) call_list_of rfl T.n_list (by decide +kernel) (pa_cons (pv 3) pa_nil)))
      (pss_cons (ps_asg (pe_lst pa_nil) (pg_sub (pv 2) (pv 1) set_list))
      (pss_one (ps_ret (pv 2)))), ?_⟩
    obtain ⟨ls, ha, hls⟩ := id hO
    refine ⟨_, rfl, a, rfl, ⟨_, SqL.of ha⟩, fun D hD => ?_⟩
    refine lc_list (K := K) (a := a) (xs := rf ls) (fun j H' => Same H H' ∧ ∃ ms : List Addr, H' D = some (.lst (rf ms)) ∧ Each (fun p l => OffAt H' p l ∧ p ≠ D) ms (L.take j))
      ⟨Same.new hD, [], upd_same, .nil⟩ (fun j H' _ hP => SqL.of (hP.1 _ _ ha)) (fun j x H' hx hP => ?_) (fun H' hP => ?_)
    · obtain ⟨q, hq, rfl⟩ := get_map hx
      obtain ⟨l, hl, ts, hqt, hte⟩ := hls.l hq
      obtain ⟨s1, ms, d1, e1⟩ := hP
      refine ⟨rfl, yesI ?_⟩
      refine ⟨_, rfl, q, _, rfl, .inl (SqL.of (s1 _ _ hqt)), fun n hn => ?_⟩
      have nDn : D ≠ n := ne_of_none d1 hn
      have d2 : (L2.upd H' n (.lst (rf ts))) D = some (.lst (rf ms)) := (upd_ne nDn).trans d1
      refine ⟨_, d2, ?_, Same.upd (Same.upd s1 (s1.free hn)) hD, ms ++ [n], ?_, ?_⟩
      · refine small1000 ?_
        rw [List.length_map, e1.len, List.length_take]
        omega
      · rw [upd_same]
        show _ = some (HO.lst ((ms ++ [n]).map V.ref))
        rw [List.map_append]
        rfl
      · rw [take_more hl]
        refine (e1.imp fun p l' h => ⟨(h.1.same (Same.new hn)).upd h.2 d2, h.2⟩).snoc ⟨OffAt.upd ⟨ts, upd_same, hte.imp fun t o r => ?_⟩ nDn.symm d2, nDn.symm⟩
        have r1 := s1 _ _ r
        exact (upd_ne (ne_of_none r1 hn)).trans r1
    · obtain ⟨s1, ms, d1, e1⟩ := hP
      rw [List.length_map, hls.len, List.take_length] at e1
      refine ⟨Nat.zero_le _, fun n hn => ?_⟩
      have nDn : D ≠ n := ne_of_none d1 hn
      have d2 : (L2.upd H' n (.lst [])) D = some (.lst (rf ms)) := (upd_ne nDn).trans d1
      refine ⟨_, rfl, _, rfl, D, rf ms, (i : Int), i, rfl, rfl, d2, ?_, ?_⟩
      · unfold ixN
        rw [if_pos (by omega), if_pos (by rw [List.length_map, e1.len]; omega), Int.toNat_natCast]
      · refine ⟨_, rfl, hQ D _ hD (Same.upd (Same.upd s1 (s1.free hn)) hD) ⟨ms.set i n, ?_, ?_⟩⟩
        · rw [upd_same]
          show _ = some (HO.lst ((ms.set i n).map V.ref))
          rw [List.map_set]
        · have e2 := (e1.imp (S := fun p l' => OffAt (L2.upd (L2.upd H' n (.lst [])) D (.lst ((rf ms).set i (.ref n)))) p l') fun p l' h => (h.1.same (Same.new hn)).upd h.2 d2)
          exact e2.set i (OffAt.nil ((upd_ne nDn.symm).trans upd_same))
/-! ### receipts_of -/
def spRec : Sp := fun vs H Q _ => ∃ (m : Nat) (a : Addr) (L : List Lst), vs = [nI m, .ref a] ∧ m ≤ 6 ∧ OffsAt H a L ∧ L.length ≤ 3 ∧ (∀ q ∈ L, LOk q) ∧ ∀ p H', H p = none → Same H H' → RecsAt H' p L (2 ^ m - 1) → Q (.ref p) H'
theorem c_receipts_of (T : Tx K mg) : CalT P w K mg base 8 "receipts_of" spRec := by
  obtain ⟨fd, F⟩ := T.d_receipts_of
  refine cal_of F T.g_receipts_of (okD F sc_receipts_of (fun vs H Q E h => ?_) (fun cdv A outer s H vs Q E hr h => ?_)) (fun _ _ _ _ _ _ us hl => match us, hl with | [_, _], _ => rfl)
  · obtain ⟨m, a, L, rfl, _⟩ := h
    rfl
  · obtain ⟨m, a, L, rfl, hm, hO, hL, ok, hQ⟩ := h
    refine ⟨_, pss_cons (ps_set (i := 2) sc_receipts_of.nd rfl (Or.inl rfl) (pe_c (c_winners_of T) hr (Nat.le_refl _) rfl (pa_cons (pv 0) (pa_cons (pv 1) pa_nil))))
      (pss_cons (ps_set (i := 3) sc_receipts_of.nd rfl (Or.inl rfl) (pe_c (c_plan_worth T) hr (by decide) rfl (pa_cons (pv 1) (pa_cons (pv 2) pa_nil))))
      (pss_cons (ps_set (i := 4) sc_receipts_of.nd rfl (Or.inl rfl) (pe_lst pa_nil))
      (pss_cons (ps_for PassesOwn.never rfl (pi_range1 rfl T.n_range (pa_cons (pe_callB call_len_seq rfl T.n_len PySem.boot_len (pa_cons (pv 1) pa_nil)) pa_nil)) (pg_name (i := 5) sc_receipts_of.nd rfl (Or.inl rfl))
        (pss_cons (ps_set (i := 6) sc_receipts_of.nd rfl (Or.inl rfl) (pe_c (c_amount_at T) hr (by decide) rfl (pa_cons (pe_ix ix_list (pv 1) (pv 5) (fun _ _ => rfl)) (pa_cons (pe_ix ix_list (pv 2) (pv 5) (fun _ _ => rfl)) pa_nil))))
        (pss_cons (ps_set (i := 7) sc_receipts_of.nd rfl (Or.inl rfl) (pe_c (c_greatest_of T) hr (by decide) rfl (pa_cons (pv 0) (pa_cons (pe_c (c_without T) hr (by decide) rfl (pa_cons (pv 1) (pa_cons (pv 5) pa_nil))) pa_nil))))
        (pss_cons (ps_set (i := 8) sc_receipts_of.nd rfl (Or.inl rfl) (pe_op op_sub (pv 3) (pv 6)))
        (pss_one (ps_expr (pe_bm PySem.F.plainAttrs_list PySem.F.slot_list_append PySem.F.type_list_append mt_append (pv 4)
          (pa_cons (pe_tup (pa_cons (pe_ix ix_list (pv 2) (pv 5) (fun _ _ => rfl)) (pa_cons (pv 6) (pa_cons (pv 7) (pa_cons (pv 8) (pa_cons (pe_op op_sub (pv 7) (pv 8)) pa_nil)))))) pa_nil))))))))
      (pss_one (ps_ret (pv 4)))))), ?_⟩
    obtain ⟨ls, ha, hls⟩ := id hO
    refine ⟨_, rfl, _, rfl, m, a, L, rfl, hm, hO, hL, ok, fun p H1 hp s1 h1 => ?_⟩
    refine ⟨_, rfl, _, rfl, a, p, L, plan L (2 ^ m - 1), best L (2 ^ m - 1), rfl, hO.same s1, h1, plan_length L _, worth_plan L _ ok, fun H2 s2 => ?_⟩
    refine ⟨Nat.zero_le _, fun D hD => ?_⟩
    have s12 := s1.trans s2
    have hD0 := s12.free hD
    have s3 : Same H (L2.upd H2 D (.lst [])) := Same.upd s12 hD0
    have npD : p ≠ D := ne_of_none (s2 _ _ h1) hD
    refine ⟨_, rfl, a, _, rfl, .inl (SqL.of (s3 _ _ ha)), _, rfl, by omega, by rw [List.length_map, hls.len]; omega, ?_⟩
    rw [List.length_map, hls.len, Int.toNat_natCast]
    refine for_range (lo := 0) (n := L.length) (fun i σ H' => (∃ (v5 v6 v7 v8 : Option V), σ = [some (nI m), some (.ref a), some (.ref p), some (.int (best L (2 ^ m - 1))), some (.ref D), v5, v6, v7, v8]) ∧ Same H H' ∧ H' p = some (.lst ((plan L (2 ^ m - 1)).map nI)) ∧
        ∃ rs : List Addr, H' D = some (.lst (rf rs)) ∧ rs.length = i ∧ RecsTo H' rs L (2 ^ m - 1))
      ⟨⟨none, none, none, none, rfl⟩, s3, (upd_ne npD).trans (s2 _ _ h1), [], upd_same, rfl, fun _ _ _ h => by simp at h⟩ ?_ ?_
    · rintro i σ H' hi ⟨⟨v5, v6, v7, v8, rfl⟩, s4, p4, rs, d4, hrl, hrs⟩
      obtain ⟨l, hl⟩ : ∃ l, L[i]? = some l := ⟨L[i], List.getElem?_eq_getElem hi⟩
      obtain ⟨q, hq, hql⟩ := hls.r hl
      obtain ⟨c, rc⟩ := rec_at (full := 2 ^ m - 1) ok hl
      have hpi : ((plan L (2 ^ m - 1)).map nI)[i]? = some (nI c.1) := by rw [List.getElem?_map, rc.pl]; rfl
      have hqi : (rf ls)[i]? = some (V.ref q) := by rw [List.getElem?_map, hq]; rfl
      refine ⟨_, rfl, _, rfl, a, _, _, _, rfl, rfl, SqL.of (s4 _ _ ha), at_of (j := i) (Int.zero_add _) hqi, _, rfl, _, rfl, p, _, _, _, rfl, rfl, SqL.of p4, at_of (j := i) (Int.zero_add _) hpi, q, l, c.1, c.2, rfl, hql.same s4, rc.am, ?_⟩
      refine ⟨_, rfl, _, rfl, _, rfl, a, L, i, ?_, hO.same s4, by omega, hi, fun n H5 hn s5 o5 => ?_⟩
      · show [V.ref a, V.int (0 + (i : Int))] = _
        rw [Int.zero_add]
        rfl
      refine ⟨m, n, L.set i [], rfl, hm, o5, by rw [List.length_set]; exact hL, fun H6 s6 => ?_⟩
      have s56 := s5.trans s6
      refine ⟨_, rfl, _, rfl, _, _, rfl, rfl, ?_⟩
      have d6 := s56 _ _ d4
      refine ⟨_, rfl, .inl ⟨rfl, _, SqL.of d6⟩, _, rfl, _, rfl, p, _, _, _, rfl, rfl, SqL.of (s56 _ _ p4), at_of (j := i) (Int.zero_add _) hpi, _, rfl, _, rfl, _, rfl, _, rfl, _, rfl, _, _, rfl, rfl, (by show 5 ≤ sizeLine; decide), fun t ht => ?_⟩
      have nDt : D ≠ t := ne_of_none d6 ht
      refine ⟨D, _, _, rfl, rfl, (upd_ne nDt).trans d6, ?_, ⟨_, _, _, _, rfl⟩, ?_, ?_, rs ++ [t], ?_, ?_, ?_⟩
      · refine small1000 ?_
        rw [List.length_map, hrl]
        omega
      · exact Same.upd (Same.upd (s4.trans s56) ((s4.trans s56).free ht)) hD0
      · exact (upd_ne npD).trans ((upd_ne (ne_of_none (s56 _ _ p4) ht)).trans (s56 _ _ p4))
      · rw [upd_same]
        show _ = some (HO.lst ((rs ++ [t]).map V.ref))
        rw [List.map_append]
        rfl
      · rw [List.length_append, hrl]
        rfl
      · intro j r l' hr' hl'
        by_cases e : j < rs.length
        · rw [List.getElem?_append_left e] at hr'
          obtain ⟨c', rc', h'⟩ := hrs j r l' hr' hl'
          have h6 := s56 _ _ h'
          exact ⟨c', rc', (upd_ne (ne_of h6 d6 (by intro z; cases z))).trans ((upd_ne (ne_of_none h6 ht)).trans h6)⟩
        · rw [List.getElem?_append_right (by omega)] at hr'
          cases q : j - rs.length with
          | succ k => rw [q] at hr'; simp at hr'
          | zero =>
            rw [q] at hr'
            have er : t = r := Option.some.inj hr'
            have ej : j = i := by omega
            subst ej er
            rw [hl] at hl'
            cases hl'
            exact ⟨c, rc, (upd_ne nDt.symm).trans upd_same⟩
    · rintro σ H' ⟨⟨v5, v6, v7, v8, rfl⟩, s4, p4, rs, d4, hrl, hrs⟩
      exact ⟨_, rfl, hQ D H' hD0 s4 ⟨rs, d4, hrl, hrs⟩⟩
/-! ### pays_of -/
def PaysOk (L : List Lst) (full : Nat) (ps : List Int) : Prop := ps.length = L.length ∧ ∀ (i : Nat) (z : Int) (l : Lst), ps[i]? = some z → L[i]? = some l → ∃ c, RecAt L full i l c ∧ z = best (L.set i []) full - (best L full - c.2)
def spPays : Sp := fun vs H Q _ => ∃ (m : Nat) (a : Addr) (L : List Lst), vs = [nI m, .ref a] ∧ m ≤ 6 ∧ OffsAt H a L ∧ L.length ≤ 3 ∧ (∀ q ∈ L, LOk q) ∧ ∀ p H' ps, H p = none → Same H H' → H' p = some (.lst (ps.map V.int)) → PaysOk L (2 ^ m - 1) ps → Q (.ref p) H'
theorem c_pays_of (T : Tx K mg) : CalT P w K mg base 9 "pays_of" spPays := by
  obtain ⟨fd, F⟩ := T.d_pays_of
  refine cal_of F T.g_pays_of (okD F sc_pays_of (fun vs H Q E h => ?_) (fun cdv A outer s H vs Q E hr h => ?_)) (fun _ _ _ _ _ _ us hl => match us, hl with | [_, _], _ => rfl)
  · obtain ⟨m, a, L, rfl, _⟩ := h
    rfl
  · obtain ⟨m, a, L, rfl, hm, hO, hL, ok, hQ⟩ := h
    refine ⟨_, pss_one (ps_ret (pe_lc (own := [("row", 2)]) (g := gName 2) rfl sc_pays_of.nd (pi_list (pe_c (c_receipts_of T) hr (Nat.le_refl _) rfl (pa_cons (pv 0) (pa_cons (pv 1) pa_nil))))
      (blkOk_by (own := [("row", 2)]) (N := N_pays_of) (sc := defScope s_pays_of) (by decide +kernel))
      (fun _ _ _ _ _ => pg_name (i := 2) sc_pays_of.nd rfl (Or.inl rfl)) (fun _ _ _ _ _ => pts_nil) (fun _ _ _ _ _ => pe_ix (r := rIxT K) ix_tup (pv 2) pe_int (fun _ _ => rfl)))), ?_⟩
    refine ⟨_, rfl, _, rfl, m, a, L, rfl, hm, hO, hL, ok, fun p H1 hp s1 ⟨rs, h1, hrl, hrs⟩ => ⟨p, rfl, ⟨_, SqL.of h1⟩, fun D hD => ?_⟩⟩
    refine lc_list (K := K) (a := p) (xs := rf rs) (fun j H' => Same H1 H' ∧ ∃ ps : List Int, H' D = some (.lst (ps.map V.int)) ∧ ps.length = j ∧ ∀ (i : Nat) (z : Int) (l : Lst), ps[i]? = some z → L[i]? = some l → ∃ c, RecAt L (2 ^ m - 1) i l c ∧ z = best (L.set i []) (2 ^ m - 1) - (best L (2 ^ m - 1) - c.2))
      ⟨Same.new hD, [], upd_same, rfl, fun _ _ _ h => by simp at h⟩ (fun j H' _ hP => SqL.of (hP.1 _ _ h1)) (fun j x H' hx hP => ?_) (fun H' hP => ?_)
    · obtain ⟨r, hr2, rfl⟩ := get_map hx
      obtain ⟨s2, ps, d2, hpl, hps⟩ := hP
      have hj := lt_get hr2
      obtain ⟨l, hl⟩ : ∃ l, L[j]? = some l := ⟨L[j], List.getElem?_eq_getElem (by omega)⟩
      obtain ⟨c, rc, hc⟩ := hrs j r l hr2 hl
      refine ⟨rfl, yesI ?_⟩
      refine ⟨_, rfl, r, _, _, _, rfl, rfl, SqT.of (s2 _ _ hc), atI_nat (j := 4) rfl, _, d2, ?_, Same.upd s2 hD, ps ++ [best (L.set j []) (2 ^ m - 1) - (best L (2 ^ m - 1) - c.2)], ?_, ?_, ?_⟩
      · refine small1000 ?_
        rw [List.length_map, hpl]
        omega
      · rw [upd_same, List.map_append]
        rfl
      · rw [List.length_append, hpl]
        rfl
      · intro i z l' hz hl'
        by_cases e : i < ps.length
        · rw [List.getElem?_append_left e] at hz
          exact hps i z l' hz hl'
        · rw [List.getElem?_append_right (by omega)] at hz
          cases q : i - ps.length with
          | succ k => rw [q] at hz; simp at hz
          | zero =>
            rw [q] at hz
            have er := Option.some.inj hz
            have ej : i = j := by omega
            subst ej
            rw [hl] at hl'
            cases hl'
            exact ⟨c, rc, er.symm⟩
    · obtain ⟨s2, ps, d2, hpl, hps⟩ := hP
      rw [List.length_map, hrl] at hpl
      exact hQ D H' ps (s1.free hD) (s1.trans s2) d2 ⟨hpl, hps⟩
end
end Gv
namespace Gv
open PySem PySem.Spec PyProof.Rows L2
/-! ### sums shared out -/
def mxl (l : List Int) : Int := match l with
  | [] => 0
  | x :: xs => xs.foldl max x
theorem foldmax (xs : List Int) : ∀ x : Int, (xs.foldl max x = x ∨ xs.foldl max x ∈ xs) ∧ x ≤ xs.foldl max x ∧ ∀ y ∈ xs, y ≤ xs.foldl max x := by
  induction xs with
  | nil => exact fun x => ⟨.inl rfl, Int.le_refl _, fun _ h => by cases h⟩
  | cons z zs ih =>
    intro x
    rw [List.foldl_cons]
    obtain ⟨h1, h2, h3⟩ := ih (max x z)
    refine ⟨?_, by omega, fun y hy => ?_⟩
    · rcases h1 with h1 | h1
      · by_cases c : x ≤ z
        · exact .inr (by rw [h1, show max x z = z by omega]; exact List.mem_cons_self)
        · exact .inl (by rw [h1]; omega)
      · exact .inr (List.mem_cons_of_mem _ h1)
    · rcases List.mem_cons.mp hy with rfl | hm
      · omega
      · exact h3 y hm
theorem mxl_mem {l : List Int} (h : 0 < l.length) : mxl l ∈ l := by
  cases l with
  | nil => simp at h
  | cons x xs =>
    rcases (foldmax xs x).1 with e | e
    · show xs.foldl max x ∈ _
      rw [e]; exact List.mem_cons_self
    · exact List.mem_cons_of_mem _ e
theorem mxl_ge {l : List Int} {y : Int} (h : y ∈ l) : y ≤ mxl l := by
  cases l with
  | nil => cases h
  | cons x xs =>
    obtain ⟨_, h2, h3⟩ := foldmax xs x
    rcases List.mem_cons.mp h with rfl | hm
    · exact h2
    · exact h3 y hm
theorem mxl_is {l : List Int} {m : Int} (h : m ∈ l) (hm : ∀ y, y ∈ l → y ≤ m) : m = mxl l := by
  have h1 := hm _ (mxl_mem (List.length_pos_of_mem h))
  have h2 := mxl_ge h
  omega
theorem mem_parts {b p : Nat} : p ∈ parts b ↔ hld b p = true := by
  unfold parts
  rw [List.mem_filter, List.mem_range]
  exact ⟨fun h => h.2, fun h => ⟨by have := hld_le h; omega, h⟩⟩
def shareAt (u v : List Int) (b : Nat) : Int := mxl ((parts b).map fun p => wAt u p + wAt v (b - p))
def sharedL (u v : List Int) : List Int := (List.range u.length).map (shareAt u v)
theorem wAt_map {n : Nat} {f : Nat → Int} {b : Nat} : wAt ((List.range n).map f) b = if b < n then f b else 0 := by
  unfold wAt
  rw [List.getD_eq_getElem?_getD, List.getElem?_map]
  by_cases h : b < n
  · rw [List.getElem?_range h, if_pos h]
    rfl
  · rw [List.getElem?_eq_none (by rw [List.length_range]; omega), if_neg h]
    rfl
theorem shared_ok {m : Nat} {u v : List Int} (hu : WOk m u) (hv : WOk m v) : WOk m (sharedL u v) := by
  have p : 0 < 2 ^ m := Nat.pow_pos (by decide)
  have ne : ∀ b, 0 < ((parts b).map fun p => wAt u p + wAt v (b - p)).length := fun b => by
    rw [List.length_map]
    exact List.length_pos_of_mem (mem_parts.mpr (hld_zero b))
  refine ⟨by unfold sharedL; rw [List.length_map, List.length_range, hu.len], ?_, fun b => ?_⟩
  · unfold sharedL
    rw [wAt_map, if_pos (by rw [hu.len]; exact p)]
    obtain ⟨q, hq, e⟩ := List.mem_map.mp (mxl_mem (ne 0))
    have := hld_le (mem_parts.mp hq)
    have e0 : q = 0 := by omega
    subst e0
    show mxl _ = 0
    rw [← e, hu.zero, hv.zero]
    rfl
  · unfold sharedL
    rw [wAt_map]
    split
    · obtain ⟨q, hq, e⟩ := List.mem_map.mp (mxl_mem (ne b))
      show 0 ≤ mxl _
      rw [← e]
      have := hu.nn q
      have := hv.nn (b - q)
      omega
    · exact Int.le_refl _
def oneL (u v : List Int) : List Int := (List.range u.length).map fun b => max (wAt u b) (wAt v b)
theorem one_ok {m : Nat} {u v : List Int} (hu : WOk m u) (hv : WOk m v) : WOk m (oneL u v) := by
  have p : 0 < 2 ^ m := Nat.pow_pos (by decide)
  refine ⟨by unfold oneL; rw [List.length_map, List.length_range, hu.len], ?_, fun b => ?_⟩
  · unfold oneL
    rw [wAt_map, if_pos (by rw [hu.len]; exact p), hu.zero, hv.zero]
    rfl
  · unfold oneL
    rw [wAt_map]
    have := hu.nn b
    split <;> omega
def zeroW (m : Nat) : List Int := (List.range (2 ^ m)).map fun _ => 0
theorem zero_ok (m : Nat) : WOk m (zeroW m) := by
  refine ⟨by unfold zeroW; rw [List.length_map, List.length_range], ?_, fun b => ?_⟩
  · unfold zeroW; rw [wAt_map]; split <;> rfl
  · unfold zeroW; rw [wAt_map]; split <;> exact Int.le_refl _
def manyW (m k l : Nat) (z : Int) : List Int := (List.range (2 ^ m)).map fun b => if l ≤ (things (b &&& k)).length then z else 0
theorem things0 : things 0 = [] := rfl
theorem many_ok {m k l : Nat} {z : Int} (hl : 0 < l) (hz : 0 ≤ z) : WOk m (manyW m k l z) := by
  refine ⟨by unfold manyW; rw [List.length_map, List.length_range], ?_, fun b => ?_⟩
  · unfold manyW
    rw [wAt_map, Nat.zero_and, things0]
    split
    · rw [if_neg (by simp; omega)]
    · rfl
  · unfold manyW; rw [wAt_map]
    split
    · split <;> omega
    · exact Int.le_refl _
def upW (m k mo : Nat) (e : Int) : List Int := (List.range (2 ^ m)).map fun b => e * min (mo : Int) ((things (b &&& k)).length : Int)
theorem up_ok {m k mo : Nat} {e : Int} (he : 0 ≤ e) : WOk m (upW m k mo e) := by
  refine ⟨by unfold upW; rw [List.length_map, List.length_range], ?_, fun b => ?_⟩
  · unfold upW
    rw [wAt_map, Nat.zero_and, things0]
    split
    · rw [show min (mo : Int) (([] : List Nat).length : Int) = 0 by simp only [List.length_nil]; omega]
      exact Int.mul_zero _
    · rfl
  · unfold upW; rw [wAt_map]
    split
    · exact Int.mul_nonneg he (by omega)
    · exact Int.le_refl _
theorem off_len (w : List Int) : (offOf w).length ≤ w.length := by
  unfold offOf
  rw [List.length_map]
  have := List.length_filter_le (isLeast w) (List.range' 1 (w.length - 1))
  rw [List.length_range'] at this
  omega
theorem nat_max (i j : Int) : (if j > i then j else i) = max i j := maxI i j
section
variable {P : Program} {w : World} {K : PySem.W.Frag} {mg : Str → Option Value} {base : Heap}
/-! ### within -/
def spWithin : Sp := fun vs H Q _ => ∃ (a : Addr) (L : List Lst) (g : Nat), vs = [.ref a, nI g] ∧ OffsAt H a L ∧ L.length ≤ 6 ∧ (∀ l ∈ L, l.length ≤ 64) ∧ ∀ p H', H p = none → Same H H' → OffsAt H' p (L.map (cutL g)) → Q (.ref p) H'
theorem c_within (T : Tx K mg) : CalT P w K mg base 2 "within" spWithin := by
  obtain ⟨fd, F⟩ := T.d_within
  refine cal_of F T.g_within (okD F sc_within (fun vs H Q E h => ?_) (fun cdv A outer s H vs Q E hr h => ?_)) (fun _ _ _ _ _ _ us hl => match us, hl with | [_, _], _ => rfl)
  · obtain ⟨a, L, g, rfl, _⟩ := h
    rfl
  · obtain ⟨a, L, g, rfl, hO, hL, h64, hQ⟩ := h
    refine ⟨_, pss_cons (ps_set (i := 2) sc_within.nd rfl (Or.inl rfl) (pe_lst pa_nil))
      (pss_cons (ps_for PassesOwn.never rfl (pi_list (pv 0)) (pg_name (i := 3) sc_within.nd rfl (Or.inl rfl))
        (pss_one (ps_expr (pe_bm PySem.F.plainAttrs_list PySem.F.slot_list_append PySem.F.type_list_append mt_append (pv 2)
          (pa_cons (pe_lc (own := [("offer", 4)]) (g := gName 4) rfl sc_within.nd (pi_list (pv 3))
            (blkOk_by (own := [("offer", 4)]) (N := N_within) (sc := defScope s_within) (by decide +kernel))
            (fun _ _ _ _ _ => pg_name (i := 4) sc_within.nd rfl (Or.inl rfl)) (fun _ _ _ _ _ => pts_one (pt_val (pe_c (c_holds T) hr (Nat.le_refl _) rfl (pa_cons (pv 1) (pa_cons (pe_ix (r := rIxT K) ix_tup (pv 4) pe_int (fun _ _ => rfl)) pa_nil)))))
            (fun _ _ _ _ _ => pv 4)) pa_nil)))))
      (pss_one (ps_ret (pv 2)))), ?_⟩
    obtain ⟨ls, ha, hls⟩ := id hO
    refine ⟨Nat.zero_le _, fun M hM => ?_⟩
    refine ⟨_, rfl, a, rfl, ⟨_, SqL.of ((Same.new hM) _ _ ha)⟩, for_list (K := K) (a := a) (xs := rf ls) (fun i σ H' => (∃ v : Option V, σ = [some (.ref a), some (nI g), some (.ref M), v, none]) ∧ Same H H' ∧
        ∃ ms : List Addr, H' M = some (.lst (rf ms)) ∧ Each (fun p l => OffAt H' p l ∧ p ≠ M) ms ((L.take i).map (cutL g)))
      ⟨⟨none, rfl⟩, Same.new hM, [], upd_same, .nil⟩ (fun i σ H' _ hP => hP.2.1.seq (SqL.of ha)) ?_ ?_⟩
    · rintro i x σ H' hx ⟨⟨v, rfl⟩, s1, ms, m1, e1⟩
      obtain ⟨q, hq, rfl⟩ := get_map hx
      obtain ⟨l, hl, ts, hqt, hte⟩ := hls.l hq
      have hl64 := h64 l (List.mem_of_getElem? hl)
      refine ⟨_, rfl, .inl ⟨rfl, _, SqL.of m1⟩, _, rfl, q, rfl, ⟨_, SqL.of (s1 _ _ hqt)⟩, fun D hD => ?_⟩
      have nMD : M ≠ D := ne_of_none m1 hD
      refine lc_list (K := K) (a := q) (xs := rf ts) (fun j H2 => Same H' H2 ∧ ∃ us : List Addr, H2 D = some (.lst (rf us)) ∧ Each (TupAt H2) us (cutL g (l.take j)))
        ⟨Same.new hD, [], upd_same, .nil⟩ (fun j H2 _ hP => SqL.of (hP.1 _ _ (s1 _ _ hqt))) (fun j x H2 hx2 hP => ?_) (fun H2 hP => ?_)
      · obtain ⟨t, ht, rfl⟩ := get_map hx2
        obtain ⟨o, ho, hto⟩ := hte.l ht
        obtain ⟨s2, us, d2, e2⟩ := hP
        have hto2 := s2 _ _ (s1 _ _ hto)
        refine ⟨rfl, _, rfl, _, rfl, t, _, _, _, rfl, rfl, SqT.of hto2, atI_nat (j := 0) rfl, g, o.1, rfl, _, rfl, ?_⟩
        have ec : cutL g (l.take (j + 1)) = cutL g (l.take j) ++ if hld g o.1 = true then [o] else [] := by
          rw [take_more ho]
          unfold cutL
          rw [List.filter_append]
          congr 1
          cases c : hld g o.1 <;> simp [c]
        cases c : hld g o.1 with
        | true =>
          rw [c, if_pos rfl] at ec
          refine iteT ⟨_, rfl, _, d2, ?_, Same.upd s2 hD, us ++ [t], ?_, ?_⟩
          · refine small1000 ?_
            rw [List.length_map, e2.len]
            have h1 : (cutL g (l.take j)).length ≤ (l.take j).length := List.length_filter_le _ _
            rw [List.length_take] at h1
            omega
          · rw [upd_same]
            show _ = some (HO.lst ((us ++ [t]).map V.ref))
            rw [List.map_append]
            rfl
          · rw [ec]
            exact (e2.imp fun u o' r => (upd_ne (ne_of r d2 (by intro z; cases z))).trans r).snoc ((upd_ne (ne_of hto2 d2 (by intro z; cases z))).trans hto2)
        | false =>
          rw [c, if_neg Bool.false_ne_true, List.append_nil] at ec
          refine iteF ⟨s2, us, d2, ?_⟩
          rw [ec]
          exact e2
      · obtain ⟨s2, us, d2, e2⟩ := hP
        rw [List.length_map, hte.len, List.take_length] at e2
        have m2 := s2 _ _ m1
        refine ⟨M, _, _, rfl, rfl, m2, ?_, ⟨_, rfl⟩, Same.upd (s1.trans s2) hM, ms ++ [D], ?_, ?_⟩
        · refine small1000 ?_
          rw [List.length_map, e1.len, List.length_map, List.length_take]
          omega
        · rw [upd_same]
          show _ = some (HO.lst ((ms ++ [D]).map V.ref))
          rw [List.map_append]
          rfl
        · rw [take_more hl, List.map_append]
          exact (e1.imp fun p l' h => ⟨(h.1.same s2).upd h.2 m2, h.2⟩).snoc ⟨OffAt.upd ⟨us, d2, e2⟩ nMD.symm m2, nMD.symm⟩
    · rintro σ H' ⟨⟨v, rfl⟩, s1, ms, m1, e1⟩
      rw [List.length_map, hls.len, List.take_length] at e1
      exact ⟨_, rfl, hQ M H' hM s1 ⟨ms, m1, e1.imp fun p l h => h.1⟩⟩
/-! ### ticket_prices -/
theorem best_cut {full b : Nat} (h : hld full b = true) (L : List Lst) : best (L.map (cutL (full - b))) full = best L (full - b) := by
  rw [best_within, hld_iff.mp (hld_sub h)]
def tickets (m : Nat) (O : List Lst) : List Int := (List.range (2 ^ m)).map fun b => ticket O (2 ^ m - 1) b
def spTick : Sp := fun vs H Q _ => ∃ (m : Nat) (a : Addr) (L : List Lst) (i : Nat), vs = [nI m, .ref a, nI i] ∧ m ≤ 6 ∧ OffsAt H a L ∧ L.length ≤ 3 ∧ i < L.length ∧ (∀ l ∈ L, l.length ≤ 64) ∧ New H (.lst ((tickets m (L.set i [])).map V.int)) Q
theorem c_ticket_prices (T : Tx K mg) : CalT P w K mg base 7 "ticket_prices" spTick := by
  obtain ⟨fd, F⟩ := T.d_ticket_prices
  refine cal_of F T.g_ticket_prices (okD F sc_ticket_prices (fun vs H Q E h => ?_) (fun cdv A outer s H vs Q E hr h => ?_)) (fun _ _ _ _ _ _ us hl => match us, hl with | [_, _, _], _ => rfl)
  · obtain ⟨m, a, L, i, rfl, _⟩ := h
    rfl
  · obtain ⟨m, a, L, i, rfl, hm, hO, hL, hi, h64, hQ⟩ := h
    refine ⟨_, pss_cons (ps_set (i := 3) sc_ticket_prices.nd rfl (Or.inr rfl) (pe_c (c_without T) hr (by decide) rfl (pa_cons (pv 1) (pa_cons (pv 2) pa_nil))))
      (pss_cons (ps_set (i := 4) sc_ticket_prices.nd rfl (Or.inr rfl) (pe_c (c_greatest_of T) hr (by decide) rfl (pa_cons (pv 0) (pa_cons (pv 3) pa_nil))))
      (pss_cons (ps_set (i := 5) sc_ticket_prices.nd rfl (Or.inr rfl) (pe_op op_sub (pe_op op_shl pe_int (pv 0)) pe_int))
      (pss_one (ps_ret (pe_lc (own := [("bundle", 6)]) (g := gName 6) rfl sc_ticket_prices.nd (pi_range1 rfl T.n_range (pa_cons (pe_op op_add (pv 5) pe_int) pa_nil))
        (blkOk_by (own := [("bundle", 6)]) (N := N_ticket_prices) (sc := defScope s_ticket_prices) (by decide +kernel))
        (fun _ _ _ _ _ => pg_name (i := 6) sc_ticket_prices.nd rfl (Or.inl rfl)) (fun _ _ _ _ _ => pts_nil)
        (fun _ _ _ _ _ => pe_op op_sub (pv 4) (pe_c (c_greatest_of T) hr (by decide) rfl (pa_cons (pv 0) (pa_cons (pe_c (c_within T) hr (by decide) rfl (pa_cons (pv 3) (pa_cons (pe_op op_sub (pv 5) (pv 6)) pa_nil))) pa_nil)))))))))
      , ?_⟩
    have p2 : 0 < 2 ^ m := Nat.pow_pos (by decide)
    have p64 := pow64 hm
    refine ⟨_, rfl, _, rfl, a, L, i, rfl, hO, by omega, hi, fun o H1 ho s1 o1 => ?_⟩
    have hL1 : (L.set i []).length ≤ 3 := by rw [List.length_set]; exact hL
    have h641 : ∀ l ∈ L.set i [], l.length ≤ 64 := fun l hl => by
      rcases List.mem_or_eq_of_mem_set hl with h | rfl
      · exact h64 l h
      · exact Nat.zero_le _
    refine ⟨_, rfl, _, rfl, m, o, L.set i [], rfl, hm, o1, hL1, fun H2 s2 => ?_⟩
    refine ⟨_, rfl, _, _, rfl, rfl, ⟨by omega, by omega, by decide⟩, _, _, rfl, rfl, ?_⟩
    refine ⟨_, rfl, _, _, rfl, rfl, _, rfl, by rw [fullI]; omega, by rw [fullI]; omega, fun D hD => ?_⟩
    have en : ((1 : Int) * 2 ^ ((m : Int).toNat) - 1 + 1).toNat = 2 ^ m := by rw [fullI]; omega
    rw [en]
    have s12 := s1.trans s2
    have hD0 := s12.free hD
    refine lc_range (lo := 0) (n := 2 ^ m) (fun j H' => Same H2 H' ∧ H' D = some (.lst (((List.range j).map fun b => ticket (L.set i []) (2 ^ m - 1) b).map V.int)))
      ⟨Same.new hD, upd_same⟩ (fun j H' hj hP => ?_) (fun H' hP => hQ D H' hD0 (s12.trans hP.1) hP.2)
    obtain ⟨s3, d3⟩ := hP
    refine ⟨rfl, yesI ?_⟩
    have hb := hld_full hj
    have hle := hld_le hb
    refine ⟨_, rfl, _, rfl, _, rfl, _, rfl, _, rfl, _, _, rfl, rfl, o, L.set i [], 2 ^ m - 1 - j, ?_, (o1.same s2).same s3, by omega, h641, fun q H4 hq s4 q4 => ?_⟩
    · show [V.ref o, V.int ((1 : Int) * 2 ^ ((m : Int).toNat) - 1 - (0 + (j : Int)))] = _
      rw [fullI, show ((2 ^ m - 1 : Nat) : Int) - (0 + (j : Int)) = ((2 ^ m - 1 - j : Nat) : Int) by omega]
      rfl
    · refine ⟨m, q, _, rfl, hm, q4, by rw [List.length_map]; exact hL1, fun H5 s5 => ?_⟩
      refine ⟨_, _, rfl, rfl, _, (s4.trans s5) _ _ d3, ?_, Same.upd ((s3.trans s4).trans s5) hD, ?_⟩
      · refine small1000 ?_
        rw [List.length_map, List.length_map, List.length_range]
        omega
      · rw [upd_same, range_more, List.map_append, List.map_append, best_cut hb]
        rfl
/-! ### checked -/
def spChk : Sp := fun vs H Q _ => ∃ n lo hi : Int, vs = [.int n, .int lo, .int hi] ∧ lo ≤ n ∧ n ≤ hi ∧ Q (.int n) H
theorem c_checked (T : Tx K mg) : CalT P w K mg base 2 "checked" spChk := by
  obtain ⟨fd, F⟩ := T.d_checked
  refine cal_of F T.g_checked (okD F sc_checked (fun vs H Q E h => ?_) (fun cdv A outer s H vs Q E hr h => ?_)) (fun _ _ _ _ _ _ us hl => match us, hl with | [_, _, _], _ => rfl)
  · obtain ⟨n, lo, hi, rfl, _⟩ := h
    rfl
  · obtain ⟨n, lo, hi, rfl, h1, h2, hQ⟩ := h
    refine ⟨_, pss_cons (ps_if (PW.pt (pw_or (pt_not (pt_val (pe_c (c_is_whole T) hr (Nat.le_refl _) rfl (pa_cons (pv 0) pa_nil)))) (pw_or (pt_cmpR op_lt (pv 0) (pv 1) (nomark _)) (pw_or1 (pt_cmpR op_gt (pv 0) (pv 2) (nomark _)))))) pss_never pss_nil)
      (pss_one (ps_ret (pv 0))), ?_⟩
    refine ⟨_, rfl, n, rfl, _, rfl, iteF ⟨_, rfl, _, rfl, _, _, rfl, rfl, _, rfl, ite2 (fun z => ?_) (fun z => ?_)⟩⟩
    · have := of_decide_eq_true z
      omega
    · refine ⟨_, rfl, _, rfl, _, _, rfl, rfl, _, rfl, ite2 (fun z => ?_) (fun z => ⟨_, rfl, hQ⟩)⟩
      have := of_decide_eq_true z
      omega
/-! ### shared -/
def spShared : Sp := fun vs H Q _ => ∃ (a b : Addr) (u v : List Int), vs = [.ref a, .ref b] ∧ H a = some (.lst (u.map V.int)) ∧ H b = some (.lst (v.map V.int)) ∧ u.length = v.length ∧ u.length ≤ 64 ∧ New H (.lst ((sharedL u v).map V.int)) Q
theorem c_shared (T : Tx K mg) : CalT P w K mg base 3 "shared" spShared := by
  obtain ⟨fd, F⟩ := T.d_shared
  refine cal_of F T.g_shared (okD F sc_shared (fun vs H Q E h => ?_) (fun cdv A outer s H vs Q E hr h => ?_)) (fun _ _ _ _ _ _ us hl => match us, hl with | [_, _], _ => rfl)
  · obtain ⟨a, b, u, v, rfl, _⟩ := h
    rfl
  · obtain ⟨a, b, u, v, rfl, ha, hb, hl, h64, hQ⟩ := h
    refine ⟨_, pss_cons (ps_set (i := 2) sc_shared.nd rfl (Or.inl rfl) (pe_lst pa_nil))
      (pss_cons (ps_for PassesOwn.never rfl (pi_range1 rfl T.n_range (pa_cons (pe_callB call_len_seq rfl T.n_len PySem.boot_len (pa_cons (pv 0) pa_nil)) pa_nil)) (pg_name (i := 3) sc_shared.nd rfl (Or.inr rfl))
        (pss_one (ps_expr (pe_bm PySem.F.plainAttrs_list PySem.F.slot_list_append PySem.F.type_list_append mt_append (pv 2)
          (pa_cons (pe_callB (cr_max rfl) rfl T.n_max (by decide +kernel) (pa_cons (pe_lc (own := [("part", 4)]) (g := gName 4) rfl sc_shared.nd (pi_list (pe_c (c_parts_of T) hr (Nat.le_refl _) rfl (pa_cons (pv 3) pa_nil)))
            (blkOk_by (own := [("part", 4)]) (N := N_shared) (sc := defScope s_shared) (by decide +kernel))
            (fun _ _ _ _ _ => pg_name (i := 4) sc_shared.nd rfl (Or.inl rfl)) (fun _ _ _ _ _ => pts_nil)
            (fun _ _ _ _ _ => pe_op op_add (pe_ix (r := rIxL K) ix_list (pv 0) (pv 4) (fun _ _ => rfl)) (pe_ix (r := rIxL K) ix_list (pv 1) (pe_op op_sub (pv 3) (pv 4)) (fun _ _ => rfl)))) pa_nil)) pa_nil)))))
      (pss_one (ps_ret (pv 2)))), ?_⟩
    refine ⟨Nat.zero_le _, fun M hM => ?_⟩
    have s1 : Same H (L2.upd H M (.lst [])) := Same.new hM
    refine ⟨_, rfl, a, _, rfl, .inl (SqL.of (s1 _ _ ha)), _, rfl, by omega, by rw [List.length_map]; omega, ?_⟩
    rw [List.length_map, Int.toNat_natCast]
    refine for_range (lo := 0) (n := u.length) (fun i σ H' => (∃ v3 : Option V, σ = [some (.ref a), some (.ref b), some (.ref M), v3, none]) ∧ Same H H' ∧ H' M = some (.lst (((List.range i).map (shareAt u v)).map V.int)))
      ⟨⟨none, rfl⟩, s1, upd_same⟩ ?_ ?_
    · rintro i σ H' hi ⟨⟨v3, rfl⟩, s2, m2⟩
      refine ⟨_, rfl, .inl ⟨rfl, _, SqL.of m2⟩, _, rfl, i, by rw [Int.zero_add]; rfl, by omega, fun p H3 hp s3 h3 => ?_⟩
      refine ⟨p, rfl, ⟨_, SqL.of h3⟩, fun D hD => ?_⟩
      refine lc_list (K := K) (a := p) (xs := (parts i).map nI) (fun j H4 => Same H3 H4 ∧ H4 D = some (.lst ((((parts i).take j).map fun q => wAt u q + wAt v (i - q)).map V.int)))
        ⟨Same.new hD, upd_same⟩ (fun j H4 _ hP => SqL.of (hP.1 _ _ h3)) (fun j x H4 hx hP => ?_) (fun H4 hP => ?_)
      · obtain ⟨q, hq, rfl⟩ := get_map hx
        obtain ⟨s4, d4⟩ := hP
        have hqi := hld_le (mem_parts.mp (List.mem_of_getElem? hq))
        have s24 := (s2.trans s3).trans s4
        refine ⟨rfl, yesI ?_⟩
        refine ⟨_, rfl, _, rfl, a, _, _, _, rfl, rfl, SqL.of (s24 _ _ ha), atI_nat (wAt_get (by omega)), _, rfl, _, rfl, _, rfl, _, _, rfl, rfl, b, _, _, _, rfl, rfl, SqL.of (s24 _ _ hb), at_of (j := i - q) (by omega) (wAt_get (by omega)), _, _, rfl, rfl, _, d4, ?_, Same.upd s4 hD, ?_⟩
        · refine small1000 ?_
          rw [List.length_map, List.length_map, List.length_take]
          have h1 : (parts i).length ≤ (List.range (i + 1)).length := List.length_filter_le _ _
          rw [List.length_range] at h1
          omega
        · rw [upd_same, take_more hq, List.map_append, List.map_append]
          rfl
      · obtain ⟨s4, d4⟩ := hP
        rw [List.length_map, List.take_length] at d4
        refine ⟨D, _, rfl, SqL.of d4, ?_, fun mx h1 h2 => ?_⟩
        · rw [List.length_map]
          exact List.length_pos_of_mem (mem_parts.mpr (hld_zero i))
        · have e := mxl_is h1 h2
          have s34 := s3.trans s4
          refine ⟨M, _, _, rfl, rfl, s34 _ _ m2, ?_, ⟨_, rfl⟩, Same.upd (s2.trans s34) hM, ?_⟩
          · refine small1000 ?_
            rw [List.length_map, List.length_map, List.length_range]
            omega
          · rw [upd_same, range_more, List.map_append, List.map_append, e]
            rfl
    · rintro σ H' ⟨⟨v3, rfl⟩, s2, m2⟩
      exact ⟨_, rfl, hQ M H' hM s2 m2⟩
end
end Gv
namespace Gv
open PySem PySem.Spec PyProof.Rows L2
/-! ### bids in the heap -/
theorem lk_hit (f : Str) (v : V) (fs : List (Str × V)) : (putF f v fs).lookup f = some v := by rw [lookup_putF, if_pos rfl]
theorem lk_miss {f g : Str} (v : V) (fs : List (Str × V)) (h : ¬ g = f) : (putF f v fs).lookup g = fs.lookup g := by rw [lookup_putF, if_neg h]
def fOnly (b : Nat) (z : Int) : List (Str × V) := putF "amount" (.int z) (putF "bundle" (nI b) [])
def fMany (k l : Nat) (z : Int) : List (Str × V) := putF "amount" (.int z) (putF "least" (nI l) (putF "kind" (nI k) []))
def fUp (k mo : Nat) (e : Int) : List (Str × V) := putF "each" (.int e) (putF "most" (nI mo) (putF "kind" (nI k) []))
def fSev (l : Addr) : List (Str × V) := putF "listed" (.ref l) []
inductive BidAt (K : PySem.W.Frag) (m : Nat) (H : Hp) : Nat → Addr → List Int → Nat → Prop
  | bid {d : Nat} {a dx : Addr} (h : H a = some (.ins (ga K "Bid") dx [])) : BidAt K m H (d + 1) a (zeroW m) 1
  | only {d : Nat} {a dx : Addr} {b : Nat} {z : Int} (h : H a = some (.ins (ga K "Only") dx (fOnly b z))) (hb : 1 ≤ b ∧ b ≤ 63) (hz : 0 ≤ z ∧ z ≤ 1000000000) : BidAt K m H (d + 1) a (onlyW m b z) 1
  | many {d : Nat} {a dx : Addr} {k l : Nat} {z : Int} (h : H a = some (.ins (ga K "SoMany") dx (fMany k l z))) (hk : 1 ≤ k ∧ k ≤ 63) (hl : 1 ≤ l ∧ l ≤ 6) (hz : 0 ≤ z ∧ z ≤ 1000000000) : BidAt K m H (d + 1) a (manyW m k l z) 1
  | up {d : Nat} {a dx : Addr} {k mo : Nat} {e : Int} (h : H a = some (.ins (ga K "UpTo") dx (fUp k mo e))) (hk : 1 ≤ k ∧ k ≤ 63) (hm : 1 ≤ mo ∧ mo ≤ 6) (he : 0 ≤ e ∧ e ≤ 1000000000) : BidAt K m H (d + 1) a (upW m k mo e) 1
  | any {d : Nat} {a dx l : Addr} {ps : List Addr} {Ws : List (List Int)} {ts : List Nat} (h : H a = some (.ins (ga K "AnyOf") dx (fSev l))) (hl : H l = some (.lst (rf ps))) (lw : ps.length = Ws.length) (lt : ps.length = ts.length) (h4 : ps.length ≤ 24)
      (e : ∀ (i : Nat) (p : Addr) (W : List Int) (t : Nat), ps[i]? = some p → Ws[i]? = some W → ts[i]? = some t → BidAt K m H d p W t) : BidAt K m H (d + 1) a (Ws.foldl sharedL (zeroW m)) (1 + ts.sum)
  | one {d : Nat} {a dx l : Addr} {ps : List Addr} {Ws : List (List Int)} {ts : List Nat} (h : H a = some (.ins (ga K "OneOf") dx (fSev l))) (hl : H l = some (.lst (rf ps))) (lw : ps.length = Ws.length) (lt : ps.length = ts.length) (h4 : ps.length ≤ 24)
      (e : ∀ (i : Nat) (p : Addr) (W : List Int) (t : Nat), ps[i]? = some p → Ws[i]? = some W → ts[i]? = some t → BidAt K m H d p W t) : BidAt K m H (d + 1) a (Ws.foldl oneL (zeroW m)) (1 + ts.sum)
def isC (K : PySem.W.Frag) (C : Addr) : Prop := ∃ c ∈ kits, C = ga K c
section
variable {K : PySem.W.Frag} {m : Nat} {H H' : Hp} {d d' t : Nat} {a : Addr} {W : List Int}
theorem BidAt.same (s : Same H H') (h : BidAt K m H d a W t) : BidAt K m H' d a W t := by
  induction h with
  | bid h => exact .bid (s _ _ h)
  | only h hb hz => exact .only (s _ _ h) hb hz
  | many h hk hl hz => exact .many (s _ _ h) hk hl hz
  | up h hk hm he => exact .up (s _ _ h) hk hm he
  | any h hl lw lt h4 e ih => exact .any (s _ _ h) (s _ _ hl) lw lt h4 ih
  | one h hl lw lt h4 e ih => exact .one (s _ _ h) (s _ _ hl) lw lt h4 ih
theorem BidAt.up_ (h : BidAt K m H d a W t) : ∀ {d' : Nat}, d ≤ d' → BidAt K m H d' a W t := by
  induction h with
  | bid h => intro d' hd; obtain ⟨n, rfl⟩ : ∃ n, d' = n + 1 := ⟨d' - 1, by omega⟩; exact .bid h
  | only h hb hz => intro d' hd; obtain ⟨n, rfl⟩ : ∃ n, d' = n + 1 := ⟨d' - 1, by omega⟩; exact .only h hb hz
  | many h hk hl hz => intro d' hd; obtain ⟨n, rfl⟩ : ∃ n, d' = n + 1 := ⟨d' - 1, by omega⟩; exact .many h hk hl hz
  | up h hk hm he => intro d' hd; obtain ⟨n, rfl⟩ : ∃ n, d' = n + 1 := ⟨d' - 1, by omega⟩; exact .up h hk hm he
  | any h hl lw lt h4 e ih => intro d' hd; obtain ⟨n, rfl⟩ : ∃ n, d' = n + 1 := ⟨d' - 1, by omega⟩; exact .any h hl lw lt h4 fun i p W t h1 h2 h3 => ih i p W t h1 h2 h3 (by omega)
  | one h hl lw lt h4 e ih => intro d' hd; obtain ⟨n, rfl⟩ : ∃ n, d' = n + 1 := ⟨d' - 1, by omega⟩; exact .one h hl lw lt h4 fun i p W t h1 h2 h3 => ih i p W t h1 h2 h3 (by omega)
theorem foldl_ok {f : List Int → List Int → List Int} (hf : ∀ u v, WOk m u → WOk m v → WOk m (f u v)) : ∀ (Ws : List (List Int)) (z : List Int), WOk m z → (∀ W ∈ Ws, WOk m W) → WOk m (Ws.foldl f z)
  | [], z, hz, _ => hz
  | W :: Ws, z, hz, h => foldl_ok hf Ws (f z W) (hf _ _ hz (h W List.mem_cons_self)) fun X hX => h X (List.mem_cons_of_mem _ hX)
theorem each_ok {ps : List Addr} {Ws : List (List Int)} {ts : List Nat} (lw : ps.length = Ws.length) (lt : ps.length = ts.length) (ih : ∀ (i : Nat) (p : Addr) (W : List Int) (t : Nat), ps[i]? = some p → Ws[i]? = some W → ts[i]? = some t → WOk m W) : ∀ W ∈ Ws, WOk m W := fun W hW => by
  obtain ⟨i, hi, e⟩ := List.mem_iff_getElem.mp hW
  exact ih i (ps[i]'(by omega)) W (ts[i]'(by omega)) (List.getElem?_eq_getElem _) (by rw [List.getElem?_eq_getElem hi, e]) (List.getElem?_eq_getElem _)
theorem BidAt.ok (h : BidAt K m H d a W t) : WOk m W := by
  induction h with
  | bid h => exact zero_ok m
  | only h hb hz => exact only_ok hb.1 hz.1
  | many h hk hl hz => exact many_ok hl.1 hz.1
  | up h hk hm he => exact up_ok he.1
  | any h hl lw lt h4 e ih => exact foldl_ok (fun u v => shared_ok) _ _ (zero_ok m) (each_ok lw lt ih)
  | one h hl lw lt h4 e ih => exact foldl_ok (fun u v => one_ok) _ _ (zero_ok m) (each_ok lw lt ih)
theorem BidAt.pos (h : BidAt K m H d a W t) : 1 ≤ d ∧ 1 ≤ t := by
  cases h <;> exact ⟨by omega, by omega⟩
theorem in_kits {c : Str} (h : kits.contains c = true) : c ∈ kits := by simpa using h
/-- no field is called like a method -/
def noM (fs : List (Str × V)) : Prop := fs.lookup ("worths" : Str) = none ∧ fs.lookup ("depth" : Str) = none ∧ fs.lookup ("tally" : Str) = none
theorem noM_nil : noM [] := ⟨rfl, rfl, rfl⟩
theorem noM_put {f : Str} {v : V} {fs : List (Str × V)} (h : noM fs) (h1 : ¬ ("worths" : Str) = f) (h2 : ¬ ("depth" : Str) = f) (h3 : ¬ ("tally" : Str) = f) : noM (putF f v fs) :=
  ⟨(lk_miss v fs h1).trans h.1, (lk_miss v fs h2).trans h.2.1, (lk_miss v fs h3).trans h.2.2⟩
theorem noM_sev (l : Addr) : noM (fSev l) := noM_put noM_nil (by decide +kernel) (by decide +kernel) (by decide +kernel)
theorem BidAt.cls (h : BidAt K m H d a W t) : ∃ C dx fs, H a = some (.ins C dx fs) ∧ isC K C ∧ noM fs := by
  cases h with
  | bid h => exact ⟨_, _, _, h, ⟨"Bid", in_kits (by decide +kernel), rfl⟩, noM_nil⟩
  | only h hb hz => exact ⟨_, _, _, h, ⟨"Only", in_kits (by decide +kernel), rfl⟩, noM_put (noM_put noM_nil (by decide +kernel) (by decide +kernel) (by decide +kernel)) (by decide +kernel) (by decide +kernel) (by decide +kernel)⟩
  | many h hk hl hz => exact ⟨_, _, _, h, ⟨"SoMany", in_kits (by decide +kernel), rfl⟩, noM_put (noM_put (noM_put noM_nil (by decide +kernel) (by decide +kernel) (by decide +kernel)) (by decide +kernel) (by decide +kernel) (by decide +kernel)) (by decide +kernel) (by decide +kernel) (by decide +kernel)⟩
  | up h hk hm he => exact ⟨_, _, _, h, ⟨"UpTo", in_kits (by decide +kernel), rfl⟩, noM_put (noM_put (noM_put noM_nil (by decide +kernel) (by decide +kernel) (by decide +kernel)) (by decide +kernel) (by decide +kernel) (by decide +kernel)) (by decide +kernel) (by decide +kernel) (by decide +kernel)⟩
  | any h hl lw lt h4 e => exact ⟨_, _, _, h, ⟨"AnyOf", in_kits (by decide +kernel), rfl⟩, noM_sev _⟩
  | one h hl lw lt h4 e => exact ⟨_, _, _, h, ⟨"OneOf", in_kits (by decide +kernel), rfl⟩, noM_sev _⟩
end
section
variable {P : Program} {w : World} {K : PySem.W.Frag} {mg : Str → Option Value} {base : Heap} {m : Nat}
/-- the classes' addresses differ -/
theorem Tx.ne (T : Tx K mg) {i j : Nat} {c e : Str} (hi : kits[i]? = some c) (hj : kits[j]? = some e) (h : ga K c = ga K e) : i = j := by
  have h1 : (kits.map (He.ga K))[i]? = some (ga K c) := by rw [List.getElem?_map, hi]; rfl
  have h2 : (kits.map (He.ga K))[j]? = some (ga K c) := by rw [List.getElem?_map, hj, h]; rfl
  exact nd_ix T.nd h1 h2
theorem Tx.cl (T : Tx K mg) {c : Str} (h : c ∈ kits) : Cls K (ga K c) := by
  unfold kits at h
  simp only [List.mem_cons, List.not_mem_nil, or_false] at h
  rcases h with rfl | rfl | rfl | rfl | rfl | rfl
  · exact T.c_Bid
  · exact T.c_Only
  · exact T.c_SoMany
  · exact T.c_UpTo
  · exact T.c_AnyOf
  · exact T.c_OneOf
theorem ins_inj {H : Hp} {a C C' dx dx' : Addr} {fs fs' : List (Str × V)} (h : H a = some (.ins C dx fs)) (h' : H a = some (.ins C' dx' fs')) : C = C' ∧ dx = dx' ∧ fs = fs' := by
  rw [h] at h'
  have e := Option.some.inj h'
  injection e with e1 e2 e3
  exact ⟨e1, e2, e3⟩
/-- a bid of bids, at its list -/
structure SevAt (K : PySem.W.Frag) (m : Nat) (H : Hp) (d : Nat) (a C : Addr) (t : Nat) : Prop where
  ex : ∃ (dx l : Addr) (ps : List Addr) (Ws : List (List Int)) (ts : List Nat), H a = some (.ins C dx (fSev l)) ∧ H l = some (.lst (rf ps)) ∧ ps.length = Ws.length ∧ ps.length = ts.length ∧ ps.length ≤ 24 ∧ t = 1 + ts.sum ∧
    ∀ (i : Nat) (p : Addr) (W : List Int) (t : Nat), ps[i]? = some p → Ws[i]? = some W → ts[i]? = some t → BidAt K m H d p W t
theorem BidAt.sev (T : Tx K mg) {H : Hp} {d t : Nat} {a C dx : Addr} {W : List Int} {fs : List (Str × V)} (h : BidAt K m H (d + 1) a W t) (ha : H a = some (.ins C dx fs)) (hC : C = ga K "AnyOf" ∨ C = ga K "OneOf") : SevAt K m H d a C t := by
  have no : ∀ (i : Nat) (c : Str), kits[i]? = some c → i < 4 → C ≠ ga K c := by
    intro i c hi h4 e
    rcases hC with h1 | h1
    · have := T.ne hi (show kits[4]? = some ("AnyOf" : Str) from rfl) (e.symm.trans h1)
      omega
    · have := T.ne hi (show kits[5]? = some ("OneOf" : Str) from rfl) (e.symm.trans h1)
      omega
  cases h with
  | bid h => exact (no 0 _ rfl (by decide) (ins_inj ha h).1).elim
  | only h hb hz => exact (no 1 _ rfl (by decide) (ins_inj ha h).1).elim
  | many h hk hl hz => exact (no 2 _ rfl (by decide) (ins_inj ha h).1).elim
  | up h hk hm he => exact (no 3 _ rfl (by decide) (ins_inj ha h).1).elim
  | any h hl lw lt h4 e =>
    rw [← (ins_inj ha h).1] at h
    exact ⟨_, _, _, _, _, h, hl, lw, lt, h4, rfl, e⟩
  | one h hl lw lt h4 e =>
    rw [← (ins_inj ha h).1] at h
    exact ⟨_, _, _, _, _, h, hl, lw, lt, h4, rfl, e⟩
/-! ### depth, tally -/
def spDepth (K : PySem.W.Frag) (m d : Nat) (C : Addr) : Sp := fun vs H Q _ => ∃ (a dx : Addr) (fs : List (Str × V)) (W : List Int) (t : Nat), vs = [.ref a] ∧ H a = some (.ins C dx fs) ∧ BidAt K m H d a W t ∧ ∀ (k : Nat) H', 1 ≤ k → k ≤ d → Same H H' → Q (nI k) H'
def spTally (K : PySem.W.Frag) (m d : Nat) (C : Addr) : Sp := fun vs H Q _ => ∃ (a dx : Addr) (fs : List (Str × V)) (W : List Int) (t : Nat), vs = [.ref a] ∧ H a = some (.ins C dx fs) ∧ BidAt K m H d a W t ∧ ∀ (k : Nat) H', 1 ≤ k → k ≤ t → Same H H' → Q (nI k) H'
theorem o_Bid_depth (T : Tx K mg) {fd : FuncData} (F : FunD K "depth" "Bid.depth" (defArgs s_Bid_depth) (defBody s_Bid_depth) (defScope s_Bid_depth) [] [] (He.ma K (ga K "Bid") "depth") fd) (d : Nat) (C : Addr) :
    FnOk P w K mg base CX0 1 (He.ma K (ga K "Bid") "depth") fd ["self"] (spDepth K m d C) := by
  refine okD F sc_Bid_depth (fun vs H Q E h => ?_) (fun cdv A outer s H vs Q E hr h => ?_)
  · obtain ⟨a, dx, fs, W, t, rfl, _⟩ := h
    rfl
  · obtain ⟨a, dx, fs, W, t, rfl, ha, hB, hQ⟩ := h
    exact ⟨_, pss_one (ps_ret pe_int), hQ 1 H (Nat.le_refl _) hB.pos.1 (Same.refl H)⟩
theorem o_Bid_tally (T : Tx K mg) {fd : FuncData} (F : FunD K "tally" "Bid.tally" (defArgs s_Bid_tally) (defBody s_Bid_tally) (defScope s_Bid_tally) [] [] (He.ma K (ga K "Bid") "tally") fd) (d : Nat) (C : Addr) :
    FnOk P w K mg base CX0 1 (He.ma K (ga K "Bid") "tally") fd ["self"] (spTally K m d C) := by
  refine okD F sc_Bid_tally (fun vs H Q E h => ?_) (fun cdv A outer s H vs Q E hr h => ?_)
  · obtain ⟨a, dx, fs, W, t, rfl, _⟩ := h
    rfl
  · obtain ⟨a, dx, fs, W, t, rfl, ha, hB, hQ⟩ := h
    exact ⟨_, pss_one (ps_ret pe_int), hQ 1 H (Nat.le_refl _) hB.pos.2 (Same.refl H)⟩
theorem listed_get (l : Addr) : (fSev l).lookup ("listed" : Str) = some (V.ref l) := lk_hit _ _ _
theorem Tx.listed (T : Tx K mg) {C : Addr} (hC : C = ga K "AnyOf" ∨ C = ga K "OneOf") : Cls K C ∧ NoAttr K C "listed" := by
  rcases hC with rfl | rfl
  · exact ⟨T.c_AnyOf, T.a_AnyOf_listed⟩
  · exact ⟨T.c_OneOf, T.a_OneOf_listed⟩
theorem o_Sev_depth (T : Tx K mg) {fd : FuncData} (F : FunD K "depth" "Several.depth" (defArgs s_Several_depth) (defBody s_Several_depth) (defScope s_Several_depth) [] [] (He.ma K (ga K "Several") "depth") fd) (d k : Nat) {C : Addr} (hC : C = ga K "AnyOf" ∨ C = ga K "OneOf")
    (hV : ∀ C', isC K C' → Vir P w K mg base k "depth" C' (spDepth K m d C')) : FnOk P w K mg base CX0 (k + 1) (He.ma K (ga K "Several") "depth") fd ["self"] (spDepth K m (d + 1) C) := by
  refine okD F sc_Several_depth (fun vs H Q E h => ?_) (fun cdv A outer s H vs Q E hr h => ?_)
  · obtain ⟨a, dx, fs, W, t, rfl, _⟩ := h
    rfl
  · obtain ⟨a, dx, fs, W, t, rfl, ha, hB, hQ⟩ := h
    obtain ⟨dx', l, ps, Ws, ts, ha', hl, lw, lt, h4, _, e⟩ := (hB.sev T ha hC).ex
    obtain ⟨c1, c2⟩ := T.listed hC
    refine ⟨_, pss_one (ps_ret (pe_op op_add pe_int (pe_callBK (cr_maxD rfl (hu_of hr)) rfl T.n_max (by decide +kernel)
      (pa_cons (pe_lc (own := [("bid", 1)]) (g := gName 1) rfl sc_Several_depth.nd (pi_list (pe_fld (pv 0) rfl))
        (blkOk_by (own := [("bid", 1)]) (N := N_Several_depth) (sc := defScope s_Several_depth) (by decide +kernel))
        (fun _ _ _ _ _ => pg_name (i := 1) sc_Several_depth.nd rfl (Or.inl rfl)) (fun _ _ _ _ _ => pts_nil)
        (fun _ _ _ _ _ => pe_methV0 (sp := spDepth K m d) (Cs := isC K) (pv 1) hV hr (Nat.le_refl _))) pa_nil) (pk_cons pe_int pk_nil)))), ?_⟩
    refine ⟨_, rfl, a, C, dx', _, _, rfl, ha', c1, c2, listed_get l, l, rfl, ⟨_, SqL.of hl⟩, fun D hD => ?_⟩
    refine lc_list (K := K) (a := l) (xs := rf ps) (fun j H' => Same H H' ∧ ∃ ns : List Int, H' D = some (.lst (ns.map V.int)) ∧ ns.length = j ∧ ∀ x ∈ ns, 1 ≤ x ∧ x ≤ d)
      ⟨Same.new hD, [], upd_same, rfl, fun _ h => by cases h⟩ (fun j H' _ hP => SqL.of (hP.1 _ _ hl)) (fun j x H' hx hP => ?_) (fun H' hP => ?_)
    · obtain ⟨p, hp, rfl⟩ := get_map hx
      have hj := lt_get hp
      obtain ⟨s1, ns, d1, hn, hb⟩ := hP
      have hB1 := (e j p _ _ hp (List.getElem?_eq_getElem (by omega)) (List.getElem?_eq_getElem (by omega))).same s1
      obtain ⟨C', dx1, fs1, hp1, hc1, no1⟩ := hB1.cls
      refine ⟨rfl, yesI ?_⟩
      refine ⟨_, rfl, p, C', dx1, fs1, rfl, hp1, hc1, no1.2.1, p, dx1, fs1, _, _, rfl, hp1, hB1, fun k' H2 k1 k2 s2 => ⟨_, s2 _ _ d1, ?_, Same.upd (s1.trans s2) hD, ns ++ [(k' : Int)], ?_, ?_, fun x hx => ?_⟩⟩
      · refine small1000 ?_
        rw [List.length_map, hn]
        omega
      · rw [upd_same, List.map_append]
        rfl
      · rw [List.length_append, hn]
        rfl
      · rcases List.mem_append.mp hx with hx | hx
        · exact hb x hx
        · rw [List.mem_singleton] at hx
          subst hx
          omega
    · obtain ⟨s1, ns, d1, hn, hb⟩ := hP
      refine ⟨D, ns, 0, rfl, rfl, SqL.of d1, fun _ => ⟨1, 0, rfl, rfl, ?_⟩, fun mx h1 h2 => ⟨1, mx, rfl, rfl, ?_⟩⟩
      · exact hQ 1 H' (Nat.le_refl _) (by omega) s1
      · have := hb mx h1
        have hq := hQ (1 + mx.toNat) H' (by omega) (by omega) s1
        unfold nI at hq
        rw [show ((1 + mx.toNat : Nat) : Int) = 1 + mx by omega] at hq
        exact hq
theorem sum_snoc (l : List Int) (x : Int) : (l ++ [x]).sum = l.sum + x := by
  induction l with
  | nil => simp
  | cons y l ih => rw [List.cons_append, List.sum_cons, List.sum_cons, ih]; omega
theorem sumN_snoc (l : List Nat) (x : Nat) : (l ++ [x]).sum = l.sum + x := by
  induction l with
  | nil => simp
  | cons y l ih => rw [List.cons_append, List.sum_cons, List.sum_cons, ih]; omega
theorem o_Sev_tally (T : Tx K mg) {fd : FuncData} (F : FunD K "tally" "Several.tally" (defArgs s_Several_tally) (defBody s_Several_tally) (defScope s_Several_tally) [] [] (He.ma K (ga K "Several") "tally") fd) (d k : Nat) {C : Addr} (hC : C = ga K "AnyOf" ∨ C = ga K "OneOf")
    (hV : ∀ C', isC K C' → Vir P w K mg base k "tally" C' (spTally K m d C')) : FnOk P w K mg base CX0 (k + 1) (He.ma K (ga K "Several") "tally") fd ["self"] (spTally K m (d + 1) C) := by
  refine okD F sc_Several_tally (fun vs H Q E h => ?_) (fun cdv A outer s H vs Q E hr h => ?_)
  · obtain ⟨a, dx, fs, W, t, rfl, _⟩ := h
    rfl
  · obtain ⟨a, dx, fs, W, t, rfl, ha, hB, hQ⟩ := h
    obtain ⟨dx', l, ps, Ws, ts, ha', hl, lw, lt, h4, ht, e⟩ := (hB.sev T ha hC).ex
    obtain ⟨c1, c2⟩ := T.listed hC
    refine ⟨_, pss_one (ps_ret (pe_op op_add pe_int (pe_callB (cr_sum rfl) rfl T.n_sum (by decide +kernel)
      (pa_cons (pe_lc (own := [("bid", 1)]) (g := gName 1) rfl sc_Several_tally.nd (pi_list (pe_fld (pv 0) rfl))
        (blkOk_by (own := [("bid", 1)]) (N := N_Several_tally) (sc := defScope s_Several_tally) (by decide +kernel))
        (fun _ _ _ _ _ => pg_name (i := 1) sc_Several_tally.nd rfl (Or.inl rfl)) (fun _ _ _ _ _ => pts_nil)
        (fun _ _ _ _ _ => pe_methV0 (sp := spTally K m d) (Cs := isC K) (pv 1) hV hr (Nat.le_refl _))) pa_nil)))), ?_⟩
    refine ⟨_, rfl, a, C, dx', _, _, rfl, ha', c1, c2, listed_get l, l, rfl, ⟨_, SqL.of hl⟩, fun D hD => ?_⟩
    refine lc_list (K := K) (a := l) (xs := rf ps) (fun j H' => Same H H' ∧ ∃ ns : List Int, H' D = some (.lst (ns.map V.int)) ∧ ns.length = j ∧ 0 ≤ ns.sum ∧ ns.sum ≤ ((ts.take j).sum : Int))
      ⟨Same.new hD, [], upd_same, rfl, Int.le_refl _, Int.le_refl _⟩ (fun j H' _ hP => SqL.of (hP.1 _ _ hl)) (fun j x H' hx hP => ?_) (fun H' hP => ?_)
    · obtain ⟨p, hp, rfl⟩ := get_map hx
      have hj := lt_get hp
      obtain ⟨s1, ns, d1, hn, hb0, hb⟩ := hP
      have hj2 : j < ts.length := by omega
      have hB1 := (e j p _ _ hp (List.getElem?_eq_getElem (by omega)) (List.getElem?_eq_getElem hj2)).same s1
      obtain ⟨C', dx1, fs1, hp1, hc1, no1⟩ := hB1.cls
      refine ⟨rfl, yesI ?_⟩
      refine ⟨_, rfl, p, C', dx1, fs1, rfl, hp1, hc1, no1.2.2, p, dx1, fs1, _, _, rfl, hp1, hB1, fun k' H2 k1 k2 s2 => ⟨_, s2 _ _ d1, ?_, Same.upd (s1.trans s2) hD, ns ++ [(k' : Int)], ?_, ?_, ?_, ?_⟩⟩
      · refine small1000 ?_
        rw [List.length_map, hn]
        omega
      · rw [upd_same, List.map_append]
        rfl
      · rw [List.length_append, hn]
        rfl
      · rw [sum_snoc]
        omega
      · rw [sum_snoc, take_more (List.getElem?_eq_getElem hj2), sumN_snoc]
        omega
    · obtain ⟨s1, ns, d1, hn, hb0, hb⟩ := hP
      rw [List.length_map, lt, List.take_length] at hb
      refine ⟨D, ns, rfl, SqL.of d1, 1, ns.sum, rfl, rfl, ?_⟩
      have hq := hQ (1 + ns.sum.toNat) H' (by omega) (by omega) s1
      unfold nI at hq
      rw [show ((1 + ns.sum.toNat : Nat) : Int) = 1 + ns.sum by omega] at hq
      exact hq
theorem b1 {x qual : Str} {a : Arguments} {b : List Stmt} {sc : Scope} {f : Addr} {fd : FuncData} (F : FunD K x qual a b sc [] [] f fd)
    (h : ∀ (kV doc pm : Value) (an : Option Addr) (cdv ct : Value) (us : List Value), us.length = (["self"] : List Str).length → bindArgs (PySem.W.fnOf x qual a b sc .none kV doc pm an cdv ct) ⟨us, []⟩ = pure ((["self"] : List Str).zip us)) : Binds K fd ["self"] [] := F.bindsN h
theorem v_depth (T : Tx K mg) : ∀ (d : Nat) (C : Addr), isC K C → Vir P w K mg base (d + 1) "depth" C (spDepth K m d C) := by
  obtain ⟨fB, FB⟩ := T.d_Bid_depth
  obtain ⟨fS, FS⟩ := T.d_Several_depth
  have bB : Binds K fB ["self"] [] := FB.bindsN fun _ _ _ _ _ _ us hl => match us, hl with | [_], _ => rfl
  have bS : Binds K fS ["self"] [] := FS.bindsN fun _ _ _ _ _ _ us hl => match us, hl with | [_], _ => rfl
  have leaf : ∀ (d : Nat) (c : Str), Cls K (ga K c) → Meth K (ga K c) "depth" (He.ma K (ga K c) "depth") → He.ma K (ga K c) "depth" = He.ma K (ga K "Bid") "depth" → Vir P w K mg base (d + 1) "depth" (ga K c) (spDepth K m d (ga K c)) :=
    fun d c hc hm e => ⟨_, fB, _, (o_Bid_depth T FB d _).mono (by omega), hc, e ▸ hm, bB⟩
  intro d
  induction d with
  | zero =>
    intro C hC
    have hv : ∀ C', FnOk P w K mg base CX0 1 (He.ma K (ga K "Several") "depth") fS ["self"] (spDepth K m 0 C') := fun C' => okD FS sc_Several_depth (fun vs H Q E h => by obtain ⟨a, dx, fs, W, t, rfl, _⟩ := h; rfl) fun cdv A outer s H vs Q E hr h => by
      obtain ⟨a, dx, fs, W, t, rfl, ha, hB, hQ⟩ := h
      have := hB.pos
      omega
    obtain ⟨c, hc, rfl⟩ := hC
    unfold kits at hc
    simp only [List.mem_cons, List.not_mem_nil, or_false] at hc
    rcases hc with rfl | rfl | rfl | rfl | rfl | rfl
    · exact leaf 0 _ T.c_Bid T.m_Bid_depth rfl
    · exact leaf 0 _ T.c_Only T.m_Only_depth (T.al (q := ("Only", "depth", "Bid")) (by simp [alike]))
    · exact leaf 0 _ T.c_SoMany T.m_SoMany_depth (T.al (q := ("SoMany", "depth", "Bid")) (by simp [alike]))
    · exact leaf 0 _ T.c_UpTo T.m_UpTo_depth (T.al (q := ("UpTo", "depth", "Bid")) (by simp [alike]))
    · exact ⟨_, fS, _, hv _, T.c_AnyOf, (T.al (q := ("AnyOf", "depth", "Several")) (by simp [alike])) ▸ T.m_AnyOf_depth, bS⟩
    · exact ⟨_, fS, _, hv _, T.c_OneOf, (T.al (q := ("OneOf", "depth", "Several")) (by simp [alike])) ▸ T.m_OneOf_depth, bS⟩
  | succ d ih =>
    intro C hC
    obtain ⟨c, hc, rfl⟩ := hC
    unfold kits at hc
    simp only [List.mem_cons, List.not_mem_nil, or_false] at hc
    rcases hc with rfl | rfl | rfl | rfl | rfl | rfl
    · exact leaf _ _ T.c_Bid T.m_Bid_depth rfl
    · exact leaf _ _ T.c_Only T.m_Only_depth (T.al (q := ("Only", "depth", "Bid")) (by simp [alike]))
    · exact leaf _ _ T.c_SoMany T.m_SoMany_depth (T.al (q := ("SoMany", "depth", "Bid")) (by simp [alike]))
    · exact leaf _ _ T.c_UpTo T.m_UpTo_depth (T.al (q := ("UpTo", "depth", "Bid")) (by simp [alike]))
    · exact ⟨_, fS, _, o_Sev_depth T FS d (d + 1) (.inl rfl) ih, T.c_AnyOf, (T.al (q := ("AnyOf", "depth", "Several")) (by simp [alike])) ▸ T.m_AnyOf_depth, bS⟩
    · exact ⟨_, fS, _, o_Sev_depth T FS d (d + 1) (.inr rfl) ih, T.c_OneOf, (T.al (q := ("OneOf", "depth", "Several")) (by simp [alike])) ▸ T.m_OneOf_depth, bS⟩
theorem v_tally (T : Tx K mg) : ∀ (d : Nat) (C : Addr), isC K C → Vir P w K mg base (d + 1) "tally" C (spTally K m d C) := by
  obtain ⟨fB, FB⟩ := T.d_Bid_tally
  obtain ⟨fS, FS⟩ := T.d_Several_tally
  have bB : Binds K fB ["self"] [] := FB.bindsN fun _ _ _ _ _ _ us hl => match us, hl with | [_], _ => rfl
  have bS : Binds K fS ["self"] [] := FS.bindsN fun _ _ _ _ _ _ us hl => match us, hl with | [_], _ => rfl
  have leaf : ∀ (d : Nat) (c : Str), Cls K (ga K c) → Meth K (ga K c) "tally" (He.ma K (ga K c) "tally") → He.ma K (ga K c) "tally" = He.ma K (ga K "Bid") "tally" → Vir P w K mg base (d + 1) "tally" (ga K c) (spTally K m d (ga K c)) :=
    fun d c hc hm e => ⟨_, fB, _, (o_Bid_tally T FB d _).mono (by omega), hc, e ▸ hm, bB⟩
  intro d
  induction d with
  | zero =>
    intro C hC
    have hv : ∀ C', FnOk P w K mg base CX0 1 (He.ma K (ga K "Several") "tally") fS ["self"] (spTally K m 0 C') := fun C' => okD FS sc_Several_tally (fun vs H Q E h => by obtain ⟨a, dx, fs, W, t, rfl, _⟩ := h; rfl) fun cdv A outer s H vs Q E hr h => by
      obtain ⟨a, dx, fs, W, t, rfl, ha, hB, hQ⟩ := h
      have := hB.pos
      omega
    obtain ⟨c, hc, rfl⟩ := hC
    unfold kits at hc
    simp only [List.mem_cons, List.not_mem_nil, or_false] at hc
    rcases hc with rfl | rfl | rfl | rfl | rfl | rfl
    · exact leaf 0 _ T.c_Bid T.m_Bid_tally rfl
    · exact leaf 0 _ T.c_Only T.m_Only_tally (T.al (q := ("Only", "tally", "Bid")) (by simp [alike]))
    · exact leaf 0 _ T.c_SoMany T.m_SoMany_tally (T.al (q := ("SoMany", "tally", "Bid")) (by simp [alike]))
    · exact leaf 0 _ T.c_UpTo T.m_UpTo_tally (T.al (q := ("UpTo", "tally", "Bid")) (by simp [alike]))
    · exact ⟨_, fS, _, hv _, T.c_AnyOf, (T.al (q := ("AnyOf", "tally", "Several")) (by simp [alike])) ▸ T.m_AnyOf_tally, bS⟩
    · exact ⟨_, fS, _, hv _, T.c_OneOf, (T.al (q := ("OneOf", "tally", "Several")) (by simp [alike])) ▸ T.m_OneOf_tally, bS⟩
  | succ d ih =>
    intro C hC
    obtain ⟨c, hc, rfl⟩ := hC
    unfold kits at hc
    simp only [List.mem_cons, List.not_mem_nil, or_false] at hc
    rcases hc with rfl | rfl | rfl | rfl | rfl | rfl
    · exact leaf _ _ T.c_Bid T.m_Bid_tally rfl
    · exact leaf _ _ T.c_Only T.m_Only_tally (T.al (q := ("Only", "tally", "Bid")) (by simp [alike]))
    · exact leaf _ _ T.c_SoMany T.m_SoMany_tally (T.al (q := ("SoMany", "tally", "Bid")) (by simp [alike]))
    · exact leaf _ _ T.c_UpTo T.m_UpTo_tally (T.al (q := ("UpTo", "tally", "Bid")) (by simp [alike]))
    · exact ⟨_, fS, _, o_Sev_tally T FS d (d + 1) (.inl rfl) ih, T.c_AnyOf, (T.al (q := ("AnyOf", "tally", "Several")) (by simp [alike])) ▸ T.m_AnyOf_tally, bS⟩
    · exact ⟨_, fS, _, o_Sev_tally T FS d (d + 1) (.inr rfl) ih, T.c_OneOf, (T.al (q := ("OneOf", "tally", "Several")) (by simp [alike])) ▸ T.m_OneOf_tally, bS⟩
end
end Gv
namespace Gv
open PySem PySem.Spec PyProof.Rows L2
section
variable {P : Program} {w : World} {K : PySem.W.Frag} {mg : Str → Option Value} {base : Heap} {m : Nat}
/-! ### single bids are made -/
def spIOnly (K : PySem.W.Frag) : Sp := fun vs H Q _ => ∃ (p dx : Addr) (b : Nat) (z : Int), vs = [.ref p, nI b, .int z] ∧ H p = some (.ins (ga K "Only") dx []) ∧ (1 ≤ b ∧ b ≤ 63) ∧ (0 ≤ z ∧ z ≤ 1000000000) ∧ Q .non (L2.upd H p (.ins (ga K "Only") dx (fOnly b z)))
theorem k_Only (T : Tx K mg) : Mak P w K mg base 3 "Only" (ga K "Only") (spIOnly K) := by
  obtain ⟨fd, F⟩ := T.d_Only_init
  obtain ⟨u1, hm1, ru1⟩ := T.i_LAST_BUNDLE
  obtain ⟨u2, hm2, ru2⟩ := T.i_MOST_AMOUNT
  refine ⟨_, fd, _, okD F sc_Only_init (fun vs H Q E h => ?_) (fun cdv A outer s H vs Q E hr h => ?_), T.k_Only, T.g_Only, F.bindsN fun _ _ _ _ _ _ us hl => match us, hl with | [_, _, _], _ => rfl⟩
  · obtain ⟨p, dx, b, z, rfl, _⟩ := h
    rfl
  · obtain ⟨p, dx, b, z, rfl, hp, hb, hz, hQ⟩ := h
    refine ⟨_, pss_cons (ps_fld (pv 0) (pe_c (c_checked T) hr (Nat.le_refl _) rfl (pa_cons (pv 1) (pa_cons pe_int (pa_cons (pe_glob rfl hm1 ru1) pa_nil)))) rfl)
      (pss_one (ps_fld (pv 0) (pe_c (c_checked T) hr (Nat.le_refl _) rfl (pa_cons (pv 2) (pa_cons pe_int (pa_cons (pe_glob rfl hm2 ru2) pa_nil)))) rfl)), ?_⟩
    refine ⟨_, rfl, (b : Int), 1, 63, rfl, by omega, by omega, _, rfl, p, _, dx, [], rfl, hp, T.c_Only, T.a_Only_bundle, (by show 0 < 1000; decide), ?_⟩
    refine ⟨_, rfl, z, 0, 1000000000, rfl, by omega, by omega, _, rfl, p, _, dx, _, rfl, upd_same, T.c_Only, T.a_Only_amount, (by show 1 < 1000; decide), ?_⟩
    rw [upd_upd]
    exact hQ
def spIMany (K : PySem.W.Frag) : Sp := fun vs H Q _ => ∃ (p dx : Addr) (k l : Nat) (z : Int), vs = [.ref p, nI k, nI l, .int z] ∧ H p = some (.ins (ga K "SoMany") dx []) ∧ (1 ≤ k ∧ k ≤ 63) ∧ (1 ≤ l ∧ l ≤ 6) ∧ (0 ≤ z ∧ z ≤ 1000000000) ∧ Q .non (L2.upd H p (.ins (ga K "SoMany") dx (fMany k l z)))
theorem k_SoMany (T : Tx K mg) : Mak P w K mg base 3 "SoMany" (ga K "SoMany") (spIMany K) := by
  obtain ⟨fd, F⟩ := T.d_SoMany_init
  obtain ⟨u1, hm1, ru1⟩ := T.i_LAST_BUNDLE
  obtain ⟨u2, hm2, ru2⟩ := T.i_MOST_AMOUNT
  obtain ⟨u3, hm3, ru3⟩ := T.i_MOST_THINGS
  refine ⟨_, fd, _, okD F sc_SoMany_init (fun vs H Q E h => ?_) (fun cdv A outer s H vs Q E hr h => ?_), T.k_SoMany, T.g_SoMany, F.bindsN fun _ _ _ _ _ _ us hl => match us, hl with | [_, _, _, _], _ => rfl⟩
  · obtain ⟨p, dx, k, l, z, rfl, _⟩ := h
    rfl
  · obtain ⟨p, dx, k, l, z, rfl, hp, hk, hl, hz, hQ⟩ := h
    refine ⟨_, pss_cons (ps_fld (pv 0) (pe_c (c_checked T) hr (Nat.le_refl _) rfl (pa_cons (pv 1) (pa_cons pe_int (pa_cons (pe_glob rfl hm1 ru1) pa_nil)))) rfl)
      (pss_cons (ps_fld (pv 0) (pe_c (c_checked T) hr (Nat.le_refl _) rfl (pa_cons (pv 2) (pa_cons pe_int (pa_cons (pe_glob rfl hm3 ru3) pa_nil)))) rfl)
      (pss_one (ps_fld (pv 0) (pe_c (c_checked T) hr (Nat.le_refl _) rfl (pa_cons (pv 3) (pa_cons pe_int (pa_cons (pe_glob rfl hm2 ru2) pa_nil)))) rfl))), ?_⟩
    refine ⟨_, rfl, (k : Int), 1, 63, rfl, by omega, by omega, _, rfl, p, _, dx, [], rfl, hp, T.c_SoMany, T.a_SoMany_kind, (by show 0 < 1000; decide), ?_⟩
    refine ⟨_, rfl, (l : Int), 1, 6, rfl, by omega, by omega, _, rfl, p, _, dx, _, rfl, upd_same, T.c_SoMany, T.a_SoMany_least, (by show 1 < 1000; decide), ?_⟩
    refine ⟨_, rfl, z, 0, 1000000000, rfl, by omega, by omega, _, rfl, p, _, dx, _, rfl, upd_same, T.c_SoMany, T.a_SoMany_amount, ?_, ?_⟩
    · exact Nat.lt_of_le_of_lt (length_putF _ _ _) (by show 1 + 1 < 1000; decide)
    · rw [upd_upd, upd_upd]
      exact hQ
def spIUp (K : PySem.W.Frag) : Sp := fun vs H Q _ => ∃ (p dx : Addr) (k mo : Nat) (e : Int), vs = [.ref p, nI k, nI mo, .int e] ∧ H p = some (.ins (ga K "UpTo") dx []) ∧ (1 ≤ k ∧ k ≤ 63) ∧ (1 ≤ mo ∧ mo ≤ 6) ∧ (0 ≤ e ∧ e ≤ 1000000000) ∧ Q .non (L2.upd H p (.ins (ga K "UpTo") dx (fUp k mo e)))
theorem k_UpTo (T : Tx K mg) : Mak P w K mg base 3 "UpTo" (ga K "UpTo") (spIUp K) := by
  obtain ⟨fd, F⟩ := T.d_UpTo_init
  obtain ⟨u1, hm1, ru1⟩ := T.i_LAST_BUNDLE
  obtain ⟨u2, hm2, ru2⟩ := T.i_MOST_AMOUNT
  obtain ⟨u3, hm3, ru3⟩ := T.i_MOST_THINGS
  refine ⟨_, fd, _, okD F sc_UpTo_init (fun vs H Q E h => ?_) (fun cdv A outer s H vs Q E hr h => ?_), T.k_UpTo, T.g_UpTo, F.bindsN fun _ _ _ _ _ _ us hl => match us, hl with | [_, _, _, _], _ => rfl⟩
  · obtain ⟨p, dx, k, l, z, rfl, _⟩ := h
    rfl
  · obtain ⟨p, dx, k, l, z, rfl, hp, hk, hl, hz, hQ⟩ := h
    refine ⟨_, pss_cons (ps_fld (pv 0) (pe_c (c_checked T) hr (Nat.le_refl _) rfl (pa_cons (pv 1) (pa_cons pe_int (pa_cons (pe_glob rfl hm1 ru1) pa_nil)))) rfl)
      (pss_cons (ps_fld (pv 0) (pe_c (c_checked T) hr (Nat.le_refl _) rfl (pa_cons (pv 2) (pa_cons pe_int (pa_cons (pe_glob rfl hm3 ru3) pa_nil)))) rfl)
      (pss_one (ps_fld (pv 0) (pe_c (c_checked T) hr (Nat.le_refl _) rfl (pa_cons (pv 3) (pa_cons pe_int (pa_cons (pe_glob rfl hm2 ru2) pa_nil)))) rfl))), ?_⟩
    refine ⟨_, rfl, (k : Int), 1, 63, rfl, by omega, by omega, _, rfl, p, _, dx, [], rfl, hp, T.c_UpTo, T.a_UpTo_kind, (by show 0 < 1000; decide), ?_⟩
    refine ⟨_, rfl, (l : Int), 1, 6, rfl, by omega, by omega, _, rfl, p, _, dx, _, rfl, upd_same, T.c_UpTo, T.a_UpTo_most, (by show 1 < 1000; decide), ?_⟩
    refine ⟨_, rfl, z, 0, 1000000000, rfl, by omega, by omega, _, rfl, p, _, dx, _, rfl, upd_same, T.c_UpTo, T.a_UpTo_each, ?_, ?_⟩
    · exact Nat.lt_of_le_of_lt (length_putF _ _ _) (by show 1 + 1 < 1000; decide)
    · rw [upd_upd, upd_upd]
      exact hQ
/-! ### a bid of bids is made -/
theorem sev_bid {H : Hp} {d : Nat} {a C dx l : Addr} {ps : List Addr} {Ws : List (List Int)} {ts : List Nat} (hC : C = ga K "AnyOf" ∨ C = ga K "OneOf") (h : H a = some (.ins C dx (fSev l))) (hl : H l = some (.lst (rf ps))) (lw : ps.length = Ws.length) (lt : ps.length = ts.length) (h4 : ps.length ≤ 24)
    (e : ∀ (i : Nat) (p : Addr) (W : List Int) (t : Nat), ps[i]? = some p → Ws[i]? = some W → ts[i]? = some t → BidAt K m H d p W t) : ∃ W, BidAt K m H (d + 1) a W (1 + ts.sum) := by
  rcases hC with rfl | rfl
  · exact ⟨_, .any h hl lw lt h4 e⟩
  · exact ⟨_, .one h hl lw lt h4 e⟩
def spISev (K : PySem.W.Frag) (m : Nat) (C : Addr) : Sp := fun vs H Q _ => ∃ (p dx b : Addr) (ps : List Addr) (Ws : List (List Int)) (ts : List Nat) (H0 : Hp), vs = [.ref p, .ref b] ∧ H p = some (.ins C dx []) ∧ H0 p = none ∧ Same H0 H ∧ H0 b = some (.lst (rf ps)) ∧ ps.length = Ws.length ∧ ps.length = ts.length ∧ ps.length ≤ 24 ∧ ts.sum ≤ 23 ∧
  (∀ (i : Nat) (q : Addr) (W : List Int) (t : Nat), ps[i]? = some q → Ws[i]? = some W → ts[i]? = some t → BidAt K m H0 3 q W t) ∧
  ∀ (l : Addr) (H' : Hp), H0 l = none → Same H0 H' → H' p = some (.ins C dx (fSev l)) → H' l = some (.lst (rf ps)) → Q .non H'
theorem o_Sev_init (T : Tx K mg) {fd : FuncData} (F : FunD K "__init__" "Several.__init__" (defArgs s_Several_init) (defBody s_Several_init) (defScope s_Several_init) [] [] (He.ma K (ga K "Several") "__init__") fd) {C : Addr} (hC : C = ga K "AnyOf" ∨ C = ga K "OneOf") :
    FnOk P w K mg base CX0 6 (He.ma K (ga K "Several") "__init__") fd ["self", "bids"] (spISev K m C) := by
  obtain ⟨u1, hm1, ru1⟩ := T.i_DEEPEST
  obtain ⟨u2, hm2, ru2⟩ := T.i_MOST_BIDS
  refine okD F sc_Several_init (fun vs H Q E h => ?_) (fun cdv A outer s H vs Q E hr h => ?_)
  · obtain ⟨p, dx, b, ps, Ws, ts, H0, rfl, _⟩ := h
    rfl
  · obtain ⟨p, dx, b, ps, Ws, ts, H0, rfl, hp, hp0, s0, hb, lw, lt, h4, hsum, e, hQ⟩ := h
    obtain ⟨c1, c2⟩ := T.listed hC
    have iC : isC K C := by
      rcases hC with h | h
      · exact ⟨"AnyOf", in_kits (by decide +kernel), h⟩
      · exact ⟨"OneOf", in_kits (by decide +kernel), h⟩
    refine ⟨_, pss_cons (ps_if (pt_not (pt_val (pe_callB call_isi rfl T.n_isinstance (by decide +kernel) (pa_cons (pv 1) (pa_cons (pe_bltn (v := .ty "list") (u := .type "list") rfl T.n_list (by decide +kernel) rfl) pa_nil))))) pss_never pss_nil)
      (pss_cons (ps_for PassesOwn.never rfl (pi_list (pv 1)) (pg_name (i := 2) sc_Several_init.nd rfl (Or.inl rfl))
        (pss_one (ps_if (pt_not (pt_val (pe_callB call_isi rfl T.n_isinstance (by decide +kernel) (pa_cons (pv 2) (pa_cons (pe_glob (v := .ref (ga K "Bid")) rfl T.g_Bid rfl) pa_nil))))) pss_never pss_nil)))
      (pss_cons (ps_fld (pv 0) (pe_callTy call_list_of rfl T.n_list (by decide +kernel) (pa_cons (pv 1) pa_nil)) rfl)
      (pss_one (ps_if (PW.pt (pw_or (pt_cmpR op_gt (pe_methV0 (sp := spDepth K m 4) (Cs := isC K) (pv 0) (v_depth T 4) hr (Nat.le_refl _)) (pe_glob rfl hm1 ru1) (nomark _))
        (pw_or1 (pt_cmpR op_gt (pe_methV0 (sp := spTally K m 4) (Cs := isC K) (pv 0) (v_tally T 4) hr (Nat.le_refl _)) (pe_glob rfl hm2 ru2) (nomark _))))) pss_never pss_nil)))), ?_⟩
    have hb1 := s0 _ _ hb
    refine ⟨_, rfl, _, _, _, _, true, rfl, .ty "list", .base (.lst hb1), kit_ty (by decide +kernel), _, rfl, iteF ?_⟩
    refine ⟨_, rfl, b, rfl, ⟨_, SqL.of hb1⟩, for_list (K := K) (a := b) (xs := rf ps) (fun i σ H' => (∃ v : Option V, σ = [some (.ref p), some (.ref b), v]) ∧ H' = H) ⟨⟨none, rfl⟩, rfl⟩ (fun i σ H' _ hP => by rw [hP.2]; exact SqL.of hb1) ?_ ?_⟩
    · rintro i x σ H' hx ⟨⟨v, rfl⟩, rfl⟩
      obtain ⟨q, hq, rfl⟩ := get_map hx
      have hj := lt_get hq
      have hB := (e i q _ _ hq (List.getElem?_eq_getElem (by omega)) (List.getElem?_eq_getElem (by omega))).same s0
      obtain ⟨C', dx', fs', hq1, ⟨c, hc, rfl⟩, _⟩ := hB.cls
      obtain ⟨k1, k2⟩ := T.kit hc (T.cl hc) hq1
      exact ⟨_, rfl, _, _, _, _, true, rfl, .own _, k1, k2, _, rfl, iteF ⟨⟨_, rfl⟩, rfl⟩⟩
    · rintro σ H' ⟨⟨v, rfl⟩, rfl⟩
      refine ⟨_, rfl, b, _, rfl, .inl (SqL.of hb1), fun l hl => ?_⟩
      have npl : p ≠ l := ne_of_none hp hl
      have hl0 : H0 l = none := s0.free hl
      refine ⟨_, rfl, p, C, dx, [], rfl, (upd_ne npl).trans hp, c1, c2, (by show 0 < 1000; decide), ?_⟩
      have s2 : Same H0 (L2.upd (L2.upd H' l (.lst (rf ps))) p (.ins C dx (putF "listed" (.ref l) []))) := Same.upd (Same.upd s0 hl0) hp0
      have hp2 : (L2.upd (L2.upd H' l (.lst (rf ps))) p (.ins C dx (putF "listed" (.ref l) []))) p = some (.ins C dx (fSev l)) := upd_same
      have hl2 : (L2.upd (L2.upd H' l (.lst (rf ps))) p (.ins C dx (putF "listed" (.ref l) []))) l = some (.lst (rf ps)) := (upd_ne npl.symm).trans upd_same
      obtain ⟨W, hB⟩ := sev_bid (m := m) hC hp2 hl2 lw lt h4 fun i q W t h1 h2 h3 => (e i q W t h1 h2 h3).same s2
      refine ⟨_, rfl, p, C, dx, _, rfl, hp2, iC, (noM_sev l).2.1, p, dx, _, W, _, rfl, hp2, hB, fun k H3 k1 k2 s3 => ?_⟩
      refine ⟨_, _, rfl, rfl, _, rfl, ite2 (fun z => ?_) (fun z => ?_)⟩
      · have := of_decide_eq_true z
        omega
      · refine ⟨_, rfl, p, C, dx, _, rfl, s3 _ _ hp2, iC, (noM_sev l).2.2, p, dx, _, W, _, rfl, s3 _ _ hp2, hB.same s3, fun k' H4 k1' k2' s4 => ?_⟩
        refine ⟨_, _, rfl, rfl, _, rfl, ite2 (fun z => ?_) (fun z => ?_)⟩
        · have := of_decide_eq_true z
          omega
        · exact hQ l H4 hl0 ((s2.trans s3).trans s4) (s4 _ _ (s3 _ _ hp2)) (s4 _ _ (s3 _ _ hl2))
theorem k_AnyOf (T : Tx K mg) : Mak P w K mg base 6 "AnyOf" (ga K "AnyOf") (spISev K m (ga K "AnyOf")) := by
  obtain ⟨fd, F⟩ := T.d_Several_init
  exact ⟨_, fd, _, o_Sev_init T F (.inl rfl), (T.al (q := ("AnyOf", "__init__", "Several")) (by simp [alike])) ▸ T.k_AnyOf, T.g_AnyOf, F.bindsN fun _ _ _ _ _ _ us hl => match us, hl with | [_, _], _ => rfl⟩
theorem k_OneOf (T : Tx K mg) : Mak P w K mg base 6 "OneOf" (ga K "OneOf") (spISev K m (ga K "OneOf")) := by
  obtain ⟨fd, F⟩ := T.d_Several_init
  exact ⟨_, fd, _, o_Sev_init T F (.inr rfl), (T.al (q := ("OneOf", "__init__", "Several")) (by simp [alike])) ▸ T.k_OneOf, T.g_OneOf, F.bindsN fun _ _ _ _ _ _ us hl => match us, hl with | [_, _], _ => rfl⟩
/-! ### worths -/
def spWor (K : PySem.W.Frag) (m d : Nat) (C : Addr) : Sp := fun vs H Q _ => ∃ (a dx : Addr) (fs : List (Str × V)) (W : List Int) (t : Nat), vs = [.ref a, nI m] ∧ m ≤ 6 ∧ H a = some (.ins C dx fs) ∧ BidAt K m H d a W t ∧ New H (.lst (W.map V.int)) Q
theorem rangeM {m : Nat} (h : m ≤ 6) : (-(2 ^ 62) ≤ (1 : Int) * 2 ^ ((m : Int).toNat) ∧ (1 : Int) * 2 ^ ((m : Int).toNat) < 2 ^ 62) ∧ ((1 : Int) * 2 ^ ((m : Int).toNat)).toNat = 2 ^ m := by
  have := pow64 h
  rw [pow2I]
  generalize 2 ^ m = n at this ⊢
  omega
theorem o_Bid_worths (T : Tx K mg) {fd : FuncData} (F : FunD K "worths" "Bid.worths" (defArgs s_Bid_worths) (defBody s_Bid_worths) (defScope s_Bid_worths) [] [] (He.ma K (ga K "Bid") "worths") fd) (d : Nat) :
    FnOk P w K mg base CX0 1 (He.ma K (ga K "Bid") "worths") fd ["self", "many"] (spWor K m d (ga K "Bid")) := by
  refine okD F sc_Bid_worths (fun vs H Q E h => ?_) (fun cdv A outer s H vs Q E hr h => ?_)
  · obtain ⟨a, dx, fs, W, t, rfl, _⟩ := h
    rfl
  · obtain ⟨a, dx, fs, W, t, rfl, hm, ha, hB, hQ⟩ := h
    have eW : W = zeroW m := by
      have no : ∀ (i : Nat) (c : Str), kits[i]? = some c → 0 < i → ga K "Bid" ≠ ga K c := fun i c hi h0 e => by
        have := T.ne (show kits[0]? = some ("Bid" : Str) from rfl) hi e
        omega
      cases hB with
      | bid h => rfl
      | only h hb hz => exact (no 1 _ rfl (by decide) (ins_inj ha h).1).elim
      | many h hk hl hz => exact (no 2 _ rfl (by decide) (ins_inj ha h).1).elim
      | up h hk hm he => exact (no 3 _ rfl (by decide) (ins_inj ha h).1).elim
      | any h hl lw lt h4 e => exact (no 4 _ rfl (by decide) (ins_inj ha h).1).elim
      | one h hl lw lt h4 e => exact (no 5 _ rfl (by decide) (ins_inj ha h).1).elim
    subst eW
    refine ⟨_, pss_one (ps_ret (pe_lc (own := [("bundle", 2)]) (g := gName 2) rfl sc_Bid_worths.nd (pi_range1 rfl T.n_range (pa_cons (pe_op op_shl pe_int (pv 1)) pa_nil))
      (blkOk_by (own := [("bundle", 2)]) (N := N_Bid_worths) (sc := defScope s_Bid_worths) (by decide +kernel))
      (fun _ _ _ _ _ => pg_name (i := 2) sc_Bid_worths.nd rfl (Or.inl rfl)) (fun _ _ _ _ _ => pts_nil) (fun _ _ _ _ _ => pe_int))), ?_⟩
    obtain ⟨⟨r1, r2⟩, r3⟩ := rangeM hm
    refine ⟨_, rfl, _, _, rfl, rfl, ⟨by omega, by omega, by decide⟩, _, rfl, r1, r2, fun D hD => ?_⟩
    rw [r3]
    refine lc_range (lo := 0) (n := 2 ^ m) (fun j H' => Same H H' ∧ H' D = some (.lst (((List.range j).map fun _ => (0 : Int)).map V.int))) ⟨Same.new hD, upd_same⟩ (fun j H' hj hP => ?_) (fun H' hP => hQ D H' hD hP.1 hP.2)
    refine ⟨rfl, yesI ?_⟩
    refine ⟨_, hP.2, ?_, Same.upd hP.1 hD, ?_⟩
    · have := pow64 hm
      refine small1000 ?_
      rw [List.length_map, List.length_map, List.length_range]
      omega
    · rw [upd_same, range_more, List.map_append, List.map_append]
      rfl
theorem o_Only_worths (T : Tx K mg) {fd : FuncData} (F : FunD K "worths" "Only.worths" (defArgs s_Only_worths) (defBody s_Only_worths) (defScope s_Only_worths) [] [] (He.ma K (ga K "Only") "worths") fd) (d : Nat) :
    FnOk P w K mg base CX0 2 (He.ma K (ga K "Only") "worths") fd ["self", "many"] (spWor K m d (ga K "Only")) := by
  refine okD F sc_Only_worths (fun vs H Q E h => ?_) (fun cdv A outer s H vs Q E hr h => ?_)
  · obtain ⟨a, dx, fs, W, t, rfl, _⟩ := h
    rfl
  · obtain ⟨a, dx, fs, W, t, rfl, hm, ha, hB, hQ⟩ := h
    obtain ⟨b, z, ha, rfl⟩ : ∃ b z, H a = some (.ins (ga K "Only") dx (fOnly b z)) ∧ W = onlyW m b z := by
      have no : ∀ (i : Nat) (c : Str), kits[i]? = some c → i ≠ 1 → ga K "Only" ≠ ga K c := fun i c hi h0 e => by
        have := T.ne (show kits[1]? = some ("Only" : Str) from rfl) hi e
        omega
      cases hB with
      | bid h => exact (no 0 _ rfl (by decide) (ins_inj ha h).1).elim
      | only h hb hz => exact ⟨_, _, (ins_inj ha h).2.1 ▸ h, rfl⟩
      | many h hk hl hz => exact (no 2 _ rfl (by decide) (ins_inj ha h).1).elim
      | up h hk hm he => exact (no 3 _ rfl (by decide) (ins_inj ha h).1).elim
      | any h hl lw lt h4 e => exact (no 4 _ rfl (by decide) (ins_inj ha h).1).elim
      | one h hl lw lt h4 e => exact (no 5 _ rfl (by decide) (ins_inj ha h).1).elim
    refine ⟨_, pss_one (ps_ret (pe_lc (own := [("bundle", 2)]) (g := gName 2) rfl sc_Only_worths.nd (pi_range1 rfl T.n_range (pa_cons (pe_op op_shl pe_int (pv 1)) pa_nil))
      (blkOk_by (own := [("bundle", 2)]) (N := N_Only_worths) (sc := defScope s_Only_worths) (by decide +kernel))
      (fun _ _ _ _ _ => pg_name (i := 2) sc_Only_worths.nd rfl (Or.inl rfl)) (fun _ _ _ _ _ => pts_nil)
      (fun _ _ _ _ _ => pe_ifExp (pt_val (pe_c (c_holds T) hr (Nat.le_refl _) rfl (pa_cons (pv 2) (pa_cons (show PE _ _ (tFld K (tVar 0) "bundle") from pe_fld (pv 0) rfl) pa_nil)))) (show PE _ _ (tFld K (tVar 0) "amount") from pe_fld (pv 0) rfl) pe_int))), ?_⟩
    obtain ⟨⟨r1, r2⟩, r3⟩ := rangeM hm
    refine ⟨_, rfl, _, _, rfl, rfl, ⟨by omega, by omega, by decide⟩, _, rfl, r1, r2, fun D hD => ?_⟩
    rw [r3]
    refine lc_range (lo := 0) (n := 2 ^ m) (fun j H' => Same H H' ∧ H' D = some (.lst (((List.range j).map fun x => if hld x b then z else 0).map V.int))) ⟨Same.new hD, upd_same⟩ (fun j H' hj hP => ?_) (fun H' hP => hQ D H' hD hP.1 hP.2)
    obtain ⟨s1, d1⟩ := hP
    have ha1 := s1 _ _ ha
    have small : ((List.map V.int (List.map (fun x => if hld x b = true then z else 0) (List.range j)))).length < sizeLine := by
      have := pow64 hm
      refine small1000 ?_
      rw [List.length_map, List.length_map, List.length_range]
      omega
    refine ⟨rfl, yesI ?_⟩
    have e0 : (fOnly b z).lookup ("bundle" : Str) = some (nI b) := (lk_miss _ _ (by decide +kernel)).trans (lk_hit _ _ _)
    refine ⟨_, rfl, _, rfl, a, _, dx, _, _, rfl, ha1, T.c_Only, T.a_Only_bundle, e0, j, b, by rw [Int.zero_add]; rfl, _, rfl, ?_⟩
    cases q : hld j b with
    | true =>
      refine iteT ⟨_, rfl, a, _, dx, _, _, rfl, ha1, T.c_Only, T.a_Only_amount, lk_hit _ _ _, _, d1, small, Same.upd s1 hD, ?_⟩
      rw [upd_same, range_more, List.map_append, List.map_append]
      show some (HO.lst (_ ++ [V.int z])) = some (HO.lst (_ ++ [V.int (if hld j b = true then z else 0)]))
      rw [q, if_pos rfl]
    | false =>
      refine iteF ⟨_, d1, small, Same.upd s1 hD, ?_⟩
      rw [upd_same, range_more, List.map_append, List.map_append]
      show some (HO.lst (_ ++ [V.int 0])) = some (HO.lst (_ ++ [V.int (if hld j b = true then z else 0)]))
      rw [q, if_neg Bool.false_ne_true]
theorem o_SoMany_worths (T : Tx K mg) {fd : FuncData} (F : FunD K "worths" "SoMany.worths" (defArgs s_SoMany_worths) (defBody s_SoMany_worths) (defScope s_SoMany_worths) [] [] (He.ma K (ga K "SoMany") "worths") fd) (d : Nat) :
    FnOk P w K mg base CX0 3 (He.ma K (ga K "SoMany") "worths") fd ["self", "many"] (spWor K m d (ga K "SoMany")) := by
  refine okD F sc_SoMany_worths (fun vs H Q E h => ?_) (fun cdv A outer s H vs Q E hr h => ?_)
  · obtain ⟨a, dx, fs, W, t, rfl, _⟩ := h
    rfl
  · obtain ⟨a, dx, fs, W, t, rfl, hm, ha, hB, hQ⟩ := h
    obtain ⟨k, l, z, ha, rfl⟩ : ∃ k l z, H a = some (.ins (ga K "SoMany") dx (fMany k l z)) ∧ W = manyW m k l z := by
      have no : ∀ (i : Nat) (c : Str), kits[i]? = some c → i ≠ 2 → ga K "SoMany" ≠ ga K c := fun i c hi h0 e => by
        have := T.ne (show kits[2]? = some ("SoMany" : Str) from rfl) hi e
        omega
      cases hB with
      | bid h => exact (no 0 _ rfl (by decide) (ins_inj ha h).1).elim
      | only h hb hz => exact (no 1 _ rfl (by decide) (ins_inj ha h).1).elim
      | many h hk hl hz => exact ⟨_, _, _, (ins_inj ha h).2.1 ▸ h, rfl⟩
      | up h hk hm he => exact (no 3 _ rfl (by decide) (ins_inj ha h).1).elim
      | any h hl lw lt h4 e => exact (no 4 _ rfl (by decide) (ins_inj ha h).1).elim
      | one h hl lw lt h4 e => exact (no 5 _ rfl (by decide) (ins_inj ha h).1).elim
    refine ⟨_, pss_cons (ps_set (i := 2) sc_SoMany_worths.nd rfl (Or.inl rfl) (pe_lst pa_nil))
      (pss_cons (ps_for PassesOwn.never rfl (pi_range1 rfl T.n_range (pa_cons (pe_op op_shl pe_int (pv 1)) pa_nil)) (pg_name (i := 3) sc_SoMany_worths.nd rfl (Or.inl rfl))
        (pss_cons (ps_set (i := 4) sc_SoMany_worths.nd rfl (Or.inl rfl) (pe_cmpR op_ge (pe_c (c_size_of T) hr (Nat.le_refl _) rfl (pa_cons (pe_op op_and (pv 3) (pe_fld (pv 0) rfl)) pa_nil)) (pe_fld (pv 0) rfl) (nomark _)))
        (pss_one (ps_expr (pe_bm PySem.F.plainAttrs_list PySem.F.slot_list_append PySem.F.type_list_append mt_append (pv 2) (pa_cons (pe_ifExp (pt_val (pv 4)) (pe_fld (pv 0) rfl) pe_int) pa_nil))))))
      (pss_one (ps_ret (pv 2)))), ?_⟩
    obtain ⟨⟨r1, r2⟩, r3⟩ := rangeM hm
    refine ⟨Nat.zero_le _, fun M hM => ?_⟩
    refine ⟨_, rfl, _, _, rfl, rfl, ⟨by omega, by omega, by decide⟩, _, rfl, r1, r2, ?_⟩
    rw [r3]
    refine for_range (lo := 0) (n := 2 ^ m) (fun j σ H' => (∃ (v3 v4 : Option V), σ = [some (.ref a), some (nI m), some (.ref M), v3, v4]) ∧ Same H H' ∧ H' M = some (.lst (((List.range j).map fun x => if l ≤ (things (x &&& k)).length then z else 0).map V.int)))
      ⟨⟨none, none, rfl⟩, Same.new hM, upd_same⟩ ?_ ?_
    · rintro j σ H' hj ⟨⟨v3, v4, rfl⟩, s1, m1⟩
      have ha1 := s1 _ _ ha
      have e0 : (fMany k l z).lookup ("kind" : Str) = some (nI k) := (lk_miss _ _ (by decide +kernel)).trans ((lk_miss _ _ (by decide +kernel)).trans (lk_hit _ _ _))
      have e1 : (fMany k l z).lookup ("least" : Str) = some (nI l) := (lk_miss _ _ (by decide +kernel)).trans (lk_hit _ _ _)
      have e2 : (fMany k l z).lookup ("amount" : Str) = some (.int z) := lk_hit _ _ _
      refine ⟨_, rfl, _, rfl, a, _, dx, _, _, rfl, ha1, T.c_SoMany, T.a_SoMany_kind, e0, _, _, rfl, rfl, j &&& k, ?_, fun H2 s2 => ?_⟩
      · show [V.int (Builtin.bitAnd (0 + (j : Int)) (k : Int))] = _
        rw [Int.zero_add, andN]
        rfl
      have ha2 := s2 _ _ ha1
      have m2 := s2 _ _ m1
      refine ⟨_, rfl, a, _, dx, _, _, rfl, ha2, T.c_SoMany, T.a_SoMany_least, e1, _, _, rfl, rfl, ?_⟩
      refine ⟨_, rfl, .inl ⟨rfl, _, SqL.of m2⟩, _, rfl, _, rfl, ?_⟩
      have small : ((List.map V.int (List.map (fun x => if l ≤ (things (x &&& k)).length then z else 0) (List.range j)))).length < sizeLine := by
        have := pow64 hm
        refine small1000 ?_
        rw [List.length_map, List.length_map, List.length_range]
        omega
      have fin : ∀ y : Int, y = (if l ≤ (things (j &&& k)).length then z else 0) → (L2.upd H2 M (.lst (((List.range j).map fun x => if l ≤ (things (x &&& k)).length then z else 0).map V.int ++ [V.int y]))) M = some (.lst (((List.range (j + 1)).map fun x => if l ≤ (things (x &&& k)).length then z else 0).map V.int)) := by
        intro y hy
        rw [upd_same, range_more, List.map_append, List.map_append, hy]
        rfl
      refine ite2 (fun c => ?_) (fun c => ?_)
      · have c' := of_decide_eq_true c
        exact ⟨_, rfl, a, _, dx, _, _, rfl, ha2, T.c_SoMany, T.a_SoMany_amount, e2, M, _, _, rfl, rfl, m2, small, ⟨_, _, rfl⟩, Same.upd (s1.trans s2) hM, fin z (by rw [if_pos (by omega)])⟩
      · have c' : ¬ (l : Int) ≤ ((things (j &&& k)).length : Int) := fun z => c (decide_eq_true z)
        exact ⟨M, _, _, rfl, rfl, m2, small, ⟨_, _, rfl⟩, Same.upd (s1.trans s2) hM, fin 0 (by rw [if_neg (by omega)])⟩
    · rintro σ H' ⟨⟨v3, v4, rfl⟩, s1, m1⟩
      exact ⟨_, rfl, hQ M H' hM s1 m1⟩
theorem minI (i j : Int) : (if j < i then j else i) = min i j := by
  by_cases c : j < i
  · rw [if_pos c]; omega
  · rw [if_neg c]; omega
theorem o_UpTo_worths (T : Tx K mg) {fd : FuncData} (F : FunD K "worths" "UpTo.worths" (defArgs s_UpTo_worths) (defBody s_UpTo_worths) (defScope s_UpTo_worths) [] [] (He.ma K (ga K "UpTo") "worths") fd) (d : Nat) :
    FnOk P w K mg base CX0 3 (He.ma K (ga K "UpTo") "worths") fd ["self", "many"] (spWor K m d (ga K "UpTo")) := by
  refine okD F sc_UpTo_worths (fun vs H Q E h => ?_) (fun cdv A outer s H vs Q E hr h => ?_)
  · obtain ⟨a, dx, fs, W, t, rfl, _⟩ := h
    rfl
  · obtain ⟨a, dx, fs, W, t, rfl, hm, ha, hB, hQ⟩ := h
    obtain ⟨k, mo, e, ha, hbe, rfl⟩ : ∃ k mo e, H a = some (.ins (ga K "UpTo") dx (fUp k mo e)) ∧ (0 ≤ e ∧ e ≤ 1000000000) ∧ W = upW m k mo e := by
      have no : ∀ (i : Nat) (c : Str), kits[i]? = some c → i ≠ 3 → ga K "UpTo" ≠ ga K c := fun i c hi h0 e => by
        have := T.ne (show kits[3]? = some ("UpTo" : Str) from rfl) hi e
        omega
      cases hB with
      | bid h => exact (no 0 _ rfl (by decide) (ins_inj ha h).1).elim
      | only h hb hz => exact (no 1 _ rfl (by decide) (ins_inj ha h).1).elim
      | many h hk hl hz => exact (no 2 _ rfl (by decide) (ins_inj ha h).1).elim
      | up h hk hm he => exact ⟨_, _, _, (ins_inj ha h).2.1 ▸ h, he, rfl⟩
      | any h hl lw lt h4 e => exact (no 4 _ rfl (by decide) (ins_inj ha h).1).elim
      | one h hl lw lt h4 e => exact (no 5 _ rfl (by decide) (ins_inj ha h).1).elim
    refine ⟨_, pss_one (ps_ret (pe_lc (own := [("bundle", 2)]) (g := gName 2) rfl sc_UpTo_worths.nd (pi_range1 rfl T.n_range (pa_cons (pe_op op_shl pe_int (pv 1)) pa_nil))
      (blkOk_by (own := [("bundle", 2)]) (N := N_UpTo_worths) (sc := defScope s_UpTo_worths) (by decide +kernel))
      (fun _ _ _ _ _ => pg_name (i := 2) sc_UpTo_worths.nd rfl (Or.inl rfl)) (fun _ _ _ _ _ => pts_nil)
      (fun _ _ _ _ _ => pe_op op_mul (show PE _ _ (tFld K (tVar 0) "each") from pe_fld (pv 0) rfl) (pe_callB (call_min2 rfl) rfl T.n_min (by decide +kernel)
        (pa_cons (show PE _ _ (tFld K (tVar 0) "most") from pe_fld (pv 0) rfl) (pa_cons (pe_c (c_size_of T) hr (Nat.le_refl _) rfl (pa_cons (pe_op op_and (pv 2) (show PE _ _ (tFld K (tVar 0) "kind") from pe_fld (pv 0) rfl)) pa_nil)) pa_nil)))))), ?_⟩
    obtain ⟨⟨r1, r2⟩, r3⟩ := rangeM hm
    refine ⟨_, rfl, _, _, rfl, rfl, ⟨by omega, by omega, by decide⟩, _, rfl, r1, r2, fun D hD => ?_⟩
    rw [r3]
    refine lc_range (lo := 0) (n := 2 ^ m) (fun j H' => Same H H' ∧ H' D = some (.lst (((List.range j).map fun b => e * min (mo : Int) ((things (b &&& k)).length : Int)).map V.int))) ⟨Same.new hD, upd_same⟩ (fun j H' hj hP => ?_) (fun H' hP => hQ D H' hD hP.1 hP.2)
    obtain ⟨s1, d1⟩ := hP
    have ha1 := s1 _ _ ha
    have e0 : (fUp k mo e).lookup ("kind" : Str) = some (nI k) := (lk_miss _ _ (by decide +kernel)).trans ((lk_miss _ _ (by decide +kernel)).trans (lk_hit _ _ _))
    have e1 : (fUp k mo e).lookup ("most" : Str) = some (nI mo) := (lk_miss _ _ (by decide +kernel)).trans (lk_hit _ _ _)
    have e2 : (fUp k mo e).lookup ("each" : Str) = some (.int e) := lk_hit _ _ _
    refine ⟨rfl, yesI ?_⟩
    refine ⟨_, rfl, a, _, dx, _, _, rfl, ha1, T.c_UpTo, T.a_UpTo_each, e2, _, rfl, a, _, dx, _, _, rfl, ha1, T.c_UpTo, T.a_UpTo_most, e1, _, rfl, _, rfl, a, _, dx, _, _, rfl, ha1, T.c_UpTo, T.a_UpTo_kind, e0, _, _, rfl, rfl, j &&& k, ?_, fun H2 s2 => ?_⟩
    · show [V.int (Builtin.bitAnd (0 + (j : Int)) (k : Int))] = _
      rw [Int.zero_add, andN]
      rfl
    · refine ⟨(mo : Int), ((things (j &&& k)).length : Int), rfl, _, _, rfl, rfl, .inl ⟨by omega, by omega⟩, _, s2 _ _ d1, ?_, Same.upd (s1.trans s2) hD, ?_⟩
      · have := pow64 hm
        refine small1000 ?_
        rw [List.length_map, List.length_map, List.length_range]
        omega
      · rw [upd_same, range_more, List.map_append, List.map_append, minI]
        rfl
end
end Gv
namespace Gv
open PySem PySem.Spec PyProof.Rows L2
/-! ### what bidders tell, in the heap -/
def ToldEl (K : PySem.W.Frag) (m : Nat) (H : Hp) (t : Addr) (x : List Int × Option Int) : Prop := ∃ (b : Addr) (n : Nat), H t = some (.tup [.ref b, pI x.2]) ∧ BidAt K m H 4 b x.1 n
def ToldAt (K : PySem.W.Frag) (m : Nat) (H : Hp) (a : Addr) (T : Told) : Prop := ∃ ts : List Addr, H a = some (.lst (rf ts)) ∧ Each (ToldEl K m H) ts T
theorem ToldEl.same {K : PySem.W.Frag} {m : Nat} {H H' : Hp} {t : Addr} {x : List Int × Option Int} (s : Same H H') (h : ToldEl K m H t x) : ToldEl K m H' t x := by
  obtain ⟨b, n, h1, h2⟩ := h
  exact ⟨b, n, s _ _ h1, h2.same s⟩
theorem ToldAt.same {K : PySem.W.Frag} {m : Nat} {H H' : Hp} {a : Addr} {T : Told} (s : Same H H') (h : ToldAt K m H a T) : ToldAt K m H' a T := by
  obtain ⟨ts, h1, h2⟩ := h
  exact ⟨ts, s _ _ h1, h2.imp fun t x r => r.same s⟩
theorem cut_len (w : List Int) (p : Option Int) : (cutW w p).length = w.length := by
  cases p with
  | none => rfl
  | some q => exact List.length_map _
theorem offs_small {m : Nat} {T : Told} (hw : ∀ t ∈ T, WOk m t.1) (hm : m ≤ 6) : ∀ l ∈ offs T, l.length ≤ 64 := fun l hl => by
  obtain ⟨t, ht, rfl⟩ := List.mem_map.mp hl
  have h1 := off_len (cutW t.1 t.2)
  have h2 := pow64 hm
  rw [cut_len, (hw t ht).len] at h1
  omega
section
variable {P : Program} {w : World} {K : PySem.W.Frag} {mg : Str → Option Value} {base : Heap} {m : Nat}
theorem ToldAt.ok {H : Hp} {a : Addr} {T : Told} (h : ToldAt K m H a T) : ∀ t ∈ T, WOk m t.1 := fun t ht => by
  obtain ⟨ts, _, e⟩ := h
  obtain ⟨i, hi, ei⟩ := List.mem_iff_getElem.mp ht
  obtain ⟨x, _, b, n, _, hB⟩ := e.r (show T[i]? = some t by rw [List.getElem?_eq_getElem hi, ei])
  exact hB.ok
/-! ### worths of bids of bids -/
theorem BidAt.any_inv (T : Tx K mg) {H : Hp} {d t : Nat} {a dx : Addr} {W : List Int} {fs : List (Str × V)} (h : BidAt K m H (d + 1) a W t) (ha : H a = some (.ins (ga K "AnyOf") dx fs)) :
    ∃ (l : Addr) (ps : List Addr) (Ws : List (List Int)) (ts : List Nat), H a = some (.ins (ga K "AnyOf") dx (fSev l)) ∧ H l = some (.lst (rf ps)) ∧ ps.length = Ws.length ∧ ps.length = ts.length ∧ W = Ws.foldl sharedL (zeroW m) ∧
      ∀ (i : Nat) (p : Addr) (W : List Int) (t : Nat), ps[i]? = some p → Ws[i]? = some W → ts[i]? = some t → BidAt K m H d p W t := by
  have no : ∀ (i : Nat) (c : Str), kits[i]? = some c → i ≠ 4 → ga K "AnyOf" ≠ ga K c := fun i c hi h0 e => by
    have := T.ne (show kits[4]? = some ("AnyOf" : Str) from rfl) hi e
    omega
  cases h with
  | bid h => exact (no 0 _ rfl (by decide) (ins_inj ha h).1).elim
  | only h hb hz => exact (no 1 _ rfl (by decide) (ins_inj ha h).1).elim
  | many h hk hl hz => exact (no 2 _ rfl (by decide) (ins_inj ha h).1).elim
  | up h hk hm he => exact (no 3 _ rfl (by decide) (ins_inj ha h).1).elim
  | any h hl lw lt h4 e => exact ⟨_, _, _, _, (ins_inj ha h).2.1 ▸ h, hl, lw, lt, rfl, e⟩
  | one h hl lw lt h4 e => exact (no 5 _ rfl (by decide) (ins_inj ha h).1).elim
theorem BidAt.one_inv (T : Tx K mg) {H : Hp} {d t : Nat} {a dx : Addr} {W : List Int} {fs : List (Str × V)} (h : BidAt K m H (d + 1) a W t) (ha : H a = some (.ins (ga K "OneOf") dx fs)) :
    ∃ (l : Addr) (ps : List Addr) (Ws : List (List Int)) (ts : List Nat), H a = some (.ins (ga K "OneOf") dx (fSev l)) ∧ H l = some (.lst (rf ps)) ∧ ps.length = Ws.length ∧ ps.length = ts.length ∧ W = Ws.foldl oneL (zeroW m) ∧
      ∀ (i : Nat) (p : Addr) (W : List Int) (t : Nat), ps[i]? = some p → Ws[i]? = some W → ts[i]? = some t → BidAt K m H d p W t := by
  have no : ∀ (i : Nat) (c : Str), kits[i]? = some c → i ≠ 5 → ga K "OneOf" ≠ ga K c := fun i c hi h0 e => by
    have := T.ne (show kits[5]? = some ("OneOf" : Str) from rfl) hi e
    omega
  cases h with
  | bid h => exact (no 0 _ rfl (by decide) (ins_inj ha h).1).elim
  | only h hb hz => exact (no 1 _ rfl (by decide) (ins_inj ha h).1).elim
  | many h hk hl hz => exact (no 2 _ rfl (by decide) (ins_inj ha h).1).elim
  | up h hk hm he => exact (no 3 _ rfl (by decide) (ins_inj ha h).1).elim
  | any h hl lw lt h4 e => exact (no 4 _ rfl (by decide) (ins_inj ha h).1).elim
  | one h hl lw lt h4 e => exact ⟨_, _, _, _, (ins_inj ha h).2.1 ▸ h, hl, lw, lt, rfl, e⟩
theorem take_ok {f : List Int → List Int → List Int} (hf : ∀ u v, WOk m u → WOk m v → WOk m (f u v)) {Ws : List (List Int)} (h : ∀ W ∈ Ws, WOk m W) (i : Nat) : WOk m ((Ws.take i).foldl f (zeroW m)) :=
  foldl_ok hf _ _ (zero_ok m) fun W hW => h W (List.mem_of_mem_take hW)
theorem o_Any_worths (T : Tx K mg) {fd : FuncData} (F : FunD K "worths" "AnyOf.worths" (defArgs s_AnyOf_worths) (defBody s_AnyOf_worths) (defScope s_AnyOf_worths) [] [] (He.ma K (ga K "AnyOf") "worths") fd) (d k : Nat) (h3 : 3 ≤ k)
    (hV : ∀ C', isC K C' → Vir P w K mg base k "worths" C' (spWor K m d C')) : FnOk P w K mg base CX0 (k + 1) (He.ma K (ga K "AnyOf") "worths") fd ["self", "many"] (spWor K m (d + 1) (ga K "AnyOf")) := by
  refine okD F sc_AnyOf_worths (fun vs H Q E h => ?_) (fun cdv A outer s H vs Q E hr h => ?_)
  · obtain ⟨a, dx, fs, W, t, rfl, _⟩ := h
    rfl
  · obtain ⟨a, dx, fs, W, t, rfl, hm, ha, hB, hQ⟩ := h
    obtain ⟨l, ps, Ws, ts, ha, hl, lw, lt, rfl, e⟩ := hB.any_inv T ha
    have hWs : ∀ W ∈ Ws, WOk m W := each_ok lw lt fun i p W t h1 h2 h3 => (e i p W t h1 h2 h3).ok
    refine ⟨_, pss_cons (ps_setLc (i := 2) (own := [("bundle", 4)]) (g := gName 4) rfl sc_AnyOf_worths.nd rfl rfl (sw_true rfl rfl rfl (by decide +kernel)) (pi_range1 rfl T.n_range (pa_cons (pe_op op_shl pe_int (pv 1)) pa_nil))
        (blkOk_by (own := [("bundle", 4)]) (N := N_AnyOf_worths) (sc := defScope s_AnyOf_worths) (by decide +kernel))
        (fun _ _ _ _ _ => pg_name (i := 4) sc_AnyOf_worths.nd rfl (Or.inl rfl)) (fun _ _ _ _ _ => pts_nil) (fun _ _ _ _ _ => pe_int))
      (pss_cons (ps_for PassesOwn.never rfl (pi_list (pe_fld (pv 0) rfl)) (pg_name (i := 3) sc_AnyOf_worths.nd rfl (Or.inl rfl))
        (pss_one (ps_set (i := 2) sc_AnyOf_worths.nd rfl (Or.inl rfl) (pe_c (c_shared T) hr h3 rfl (pa_cons (pv 2) (pa_cons (pe_methV (sp := spWor K m d) (Cs := isC K) (pv 3) hV hr (Nat.le_refl _) (pa_cons (pv 1) pa_nil)) pa_nil))))))
      (pss_one (ps_ret (pv 2)))), ?_⟩
    obtain ⟨⟨r1, r2⟩, r3⟩ := rangeM hm
    have p64 := pow64 hm
    refine ⟨_, rfl, _, _, rfl, rfl, ⟨by omega, by omega, by decide⟩, _, rfl, r1, r2, fun D hD => ?_⟩
    rw [r3]
    refine lc_range (lo := 0) (n := 2 ^ m) (fun j H' => Same H H' ∧ H' D = some (.lst (((List.range j).map fun _ => (0 : Int)).map V.int))) ⟨Same.new hD, upd_same⟩ (fun j H' hj hP => ?_) (fun H' hP => ?_)
    · refine ⟨rfl, yesI ?_⟩
      refine ⟨_, hP.2, ?_, Same.upd hP.1 hD, ?_⟩
      · refine small1000 ?_
        rw [List.length_map, List.length_map, List.length_range]
        omega
      · rw [upd_same, range_more, List.map_append, List.map_append]
        rfl
    · obtain ⟨s1, d1⟩ := hP
      have hl1 := s1 _ _ hl
      refine ⟨_, rfl, a, _, dx, _, _, rfl, s1 _ _ ha, T.c_AnyOf, T.a_AnyOf_listed, listed_get l, l, rfl, ⟨_, SqL.of hl1⟩, ?_⟩
      refine for_list (K := K) (a := l) (xs := rf ps) (fun i σ H2 => (∃ (f : Addr) (v3 : Option V), σ = [some (.ref a), some (nI m), some (.ref f), v3, none] ∧ H f = none ∧ H2 f = some (.lst (((Ws.take i).foldl sharedL (zeroW m)).map V.int))) ∧ Same H H2)
        ⟨⟨D, none, rfl, hD, d1⟩, s1⟩ (fun i σ H2 _ hP => hP.2.seq (SqL.of hl)) ?_ ?_
      · rintro i x σ H2 hx ⟨⟨f, v3, rfl, hf0, hf⟩, s2⟩
        obtain ⟨p, hp, rfl⟩ := get_map hx
        have hj := lt_get hp
        have hWi : Ws[i]? = some Ws[i] := List.getElem?_eq_getElem (by omega)
        have hB1 := (e i p _ _ hp hWi (List.getElem?_eq_getElem (by omega))).same s2
        obtain ⟨C', dx1, fs1, hp1, hc1, no1⟩ := hB1.cls
        have ok1 := take_ok (m := m) (fun u v => shared_ok) hWs i
        refine ⟨_, rfl, _, rfl, p, C', dx1, fs1, rfl, hp1, hc1, no1.1, _, rfl, p, dx1, fs1, _, _, rfl, hm, hp1, hB1, fun q H3 hq s3 h3 => ?_⟩
        refine ⟨f, q, _, _, rfl, s3 _ _ hf, h3, by rw [ok1.len, hB1.ok.len], by rw [ok1.len]; exact p64, fun r H4 hr4 s4 h4 => ?_⟩
        refine ⟨⟨r, some (.ref p), rfl, (s2.trans s3).free hr4, ?_⟩, (s2.trans s3).trans s4⟩
        rw [take_more hWi, List.foldl_append]
        exact h4
      · rintro σ H2 ⟨⟨f, v3, rfl, hf0, hf⟩, s2⟩
        rw [List.length_map, lw, List.take_length] at hf
        exact ⟨_, rfl, hQ f H2 hf0 s2 hf⟩
theorem o_One_worths (T : Tx K mg) {fd : FuncData} (F : FunD K "worths" "OneOf.worths" (defArgs s_OneOf_worths) (defBody s_OneOf_worths) (defScope s_OneOf_worths) [] [] (He.ma K (ga K "OneOf") "worths") fd) (d k : Nat)
    (hV : ∀ C', isC K C' → Vir P w K mg base k "worths" C' (spWor K m d C')) : FnOk P w K mg base CX0 (k + 1) (He.ma K (ga K "OneOf") "worths") fd ["self", "many"] (spWor K m (d + 1) (ga K "OneOf")) := by
  refine okD F sc_OneOf_worths (fun vs H Q E h => ?_) (fun cdv A outer s H vs Q E hr h => ?_)
  · obtain ⟨a, dx, fs, W, t, rfl, _⟩ := h
    rfl
  · obtain ⟨a, dx, fs, W, t, rfl, hm, ha, hB, hQ⟩ := h
    obtain ⟨l, ps, Ws, ts, ha, hl, lw, lt, rfl, e⟩ := hB.one_inv T ha
    have hWs : ∀ W ∈ Ws, WOk m W := each_ok lw lt fun i p W t h1 h2 h3 => (e i p W t h1 h2 h3).ok
    refine ⟨_, pss_cons (ps_set (i := 2) sc_OneOf_worths.nd rfl (Or.inr rfl) (pe_lc (own := [("bundle", 5)]) (g := gName 5) rfl sc_OneOf_worths.nd (pi_range1 rfl T.n_range (pa_cons (pe_op op_shl pe_int (pv 1)) pa_nil))
        (blkOk_by (own := [("bundle", 5)]) (N := N_OneOf_worths) (sc := defScope s_OneOf_worths) (by decide +kernel))
        (fun _ _ _ _ _ => pg_name (i := 5) sc_OneOf_worths.nd rfl (Or.inl rfl)) (fun _ _ _ _ _ => pts_nil) (fun _ _ _ _ _ => pe_int)))
      (pss_cons (ps_for PassesOwn.never rfl (pi_list (pe_fld (pv 0) rfl)) (pg_name (i := 3) sc_OneOf_worths.nd rfl (Or.inl rfl))
        (pss_cons (ps_set (i := 4) sc_OneOf_worths.nd rfl (Or.inr rfl) (pe_methV (sp := spWor K m d) (Cs := isC K) (pv 3) hV hr (Nat.le_refl _) (pa_cons (pv 1) pa_nil)))
        (pss_one (ps_set (i := 2) sc_OneOf_worths.nd rfl (Or.inr rfl) (pe_lc (own := [("bundle", 5)]) (g := gName 5) rfl sc_OneOf_worths.nd (pi_range1 rfl T.n_range (pa_cons (pe_callB call_len_seq rfl T.n_len PySem.boot_len (pa_cons (pv 2) pa_nil)) pa_nil))
          (blkOk_by (own := [("bundle", 5)]) (N := N_OneOf_worths) (sc := defScope s_OneOf_worths) (by decide +kernel))
          (fun _ _ _ _ _ => pg_name (i := 5) sc_OneOf_worths.nd rfl (Or.inl rfl)) (fun _ _ _ _ _ => pts_nil)
          (fun _ _ _ _ _ => pe_callB (call_max2 rfl) rfl T.n_max (by decide +kernel) (pa_cons (pe_ix (r := rIxL K) ix_list (pv 2) (pv 5) (fun _ _ => rfl)) (pa_cons (pe_ix (r := rIxL K) ix_list (pv 4) (pv 5) (fun _ _ => rfl)) pa_nil)))))))
      )
      (pss_one (ps_ret (pv 2)))), ?_⟩
    obtain ⟨⟨r1, r2⟩, r3⟩ := rangeM hm
    have p64 := pow64 hm
    refine ⟨_, rfl, _, _, rfl, rfl, ⟨by omega, by omega, by decide⟩, _, rfl, r1, r2, fun D hD => ?_⟩
    rw [r3]
    refine lc_range (lo := 0) (n := 2 ^ m) (fun j H' => Same H H' ∧ H' D = some (.lst (((List.range j).map fun _ => (0 : Int)).map V.int))) ⟨Same.new hD, upd_same⟩ (fun j H' hj hP => ?_) (fun H' hP => ?_)
    · refine ⟨rfl, yesI ?_⟩
      refine ⟨_, hP.2, ?_, Same.upd hP.1 hD, ?_⟩
      · refine small1000 ?_
        rw [List.length_map, List.length_map, List.length_range]
        omega
      · rw [upd_same, range_more, List.map_append, List.map_append]
        rfl
    · obtain ⟨s1, d1⟩ := hP
      have hl1 := s1 _ _ hl
      refine ⟨_, rfl, a, _, dx, _, _, rfl, s1 _ _ ha, T.c_OneOf, T.a_OneOf_listed, listed_get l, l, rfl, ⟨_, SqL.of hl1⟩, ?_⟩
      refine for_list (K := K) (a := l) (xs := rf ps) (fun i σ H2 => (∃ (f : Addr) (v3 v4 : Option V), σ = [some (.ref a), some (nI m), some (.ref f), v3, v4, none] ∧ H f = none ∧ H2 f = some (.lst (((Ws.take i).foldl oneL (zeroW m)).map V.int))) ∧ Same H H2)
        ⟨⟨D, none, none, rfl, hD, d1⟩, s1⟩ (fun i σ H2 _ hP => hP.2.seq (SqL.of hl)) ?_ ?_
      · rintro i x σ H2 hx ⟨⟨f, v3, v4, rfl, hf0, hf⟩, s2⟩
        obtain ⟨p, hp, rfl⟩ := get_map hx
        have hj := lt_get hp
        have hWi : Ws[i]? = some Ws[i] := List.getElem?_eq_getElem (by omega)
        have hB1 := (e i p _ _ hp hWi (List.getElem?_eq_getElem (by omega))).same s2
        obtain ⟨C', dx1, fs1, hp1, hc1, no1⟩ := hB1.cls
        have ok1 := take_ok (m := m) (fun u v => one_ok) hWs i
        have ok2 := hB1.ok
        generalize eu : (Ws.take i).foldl oneL (zeroW m) = u at hf ok1
        generalize ev : Ws[i] = v at hB1 ok2 hWi
        refine ⟨_, rfl, p, C', dx1, fs1, rfl, hp1, hc1, no1.1, _, rfl, p, dx1, fs1, _, _, rfl, hm, hp1, hB1, fun q H3 hq s3 h3 => ?_⟩
        have hf3 := s3 _ _ hf
        refine ⟨_, rfl, f, _, rfl, .inl (SqL.of hf3), _, rfl, by omega, by rw [List.length_map, ok1.len]; omega, fun D2 hD2 => ?_⟩
        rw [List.length_map, ok1.len, Int.toNat_natCast]
        refine lc_range (lo := 0) (n := 2 ^ m) (fun j H' => Same H3 H' ∧ H' D2 = some (.lst (((List.range j).map fun b => max (wAt u b) (wAt v b)).map V.int))) ⟨Same.new hD2, upd_same⟩ (fun j H' hj hP => ?_) (fun H' hP => ?_)
        · obtain ⟨s4, d4⟩ := hP
          refine ⟨rfl, yesI ?_⟩
          refine ⟨_, rfl, _, rfl, f, _, _, _, rfl, rfl, SqL.of (s4 _ _ hf3), at_of (j := j) (Int.zero_add _) (wAt_get (by rw [ok1.len]; exact hj)), _, rfl, _, rfl, q, _, _, _, rfl, rfl, SqL.of (s4 _ _ h3), at_of (j := j) (Int.zero_add _) (wAt_get (by rw [ok2.len]; exact hj)), _, _, rfl, _, d4, ?_, Same.upd s4 hD2, ?_⟩
          · refine small1000 ?_
            rw [List.length_map, List.length_map, List.length_range]
            omega
          · rw [upd_same, range_more, List.map_append, List.map_append, maxI]
            rfl
        · obtain ⟨s4, d4⟩ := hP
          have s23 := s2.trans s3
          refine ⟨⟨D2, _, _, rfl, s23.free hD2, ?_⟩, s23.trans s4⟩
          rw [take_more hWi, List.foldl_append, eu]
          show H' D2 = some (.lst ((oneL u v).map V.int))
          unfold oneL
          rw [ok1.len]
          exact d4
      · rintro σ H2 ⟨⟨f, v3, v4, rfl, hf0, hf⟩, s2⟩
        rw [List.length_map, lw, List.take_length] at hf
        exact ⟨_, rfl, hQ f H2 hf0 s2 hf⟩
theorem v_worths (T : Tx K mg) : ∀ (d : Nat) (C : Addr), isC K C → Vir P w K mg base (d + 4) "worths" C (spWor K m d C) := by
  obtain ⟨f0, F0⟩ := T.d_Bid_worths
  obtain ⟨f1, F1⟩ := T.d_Only_worths
  obtain ⟨f2, F2⟩ := T.d_SoMany_worths
  obtain ⟨f3, F3⟩ := T.d_UpTo_worths
  obtain ⟨f4, F4⟩ := T.d_AnyOf_worths
  obtain ⟨f5, F5⟩ := T.d_OneOf_worths
  have b0 : Binds K f0 ["self", "many"] [] := F0.bindsN fun _ _ _ _ _ _ us hl => match us, hl with | [_, _], _ => rfl
  have b1 : Binds K f1 ["self", "many"] [] := F1.bindsN fun _ _ _ _ _ _ us hl => match us, hl with | [_, _], _ => rfl
  have b2 : Binds K f2 ["self", "many"] [] := F2.bindsN fun _ _ _ _ _ _ us hl => match us, hl with | [_, _], _ => rfl
  have b3 : Binds K f3 ["self", "many"] [] := F3.bindsN fun _ _ _ _ _ _ us hl => match us, hl with | [_, _], _ => rfl
  have b4 : Binds K f4 ["self", "many"] [] := F4.bindsN fun _ _ _ _ _ _ us hl => match us, hl with | [_, _], _ => rfl
  have b5 : Binds K f5 ["self", "many"] [] := F5.bindsN fun _ _ _ _ _ _ us hl => match us, hl with | [_, _], _ => rfl
  have noOk : ∀ {C : Addr} {vs : List V} {H : Hp} {Q : VK} {E : XK}, spWor K m 0 C vs H Q E → False := fun h => by
    obtain ⟨a, dx, fs, W, t, rfl, hm, ha, hB, hQ⟩ := h
    have := hB.pos
    omega
  intro d
  induction d with
  | zero =>
    rintro C ⟨c, hc, rfl⟩
    unfold kits at hc
    simp only [List.mem_cons, List.not_mem_nil, or_false] at hc
    rcases hc with rfl | rfl | rfl | rfl | rfl | rfl
    · exact ⟨_, f0, _, (o_Bid_worths T F0 0).mono (by omega), T.c_Bid, T.m_Bid_worths, b0⟩
    · exact ⟨_, f1, _, (o_Only_worths T F1 0).mono (by omega), T.c_Only, T.m_Only_worths, b1⟩
    · exact ⟨_, f2, _, (o_SoMany_worths T F2 0).mono (by omega), T.c_SoMany, T.m_SoMany_worths, b2⟩
    · exact ⟨_, f3, _, (o_UpTo_worths T F3 0).mono (by omega), T.c_UpTo, T.m_UpTo_worths, b3⟩
    · exact ⟨_, f4, _, okD F4 sc_AnyOf_worths (fun vs H Q E h => (noOk h).elim) fun cdv A outer s H vs Q E hr h => (noOk h).elim, T.c_AnyOf, T.m_AnyOf_worths, b4⟩
    · exact ⟨_, f5, _, okD F5 sc_OneOf_worths (fun vs H Q E h => (noOk h).elim) fun cdv A outer s H vs Q E hr h => (noOk h).elim, T.c_OneOf, T.m_OneOf_worths, b5⟩
  | succ d ih =>
    rintro C ⟨c, hc, rfl⟩
    unfold kits at hc
    simp only [List.mem_cons, List.not_mem_nil, or_false] at hc
    rcases hc with rfl | rfl | rfl | rfl | rfl | rfl
    · exact ⟨_, f0, _, (o_Bid_worths T F0 _).mono (by omega), T.c_Bid, T.m_Bid_worths, b0⟩
    · exact ⟨_, f1, _, (o_Only_worths T F1 _).mono (by omega), T.c_Only, T.m_Only_worths, b1⟩
    · exact ⟨_, f2, _, (o_SoMany_worths T F2 _).mono (by omega), T.c_SoMany, T.m_SoMany_worths, b2⟩
    · exact ⟨_, f3, _, (o_UpTo_worths T F3 _).mono (by omega), T.c_UpTo, T.m_UpTo_worths, b3⟩
    · exact ⟨_, f4, _, (o_Any_worths T F4 d (d + 4) (by omega) ih).mono (by omega), T.c_AnyOf, T.m_AnyOf_worths, b4⟩
    · exact ⟨_, f5, _, (o_One_worths T F5 d (d + 4) ih).mono (by omega), T.c_OneOf, T.m_OneOf_worths, b5⟩
/-! ### counted -/
def spCnt (K : PySem.W.Frag) (m : Nat) : Sp := fun vs H Q _ => ∃ (a : Addr) (T : Told), vs = [nI m, .ref a] ∧ m ≤ 6 ∧ ToldAt K m H a T ∧ T.length ≤ 3 ∧ ∀ p H', H p = none → Same H H' → OffsAt H' p (offs T) → Q (.ref p) H'
theorem c_counted (T : Tx K mg) : CalT P w K mg base 9 "counted" (spCnt K m) := by
  obtain ⟨fd, F⟩ := T.d_counted
  refine cal_of F T.g_counted (okD F sc_counted (fun vs H Q E h => ?_) (fun cdv A outer s H vs Q E hr h => ?_)) (fun _ _ _ _ _ _ us hl => match us, hl with | [_, _], _ => rfl)
  · obtain ⟨a, To, rfl, _⟩ := h
    rfl
  · obtain ⟨a, To, rfl, hm, hT, hl3, hQ⟩ := h
    refine ⟨_, pss_cons (ps_set (i := 2) sc_counted.nd rfl (Or.inl rfl) (pe_lst pa_nil))
      (pss_cons (ps_for PassesOwn.never rfl (pi_list (pv 1)) (pg_tup rfl (pgs_cons (pg_name (i := 3) sc_counted.nd rfl (Or.inl rfl)) (pgs_cons (pg_name (i := 4) sc_counted.nd rfl (Or.inl rfl)) pgs_nil)))
        (pss_one (ps_expr (pe_bm PySem.F.plainAttrs_list PySem.F.slot_list_append PySem.F.type_list_append mt_append (pv 2) (pa_cons
          (pe_c (c_offers_of T) hr (by decide) rfl (pa_cons (pe_c (c_pursed T) hr (by decide) rfl (pa_cons (pe_methV (sp := spWor K m 4) (Cs := isC K) (pv 3) (v_worths T 4) hr (Nat.le_refl _) (pa_cons (pv 0) pa_nil)) (pa_cons (pv 4) pa_nil))) pa_nil)) pa_nil)))))
      (pss_one (ps_ret (pv 2)))), ?_⟩
    obtain ⟨ts, ha, hte⟩ := id hT
    have p64 := pow64 hm
    have p0 : 0 < 2 ^ m := Nat.pow_pos (by decide)
    refine ⟨Nat.zero_le _, fun M hM => ?_⟩
    have s0 : Same H (L2.upd H M (.lst [])) := Same.new hM
    refine ⟨_, rfl, a, rfl, ⟨_, SqL.of (s0 _ _ ha)⟩, for_list (K := K) (a := a) (xs := rf ts) (fun i σ H' => (∃ (v3 v4 : Option V), σ = [some (nI m), some (.ref a), some (.ref M), v3, v4]) ∧ Same H H' ∧
        ∃ ms : List Addr, H' M = some (.lst (rf ms)) ∧ Each (fun p l => OffAt H' p l ∧ p ≠ M) ms (offs (To.take i)))
      ⟨⟨none, none, rfl⟩, s0, [], upd_same, .nil⟩ (fun i σ H' _ hP => hP.2.1.seq (SqL.of ha)) ?_ ?_⟩
    · rintro i x σ H' hx ⟨⟨v3, v4, rfl⟩, s1, ms, m1, e1⟩
      obtain ⟨t, ht, rfl⟩ := get_map hx
      obtain ⟨y, hy, b, n, htt, hB⟩ := hte.l ht
      have hB1 := hB.same s1
      obtain ⟨C', dx1, fs1, hp1, hc1, no1⟩ := hB1.cls
      have okW := hB1.ok
      refine ⟨t, _, rfl, SqT.of (s1 _ _ htt), rfl, _, _, rfl, _, _, rfl, rfl, ?_⟩
      refine ⟨_, rfl, .inl ⟨rfl, _, SqL.of m1⟩, _, rfl, b, C', dx1, fs1, rfl, hp1, hc1, no1.1, _, rfl, b, dx1, fs1, _, _, rfl, hm, hp1, hB1, fun q H3 hq s3 h3 => ?_⟩
      refine ⟨_, rfl, q, _, y.2, rfl, h3, by rw [okW.len]; exact p64, fun r H4 hr4 s4 h4 => ?_⟩
      refine ⟨r, _, rfl, h4, by rw [cut_len, okW.len]; exact p0, by rw [cut_len, okW.len]; exact p64, fun u H5 hu5 s5 h5 => ?_⟩
      have m5 := (s3.trans (s4.trans s5)) _ _ m1
      have nu : u ≠ M := by
        intro z
        subst z
        rw [(s3.trans s4) _ _ m1] at hu5
        cases hu5
      refine ⟨M, _, _, rfl, rfl, m5, ?_, ⟨_, _, rfl⟩, Same.upd (s1.trans (s3.trans (s4.trans s5))) hM, ms ++ [u], ?_, ?_⟩
      · refine small1000 ?_
        rw [List.length_map, e1.len]
        unfold offs
        rw [List.length_map, List.length_take]
        omega
      · rw [upd_same]
        show _ = some (HO.lst ((ms ++ [u]).map V.ref))
        rw [List.map_append]
        rfl
      · rw [take_more hy]
        unfold offs
        rw [List.map_append]
        exact (e1.imp fun p l' h => ⟨(h.1.same (s3.trans (s4.trans s5))).upd h.2 m5, h.2⟩).snoc ⟨h5.upd nu m5, nu⟩
    · rintro σ H' ⟨⟨v3, v4, rfl⟩, s1, ms, m1, e1⟩
      rw [List.length_map, hte.len, List.take_length] at e1
      exact ⟨_, rfl, hQ M H' hM s1 ⟨ms, m1, e1.imp fun p l h => h.1⟩⟩
end
end Gv
namespace Gv
open PySem PySem.Spec PyProof.Rows L2
section
variable {P : Program} {w : World} {K : PySem.W.Frag} {mg : Str → Option Value} {base : Heap} {m : Nat}
/-! ### gain_told -/
/-- what is told in the stead of the own bid: nothing, or a bid -/
def Lie (K : PySem.W.Frag) (m : Nat) (H : Hp) (T : Told) (i : Nat) (p : Option Int) (v : V) (T' : Told) : Prop := (v = .non ∧ T' = T) ∨ ∃ (b : Addr) (u : List Int) (n : Nat), v = .ref b ∧ BidAt K m H 4 b u n ∧ T' = T.set i (u, p)
def gainOf (W : List Int) (T' : Told) (m i : Nat) (c : Nat × Int) : Int := wAt W c.1 - (best ((offs T').set i []) (2 ^ m - 1) - (best (offs T') (2 ^ m - 1) - c.2))
def spGain (K : PySem.W.Frag) (m : Nat) : Sp := fun vs H Q _ => ∃ (a : Addr) (T T' : Told) (i : Nat) (W : List Int) (p : Option Int) (v : V), vs = [nI m, .ref a, nI i, v] ∧ m ≤ 6 ∧ ToldAt K m H a T ∧ T.length ≤ 3 ∧ (∀ t ∈ T, ∀ q, t.2 = some q → 0 ≤ q) ∧ T[i]? = some (W, p) ∧ Lie K m H T i p v T' ∧
  ∀ (H' : Hp) (c : Nat × Int) (l : Lst), Same H H' → (offs T')[i]? = some l → RecAt (offs T') (2 ^ m - 1) i l c → Q (.int (gainOf W T' m i c)) H'
theorem o_gain_told (T : Tx K mg) {fd : FuncData} (F : FunD K "gain_told" "gain_told" (defArgs s_gain_told) (defBody s_gain_told) (defScope s_gain_told) [.non] [] (ga K "gain_told") fd) :
    FnOk P w K mg base CX0 10 (ga K "gain_told") fd ["many", "told", "who", "bid"] (spGain K m) := by
  refine okD F sc_gain_told (fun vs H Q E h => ?_) (fun cdv A outer s H vs Q E hr h => ?_)
  · obtain ⟨a, To, T', i, W, p, v, rfl, _⟩ := h
    rfl
  · obtain ⟨a, To, T', i, W, p, v, rfl, hm, hT, hl3, hpu, hi, hv, hQ⟩ := h
    refine ⟨_, pss_cons (ps_asg (pe_ix ix_list (pv 1) (pv 2) (fun _ _ => rfl)) (pg_tup rfl (pgs_cons (pg_name (i := 4) sc_gain_told.nd rfl (Or.inl rfl)) (pgs_cons (pg_name (i := 5) sc_gain_told.nd rfl (Or.inl rfl)) pgs_nil))))
      (pss_cons (ps_set (i := 6) sc_gain_told.nd rfl (Or.inl rfl) (pe_callTy call_list_of rfl T.n_list (by decide +kernel) (pa_cons (pv 1) pa_nil)))
      (C8.pss_cut (ps_if (pt_cmp (pc_notN (pv 3))) (pss_one (ps_asg (pe_tup (pa_cons (pv 3) (pa_cons (pv 5) pa_nil))) (pg_sub (pv 6) (pv 2) set_list))) pss_nil)
      (pss_cons (ps_set (i := 7) sc_gain_told.nd rfl (Or.inl rfl) (pe_ix ix_list (pe_c (c_receipts_of T) hr (by decide) rfl (pa_cons (pv 0) (pa_cons (pe_c (c_counted (m := m) T) hr (Nat.le_refl _) rfl (pa_cons (pv 0) (pa_cons (pv 6) pa_nil))) pa_nil))) (pv 2) (fun _ _ => rfl)))
      (pss_one (ps_ret (pe_op op_sub (pe_ix ix_list (pe_methV (sp := spWor K m 4) (Cs := isC K) (pv 4) (v_worths T 4) hr (by decide) (pa_cons (pv 0) pa_nil)) (pe_ix ix_tup (pv 7) pe_int (fun _ _ => rfl)) (fun _ _ => rfl))
        (pe_ix ix_tup (pv 7) pe_int (fun _ _ => rfl)))))))), ?_⟩
    obtain ⟨ts, ha, hte⟩ := id hT
    have p64 := pow64 hm
    obtain ⟨t, ht, b, n, htt, hB⟩ := hte.r hi
    have hti : (rf ts)[i]? = some (V.ref t) := by rw [List.getElem?_map, ht]; rfl
    have hlt := lt_get ht
    have hB1 : BidAt K m H 4 b W n := hB
    refine ⟨_, rfl, _, rfl, a, _, _, _, rfl, rfl, SqL.of ha, atI_nat hti, t, _, rfl, SqT.of htt, rfl, _, _, rfl, _, _, rfl, rfl, ?_⟩
    refine ⟨_, rfl, a, _, rfl, .inl (SqL.of ha), fun r hr0 => ?_⟩
    have s1 : Same H (L2.upd H r (.lst (rf ts))) := Same.new hr0
    refine ⟨fun σ H' => σ = [some (nI m), some (.ref a), some (nI i), some v, some (.ref b), some (pI p), some (.ref r), none] ∧ Same H H' ∧ ToldAt K m H' r T', ?_, ?_⟩
    · -- if bid is not None
      rcases hv with ⟨rfl, rfl⟩ | ⟨lb, u, ln, rfl, hLB, rfl⟩
      · refine ⟨_, rfl, _, rfl, iteF ⟨rfl, s1, ts, upd_same, hte.imp fun t x h => h.same s1⟩⟩
      · refine ⟨_, rfl, _, rfl, iteT ⟨_, rfl, _, rfl, (by show 2 ≤ sizeLine; decide), fun e he => ?_⟩⟩
        have nre : r ≠ e := ne_of_none upd_same he
        have r2 : (L2.upd (L2.upd H r (.lst (rf ts))) e (.tup [.ref lb, pI p])) r = some (.lst (rf ts)) := (upd_ne nre).trans upd_same
        have s2 : Same H (L2.upd (L2.upd (L2.upd H r (.lst (rf ts))) e (.tup [.ref lb, pI p])) r (.lst ((rf ts).set i (.ref e)))) := Same.upd (Same.upd s1 (s1.free he)) hr0
        refine ⟨_, rfl, _, rfl, r, rf ts, (i : Int), i, rfl, rfl, r2, ?_, rfl, s2, ts.set i e, ?_, ?_⟩
        · unfold ixN
          rw [if_pos (by omega), if_pos (by rw [List.length_map]; omega), Int.toNat_natCast]
        · rw [upd_same]
          show _ = some (HO.lst ((ts.set i e).map V.ref))
          rw [List.map_set]
        · exact (hte.imp fun t x h => h.same s2).set i ⟨lb, ln, (upd_ne nre.symm).trans upd_same, hLB.same s2⟩
    · -- receipt = receipts_of(many, counted(many, rows))[who]
      rintro σ H2 ⟨rfl, s2, hT2⟩
      have hl' : T'.length = To.length := by
        rcases hv with ⟨rfl, rfl⟩ | ⟨lb, u, ln, rfl, hLB, rfl⟩
        · rfl
        · rw [List.length_set]
      have hpu' : ∀ t ∈ T', ∀ q, t.2 = some q → 0 ≤ q := by
        rcases hv with ⟨rfl, rfl⟩ | ⟨lb, u, ln, rfl, hLB, rfl⟩
        · exact hpu
        · intro t ht
          rcases List.mem_or_eq_of_mem_set ht with h | rfl
          · exact hpu t h
          · exact hpu (W, p) (List.mem_of_getElem? hi)
      have okO : ∀ q ∈ offs T', LOk q := offs_ok ⟨hT2.ok, hpu'⟩ hm
      have hio : i < T'.length := by
        have := lt_get hi
        omega
      obtain ⟨l, hl⟩ : ∃ l, (offs T')[i]? = some l := ⟨_, List.getElem?_eq_getElem (by unfold offs; rw [List.length_map]; exact hio)⟩
      refine ⟨_, rfl, _, rfl, _, rfl, r, T', rfl, hm, hT2, by omega, fun o H3 ho s3 o3 => ?_⟩
      refine ⟨m, o, offs T', rfl, hm, o3, by unfold offs; rw [List.length_map]; omega, okO, fun q H4 hq s4 ⟨rs, h4, hrl, hrs⟩ => ?_⟩
      have hri : i < rs.length := by
        rw [hrl]
        unfold offs
        rw [List.length_map]
        exact hio
      have hr1 : rs[i]? = some rs[i] := List.getElem?_eq_getElem hri
      obtain ⟨c, rc, hc⟩ := hrs i _ l hr1 hl
      have s24 := s2.trans (s3.trans s4)
      have hB4 := hB1.same s24
      obtain ⟨C', dx1, fs1, hp1, hc1, no1⟩ := hB4.cls
      refine ⟨_, rfl, q, _, _, _, rfl, rfl, SqL.of h4, atI_nat (j := i) (v := .ref rs[i]) (by rw [List.getElem?_map, hr1]; rfl), ?_⟩
      refine ⟨_, rfl, b, C', dx1, fs1, rfl, hp1, hc1, no1.1, _, rfl, b, dx1, fs1, _, _, rfl, hm, hp1, hB4, fun y H5 hy s5 h5 => ?_⟩
      have hc5 := s5 _ _ hc
      have cl : c.1 < W.length := by
        rw [hB1.ok.len]
        exact lt_of_hld rc.hl
      refine ⟨_, rfl, rs[i], _, _, _, rfl, rfl, SqT.of hc5, atI_nat (j := 0) rfl, y, _, _, _, rfl, rfl, SqL.of h5, atI_nat (wAt_get cl), ?_⟩
      refine ⟨_, rfl, rs[i], _, _, _, rfl, rfl, SqT.of hc5, atI_nat (j := 4) rfl, _, _, rfl, rfl, ?_⟩
      exact hQ H5 c l (s24.trans s5) hl rc
/-- a promise for every number of things -/
def spE (sp : Nat → Sp) : Sp := fun vs H Q E => ∃ m, sp m vs H Q E
theorem fnE {sp : Nat → Sp} {k : Nat} {f : Addr} {fd : FuncData} {ps : List Str} (h : ∀ m, FnOk P w K mg base CX0 k f fd ps (sp m)) : FnOk P w K mg base CX0 k f fd ps (spE sp) :=
  ⟨fun vs H Q E ⟨m, q⟩ => (h m).len vs H Q E q, fun A outer s H args us vs Q E hr he hb hv ⟨m, q⟩ => (h m).run A outer s H args us vs Q E hr he hb hv q⟩
/-- with a bid -/
theorem c_gain4 (T : Tx K mg) : Cal P w K mg base 10 "gain_told" (spE (spGain K)) [] := by
  obtain ⟨fd, F⟩ := T.d_gain_told
  obtain ⟨ds, hd, hb⟩ := F.binds1 (ps := ["many", "told", "who", "bid"]) 4 1 (by intro z; cases z) rfl fun Ta kV doc pm an cdv ct us its h1 h2 => match us, h1, its, h2 with | [_, _, _, _], _, [_], _ => ⟨_, rfl, rfl⟩
  exact ⟨_, fd, _, ds, fnE fun m => o_gain_told T F, T.g_gain_told, F.kp, hb, hd⟩
/-- without -/
theorem c_gain3 (T : Tx K mg) : Cal P w K mg base 10 "gain_told" (spE (spGain K)) [.non] := by
  obtain ⟨fd, F⟩ := T.d_gain_told
  obtain ⟨ds, hd, hb⟩ := F.binds1 (ps := ["many", "told", "who", "bid"]) 3 0 (by intro z; cases z) rfl fun Ta kV doc pm an cdv ct us its h1 h2 => match us, h1, its, h2 with | [_, _, _], _, [_], _ => ⟨_, rfl, rfl⟩
  exact ⟨_, fd, _, ds, fnE fun m => o_gain_told T F, T.g_gain_told, F.kp, hb, hd⟩
/-! ### sure_gain -/
def sureOf (W : List Int) (T : Told) (m i : Nat) (p : Option Int) : Int × Nat := sure (wAt W) (ticket ((offs T).set i []) (2 ^ m - 1)) p (2 ^ m)
def spSure (K : PySem.W.Frag) (m : Nat) : Sp := fun vs H Q _ => ∃ (a : Addr) (T : Told) (i : Nat) (W : List Int) (p : Option Int), vs = [nI m, .ref a, nI i] ∧ m ≤ 6 ∧ ToldAt K m H a T ∧ T.length ≤ 3 ∧ T[i]? = some (W, p) ∧
  New H (.tup [.int (sureOf W T m i p).1, nI (sureOf W T m i p).2]) Q
theorem tick_get {m b : Nat} {O : List Lst} (h : b < 2 ^ m) : ((tickets m O).map V.int)[b]? = some (V.int (ticket O (2 ^ m - 1) b)) := by
  unfold tickets
  rw [List.getElem?_map, List.getElem?_map, List.getElem?_range h]
  rfl
theorem o_sure_gain (T : Tx K mg) {fd : FuncData} (F : FunD K "sure_gain" "sure_gain" (defArgs s_sure_gain) (defBody s_sure_gain) (defScope s_sure_gain) [] [] (ga K "sure_gain") fd) :
    FnOk P w K mg base CX0 10 (ga K "sure_gain") fd ["many", "told", "who"] (spSure K m) := by
  refine okD F sc_sure_gain (fun vs H Q E h => ?_) (fun cdv A outer s H vs Q E hr h => ?_)
  · obtain ⟨a, To, i, W, p, rfl, _⟩ := h
    rfl
  · obtain ⟨a, To, i, W, p, rfl, hm, hT, hl3, hi, hQ⟩ := h
    refine ⟨_, pss_cons (ps_asg (pe_ix ix_list (pv 1) (pv 2) (fun _ _ => rfl)) (pg_tup rfl (pgs_cons (pg_name (i := 3) sc_sure_gain.nd rfl (Or.inl rfl)) (pgs_cons (pg_name (i := 4) sc_sure_gain.nd rfl (Or.inl rfl)) pgs_nil))))
      (pss_cons (ps_set (i := 5) sc_sure_gain.nd rfl (Or.inl rfl) (pe_methV (sp := spWor K m 4) (Cs := isC K) (pv 3) (v_worths T 4) hr (by decide) (pa_cons (pv 0) pa_nil)))
      (pss_cons (ps_set (i := 6) sc_sure_gain.nd rfl (Or.inl rfl) (pe_c (c_ticket_prices T) hr (by decide) rfl (pa_cons (pv 0) (pa_cons (pe_c (c_counted (m := m) T) hr (Nat.le_refl _) rfl (pa_cons (pv 0) (pa_cons (pv 1) pa_nil))) (pa_cons (pv 2) pa_nil)))))
      (pss_cons (ps_set (i := 7) sc_sure_gain.nd rfl (Or.inl rfl) pe_int)
      (pss_cons (ps_set (i := 8) sc_sure_gain.nd rfl (Or.inl rfl) pe_int)
      (pss_cons (ps_for PassesOwn.never rfl (pi_range2 rfl T.n_range (pa_cons pe_int (pa_cons (pe_callB call_len_seq rfl T.n_len PySem.boot_len (pa_cons (pv 6) pa_nil)) pa_nil))) (pg_name (i := 9) sc_sure_gain.nd rfl (Or.inl rfl))
        (pss_cons (ps_if (PW.pt (pw_and (pt_cmp (pc_notN (pv 4))) (pw_and1 (pt_cmpR op_ge (pe_ix ix_list (pv 6) (pv 9) (fun _ _ => rfl)) (pv 4) (nomark _))))) (pss_one ps_continue) pss_nil)
        (pss_one (ps_if (pt_cmpR op_gt (pe_op op_sub (pe_ix ix_list (pv 5) (pv 9) (fun _ _ => rfl)) (pe_ix ix_list (pv 6) (pv 9) (fun _ _ => rfl))) (pv 7) (nomark _))
          (pss_cons (ps_set (i := 7) sc_sure_gain.nd rfl (Or.inl rfl) (pe_op op_sub (pe_ix ix_list (pv 5) (pv 9) (fun _ _ => rfl)) (pe_ix ix_list (pv 6) (pv 9) (fun _ _ => rfl))))
          (pss_one (ps_set (i := 8) sc_sure_gain.nd rfl (Or.inl rfl) (pv 9)))) pss_nil))))
      (pss_one (ps_ret (pe_tup (pa_cons (pv 7) (pa_cons (pv 8) pa_nil))))))))))
      , ?_⟩
    obtain ⟨ts, ha, hte⟩ := id hT
    have p64 := pow64 hm
    have p0 : 0 < 2 ^ m := Nat.pow_pos (by decide)
    obtain ⟨t, ht, b, n, htt, hB⟩ := hte.r hi
    have hti : (rf ts)[i]? = some (V.ref t) := by rw [List.getElem?_map, ht]; rfl
    have hB1 : BidAt K m H 4 b W n := hB
    obtain ⟨C', dx1, fs1, hp1, hc1, no1⟩ := hB1.cls
    have okW := hB1.ok
    have hiT := lt_get hi
    refine ⟨_, rfl, _, rfl, a, _, _, _, rfl, rfl, SqL.of ha, atI_nat hti, t, _, rfl, SqT.of htt, rfl, _, _, rfl, _, _, rfl, rfl, ?_⟩
    refine ⟨_, rfl, b, C', dx1, fs1, rfl, hp1, hc1, no1.1, _, rfl, b, dx1, fs1, _, _, rfl, hm, hp1, hB1, fun y H1 hy s1 h1 => ?_⟩
    refine ⟨_, rfl, _, rfl, _, rfl, a, To, rfl, hm, hT.same s1, hl3, fun o H2 ho s2 o2 => ⟨_, rfl, m, o, offs To, i, rfl, hm, o2, by unfold offs; rw [List.length_map]; exact hl3, by unfold offs; rw [List.length_map]; exact hiT, offs_small hT.ok hm, fun k H3 hk s3 h3 => ?_⟩⟩
    have s13 : Same H H3 := s1.trans (s2.trans s3)
    have h13 := (s2.trans s3) _ _ h1
    have tl : ((tickets m ((offs To).set i [])).map V.int).length = 2 ^ m := by unfold tickets; rw [List.length_map, List.length_map, List.length_range]
    refine ⟨_, rfl, k, _, rfl, .inl (SqL.of h3), 1, _, rfl, ⟨by decide, by decide, by omega, by rw [tl]; omega⟩, ?_⟩
    rw [tl, show (((2 ^ m : Nat) : Int) - 1).toNat = 2 ^ m - 1 by omega]
    generalize eO : (offs To).set i [] = O at h3 hQ
    refine for_range (lo := 1) (n := 2 ^ m - 1) (fun j σ H' => H' = H3 ∧ ∃ v9 : Option V, σ = [some (nI m), some (.ref a), some (nI i), some (.ref b), some (pI p), some (.ref y), some (.ref k),
        some (.int ((List.range' 1 j).foldl (stepS (wAt W) (ticket O (2 ^ m - 1)) p) (0, 0)).1), some (nI ((List.range' 1 j).foldl (stepS (wAt W) (ticket O (2 ^ m - 1)) p) (0, 0)).2), v9])
      ⟨rfl, none, rfl⟩ ?_ ?_
    · rintro j σ H' hj ⟨rfl, v9, rfl⟩
      have hb : 1 + j < 2 ^ m := by omega
      have en : (List.range' 1 (j + 1)).foldl (stepS (wAt W) (ticket O (2 ^ m - 1)) p) (0, 0) = stepS (wAt W) (ticket O (2 ^ m - 1)) p ((List.range' 1 j).foldl (stepS (wAt W) (ticket O (2 ^ m - 1)) p) (0, 0)) (1 + j) := by
        rw [range'_more, List.foldl_append]
        rfl
      rw [en]
      generalize (List.range' 1 j).foldl (stepS (wAt W) (ticket O (2 ^ m - 1)) p) (0, 0) = c
      have hj1 : (1 : Int) + (j : Int) = ((1 + j : Nat) : Int) := by omega
      have gT : atI ((tickets m O).map V.int) (1 + (j : Int)) = some (V.int (ticket O (2 ^ m - 1) (1 + j))) := at_of (j := 1 + j) hj1 (tick_get hb)
      have gW : atI (W.map V.int) (1 + (j : Int)) = some (V.int (wAt W (1 + j))) := at_of (j := 1 + j) hj1 (wAt_get (by rw [okW.len]; exact hb))
      have rest : reach p (ticket O (2 ^ m - 1) (1 + j)) = true → stepS (wAt W) (ticket O (2 ^ m - 1)) p c (1 + j) = if wAt W (1 + j) - ticket O (2 ^ m - 1) (1 + j) > c.1 then (wAt W (1 + j) - ticket O (2 ^ m - 1) (1 + j), 1 + j) else c := fun h => by
        unfold stepS
        rw [if_neg (by rw [h]; exact fun z => Bool.noConfusion z)]
      have out : reach p (ticket O (2 ^ m - 1) (1 + j)) = false → stepS (wAt W) (ticket O (2 ^ m - 1)) p c (1 + j) = c := fun h => by
        unfold stepS
        rw [if_pos h]
      cases p with
      | none =>
        refine ⟨_, rfl, _, rfl, iteF (iteF ?_)⟩
        rw [rest rfl]
        refine ⟨_, rfl, _, rfl, y, _, _, _, rfl, rfl, SqL.of h13, gW, _, rfl, _, rfl, k, _, _, _, rfl, rfl, SqL.of h3, gT, _, _, rfl, rfl, _, rfl, _, _, rfl, rfl, _, rfl, ite2 (fun z => ?_) (fun z => ?_)⟩
        · have z' := of_decide_eq_true z
          rw [if_pos z']
          refine ⟨_, rfl, _, rfl, y, _, _, _, rfl, rfl, SqL.of h13, gW, _, rfl, _, rfl, k, _, _, _, rfl, rfl, SqL.of h3, gT, _, _, rfl, rfl, ?_⟩
          refine ⟨_, rfl, rfl, some (.int (1 + (j : Int))), ?_⟩
          show [_, _, _, _, _, _, _, _, some (V.int (1 + (j : Int))), _] = [_, _, _, _, _, _, _, _, some (nI (1 + j)), _]
          unfold nI
          rw [hj1]
        · have z' : ¬ wAt W (1 + j) - ticket O (2 ^ m - 1) (1 + j) > c.1 := fun y => z (decide_eq_true y)
          rw [if_neg z']
          exact ⟨rfl, _, rfl⟩
      | some q =>
        refine ⟨_, rfl, _, rfl, iteT ?_⟩
        refine ⟨_, rfl, _, rfl, k, _, _, _, rfl, rfl, SqL.of h3, gT, _, rfl, _, _, rfl, rfl, _, rfl, ite2 (fun z => ?_) (fun z => ?_)⟩
        · have z' := of_decide_eq_true z
          rw [out (decide_eq_false (by omega))]
          exact ⟨rfl, _, rfl⟩
        · have z' : ¬ q ≤ ticket O (2 ^ m - 1) (1 + j) := fun y => z (decide_eq_true y)
          rw [rest (decide_eq_true (by omega))]
          refine ⟨_, rfl, _, rfl, y, _, _, _, rfl, rfl, SqL.of h13, gW, _, rfl, _, rfl, k, _, _, _, rfl, rfl, SqL.of h3, gT, _, _, rfl, rfl, _, rfl, _, _, rfl, rfl, _, rfl, ite2 (fun z => ?_) (fun z => ?_)⟩
          · have z' := of_decide_eq_true z
            rw [if_pos z']
            refine ⟨_, rfl, _, rfl, y, _, _, _, rfl, rfl, SqL.of h13, gW, _, rfl, _, rfl, k, _, _, _, rfl, rfl, SqL.of h3, gT, _, _, rfl, rfl, ?_⟩
            refine ⟨_, rfl, rfl, some (.int (1 + (j : Int))), ?_⟩
            show [_, _, _, _, _, _, _, _, some (V.int (1 + (j : Int))), _] = [_, _, _, _, _, _, _, _, some (nI (1 + j)), _]
            unfold nI
            rw [hj1]
          · have z' : ¬ wAt W (1 + j) - ticket O (2 ^ m - 1) (1 + j) > c.1 := fun y => z (decide_eq_true y)
            rw [if_neg z']
            exact ⟨rfl, _, rfl⟩
    · rintro σ H' ⟨rfl, v9, rfl⟩
      refine ⟨_, rfl, _, rfl, (by show 2 ≤ sizeLine; decide), fun r hr2 => hQ r _ (s13.free hr2) (Same.upd s13 (s13.free hr2)) ?_⟩
      rw [upd_same]
      unfold sureOf sure
      rw [eO]
theorem c_sure_gain (T : Tx K mg) : CalT P w K mg base 10 "sure_gain" (spE (spSure K)) := by
  obtain ⟨fd, F⟩ := T.d_sure_gain
  exact cal_of F T.g_sure_gain (fnE fun m => o_sure_gain T F) (fun _ _ _ _ _ _ us hl => match us, hl with | [_, _, _], _ => rfl)
end
end Gv
namespace Gv
open PySem PySem.Spec PyProof.Rows L2
/-- the part of a heap that an earlier one has not -/
def nw (Hb H : Hp) : Hp := fun b => if Hb b = none then H b else none
theorem nw_at {Hb H : Hp} {b : Addr} {o : HO} (hb : Hb b = none) (h : H b = some o) : nw Hb H b = some o := by unfold nw; rw [if_pos hb]; exact h
theorem nw_of {Hb H : Hp} {b : Addr} {o : HO} (h : nw Hb H b = some o) : Hb b = none ∧ H b = some o := by
  unfold nw at h
  by_cases c : Hb b = none
  · rw [if_pos c] at h; exact ⟨c, h⟩
  · rw [if_neg c] at h; cases h
theorem nw_same {Hb H H' : Hp} (s : Same H H') : Same (nw Hb H) (nw Hb H') := fun b o e => let ⟨h1, h2⟩ := nw_of e; nw_at h1 (s b o h2)
theorem nw_in {Hb H : Hp} : Same (nw Hb H) H := fun b o e => (nw_of e).2
/-- a heap without one object -/
def del (D : Addr) (H : Hp) : Hp := fun b => if b = D then none else H b
theorem del_at {D b : Addr} {H : Hp} {o : HO} (hb : b ≠ D) (h : H b = some o) : del D H b = some o := by unfold del; rw [if_neg hb]; exact h
theorem del_of {D b : Addr} {H : Hp} {o : HO} (h : del D H b = some o) : b ≠ D ∧ H b = some o := by
  unfold del at h
  by_cases c : b = D
  · rw [if_pos c] at h; cases h
  · rw [if_neg c] at h; exact ⟨c, h⟩
theorem del_same {D : Addr} {H H' : Hp} (s : Same H H') : Same (del D H) (del D H') := fun b o e => let ⟨h1, h2⟩ := del_of e; del_at h1 (s b o h2)
theorem del_upd {D : Addr} {H : Hp} {o : HO} : Same (del D H) (del D (L2.upd H D o)) := fun b u e => let ⟨h1, h2⟩ := del_of e; del_at h1 ((upd_ne h1).trans h2)
theorem del_in {D : Addr} {H : Hp} : Same (del D H) H := fun b o e => (del_of e).2
theorem nw_del {Hb H : Hp} {D : Addr} {o : HO} (h : Hb D = some o) : Same (nw Hb H) (del D H) := fun b u e => let ⟨h1, h2⟩ := nw_of e; del_at (fun z => by rw [z, h] at h1; cases h1) h2
/-! ### what the law builds, in the heap -/
structure ScOk (s0 s1 s2 : Int) : Prop where
  a : 1 ≤ s0 ∧ s0 ≤ 100000000
  b : 1 ≤ s1 ∧ s1 ≤ 100000000
  c : 7 ≤ s2 ∧ s2 ≤ 31
def ScAt (H : Hp) (p : Addr) : Prop := ∃ s0 s1 s2 : Int, H p = some (.tup [.int s0, .int s1, .int s2]) ∧ ScOk s0 s1 s2
def RowAt (H : Hp) (r : Addr) : Prop := ∃ (b : Nat) (z : Int), H r = some (.tup [nI b, .int z]) ∧ (1 ≤ b ∧ b ≤ 63) ∧ (0 ≤ z ∧ z ≤ 1000000000)
def SpecAt (H : Hp) (p : Addr) : Prop := ∃ (way so : Nat) (rl : Addr) (rs : List Addr), H p = some (.tup [nI way, .ref rl, nI so]) ∧ H rl = some (.lst (rf rs)) ∧ rs.length ≤ 3 ∧ (∀ r ∈ rs, RowAt H r) ∧ (1 ≤ so ∧ so ≤ 6) ∧ way ≤ 5 ∧ (rs = [] → way ≤ 1 ∨ way = 5)
def PuOk (p : Option Int) : Prop := ∀ q, p = some q → 0 ≤ q ∧ q ≤ 1000000000
section
variable {H H' : Hp} {p : Addr}
theorem ScAt.same (s : Same H H') (h : ScAt H p) : ScAt H' p := by
  obtain ⟨s0, s1, s2, h1, h2⟩ := h
  exact ⟨s0, s1, s2, s _ _ h1, h2⟩
theorem RowAt.same (s : Same H H') (h : RowAt H p) : RowAt H' p := by
  obtain ⟨b, z, h1, h2⟩ := h
  exact ⟨b, z, s _ _ h1, h2⟩
theorem SpecAt.same (s : Same H H') (h : SpecAt H p) : SpecAt H' p := by
  obtain ⟨way, so, rl, rs, h1, h2, h3, h4, h5⟩ := h
  exact ⟨way, so, rl, rs, s _ _ h1, s _ _ h2, h3, fun r hr => (h4 r hr).same s, h5⟩
end
theorem arg2 {a : Addr} {z : Int} {n : Nat} (h : z = (n : Int)) : [V.ref a, V.int z] = [V.ref a, nI n] := by rw [h]; rfl
/-- an amount of the law's -/
theorem amt_in {x y s0 s1 : Int} (h0 : 1 ≤ s0 ∧ s0 ≤ 100000000) (h1 : 1 ≤ s1 ∧ s1 ≤ 100000000) (hx : 0 ≤ x ∧ x ≤ 9) : 0 ≤ x * s0 + y % s1 ∧ x * s0 + y % s1 ≤ 1000000000 := by
  have a1 : 0 ≤ x * s0 := Int.mul_nonneg hx.1 (by omega)
  have a2 : x * s0 ≤ 9 * 100000000 := Int.mul_le_mul hx.2 h0.2 (by omega) (by omega)
  have a3 := Int.emod_nonneg y (show s1 ≠ 0 by omega)
  have a4 := Int.emod_lt_of_pos y (show 0 < s1 by omega)
  omega
section
variable {P : Program} {w : World} {K : PySem.W.Frag} {mg : Str → Option Value} {base : Heap}
/-! ### cells, whole -/
def spCell (K : PySem.W.Frag) : Sp := fun vs H Q _ => ∃ (a : Addr) (ns : List Int) (k : Nat), vs = [.ref a, nI k] ∧ SqL K H a (ns.map V.int) ∧ ∀ z : Int, Q (.int z) H
theorem c_cell (T : Tx K mg) : CalT P w K mg base 1 "_law_cell_at" (spCell K) := by
  obtain ⟨fd, F⟩ := T.d_l_cell_at
  refine cal_of F T.g_l_cell_at (okD F sc_l_cell_at (fun vs H Q E h => ?_) (fun cdv A outer s H vs Q E hr h => ?_)) (fun _ _ _ _ _ _ us hl => match us, hl with | [_, _], _ => rfl)
  · obtain ⟨a, ns, k, rfl, _⟩ := h
    rfl
  · obtain ⟨a, ns, k, rfl, hS, hQ⟩ := h
    refine ⟨_, pss_cons (ps_if (pt_cmpR op_lt (pv 1) (pe_callB call_len_seq rfl T.n_len PySem.boot_len (pa_cons (pv 0) pa_nil)) (nomark _)) (pss_one (ps_ret (pe_ix ix_list (pv 0) (pv 1) (fun _ _ => rfl)))) pss_nil)
      (pss_one (ps_ret pe_int)), ?_⟩
    refine ⟨_, rfl, _, rfl, a, _, rfl, .inl hS, _, _, rfl, rfl, _, rfl, ite2 (fun z => ?_) (fun z => hQ 0)⟩
    have z' := of_decide_eq_true z
    rw [List.length_map] at z'
    exact ⟨_, rfl, _, rfl, a, _, _, _, rfl, rfl, hS, atI_nat (wAt_get (by omega)), hQ _⟩
theorem c_lwhole (T : Tx K mg) : CalT P w K mg base 1 "_law_whole" spWhole := by
  obtain ⟨fd, F⟩ := T.d_l_whole
  refine cal_of F T.g_l_whole (okD F sc_l_whole (fun vs H Q E h => ?_) (fun cdv A outer s H vs Q E hr h => ?_)) (fun _ _ _ _ _ _ us hl => match us, hl with | [_], _ => rfl)
  · obtain ⟨i, rfl, _⟩ := h
    rfl
  · obtain ⟨i, rfl, hQ⟩ := h
    refine ⟨_, pss_one (ps_ret (pe_and (pe_callB call_isi rfl T.n_isinstance (by decide +kernel) (pa_cons (pv 0) (pa_cons (pe_bltn (v := .ty "int") (u := .type "int") rfl T.n_int (by decide +kernel) rfl) pa_nil)))
      (pe_one (pe_not (pe_callB call_isi rfl T.n_isinstance (by decide +kernel) (pa_cons (pv 0) (pa_cons (pe_bltn (v := .ty "bool") (u := .type "bool") rfl T.n_bool (by decide +kernel) rfl) pa_nil))))))), ?_⟩
    refine ⟨_, rfl, _, _, _, _, true, rfl, .ty "int", .base (.int i), kit_ty (by decide +kernel), _, rfl, iteT ?_⟩
    exact ⟨_, rfl, _, _, _, _, false, rfl, .ty "bool", .base (.int i), kit_ty (by decide +kernel), _, rfl, hQ⟩
/-! ### scales, how many things, purses -/
def spScale : Sp := fun vs H Q _ => ∃ z : Int, vs = [.int z] ∧ ∀ (p : Addr) (H' : Hp) (s0 s1 : Int), Same H H' → (1 ≤ s0 ∧ s0 ≤ 100000000) → (1 ≤ s1 ∧ s1 ≤ 100000000) → H' p = some (.tup [.int s0, .int s1]) → Q (.ref p) H'
theorem pick {xs : List Int} {i lo hi : Int} (h0 : 0 ≤ i) (h1 : i < xs.length) (hx : ∀ x ∈ xs, lo ≤ x ∧ x ≤ hi) : ∃ x, atI (xs.map V.int) i = some (V.int x) ∧ lo ≤ x ∧ x ≤ hi := by
  have hl : i.toNat < xs.length := by omega
  refine ⟨xs[i.toNat], at_of (j := i.toNat) (by omega) (by rw [List.getElem?_map, List.getElem?_eq_getElem hl]; rfl), hx _ (List.getElem_mem hl)⟩
theorem c_lscale (T : Tx K mg) : CalT P w K mg base 1 "_law_scale" spScale := by
  obtain ⟨fd, F⟩ := T.d_l_scale
  refine cal_of F T.g_l_scale (okD F sc_l_scale (fun vs H Q E h => ?_) (fun cdv A outer s H vs Q E hr h => ?_)) (fun _ _ _ _ _ _ us hl => match us, hl with | [_], _ => rfl)
  · obtain ⟨z, rfl, _⟩ := h
    rfl
  · obtain ⟨z, rfl, hQ⟩ := h
    refine ⟨_, pss_one (ps_ret (pe_tup (pa_cons (pe_ix ix_list (pe_lst (pa_cons pe_int (pa_cons pe_int (pa_cons (pe_op op_pow pe_int pe_int) pa_nil)))) (pe_op op_mod (pv 0) pe_int) (fun _ _ => rfl))
      (pa_cons (pe_ix ix_list (pe_lst (pa_cons pe_int (pa_cons pe_int (pa_cons pe_int (pa_cons (pe_op op_pow pe_int pe_int) pa_nil))))) (pe_op op_mod (pe_op op_fdiv (pv 0) pe_int) pe_int) (fun _ _ => rfl)) pa_nil)))), ?_⟩
    obtain ⟨x0, hx0, b0⟩ := pick (xs := [1, 100, 10 ^ (8 : Int).toNat]) (i := z % 3) (lo := 1) (hi := 100000000) (by omega) (by show z % 3 < 3; omega) (by decide)
    obtain ⟨x1, hx1, b1⟩ := pick (xs := [1, 1, 100, 10 ^ (8 : Int).toNat]) (i := z / 3 % 4) (lo := 1) (hi := 100000000) (by omega) (by show z / 3 % 4 < 4; omega) (by decide)
    refine ⟨_, _, rfl, rfl, ⟨by omega, by omega, by decide⟩, (by show 3 ≤ sizeLine; decide), fun p hp => ?_⟩
    refine ⟨_, rfl, _, _, rfl, rfl, (by show (0 : Int) < 3; decide), p, _, _, _, rfl, rfl, SqL.of upd_same, hx0, ?_⟩
    refine ⟨_, _, rfl, rfl, ⟨by omega, by omega, by decide⟩, (by show 4 ≤ sizeLine; decide), fun q hq => ?_⟩
    refine ⟨_, rfl, _, _, rfl, rfl, ⟨by decide, by decide⟩, _, _, rfl, rfl, (by show (0 : Int) < 4; decide), q, _, _, _, rfl, rfl, SqL.of upd_same, hx1, (by show 2 ≤ sizeLine; decide), fun r hr2 => ?_⟩
    have s1 : Same H (L2.upd H p (.lst [.int 1, .int 100, .int (10 ^ (8 : Int).toNat)])) := Same.new hp
    have s2 := Same.upd (o := .lst [.int 1, .int 1, .int 100, .int (10 ^ (8 : Int).toNat)]) s1 (s1.free hq)
    exact hQ r _ x0 x1 (Same.upd s2 (s2.free hr2)) b0 b1 upd_same
def spMany : Sp := fun vs H Q _ => ∃ z : Int, vs = [.int z] ∧ ∀ (H' : Hp) (m : Nat), m ≤ 5 → Same H H' → Q (nI m) H'
theorem c_lmany (T : Tx K mg) : CalT P w K mg base 1 "_law_many" spMany := by
  obtain ⟨fd, F⟩ := T.d_l_many
  refine cal_of F T.g_l_many (okD F sc_l_many (fun vs H Q E h => ?_) (fun cdv A outer s H vs Q E hr h => ?_)) (fun _ _ _ _ _ _ us hl => match us, hl with | [_], _ => rfl)
  · obtain ⟨z, rfl, _⟩ := h
    rfl
  · obtain ⟨z, rfl, hQ⟩ := h
    refine ⟨_, pss_one (ps_ret (pe_ix ix_list (pe_lst (pa_cons pe_int (pa_cons pe_int (pa_cons pe_int (pa_cons pe_int (pa_cons pe_int (pa_cons pe_int (pa_cons pe_int (pa_cons pe_int pa_nil))))))))) (pe_op op_mod (pv 0) pe_int) (fun _ _ => rfl))), ?_⟩
    obtain ⟨x0, hx0, b0⟩ := pick (xs := [0, 1, 2, 2, 3, 3, 4, 5]) (i := z % 8) (lo := 0) (hi := 5) (by omega) (by show z % 8 < 8; omega) (by decide)
    refine ⟨(by show 8 ≤ sizeLine; decide), fun p hp => ?_⟩
    refine ⟨_, rfl, _, _, rfl, rfl, (by show (0 : Int) < 8; decide), p, _, _, _, rfl, rfl, SqL.of upd_same, hx0, ?_⟩
    have := hQ (L2.upd H p (.lst [.int 0, .int 1, .int 2, .int 2, .int 3, .int 3, .int 4, .int 5])) x0.toNat (by omega) (Same.new hp)
    unfold nI at this
    rw [show ((x0.toNat : Nat) : Int) = x0 by omega] at this
    exact this
def spPuBy : Sp := fun vs H Q _ => ∃ (z : Int) (sc : Addr), vs = [.int z, .ref sc] ∧ ScAt H sc ∧ ∀ p, PuOk p → Q (pI p) H
theorem c_lpurse (T : Tx K mg) : CalT P w K mg base 1 "_law_purse_by" spPuBy := by
  obtain ⟨fd, F⟩ := T.d_l_purse_by
  refine cal_of F T.g_l_purse_by (okD F sc_l_purse_by (fun vs H Q E h => ?_) (fun cdv A outer s H vs Q E hr h => ?_)) (fun _ _ _ _ _ _ us hl => match us, hl with | [_, _], _ => rfl)
  · obtain ⟨z, sc, rfl, _⟩ := h
    rfl
  · obtain ⟨z, sc, rfl, ⟨s0, s1, s2, hs, ok⟩, hQ⟩ := h
    refine ⟨_, pss_cons (ps_if (pt_cmpR op_eq (pe_op op_mod (pv 0) pe_int) pe_int (nomark _)) (pss_one (ps_ret pe_non)) pss_nil)
      (pss_one (ps_ret (pe_op op_add (pe_op op_mul (pe_op op_mod (pe_op op_fdiv (pv 0) pe_int) pe_int) (pe_ix ix_tup (pv 1) pe_int (fun _ _ => rfl)))
        (pe_op op_mod (pe_op op_mul (pe_op op_fdiv (pv 0) pe_int) pe_int) (pe_ix ix_tup (pv 1) pe_int (fun _ _ => rfl)))))), ?_⟩
    refine ⟨_, rfl, _, _, rfl, rfl, (by show (0 : Int) < 3; decide), rfl, _, rfl, ite2 (fun c => hQ none fun q h => by cases h) (fun c => ?_)⟩
    refine ⟨_, rfl, _, _, rfl, rfl, ⟨by decide, by decide⟩, _, _, rfl, rfl, (by show (0 : Int) < 10; decide), _, rfl, sc, _, _, _, rfl, rfl, SqT.of hs, atI_nat (j := 0) rfl, _, _, rfl, rfl, .inl ⟨by omega, by omega⟩, ?_⟩
    refine ⟨_, rfl, _, _, rfl, rfl, ⟨by decide, by decide⟩, _, _, rfl, rfl, .inr ⟨by decide, by decide⟩, _, rfl, sc, _, _, _, rfl, rfl, SqT.of hs, atI_nat (j := 1) rfl, _, _, rfl, rfl, (by have := ok.b; omega), _, _, rfl, rfl, ?_⟩
    exact hQ (some _) fun q h => by
      cases h
      exact amt_in ok.a ok.b ⟨by omega, by omega⟩
/-! ### specs -/
def spSpec (K : PySem.W.Frag) : Sp := fun vs H Q _ => ∃ (a : Addr) (ns : List Int) (k : Nat) (sc : Addr), vs = [.ref a, nI k, .ref sc] ∧ SqL K H a (ns.map V.int) ∧ ScAt H sc ∧ ∀ p H', H p = none → Same H H' → SpecAt (nw H H') p → Q (.ref p) H'
theorem c_lspec (T : Tx K mg) : CalT P w K mg base 2 "_law_spec_by" (spSpec K) := by
  obtain ⟨fd, F⟩ := T.d_l_spec_by
  refine cal_of F T.g_l_spec_by (okD F sc_l_spec_by (fun vs H Q E h => ?_) (fun cdv A outer s H vs Q E hr h => ?_)) (fun _ _ _ _ _ _ us hl => match us, hl with | [_, _, _], _ => rfl)
  · obtain ⟨a, ns, k, sc, rfl, _⟩ := h
    rfl
  · obtain ⟨a, ns, k, sc, rfl, hS, hC, hQ⟩ := h
    obtain ⟨s0, s1, s2, hs, ok⟩ := id hC
    refine ⟨_, pss_cons (ps_set (i := 3) sc_l_spec_by.nd rfl (Or.inl rfl) (pe_lst pa_nil))
      (pss_cons (ps_for PassesOwn.never rfl (pi_range1 rfl T.n_range (pa_cons (pe_op op_mod (pe_c (c_cell T) hr (Nat.le_refl _) rfl (pa_cons (pv 0) (pa_cons (pe_op op_add (pv 1) pe_int) pa_nil))) pe_int) pa_nil)) (pg_name (i := 4) sc_l_spec_by.nd rfl (Or.inl rfl))
        (pss_cons (ps_set (i := 5) sc_l_spec_by.nd rfl (Or.inl rfl) (pe_c (c_cell T) hr (Nat.le_refl _) rfl (pa_cons (pv 0) (pa_cons (pe_op op_add (pe_op op_add (pv 1) pe_int) (pv 4)) pa_nil))))
        (pss_cons (ps_set (i := 6) sc_l_spec_by.nd rfl (Or.inl rfl) (pe_op op_fdiv (pv 5) (pe_ix ix_tup (pv 2) pe_int (fun _ _ => rfl))))
        (pss_one (ps_expr (pe_bm PySem.F.plainAttrs_list PySem.F.slot_list_append PySem.F.type_list_append mt_append (pv 3) (pa_cons (pe_tup (pa_cons (pe_op op_add (pe_op op_mod (pv 5) (pe_ix ix_tup (pv 2) pe_int (fun _ _ => rfl))) pe_int)
          (pa_cons (pe_op op_add (pe_op op_mul (pe_op op_mod (pv 6) pe_int) (pe_ix ix_tup (pv 2) pe_int (fun _ _ => rfl))) (pe_op op_mod (pe_op op_mul (pe_op op_fdiv (pv 6) pe_int) pe_int) (pe_ix ix_tup (pv 2) pe_int (fun _ _ => rfl)))) pa_nil))) pa_nil)))))))
      (pss_cons (ps_set (i := 7) sc_l_spec_by.nd rfl (Or.inl rfl) (pe_op op_mod (pe_c (c_cell T) hr (Nat.le_refl _) rfl (pa_cons (pv 0) (pa_cons (pv 1) pa_nil))) pe_int))
      (C8.pss_cut (ps_if (PW.pt (pw_and (pt_cmpR op_eq (pe_callB call_len_seq rfl T.n_len PySem.boot_len (pa_cons (pv 3) pa_nil)) pe_int (nomark _)) (pw_and1 (pt_cmpR op_gt (pv 7) pe_int (nomark _))))) (pss_one (ps_set (i := 7) sc_l_spec_by.nd rfl (Or.inl rfl) pe_int)) pss_nil)
      (pss_one (ps_ret (pe_tup (pa_cons (pv 7) (pa_cons (pv 3) (pa_cons (pe_op op_add (pe_op op_mod (pe_op op_fdiv (pe_c (c_cell T) hr (Nat.le_refl _) rfl (pa_cons (pv 0) (pa_cons (pe_op op_add (pv 1) pe_int) pa_nil))) pe_int) pe_int) pe_int) pa_nil))))))))), ?_⟩
    refine ⟨Nat.zero_le _, fun M hM => ?_⟩
    have sM : Same H (L2.upd H M (.lst [])) := Same.new hM
    refine ⟨_, rfl, _, rfl, _, _, rfl, rfl, a, ns, k + 1, arg2 (z := (k : Int) + 1) (by omega), sM.seq hS, fun z0 => ?_⟩
    refine ⟨_, _, rfl, rfl, (by show (0 : Int) < 4; decide), z0 % 4, rfl, by omega, by omega, ?_⟩
    refine for_range (lo := 0) (n := (z0 % 4).toNat) (fun j σ H' => (∃ (v4 v5 v6 : Option V), σ = [some (.ref a), some (nI k), some (.ref sc), some (.ref M), v4, v5, v6, none]) ∧ Same H H' ∧ ∃ rs : List Addr, H' M = some (.lst (rf rs)) ∧ rs.length = j ∧ ∀ r ∈ rs, H r = none ∧ RowAt H' r)
      ⟨⟨none, none, none, rfl⟩, sM, [], upd_same, rfl, fun _ h => by cases h⟩ ?_ ?_
    · rintro j σ H' hj ⟨⟨v4, v5, v6, rfl⟩, sH, rs, mH, hrl, hrs⟩
      refine ⟨_, rfl, _, rfl, _, _, rfl, rfl, _, rfl, _, _, rfl, rfl, a, ns, k + 2 + j, ?_, sH.seq hS, fun z => ?_⟩
      · show [V.ref a, V.int ((k : Int) + 2 + (0 + (j : Int)))] = _
        rw [show (k : Int) + 2 + (0 + (j : Int)) = ((k + 2 + j : Nat) : Int) by omega]
        rfl
      have hs' := sH _ _ hs
      have c1 := ok.c
      have c2 := ok.b
      refine ⟨_, rfl, _, rfl, sc, _, _, _, rfl, rfl, SqT.of hs', atI_nat (j := 2) rfl, _, _, rfl, rfl, ⟨by omega, by omega⟩, ?_⟩
      refine ⟨_, rfl, .inl ⟨rfl, _, SqL.of mH⟩, ?_⟩
      refine ⟨_, rfl, _, rfl, sc, _, _, _, rfl, rfl, SqT.of hs', atI_nat (j := 2) rfl, _, _, rfl, rfl, (by omega), _, _, rfl, rfl, ?_⟩
      refine ⟨_, rfl, _, _, rfl, rfl, (by show (0 : Int) < 9; decide), _, rfl, sc, _, _, _, rfl, rfl, SqT.of hs', atI_nat (j := 0) rfl, _, _, rfl, rfl, .inl ⟨by omega, by omega⟩, ?_⟩
      refine ⟨_, rfl, _, _, rfl, rfl, ⟨by decide, by decide⟩, _, _, rfl, rfl, .inr ⟨by decide, by decide⟩, _, rfl, sc, _, _, _, rfl, rfl, SqT.of hs', atI_nat (j := 1) rfl, _, _, rfl, rfl, (by omega), _, _, rfl, rfl, ?_⟩
      refine ⟨(by show 2 ≤ sizeLine; decide), fun t ht => ?_⟩
      have nMt : M ≠ t := ne_of_none mH ht
      have b1 := Int.emod_nonneg z (show s2 ≠ 0 by omega)
      have b2 := Int.emod_lt_of_pos z (show 0 < s2 by omega)
      refine ⟨M, _, _, rfl, rfl, (upd_ne nMt).trans mH, ?_, ⟨_, _, _, rfl⟩, Same.upd (Same.upd sH (sH.free ht)) hM, rs ++ [t], ?_, ?_, ?_⟩
      · refine small1000 ?_
        rw [List.length_map, hrl]
        omega
      · rw [upd_same]
        show _ = some (HO.lst ((rs ++ [t]).map V.ref))
        rw [List.map_append]
        rfl
      · rw [List.length_append, hrl]
        rfl
      · intro r hr2
        rcases List.mem_append.mp hr2 with hr2 | hr2
        · obtain ⟨h0, b, y, hb, hb2⟩ := hrs r hr2
          exact ⟨h0, b, y, (upd_ne (ne_of hb mH (by intro z; cases z))).trans ((upd_ne (ne_of_none hb ht)).trans hb), hb2⟩
        · rw [List.mem_singleton] at hr2
          subst hr2
          refine ⟨sH.free ht, (z % s2 + 1).toNat, _, (upd_ne nMt.symm).trans (upd_same.trans ?_), by omega, amt_in ok.a ok.b (x := z / s2 % 9) (y := z / s2 / 9 * 48271) ⟨by omega, by omega⟩⟩
          unfold nI
          rw [show (((z % s2 + 1).toNat : Nat) : Int) = z % s2 + 1 by omega]
    · rintro σ H' ⟨⟨v4, v5, v6, rfl⟩, sH, rs, mH, hrl, hrs⟩
      refine ⟨_, rfl, _, rfl, a, ns, k, rfl, sH.seq hS, fun z1 => ?_⟩
      refine ⟨_, _, rfl, rfl, (by show (0 : Int) < 6; decide), ?_⟩
      refine ⟨fun σ2 H2 => H2 = H' ∧ ∃ way : Nat, σ2 = [some (.ref a), some (nI k), some (.ref sc), some (.ref M), v4, v5, v6, some (nI way)] ∧ way ≤ 5 ∧ (rs = [] → way ≤ 1 ∨ way = 5), ?_, ?_⟩
      · have ew : V.int (z1 % 6) = nI (z1 % 6).toNat := by
          unfold nI
          rw [show (((z1 % 6).toNat : Nat) : Int) = z1 % 6 by omega]
        refine ⟨_, rfl, M, _, rfl, .inl (SqL.of mH), rfl, _, rfl, ?_⟩
        rw [List.length_map, dec_int]
        by_cases c : rs.length = 0
        · rw [show ((rs.length : Int) == 0) = true from beq_iff_eq.mpr (by omega)]
          refine iteT ⟨_, rfl, _, _, rfl, rfl, _, rfl, ite2 (fun g => ?_) (fun g => ?_)⟩
          · exact ⟨rfl, 5, rfl, Nat.le_refl _, fun _ => .inr rfl⟩
          · have g' : ¬ (1 : Int) < z1 % 6 := fun y => g (decide_eq_true y)
            refine ⟨rfl, (z1 % 6).toNat, ?_, by omega, fun _ => .inl (by omega)⟩
            show [_, _, _, _, _, _, _, some (V.int (z1 % 6))] = _
            rw [ew]
        · rw [show ((rs.length : Int) == 0) = false from beq_false_of_ne (by omega)]
          refine iteF (iteF ⟨rfl, (z1 % 6).toNat, ?_, by omega, fun e => (c (by rw [e]; rfl)).elim⟩)
          show [_, _, _, _, _, _, _, some (V.int (z1 % 6))] = _
          rw [ew]
      · rintro σ2 H2 ⟨rfl, way, rfl, hw5, hw⟩
        refine ⟨_, rfl, _, rfl, _, rfl, _, rfl, _, _, rfl, rfl, a, ns, k + 1, arg2 (z := (k : Int) + 1) (by omega), sH.seq hS, fun z2 => ?_⟩
        refine ⟨_, _, rfl, rfl, ⟨by decide, by decide⟩, _, _, rfl, rfl, (by show (0 : Int) < 6; decide), _, _, rfl, rfl, (by show 3 ≤ sizeLine; decide), fun t ht => ?_⟩
        have sF : Same H (L2.upd H2 t (.tup [nI way, .ref M, .int (z2 / 4 % 6 + 1)])) := Same.upd sH (sH.free ht)
        refine hQ t _ (sH.free ht) sF ⟨way, (z2 / 4 % 6 + 1).toNat, M, rs, nw_at (sH.free ht) ?_, nw_at hM ((upd_ne (ne_of_none mH ht)).trans mH), ?_, fun r hr2 => ?_, by omega, hw5, hw⟩
        · rw [upd_same]
          unfold nI
          rw [show (((z2 / 4 % 6 + 1).toNat : Nat) : Int) = z2 / 4 % 6 + 1 by omega]
        · rw [hrl]
          omega
        · obtain ⟨h0, b, y, hb, hb2⟩ := hrs r hr2
          exact ⟨b, y, nw_at h0 ((upd_ne (ne_of_none hb ht)).trans hb), hb2⟩
end
end Gv
namespace Gv
open PySem PySem.Spec PyProof.Rows L2
/-! ### bids by their depth and tally -/
def BidTo (K : PySem.W.Frag) (m : Nat) (H : Hp) (d c : Nat) (q : Addr) : Prop := ∃ (W : List Int) (n : Nat), BidAt K m H d q W n ∧ n ≤ c
section
variable {K : PySem.W.Frag} {m : Nat} {H H' : Hp} {d d' c c' : Nat} {q : Addr}
theorem BidTo.same (s : Same H H') (h : BidTo K m H d c q) : BidTo K m H' d c q := by
  obtain ⟨W, n, h1, h2⟩ := h
  exact ⟨W, n, h1.same s, h2⟩
theorem BidTo.up_ (h : BidTo K m H d c q) (hd : d ≤ d') (hc : c ≤ c') : BidTo K m H d' c' q := by
  obtain ⟨W, n, h1, h2⟩ := h
  exact ⟨W, n, h1.up_ hd, by omega⟩
theorem bids_of : ∀ (qs : List Addr), (∀ q ∈ qs, BidTo K m H d c q) → ∃ (Ws : List (List Int)) (ts : List Nat), qs.length = Ws.length ∧ qs.length = ts.length ∧ ts.sum ≤ c * qs.length ∧
    ∀ (i : Nat) (q : Addr) (W : List Int) (t : Nat), qs[i]? = some q → Ws[i]? = some W → ts[i]? = some t → BidAt K m H d q W t
  | [], _ => ⟨[], [], rfl, rfl, Nat.zero_le _, fun i q W t h => by simp at h⟩
  | q :: qs, h => by
    obtain ⟨Ws, ts, h1, h2, h3, h4⟩ := bids_of qs fun x hx => h x (List.mem_cons_of_mem _ hx)
    obtain ⟨W, n, hB, hn⟩ := h q List.mem_cons_self
    refine ⟨W :: Ws, n :: ts, by simp [h1], by simp [h2], ?_, fun i x y t a b e => ?_⟩
    · rw [List.sum_cons, List.length_cons, Nat.mul_add, Nat.mul_one]
      omega
    · cases i with
      | zero =>
        simp at a b e
        subst a b e
        exact hB
      | succ i => exact h4 i x y t (by simpa using a) (by simpa using b) (by simpa using e)
/-! ### bids are made: what the calls of the classes ask -/
theorem make_sev {k : VK} {Hb : Hp} {C L x dx : Addr} {qs : List Addr} (hC : C = ga K "AnyOf" ∨ C = ga K "OneOf") (sb : Same Hb H) (hL : H L = some (.lst (rf qs))) (hb : ∀ q ∈ qs, BidTo K m (nw Hb H) d c q) (hd : d ≤ 3) (hc : c * qs.length ≤ 23) (h24 : qs.length ≤ 24)
    (nx : H x = none) (ndx : H dx = none) (hk : ∀ H', Same H H' → BidTo K m (nw Hb H') (d + 1) (1 + c * qs.length) x → k .non H') :
    spISev K m C [.ref x, .ref L] (L2.upd (L2.upd H dx (.own x)) x (.ins C dx [])) k E0 := by
  obtain ⟨Ws, ts, lw, lt, hs, e⟩ := bids_of qs hb
  refine ⟨x, dx, L, qs, Ws, ts, H, rfl, upd_same, nx, Same.upd (Same.new ndx) nx, hL, lw, lt, h24, by omega, fun i q W t h1 h2 h3 => ((e i q W t h1 h2 h3).same nw_in).up_ hd, fun l H' hl s h1 h2 => hk H' s ?_⟩
  obtain ⟨W, hB⟩ := sev_bid (m := m) hC (nw_at (sb.free nx) h1) (nw_at (sb.free hl) h2) lw lt h24 fun i q W t h1 h2 h3 => (e i q W t h1 h2 h3).same (nw_same s)
  exact ⟨W, _, hB, by omega⟩
theorem make_only {k : VK} {Hb : Hp} {b : Nat} {z : Int} {x dx : Addr} (sb : Same Hb H) (hb : 1 ≤ b ∧ b ≤ 63) (hz : 0 ≤ z ∧ z ≤ 1000000000) (nx : H x = none) (ndx : H dx = none) (hk : ∀ H', Same H H' → BidAt K m (nw Hb H') 1 x (onlyW m b z) 1 → k .non H') :
    spIOnly K [.ref x, nI b, .int z] (L2.upd (L2.upd H dx (.own x)) x (.ins (ga K "Only") dx [])) k E0 :=
  ⟨x, dx, b, z, rfl, upd_same, hb, hz, hk _ (Same.upd (Same.upd (Same.new ndx) nx) nx) (.only (d := 0) (nw_at (sb.free nx) upd_same) hb hz)⟩
theorem make_many {v : VK} {Hb : Hp} {k l : Nat} {z : Int} {x dx : Addr} (sb : Same Hb H) (hk : 1 ≤ k ∧ k ≤ 63) (hl : 1 ≤ l ∧ l ≤ 6) (hz : 0 ≤ z ∧ z ≤ 1000000000) (nx : H x = none) (ndx : H dx = none) (hv : ∀ H', Same H H' → BidTo K m (nw Hb H') 1 1 x → v .non H') :
    spIMany K [.ref x, nI k, nI l, .int z] (L2.upd (L2.upd H dx (.own x)) x (.ins (ga K "SoMany") dx [])) v E0 :=
  ⟨x, dx, k, l, z, rfl, upd_same, hk, hl, hz, hv _ (Same.upd (Same.upd (Same.new ndx) nx) nx) ⟨_, _, .many (d := 0) (nw_at (sb.free nx) upd_same) hk hl hz, Nat.le_refl _⟩⟩
theorem make_up {v : VK} {Hb : Hp} {k l : Nat} {z : Int} {x dx : Addr} (sb : Same Hb H) (hk : 1 ≤ k ∧ k ≤ 63) (hl : 1 ≤ l ∧ l ≤ 6) (hz : 0 ≤ z ∧ z ≤ 1000000000) (nx : H x = none) (ndx : H dx = none) (hv : ∀ H', Same H H' → BidTo K m (nw Hb H') 1 1 x → v .non H') :
    spIUp K [.ref x, nI k, nI l, .int z] (L2.upd (L2.upd H dx (.own x)) x (.ins (ga K "UpTo") dx [])) v E0 :=
  ⟨x, dx, k, l, z, rfl, upd_same, hk, hl, hz, hv _ (Same.upd (Same.upd (Same.new ndx) nx) nx) ⟨_, _, .up (d := 0) (nw_at (sb.free nx) upd_same) hk hl hz, Nat.le_refl _⟩⟩
end
section
variable {P : Program} {w : World} {K : PySem.W.Frag} {mg : Str → Option Value} {base : Heap} {m : Nat}
/-! ### bid_of -/
def OnlyAt (K : PySem.W.Frag) (H : Hp) (q : Addr) : Prop := ∃ (dx : Addr) (b : Nat) (z : Int), H q = some (.ins (ga K "Only") dx (fOnly b z)) ∧ (1 ≤ b ∧ b ≤ 63) ∧ (0 ≤ z ∧ z ≤ 1000000000)
def spBidOf (K : PySem.W.Frag) (m : Nat) : Sp := fun vs H Q _ => ∃ p : Addr, vs = [.ref p] ∧ SpecAt H p ∧ ∀ b H', Same H H' → BidTo K m (nw H H') 2 4 b → Q (.ref b) H'
theorem c_lbid (T : Tx K mg) : CalT P w K mg base 8 "_law_bid_of" (spBidOf K m) := by
  obtain ⟨fd, F⟩ := T.d_l_bid_of
  refine cal_of F T.g_l_bid_of (okD F sc_l_bid_of (fun vs H Q E h => ?_) (fun cdv A outer s H vs Q E hr h => ?_)) (fun _ _ _ _ _ _ us hl => match us, hl with | [_], _ => rfl)
  · obtain ⟨p, rfl, _⟩ := h
    rfl
  · obtain ⟨p, rfl, ⟨way, so, rl, rs, hp, hrl, hr3, hrs, hso, hw5, hw⟩, hQ⟩ := h
    refine ⟨_, pss_cons (ps_setLc (i := 1) (own := [("_law_row", 2)]) (g := gName 2) rfl sc_l_bid_of.nd rfl rfl (sw_true rfl rfl rfl (by decide +kernel)) (pi_list (pe_ix ix_tup (pv 0) pe_int (fun _ _ => rfl)))
        (blkOk_by (own := [("_law_row", 2)]) (N := N_l_bid_of) (sc := defScope s_l_bid_of) (by decide +kernel))
        (fun _ _ _ _ _ => pg_name (i := 2) sc_l_bid_of.nd rfl (Or.inl rfl)) (fun _ _ _ _ _ => pts_nil)
        (fun _ _ _ _ _ => pe_mk (k_Only T) hr (by decide) rfl (pa_cons (pe_ix (r := rIxT K) ix_tup (pv 2) pe_int (fun _ _ => rfl)) (pa_cons (pe_ix (r := rIxT K) ix_tup (pv 2) pe_int (fun _ _ => rfl)) pa_nil))))
      (pss_cons (ps_if (pt_cmpR op_eq (pe_ix ix_tup (pv 0) pe_int (fun _ _ => rfl)) pe_int (nomark _)) (pss_one (ps_ret (pe_mk (k_OneOf (m := m) T) hr (by decide) rfl (pa_cons (pv 1) pa_nil)))) pss_nil)
      (pss_cons (ps_if (pt_cmpR op_eq (pe_ix ix_tup (pv 0) pe_int (fun _ _ => rfl)) pe_int (nomark _)) (pss_one (ps_ret (pe_mk (k_AnyOf (m := m) T) hr (by decide) rfl (pa_cons (pv 1) pa_nil)))) pss_nil)
      (pss_cons (ps_if (pt_cmpR op_eq (pe_ix ix_tup (pv 0) pe_int (fun _ _ => rfl)) pe_int (nomark _)) (pss_one (ps_ret (pe_mk (k_UpTo T) hr (by decide) rfl
        (pa_cons (pe_ix ix_tup (pe_ix ix_list (pe_ix ix_tup (pv 0) pe_int (fun _ _ => rfl)) pe_int (fun _ _ => rfl)) pe_int (fun _ _ => rfl)) (pa_cons (pe_ix ix_tup (pv 0) pe_int (fun _ _ => rfl))
          (pa_cons (pe_ix ix_tup (pe_ix ix_list (pe_ix ix_tup (pv 0) pe_int (fun _ _ => rfl)) pe_int (fun _ _ => rfl)) pe_int (fun _ _ => rfl)) pa_nil)))))) pss_nil)
      (pss_cons (ps_if (pt_cmpR op_eq (pe_ix ix_tup (pv 0) pe_int (fun _ _ => rfl)) pe_int (nomark _)) (pss_one (ps_ret (pe_mk (k_SoMany T) hr (by decide) rfl
        (pa_cons (pe_ix ix_tup (pe_ix ix_list (pe_ix ix_tup (pv 0) pe_int (fun _ _ => rfl)) pe_int (fun _ _ => rfl)) pe_int (fun _ _ => rfl)) (pa_cons (pe_ix ix_tup (pv 0) pe_int (fun _ _ => rfl))
          (pa_cons (pe_ix ix_tup (pe_ix ix_list (pe_ix ix_tup (pv 0) pe_int (fun _ _ => rfl)) pe_int (fun _ _ => rfl)) pe_int (fun _ _ => rfl)) pa_nil)))))) pss_nil)
      (pss_cons (ps_if (pt_cmpR op_eq (pe_ix ix_tup (pv 0) pe_int (fun _ _ => rfl)) pe_int (nomark _)) (pss_one (ps_ret (pe_ix ix_list (pv 1) pe_int (fun _ _ => rfl)))) pss_nil)
      (pss_one (ps_ret (pe_bare T.bare rfl)))))))), ?_⟩
    refine ⟨_, rfl, p, _, _, _, rfl, rfl, SqT.of hp, atI_nat (j := 1) rfl, rl, rfl, ⟨_, SqL.of hrl⟩, fun D hD => ?_⟩
    refine lc_list (K := K) (a := rl) (xs := rf rs) (fun j H' => Same H H' ∧ ∃ qs : List Addr, H' D = some (.lst (rf qs)) ∧ qs.length = j ∧ ∀ q ∈ qs, H q = none ∧ OnlyAt K H' q)
      ⟨Same.new hD, [], upd_same, rfl, fun _ h => by cases h⟩ (fun j H' _ hP => SqL.of (hP.1 _ _ hrl)) (fun j x H' hx hP => ?_) (fun H' hP => ?_)
    · obtain ⟨r, hr2, rfl⟩ := get_map hx
      have hj := lt_get hr2
      obtain ⟨b, z, hrt, hb, hz⟩ := hrs r (List.mem_of_getElem? hr2)
      obtain ⟨s1, qs, d1, hql, hqs⟩ := hP
      have hrt1 := s1 _ _ hrt
      refine ⟨rfl, yesI ?_⟩
      refine ⟨_, rfl, r, _, _, _, rfl, rfl, SqT.of hrt1, atI_nat (j := 0) rfl, _, rfl, r, _, _, _, rfl, rfl, SqT.of hrt1, atI_nat (j := 1) rfl, fun x dx nx ndx ne => ⟨x, dx, b, z, rfl, upd_same, hb, hz, rfl, ?_⟩⟩
      have s2 : Same H' (L2.upd (L2.upd (L2.upd H' dx (.own x)) x (.ins (ga K "Only") dx [])) x (.ins (ga K "Only") dx (fOnly b z))) := Same.upd (Same.upd (Same.new ndx) nx) nx
      have hx2 : (L2.upd (L2.upd (L2.upd H' dx (.own x)) x (.ins (ga K "Only") dx [])) x (.ins (ga K "Only") dx (fOnly b z))) x = some (.ins (ga K "Only") dx (fOnly b z)) := upd_same
      have d2 := s2 _ _ d1
      refine ⟨_, d2, ?_, Same.upd (s1.trans s2) hD, qs ++ [x], ?_, ?_, fun q hq => ?_⟩
      · refine small1000 ?_
        rw [List.length_map, hql]
        omega
      · rw [upd_same]
        show _ = some (HO.lst ((qs ++ [x]).map V.ref))
        rw [List.map_append]
        rfl
      · rw [List.length_append, hql]
        rfl
      · rcases List.mem_append.mp hq with hq | hq
        · obtain ⟨h0, dx', b', z', h1, h2⟩ := hqs q hq
          have h3 := s2 _ _ h1
          exact ⟨h0, dx', b', z', (upd_ne (ne_of h3 d2 (by intro z; cases z))).trans h3, h2⟩
        · rw [List.mem_singleton] at hq
          subst hq
          exact ⟨s1.free nx, dx, b, z, (upd_ne (ne_of hx2 d2 (by intro z; cases z))).trans hx2, hb, hz⟩
    · obtain ⟨s1, qs, d1, hql, hqs⟩ := hP
      rw [List.length_map] at hql
      have hp1 := s1 _ _ hp
      have hrl1 := s1 _ _ hrl
      have hB : ∀ q ∈ qs, BidTo K m (nw H H') 1 1 q := fun q hq => by
        obtain ⟨h0, dx', b', z', h1, h2, h3⟩ := hqs q hq
        exact ⟨_, _, .only (d := 0) (nw_at h0 h1) h2 h3, Nat.le_refl _⟩
      refine ⟨_, rfl, p, _, _, _, rfl, rfl, SqT.of hp1, atI_nat (j := 0) rfl, rfl, _, rfl, ?_⟩
      show if decide (nI way = nI 0) = true then _ else _
      rw [decN]
      refine ite2 (fun _ => ?_) (fun e0 => ?_)
      · refine ⟨_, rfl, fun x dx nx ndx ne => make_sev (.inr rfl) s1 d1 hB (by decide) (by omega) (by omega) nx ndx fun H2 s2 hB2 => ⟨rfl, hQ x H2 (s1.trans s2) (hB2.up_ (Nat.le_refl _) (by omega))⟩⟩
      refine ⟨_, rfl, p, _, _, _, rfl, rfl, SqT.of hp1, atI_nat (j := 0) rfl, rfl, _, rfl, ?_⟩
      show if decide (nI way = nI 1) = true then _ else _
      rw [decN]
      refine ite2 (fun _ => ?_) (fun e1 => ?_)
      · refine ⟨_, rfl, fun x dx nx ndx ne => make_sev (.inl rfl) s1 d1 hB (by decide) (by omega) (by omega) nx ndx fun H2 s2 hB2 => ⟨rfl, hQ x H2 (s1.trans s2) (hB2.up_ (Nat.le_refl _) (by omega))⟩⟩
      have e0' : ¬ way = 0 := fun z => e0 (decide_eq_true z)
      have e1' : ¬ way = 1 := fun z => e1 (decide_eq_true z)
      refine ⟨_, rfl, p, _, _, _, rfl, rfl, SqT.of hp1, atI_nat (j := 0) rfl, rfl, _, rfl, ?_⟩
      show if decide (nI way = nI 2) = true then _ else _
      rw [decN]
      have row : way ≠ 5 → ∃ (r : Addr) (b : Nat) (z : Int), rs[0]? = some r ∧ H r = some (.tup [nI b, .int z]) ∧ (1 ≤ b ∧ b ≤ 63) ∧ (0 ≤ z ∧ z ≤ 1000000000) := fun h5 => by
        cases rs with
        | nil =>
          have := hw rfl
          omega
        | cons r rs' =>
          obtain ⟨b, z, h1, h2, h3⟩ := hrs r List.mem_cons_self
          exact ⟨r, b, z, rfl, h1, h2, h3⟩
      refine ite2 (fun e2 => ?_) (fun e2 => ?_)
      · have e2' : way = 2 := of_decide_eq_true e2
        obtain ⟨r, b, z, hr0, hrt, hb, hz⟩ := row (by omega)
        have hrt1 := s1 _ _ hrt
        have hri : (rf rs)[0]? = some (V.ref r) := by rw [List.getElem?_map, hr0]; rfl
        refine ⟨_, rfl, p, _, _, _, rfl, rfl, SqT.of hp1, atI_nat (j := 1) rfl, rl, _, _, _, rfl, rfl, SqL.of hrl1, atI_nat (j := 0) hri, r, _, _, _, rfl, rfl, SqT.of hrt1, atI_nat (j := 0) rfl,
          _, rfl, p, _, _, _, rfl, rfl, SqT.of hp1, atI_nat (j := 2) rfl, _, rfl, p, _, _, _, rfl, rfl, SqT.of hp1, atI_nat (j := 1) rfl, rl, _, _, _, rfl, rfl, SqL.of hrl1, atI_nat (j := 0) hri, r, _, _, _, rfl, rfl, SqT.of hrt1, atI_nat (j := 1) rfl,
          fun x dx nx ndx ne => make_up s1 hb hso hz nx ndx fun H2 s2 hB2 => ⟨rfl, hQ x H2 (s1.trans s2) (hB2.up_ (by decide) (by decide))⟩⟩
      refine ⟨_, rfl, p, _, _, _, rfl, rfl, SqT.of hp1, atI_nat (j := 0) rfl, rfl, _, rfl, ?_⟩
      show if decide (nI way = nI 3) = true then _ else _
      rw [decN]
      refine ite2 (fun e3 => ?_) (fun e3 => ?_)
      · have e3' : way = 3 := of_decide_eq_true e3
        obtain ⟨r, b, z, hr0, hrt, hb, hz⟩ := row (by omega)
        have hrt1 := s1 _ _ hrt
        have hri : (rf rs)[0]? = some (V.ref r) := by rw [List.getElem?_map, hr0]; rfl
        refine ⟨_, rfl, p, _, _, _, rfl, rfl, SqT.of hp1, atI_nat (j := 1) rfl, rl, _, _, _, rfl, rfl, SqL.of hrl1, atI_nat (j := 0) hri, r, _, _, _, rfl, rfl, SqT.of hrt1, atI_nat (j := 0) rfl,
          _, rfl, p, _, _, _, rfl, rfl, SqT.of hp1, atI_nat (j := 2) rfl, _, rfl, p, _, _, _, rfl, rfl, SqT.of hp1, atI_nat (j := 1) rfl, rl, _, _, _, rfl, rfl, SqL.of hrl1, atI_nat (j := 0) hri, r, _, _, _, rfl, rfl, SqT.of hrt1, atI_nat (j := 1) rfl,
          fun x dx nx ndx ne => make_many s1 hb hso hz nx ndx fun H2 s2 hB2 => ⟨rfl, hQ x H2 (s1.trans s2) (hB2.up_ (by decide) (by decide))⟩⟩
      refine ⟨_, rfl, p, _, _, _, rfl, rfl, SqT.of hp1, atI_nat (j := 0) rfl, rfl, _, rfl, ?_⟩
      show if decide (nI way = nI 4) = true then _ else _
      rw [decN]
      refine ite2 (fun e4 => ?_) (fun e4 => ?_)
      · have e4' : way = 4 := of_decide_eq_true e4
        obtain ⟨r, b, z, hr0, _⟩ := row (by omega)
        have hq0 : 0 < qs.length := by
          rw [hql]
          exact lt_get hr0
        have hq1 : qs[0]? = some qs[0] := List.getElem?_eq_getElem hq0
        refine ⟨_, rfl, D, _, _, _, rfl, rfl, SqL.of d1, atI_nat (j := 0) (v := .ref qs[0]) (by rw [List.getElem?_map, hq1]; rfl), hQ _ H' s1 ((hB _ (List.getElem_mem hq0)).up_ (by decide) (by decide))⟩
      · refine fun x dx nx ndx ne => hQ x _ (s1.trans (Same.upd (Same.new ndx) nx)) ⟨_, _, .bid (d := 1) (nw_at (s1.free nx) upd_same), by decide⟩
/-! ### told_by, handed -/
def TlAt (H : Hp) (p : Addr) (n : Nat) : Prop := ∃ ts : List Addr, H p = some (.lst (rf ts)) ∧ ts.length = n ∧ ∀ t ∈ ts, ∃ (s : Addr) (q : Option Int), H t = some (.tup [.ref s, pI q]) ∧ SpecAt H s ∧ PuOk q
/-- what stands without D -/
theorem TlAt.same {H H' : Hp} {p : Addr} {n : Nat} (s : Same H H') (h : TlAt H p n) : TlAt H' p n := by
  obtain ⟨ts, h1, h2, h3⟩ := h
  exact ⟨ts, s _ _ h1, h2, fun t ht => let ⟨x, q, e1, e2, e3⟩ := h3 t ht; ⟨x, q, s _ _ e1, e2.same s, e3⟩⟩
def spTold (K : PySem.W.Frag) : Sp := fun vs H Q _ => ∃ (a : Addr) (ns : List Int) (k n : Nat) (sc : Addr), vs = [.ref a, nI k, nI n, .ref sc] ∧ SqL K H a (ns.map V.int) ∧ ScAt H sc ∧ n ≤ 3 ∧ ∀ p H', Same H H' → TlAt H' p n → Q (.ref p) H'
theorem c_ltold (T : Tx K mg) : CalT P w K mg base 3 "_law_told_by" (spTold K) := by
  obtain ⟨fd, F⟩ := T.d_l_told_by
  refine cal_of F T.g_l_told_by (okD F sc_l_told_by (fun vs H Q E h => ?_) (fun cdv A outer s H vs Q E hr h => ?_)) (fun _ _ _ _ _ _ us hl => match us, hl with | [_, _, _, _], _ => rfl)
  · obtain ⟨a, ns, k, n, sc, rfl, _⟩ := h
    rfl
  · obtain ⟨a, ns, k, n, sc, rfl, hS, hC, hn, hQ⟩ := h
    refine ⟨_, pss_cons (ps_set (i := 4) sc_l_told_by.nd rfl (Or.inl rfl) (pe_lst pa_nil))
      (pss_cons (ps_for PassesOwn.never rfl (pi_range1 rfl T.n_range (pa_cons (pv 2) pa_nil)) (pg_name (i := 5) sc_l_told_by.nd rfl (Or.inl rfl))
        (pss_cons (ps_set (i := 6) sc_l_told_by.nd rfl (Or.inl rfl) (pe_op op_add (pv 1) (pe_op op_mul pe_int (pv 5))))
        (pss_one (ps_expr (pe_bm PySem.F.plainAttrs_list PySem.F.slot_list_append PySem.F.type_list_append mt_append (pv 4) (pa_cons (pe_tup
          (pa_cons (pe_c (c_lspec T) hr (Nat.le_refl _) rfl (pa_cons (pv 0) (pa_cons (pv 6) (pa_cons (pv 3) pa_nil))))
          (pa_cons (pe_c (c_lpurse T) hr (by decide) rfl (pa_cons (pe_c (c_cell T) hr (by decide) rfl (pa_cons (pv 0) (pa_cons (pe_op op_add (pv 6) pe_int) pa_nil))) (pa_cons (pv 3) pa_nil))) pa_nil))) pa_nil))))))
      (pss_one (ps_ret (pv 4)))), ?_⟩
    refine ⟨Nat.zero_le _, fun M hM => ?_⟩
    have sM : Same H (L2.upd H M (.lst [])) := Same.new hM
    refine ⟨_, rfl, (n : Int), rfl, by omega, by omega, ?_⟩
    rw [Int.toNat_natCast]
    refine for_range (lo := 0) (n := n) (fun j σ H' => (∃ (v5 v6 : Option V), σ = [some (.ref a), some (nI k), some (nI n), some (.ref sc), some (.ref M), v5, v6]) ∧ Same H H' ∧ ∃ ts : List Addr, H' M = some (.lst (rf ts)) ∧ ts.length = j ∧ ∀ t ∈ ts, ∃ (s : Addr) (q : Option Int), H' t = some (.tup [.ref s, pI q]) ∧ SpecAt (del M H') s ∧ PuOk q)
      ⟨⟨none, none, rfl⟩, sM, [], upd_same, rfl, fun _ h => by cases h⟩ ?_ ?_
    · rintro j σ H' hj ⟨⟨v5, v6, rfl⟩, s1, ts, m1, htl, hts⟩
      have ek : (k : Int) + 6 * (0 + (j : Int)) = ((k + 6 * j : Nat) : Int) := by omega
      refine ⟨_, rfl, _, rfl, _, _, rfl, rfl, .inl ⟨by decide, by decide⟩, _, _, rfl, rfl, ?_⟩
      refine ⟨_, rfl, .inl ⟨rfl, _, SqL.of m1⟩, _, rfl, _, rfl, _, rfl, a, ns, k + 6 * j, sc, ?_, s1.seq hS, hC.same s1, fun p H2 hp s2 h2 => ?_⟩
      · show [V.ref a, V.int ((k : Int) + 6 * (0 + (j : Int))), V.ref sc] = _
        rw [ek]
        rfl
      refine ⟨_, rfl, _, rfl, _, _, rfl, rfl, a, ns, k + 6 * j + 5, ?_, (s1.trans s2).seq hS, fun z => ⟨_, rfl, z, sc, rfl, hC.same (s1.trans s2), fun q hq => ?_⟩⟩
      · show [V.ref a, V.int ((k : Int) + 6 * (0 + (j : Int)) + 5)] = _
        exact arg2 (by omega)
      have m2 := s2 _ _ m1
      refine ⟨(by show 2 ≤ sizeLine; decide), fun t ht => ?_⟩
      have nMt : M ≠ t := ne_of_none m2 ht
      have m3 : (L2.upd H2 t (.tup [.ref p, pI q])) M = some (.lst (rf ts)) := (upd_ne nMt).trans m2
      refine ⟨M, _, _, rfl, rfl, m3, ?_, ⟨_, _, rfl⟩, Same.upd (Same.upd (s1.trans s2) ((s1.trans s2).free ht)) hM, ts ++ [t], ?_, ?_, fun u hu => ?_⟩
      · refine small1000 ?_
        rw [List.length_map, htl]
        omega
      · rw [upd_same]
        show _ = some (HO.lst ((ts ++ [t]).map V.ref))
        rw [List.map_append]
        rfl
      · rw [List.length_append, htl]
        rfl
      · have s3 : Same H2 (L2.upd H2 t (.tup [.ref p, pI q])) := Same.new ht
        rcases List.mem_append.mp hu with hu | hu
        · obtain ⟨x, q', e1, e2, e3⟩ := hts u hu
          have e4 := s3 _ _ (s2 _ _ e1)
          exact ⟨x, q', (upd_ne (ne_of e4 m3 (by intro z; cases z))).trans e4, e2.same ((del_same (s2.trans s3)).trans del_upd), e3⟩
        · rw [List.mem_singleton] at hu
          subst hu
          exact ⟨p, q, (upd_ne nMt.symm).trans upd_same, h2.same ((nw_del m1).trans ((del_same s3).trans del_upd)), hq⟩
    · rintro σ H' ⟨⟨v5, v6, rfl⟩, s1, ts, m1, htl, hts⟩
      exact ⟨_, rfl, hQ M H' s1 ⟨ts, m1, htl, fun t ht => let ⟨x, q, e1, e2, e3⟩ := hts t ht; ⟨x, q, e1, e2.same del_in, e3⟩⟩⟩
def spHand (K : PySem.W.Frag) (m : Nat) : Sp := fun vs H Q _ => ∃ (p : Addr) (n : Nat), vs = [.ref p] ∧ TlAt H p n ∧ n ≤ 3 ∧ ∀ r H' (T : Told), Same H H' → ToldAt K m H' r T → T.length = n → (∀ t ∈ T, PuOk t.2) → Q (.ref r) H'
theorem o_hand (T : Tx K mg) {fd : FuncData} (F : FunD K "_law_handed" "_law_handed" (defArgs s_l_handed) (defBody s_l_handed) (defScope s_l_handed) [] [] (ga K "_law_handed") fd) :
    FnOk P w K mg base CX0 9 (ga K "_law_handed") fd ["_law_told"] (spHand K m) := by
  refine okD F sc_l_handed (fun vs H Q E h => ?_) (fun cdv A outer s H vs Q E hr h => ?_)
  · obtain ⟨p, n, rfl, _⟩ := h
    rfl
  · obtain ⟨p, n, rfl, ⟨ts, hp, htl, hts⟩, hn, hQ⟩ := h
    refine ⟨_, pss_one (ps_ret (pe_lc (own := [("_law_row", 1)]) (g := gName 1) rfl sc_l_handed.nd (pi_list (pv 0))
      (blkOk_by (own := [("_law_row", 1)]) (N := N_l_handed) (sc := defScope s_l_handed) (by decide +kernel))
      (fun _ _ _ _ _ => pg_name (i := 1) sc_l_handed.nd rfl (Or.inl rfl)) (fun _ _ _ _ _ => pts_nil)
      (fun _ _ _ _ _ => pe_tup (pa_cons (pe_c (c_lbid (m := m) T) hr (Nat.le_refl _) rfl (pa_cons (pe_ix (r := rIxT K) ix_tup (pv 1) pe_int (fun _ _ => rfl)) pa_nil)) (pa_cons (pe_ix (r := rIxT K) ix_tup (pv 1) pe_int (fun _ _ => rfl)) pa_nil))))), ?_⟩
    refine ⟨_, rfl, p, rfl, ⟨_, SqL.of hp⟩, fun D hD => ?_⟩
    refine lc_list (K := K) (a := p) (xs := rf ts) (fun j H' => Same H H' ∧ ∃ (us : List Addr) (To : Told), H' D = some (.lst (rf us)) ∧ us.length = j ∧ Each (fun t x => ∃ (b : Addr) (n : Nat), H' t = some (.tup [.ref b, pI x.2]) ∧ BidAt K m (del D H') 4 b x.1 n) us To ∧ ∀ t ∈ To, PuOk t.2)
      ⟨Same.new hD, [], [], upd_same, rfl, .nil, fun _ h => by cases h⟩ (fun j H' _ hP => SqL.of (hP.1 _ _ hp)) (fun j x H' hx hP => ?_) (fun H' hP => ?_)
    · obtain ⟨t, ht, rfl⟩ := get_map hx
      have hj := lt_get ht
      obtain ⟨x, q, htt, hsp, hq⟩ := hts t (List.mem_of_getElem? ht)
      obtain ⟨s1, us, To, d1, hul, hE, hpu⟩ := hP
      refine ⟨rfl, yesI ?_⟩
      refine ⟨_, rfl, t, _, _, _, rfl, rfl, SqT.of (s1 _ _ htt), atI_nat (j := 0) rfl, x, rfl, hsp.same s1, fun b H2 s2 ⟨W, n', hB, _⟩ => ?_⟩
      refine ⟨_, rfl, t, _, _, _, rfl, rfl, SqT.of (s2 _ _ (s1 _ _ htt)), atI_nat (j := 1) rfl, (by show 2 ≤ sizeLine; decide), fun u hu => ?_⟩
      have d2 := s2 _ _ d1
      have nDu : D ≠ u := ne_of_none d2 hu
      have d3 : (L2.upd H2 u (.tup [.ref b, pI q])) D = some (.lst (rf us)) := (upd_ne nDu).trans d2
      have s3 : Same H2 (L2.upd H2 u (.tup [.ref b, pI q])) := Same.new hu
      refine ⟨_, d3, ?_, Same.upd (Same.upd (s1.trans s2) ((s1.trans s2).free hu)) hD, us ++ [u], To ++ [(W, q)], ?_, ?_, ?_, fun y hy => ?_⟩
      · refine small1000 ?_
        rw [List.length_map, hul]
        omega
      · rw [upd_same]
        show _ = some (HO.lst ((us ++ [u]).map V.ref))
        rw [List.map_append]
        rfl
      · rw [List.length_append, hul]
        rfl
      · refine (hE.imp fun v y h => ?_).snoc ⟨b, n', (upd_ne nDu.symm).trans upd_same, (hB.same ((nw_del d1).trans ((del_same s3).trans del_upd))).up_ (by decide)⟩
        obtain ⟨b', k', e1, e2⟩ := h
        have e3 := s3 _ _ (s2 _ _ e1)
        exact ⟨b', k', (upd_ne (ne_of e3 d3 (by intro z; cases z))).trans e3, e2.same ((del_same (s2.trans s3)).trans del_upd)⟩
      · rcases List.mem_append.mp hy with hy | hy
        · exact hpu y hy
        · rw [List.mem_singleton] at hy
          subst hy
          exact hq
    · obtain ⟨s1, us, To, d1, hul, hE, hpu⟩ := hP
      rw [List.length_map, htl] at hul
      exact hQ D H' To s1 ⟨us, d1, hE.imp fun t x h => let ⟨b, k, e1, e2⟩ := h; ⟨b, k, e1, e2.same del_in⟩⟩ (by rw [← hE.len]; exact hul) hpu
theorem c_lhand (T : Tx K mg) : CalT P w K mg base 9 "_law_handed" (spE (spHand K)) := by
  obtain ⟨fd, F⟩ := T.d_l_handed
  exact cal_of F T.g_l_handed (fnE fun m => o_hand T F) (fun _ _ _ _ _ _ us hl => match us, hl with | [_], _ => rfl)
end
end Gv
namespace Gv
open PySem PySem.Spec PyProof.Rows L2
section
variable {K : PySem.W.Frag} {m : Nat} {H H' : Hp} {d d' c c' : Nat} {q : Addr}
theorem bids_ofE : ∀ (qs : List Addr) (cs : List Nat), Each (fun q c => BidTo K m H d c q) qs cs → ∃ (Ws : List (List Int)) (ts : List Nat), qs.length = Ws.length ∧ qs.length = ts.length ∧ ts.sum ≤ cs.sum ∧
    ∀ (i : Nat) (q : Addr) (W : List Int) (t : Nat), qs[i]? = some q → Ws[i]? = some W → ts[i]? = some t → BidAt K m H d q W t
  | [], cs, h => ⟨[], [], rfl, rfl, Nat.zero_le _, fun i q W t h => by simp at h⟩
  | q :: qs, [], h => by have := h.len; simp at this
  | q :: qs, c :: cs, h => by
    obtain ⟨Ws, ts, h1, h2, h3, h4⟩ := bids_ofE qs cs ⟨by have := h.len; simpa using this, fun i x y a b => h.at_ (i + 1) x y (by simpa using a) (by simpa using b)⟩
    obtain ⟨W, n, hB, hn⟩ := h.at_ 0 q c rfl rfl
    refine ⟨W :: Ws, n :: ts, by simp [h1], by simp [h2], ?_, fun i x y t a b e => ?_⟩
    · rw [List.sum_cons, List.sum_cons]
      omega
    · cases i with
      | zero =>
        simp at a b e
        subst a b e
        exact hB
      | succ i => exact h4 i x y t (by simpa using a) (by simpa using b) (by simpa using e)
theorem make_sevE {k : VK} {C L x dx : Addr} {qs : List Addr} {cs : List Nat} (hC : C = ga K "AnyOf" ∨ C = ga K "OneOf") (hL : H L = some (.lst (rf qs))) (hb : Each (fun q c => BidTo K m H d c q) qs cs) (hd : d ≤ 3) (hc : cs.sum ≤ 23) (h24 : qs.length ≤ 24)
    (nx : H x = none) (ndx : H dx = none) (hk : ∀ H', Same H H' → BidTo K m H' (d + 1) (1 + cs.sum) x → k .non H') :
    spISev K m C [.ref x, .ref L] (L2.upd (L2.upd H dx (.own x)) x (.ins C dx [])) k E0 := by
  obtain ⟨Ws, ts, lw, lt, hs, e⟩ := bids_ofE qs cs hb
  refine ⟨x, dx, L, qs, Ws, ts, H, rfl, upd_same, nx, Same.upd (Same.new ndx) nx, hL, lw, lt, h24, by omega, fun i q W t h1 h2 h3 => (e i q W t h1 h2 h3).up_ hd, fun l H' hl s h1 h2 => hk H' s ?_⟩
  obtain ⟨W, hB⟩ := sev_bid (m := m) hC h1 h2 lw lt h24 fun i q W t h1 h2 h3 => (e i q W t h1 h2 h3).same s
  exact ⟨W, _, hB, by omega⟩
theorem each2 {α β : Type} {R : α → β → Prop} {a b : α} {x y : β} (h1 : R a x) (h2 : R b y) : Each R [a, b] [x, y] := (Each.snoc (Each.snoc .nil h1) h2)
theorem each3 {α β : Type} {R : α → β → Prop} {a b c : α} {x y z : β} (h1 : R a x) (h2 : R b y) (h3 : R c z) : Each R [a, b, c] [x, y, z] := (Each.snoc (Each.snoc (Each.snoc .nil h1) h2) h3)
end
section
variable {P : Program} {w : World} {K : PySem.W.Frag} {mg : Str → Option Value} {base : Heap} {m : Nat}
/-! ### lie_by -/
def spLie (K : PySem.W.Frag) (m : Nat) : Sp := fun vs H Q _ => ∃ (a : Addr) (ns : List Int) (k : Nat) (sc : Addr), vs = [.ref a, nI k, .ref sc] ∧ SqL K H a (ns.map V.int) ∧ ScAt H sc ∧ ∀ b H', Same H H' → BidTo K m H' 4 24 b → Q (.ref b) H'
theorem o_lie (T : Tx K mg) {fd : FuncData} (F : FunD K "_law_lie_by" "_law_lie_by" (defArgs s_l_lie_by) (defBody s_l_lie_by) (defScope s_l_lie_by) [] [] (ga K "_law_lie_by") fd) :
    FnOk P w K mg base CX0 9 (ga K "_law_lie_by") fd ["_law_script", "_law_at", "_law_scale_here"] (spLie K m) := by
  refine okD F sc_l_lie_by (fun vs H Q E h => ?_) (fun cdv A outer s H vs Q E hr h => ?_)
  · obtain ⟨a, ns, k, sc, rfl, _⟩ := h
    rfl
  · obtain ⟨a, ns, k, sc, rfl, hS, hC, hQ⟩ := h
    refine ⟨_, pss_cons (ps_setLc (i := 3) (own := [("_law_k", 5)]) (g := gName 5) rfl sc_l_lie_by.nd rfl rfl (sw_true rfl rfl rfl (by decide +kernel)) (pi_range1 rfl T.n_range (pa_cons pe_int pa_nil))
        (blkOk_by (own := [("_law_k", 5)]) (N := N_l_lie_by) (sc := defScope s_l_lie_by) (by decide +kernel))
        (fun _ _ _ _ _ => pg_name (i := 5) sc_l_lie_by.nd rfl (Or.inl rfl)) (fun _ _ _ _ _ => pts_nil)
        (fun _ _ _ _ _ => pe_c (c_lbid (m := m) T) hr (Nat.le_refl _) rfl (pa_cons (pe_c (c_lspec T) hr (by decide) rfl (pa_cons (pv 0) (pa_cons (pe_op op_add (pv 1) (pe_op op_mul pe_int (pv 5))) (pa_cons (pv 2) pa_nil)))) pa_nil)))
      (pss_cons (ps_set (i := 4) sc_l_lie_by.nd rfl (Or.inl rfl) (pe_op op_mod (pe_c (c_cell T) hr (by decide) rfl (pa_cons (pv 0) (pa_cons (pe_op op_add (pv 1) pe_int) pa_nil))) pe_int))
      (pss_cons (ps_if (pt_cmpR op_eq (pv 4) pe_int (nomark _)) (pss_one (ps_ret (pe_mk (k_AnyOf (m := m) T) hr (by decide) rfl (pa_cons (pe_lst (pa_cons (pe_mk (k_OneOf (m := m) T) hr (by decide) rfl (pa_cons (pe_slice sl_list (pv 3) po_none (po_some pe_int)) pa_nil))
          (pa_cons (pe_ix ix_list (pv 3) pe_int (fun _ _ => rfl)) pa_nil))) pa_nil)))) pss_nil)
      (pss_cons (ps_if (pt_cmpR op_eq (pv 4) pe_int (nomark _)) (pss_one (ps_ret (pe_mk (k_OneOf (m := m) T) hr (by decide) rfl (pa_cons (pe_lst (pa_cons (pe_ix ix_list (pv 3) pe_int (fun _ _ => rfl))
          (pa_cons (pe_mk (k_AnyOf (m := m) T) hr (by decide) rfl (pa_cons (pe_slice sl_list (pv 3) (po_some pe_int) po_none) pa_nil)) (pa_cons (pe_bare T.bare rfl) pa_nil)))) pa_nil)))) pss_nil)
      (pss_cons (ps_if (pt_cmpR op_eq (pv 4) pe_int (nomark _)) (pss_one (ps_ret (pe_mk (k_AnyOf (m := m) T) hr (by decide) rfl (pa_cons (pv 3) pa_nil)))) pss_nil)
      (pss_one (ps_ret (pe_ix ix_list (pv 3) pe_int (fun _ _ => rfl)))))))), ?_⟩
    refine ⟨3, rfl, by decide, by decide, fun D hD => ?_⟩
    refine lc_range (lo := 0) (n := 3) (fun j H' => Same H H' ∧ ∃ qs : List Addr, H' D = some (.lst (rf qs)) ∧ qs.length = j ∧ ∀ q ∈ qs, BidTo K m (del D H') 2 4 q)
      ⟨Same.new hD, [], upd_same, rfl, fun _ h => by cases h⟩ (fun j H' hj hP => ?_) (fun H' hP => ?_)
    · obtain ⟨s1, qs, d1, hql, hqs⟩ := hP
      refine ⟨rfl, yesI ?_⟩
      refine ⟨_, rfl, _, rfl, _, rfl, _, _, rfl, rfl, .inl ⟨by decide, by decide⟩, _, _, rfl, rfl, _, rfl, a, ns, k + 5 * j, sc, ?_, s1.seq hS, hC.same s1, fun p H2 hp s2 h2 => ⟨p, rfl, h2.same nw_in, fun b H3 s3 hB => ?_⟩⟩
      · show [V.ref a, V.int ((k : Int) + 5 * (0 + (j : Int))), V.ref sc] = _
        rw [show (k : Int) + 5 * (0 + (j : Int)) = ((k + 5 * j : Nat) : Int) by omega]
        rfl
      have s23 := s2.trans s3
      have d3 := s23 _ _ d1
      refine ⟨_, d3, ?_, Same.upd (s1.trans s23) hD, qs ++ [b], ?_, ?_, fun q hq => ?_⟩
      · refine small1000 ?_
        rw [List.length_map, hql]
        omega
      · rw [upd_same]
        show _ = some (HO.lst ((qs ++ [b]).map V.ref))
        rw [List.map_append]
        rfl
      · rw [List.length_append, hql]
        rfl
      · rcases List.mem_append.mp hq with hq | hq
        · exact (hqs q hq).same ((del_same s23).trans del_upd)
        · rw [List.mem_singleton] at hq
          subst hq
          exact hB.same ((nw_del (s2 _ _ d1)).trans del_upd)
    · obtain ⟨s1, qs, d1, hql, hqs⟩ := hP
      obtain ⟨q0, q1, q2, rfl⟩ : ∃ q0 q1 q2, qs = [q0, q1, q2] := by
        match qs, hql with
        | [x, y, z], _ => exact ⟨x, y, z, rfl⟩
      have b0 : BidTo K m H' 2 4 q0 := (hqs q0 (by simp)).same del_in
      have b1 : BidTo K m H' 2 4 q1 := (hqs q1 (by simp)).same del_in
      have b2 : BidTo K m H' 2 4 q2 := (hqs q2 (by simp)).same del_in
      refine ⟨_, rfl, _, rfl, _, _, rfl, rfl, a, ns, k + 15, arg2 (z := (k : Int) + 15) (by omega), s1.seq hS, fun z => ?_⟩
      refine ⟨_, _, rfl, rfl, (by show (0 : Int) < 4; decide), ?_⟩
      refine ⟨_, rfl, rfl, _, rfl, ite2 (fun _ => ?_) (fun _ => ?_)⟩
      · refine ⟨_, rfl, 2, rfl, D, _, rfl, SqL.of d1, fun p hp => ?_⟩
        intro x dx nx ndx ne
        have s2 : Same H' (L2.upd H' p (.lst (cutV (rf [q0, q1, q2]) none (some 2)))) := Same.new hp
        have hcut : (L2.upd H' p (.lst (cutV (rf [q0, q1, q2]) none (some 2)))) p = some (.lst (rf [q0, q1])) := upd_same
        refine make_sevE (cs := [4, 4]) (.inr rfl) hcut (each2 (b0.same s2) (b1.same s2)) (by decide) (by decide) (by simp) nx ndx fun H3 s3 hB3 => ⟨rfl, ?_⟩
        refine ⟨_, rfl, D, _, _, _, rfl, rfl, SqL.of (s3 _ _ (s2 _ _ d1)), atI_nat (j := 2) rfl, (by show 2 ≤ sizeLine; decide), fun l hl => ?_⟩
        intro x2 dx2 nx2 ndx2 ne2
        have s4 : Same H3 (L2.upd H3 l (.lst [.ref x, .ref q2])) := Same.new hl
        refine make_sevE (qs := [x, q2]) (cs := [9, 4]) (.inl rfl) upd_same (each2 (hB3.same s4) (((b2.same s2).same (s3.trans s4)).up_ (by decide) (by decide))) (by decide) (by decide) (by simp) nx2 ndx2 fun H5 s5 hB5 => ⟨rfl, ?_⟩
        exact hQ x2 H5 (s1.trans (s2.trans (s3.trans (s4.trans s5)))) (hB5.up_ (by decide) (by decide))
      refine ⟨_, rfl, rfl, _, rfl, ite2 (fun _ => ?_) (fun _ => ?_)⟩
      · refine ⟨_, rfl, D, _, _, _, rfl, rfl, SqL.of d1, atI_nat (j := 0) rfl, _, rfl, 1, rfl, D, _, rfl, SqL.of d1, fun p hp => ?_⟩
        intro x dx nx ndx ne
        have s2 : Same H' (L2.upd H' p (.lst (cutV (rf [q0, q1, q2]) (some 1) none))) := Same.new hp
        have hcut : (L2.upd H' p (.lst (cutV (rf [q0, q1, q2]) (some 1) none))) p = some (.lst (rf [q1, q2])) := upd_same
        refine make_sevE (cs := [4, 4]) (.inl rfl) hcut (each2 (b1.same s2) (b2.same s2)) (by decide) (by decide) (by simp) nx ndx fun H3 s3 hB3 => ⟨rfl, ?_⟩
        intro y dy ny ndy ney
        have s4 : Same H3 (L2.upd (L2.upd H3 dy (.own y)) y (.ins (ga K "Bid") dy [])) := Same.upd (Same.new ndy) ny
        have hy : BidTo K m (L2.upd (L2.upd H3 dy (.own y)) y (.ins (ga K "Bid") dy [])) 3 1 y := ⟨_, _, .bid (d := 2) upd_same, Nat.le_refl _⟩
        refine ⟨(by show 3 ≤ sizeLine; decide), fun l hl => ?_⟩
        intro x2 dx2 nx2 ndx2 ne2
        have s5 := Same.new (o := .lst [.ref q0, .ref x, .ref y]) hl
        refine make_sevE (qs := [q0, x, y]) (cs := [4, 9, 1]) (.inr rfl) upd_same (each3 (((b0.same s2).same (s3.trans (s4.trans s5))).up_ (by decide) (by decide)) (hB3.same (s4.trans s5)) (hy.same s5)) (by decide) (by decide) (by simp) nx2 ndx2 fun H6 s6 hB6 => ⟨rfl, ?_⟩
        exact hQ x2 H6 (s1.trans (s2.trans (s3.trans (s4.trans (s5.trans s6))))) (hB6.up_ (by decide) (by decide))
      refine ⟨_, rfl, rfl, _, rfl, ite2 (fun _ => ?_) (fun _ => ?_)⟩
      · refine ⟨_, rfl, ?_⟩
        intro x dx nx ndx ne
        refine make_sevE (cs := [4, 4, 4]) (.inl rfl) d1 (each3 b0 b1 b2) (by decide) (by decide) (by simp) nx ndx fun H3 s3 hB3 => ⟨rfl, ?_⟩
        exact hQ x H3 (s1.trans s3) (hB3.up_ (by decide) (by decide))
      · exact ⟨_, rfl, D, _, _, _, rfl, rfl, SqL.of d1, atI_nat (j := 0) rfl, hQ q0 H' s1 (b0.up_ (by decide) (by decide))⟩
theorem c_llie (T : Tx K mg) : CalT P w K mg base 9 "_law_lie_by" (spE (spLie K)) := by
  obtain ⟨fd, F⟩ := T.d_l_lie_by
  exact cal_of F T.g_l_lie_by (fnE fun m => o_lie T F) (fun _ _ _ _ _ _ us hl => match us, hl with | [_, _, _], _ => rfl)
/-! ### no_more -/
theorem gain_is {W : List Int} {T' : Told} {i : Nat} {l : Lst} {c : Nat × Int} (rc : RecAt (offs T') (2 ^ m - 1) i l c) : gainOf W T' m i c = wAt W c.1 - ticket ((offs T').set i []) (2 ^ m - 1) c.1 := by
  unfold gainOf
  rw [rc.pay]
theorem offs_at {T : Told} {i : Nat} {W : List Int} {p : Option Int} {l : Lst} (hi : T[i]? = some (W, p)) (hl : (offs T)[i]? = some l) : l = offOf (cutW W p) := by
  unfold offs at hl
  rw [List.getElem?_map, hi] at hl
  exact (Option.some.inj hl).symm
theorem set_at {T : Told} {i : Nat} {x : List Int × Option Int} (h : i < T.length) : (T.set i x)[i]? = some x := by rw [List.getElem?_set, if_pos rfl, if_pos h]
def spNoMore (K : PySem.W.Frag) (m : Nat) : Sp := fun vs H Q _ => ∃ (a b : Addr) (T : Told) (i : Nat) (W : List Int) (p : Option Int), vs = [nI m, .ref a, nI i, .ref b, .int (sureOf W T m i p).1] ∧ m ≤ 6 ∧ ToldAt K m H a T ∧ T.length ≤ 3 ∧ (∀ t ∈ T, PuOk t.2) ∧ T[i]? = some (W, p) ∧ (∃ (u : List Int) (n : Nat), BidAt K m H 4 b u n) ∧
  ∀ H', Same H H' → Q (.bl true) H'
theorem o_no_more (T : Tx K mg) {fd : FuncData} (F : FunD K "_law_no_more" "_law_no_more" (defArgs s_l_no_more) (defBody s_l_no_more) (defScope s_l_no_more) [] [] (ga K "_law_no_more") fd) :
    FnOk P w K mg base CX0 11 (ga K "_law_no_more") fd ["_law_many_here", "_law_handed_here", "_law_who", "_law_bid", "_law_most"] (spNoMore K m) := by
  refine okD F sc_l_no_more (fun vs H Q E h => ?_) (fun cdv A outer s H vs Q E hr h => ?_)
  · obtain ⟨a, b, To, i, W, p, rfl, _⟩ := h
    rfl
  · obtain ⟨a, b, To, i, W, p, rfl, hm, hT, hl3, hpu, hi, ⟨u, n, hB⟩, hQ⟩ := h
    refine ⟨_, pss_cons (ps_set (i := 5) sc_l_no_more.nd rfl (Or.inl rfl) (pe_c (c_gain4 T) hr (Nat.le_refl _) rfl (pa_cons (pv 0) (pa_cons (pv 1) (pa_cons (pv 2) (pa_cons (pv 3) pa_nil))))))
      (pss_cons (ps_if (pt_not (pt_val (pe_c (c_lwhole T) hr (by decide) rfl (pa_cons (pv 5) pa_nil)))) (pss_one (ps_ret pe_bl)) pss_nil)
      (pss_cons (ps_set (i := 6) sc_l_no_more.nd rfl (Or.inl rfl) (pe_callTy call_list_of rfl T.n_list (by decide +kernel) (pa_cons (pv 1) pa_nil)))
      (pss_cons (ps_asg (pe_tup (pa_cons (pv 3) (pa_cons (pe_ix ix_tup (pe_ix ix_list (pv 1) (pv 2) (fun _ _ => rfl)) pe_int (fun _ _ => rfl)) pa_nil))) (pg_sub (pv 6) (pv 2) set_list))
      (pss_cons (ps_set (i := 7) sc_l_no_more.nd rfl (Or.inl rfl) (pe_ix ix_list (pe_c (c_pays_of T) hr (by decide) rfl (pa_cons (pv 0) (pa_cons (pe_c (c_counted (m := m) T) hr (by decide) rfl (pa_cons (pv 0) (pa_cons (pv 6) pa_nil))) pa_nil))) (pv 2) (fun _ _ => rfl)))
      (pss_one (ps_ret (pe_or (pe_cmpR op_le (pv 5) (pv 4) (nomark _)) (pe_one (pe_and (pe_cmp (pc_notN (pe_ix ix_tup (pe_ix ix_list (pv 1) (pv 2) (fun _ _ => rfl)) pe_int (fun _ _ => rfl))) rfl)
        (pe_one (pe_cmpR op_eq (pv 7) (pe_ix ix_tup (pe_ix ix_list (pv 1) (pv 2) (fun _ _ => rfl)) pe_int (fun _ _ => rfl)) (nomark _))))))))))))
      , ?_⟩
    obtain ⟨ts, ha, hte⟩ := id hT
    obtain ⟨t, ht, b0, n0, htt, hB0⟩ := hte.r hi
    have hti : (rf ts)[i]? = some (V.ref t) := by rw [List.getElem?_map, ht]; rfl
    have hlt := lt_get ht
    have hiT := lt_get hi
    have hpu0 : ∀ t ∈ To, ∀ q, t.2 = some q → 0 ≤ q := fun t h q e => (hpu t h q e).1
    have okT : TOk m To := ⟨hT.ok, hpu0⟩
    refine ⟨_, rfl, _, rfl, _, rfl, _, rfl, m, a, To, To.set i (u, p), i, W, p, .ref b, rfl, hm, hT, hl3, hpu0, hi, .inr ⟨b, u, n, rfl, hB, rfl⟩, fun H1 c l s1 hl rc => ?_⟩
    refine ⟨_, rfl, _, rfl, _, rfl, iteF ?_⟩
    have el : l = offOf (cutW u p) := offs_at (set_at hiT) hl
    subst el
    have key := no_more hm okT hi hB.ok rc
    rw [gain_is rc, offs_without]
    have ha1 := s1 _ _ ha
    have htt1 := s1 _ _ htt
    refine ⟨_, rfl, a, _, rfl, .inl (SqL.of ha1), fun r hr0 => ?_⟩
    have s2 : Same H1 (L2.upd H1 r (.lst (rf ts))) := Same.new hr0
    refine ⟨_, rfl, _, rfl, _, rfl, a, _, _, _, rfl, rfl, SqL.of (s2 _ _ ha1), atI_nat hti, t, _, _, _, rfl, rfl, SqT.of (s2 _ _ htt1), atI_nat (j := 1) rfl, (by show 2 ≤ sizeLine; decide), fun e he => ?_⟩
    have nre : r ≠ e := ne_of_none upd_same he
    have r2 : (L2.upd (L2.upd H1 r (.lst (rf ts))) e (.tup [.ref b, pI p])) r = some (.lst (rf ts)) := (upd_ne nre).trans upd_same
    have s3 : Same H1 (L2.upd (L2.upd (L2.upd H1 r (.lst (rf ts))) e (.tup [.ref b, pI p])) r (.lst ((rf ts).set i (.ref e)))) := Same.upd (Same.upd s2 (s2.free he)) hr0
    refine ⟨_, rfl, _, rfl, r, rf ts, (i : Int), i, rfl, rfl, r2, ?_, ?_⟩
    · unfold ixN
      rw [if_pos (by omega), if_pos (by rw [List.length_map]; omega), Int.toNat_natCast]
    generalize eH : L2.upd (L2.upd (L2.upd H1 r (.lst (rf ts))) e (.tup [.ref b, pI p])) r (.lst ((rf ts).set i (.ref e))) = H3 at s3
    have hT3 : ToldAt K m H3 r (To.set i (u, p)) := by
      refine ⟨ts.set i e, ?_, ?_⟩
      · rw [← eH, upd_same]
        show _ = some (HO.lst ((ts.set i e).map V.ref))
        rw [List.map_set]
      · refine (hte.imp fun t x h => h.same (s1.trans s3)).set i ⟨b, n, ?_, hB.same (s1.trans s3)⟩
        rw [← eH]
        exact (upd_ne nre.symm).trans upd_same
    have okO : ∀ q ∈ offs (To.set i (u, p)), LOk q := offs_ok (okT.set hB.ok fun q e => hpu0 (W, p) (List.mem_of_getElem? hi) q e) hm
    refine ⟨_, rfl, _, rfl, _, rfl, r, To.set i (u, p), rfl, hm, hT3, by rw [List.length_set]; exact hl3, fun o H4 ho s4 o4 => ?_⟩
    refine ⟨m, o, offs (To.set i (u, p)), rfl, hm, o4, by unfold offs; rw [List.length_map, List.length_set]; exact hl3, okO, fun y H5 ps hy s5 h5 ⟨hpl, hps⟩ => ?_⟩
    have hpi : i < ps.length := by
      rw [hpl]
      unfold offs
      rw [List.length_map, List.length_set]
      exact hiT
    have hp1 : ps[i]? = some ps[i] := List.getElem?_eq_getElem hpi
    obtain ⟨c', rc', ez⟩ := hps i _ _ hp1 hl
    have ec := rc'.uniq rc
    subst ec
    rw [rc'.pay, offs_without] at ez
    refine ⟨_, rfl, y, _, _, _, rfl, rfl, SqL.of h5, atI_nat (j := i) (v := .int ps[i]) (by rw [List.getElem?_map, hp1]; rfl), ?_⟩
    rw [ez]
    have s15 := s3.trans (s4.trans s5)
    refine ⟨_, rfl, _, rfl, _, _, rfl, rfl, _, rfl, ?_⟩
    rcases key with key | ⟨q, rfl, eq⟩
    · rw [decide_eq_true (show _ ≤ (sureOf W To m i p).1 from key)]
      exact iteT (hQ H5 (s1.trans s15))
    · refine ite2 (fun _ => hQ H5 (s1.trans s15)) (fun _ => ?_)
      refine ⟨_, rfl, _, rfl, a, _, _, _, rfl, rfl, SqL.of (s15 _ _ ha1), atI_nat hti, t, _, _, _, rfl, rfl, SqT.of (s15 _ _ htt1), atI_nat (j := 1) rfl, _, rfl, iteT ?_⟩
      refine ⟨_, rfl, _, rfl, _, rfl, a, _, _, _, rfl, rfl, SqL.of (s15 _ _ ha1), atI_nat hti, t, _, _, _, rfl, rfl, SqT.of (s15 _ _ htt1), atI_nat (j := 1) rfl, rfl, ?_⟩
      rw [eq]
      show Q (.bl (decide (V.int q = V.int q))) H5
      rw [decide_eq_true rfl]
      exact hQ H5 (s1.trans s15)
theorem c_lnomore (T : Tx K mg) : CalT P w K mg base 11 "_law_no_more" (spE (spNoMore K)) := by
  obtain ⟨fd, F⟩ := T.d_l_no_more
  exact cal_of F T.g_l_no_more (fnE fun m => o_no_more T F) (fun _ _ _ _ _ _ us hl => match us, hl with | [_, _, _, _, _], _ => rfl)
end
end Gv
namespace Gv
open PySem PySem.Spec PyProof.Rows L2
section
variable {P : Program} {w : World} {K : PySem.W.Frag} {mg : Str → Option Value} {base : Heap}
/-! ### the law -/
def spLaw (K : PySem.W.Frag) : Sp := fun vs H Q _ => ∃ (a : Addr) (ns : List Int), vs = [.ref a] ∧ SqL K H a (ns.map V.int) ∧ ∀ H', Q (.bl true) H'
theorem eq0N (n : Nat) : decide (nI n = V.int 0) = decide (n = 0) := decN n 0
theorem eq0I (z : Int) : decide (V.int z = V.int 0) = decide (z = 0) := by
  rw [dec_int]
  by_cases c : z = 0
  · subst c; rfl
  · rw [decide_eq_false c]; exact beq_false_of_ne c
theorem o_law (T : Tx K mg) {fd : FuncData} (F : FunD K "law" "law" (defArgs s_law) (defBody s_law) (defScope s_law) [] [] (ga K "law") fd) :
    FnOk P w K mg base CX0 12 (ga K "law") fd ["_law_script"] (spLaw K) := by
  refine okD F sc_law (fun vs H Q E h => ?_) (fun cdv A outer s H vs Q E hr h => ?_)
  · obtain ⟨a, ns, rfl, _⟩ := h
    rfl
  · obtain ⟨a, ns, rfl, hS, hQ⟩ := h
    refine ⟨_, pss_cons (ps_set (i := 1) sc_law.nd rfl (Or.inl rfl) (pe_c (c_lmany T) hr (by decide) rfl (pa_cons (pe_c (c_cell T) hr (by decide) rfl (pa_cons (pv 0) (pa_cons pe_int pa_nil))) pa_nil)))
      (pss_cons (ps_set (i := 2) sc_law.nd rfl (Or.inl rfl) (pe_op op_catT (pe_c (c_lscale T) hr (by decide) rfl (pa_cons (pe_c (c_cell T) hr (by decide) rfl (pa_cons (pv 0) (pa_cons pe_int pa_nil))) pa_nil))
        (pe_tup (pa_cons (pe_callB (call_max2 rfl) rfl T.n_max (by decide +kernel) (pa_cons pe_int (pa_cons (pe_op op_sub (pe_op op_shl pe_int (pv 1)) pe_int) pa_nil))) pa_nil))))
      (pss_cons (ps_set (i := 3) sc_law.nd rfl (Or.inl rfl) (pe_op op_add (pe_op op_mod (pe_c (c_cell T) hr (by decide) rfl (pa_cons (pv 0) (pa_cons pe_int pa_nil))) pe_int) pe_int))
      (pss_cons (ps_set (i := 4) sc_law.nd rfl (Or.inl rfl) (pe_op op_mod (pe_c (c_cell T) hr (by decide) rfl (pa_cons (pv 0) (pa_cons pe_int pa_nil))) (pv 3)))
      (pss_cons (ps_set (i := 5) sc_law.nd rfl (Or.inl rfl) (pe_c (c_lhand T) hr (by decide) rfl (pa_cons (pe_c (c_ltold T) hr (by decide) rfl (pa_cons (pv 0) (pa_cons pe_int (pa_cons (pv 3) (pa_cons (pv 2) pa_nil))))) pa_nil)))
      (pss_cons (ps_set (i := 6) sc_law.nd rfl (Or.inl rfl) (pe_c (c_sure_gain T) hr (by decide) rfl (pa_cons (pv 1) (pa_cons (pv 5) (pa_cons (pv 4) pa_nil)))))
      (pss_cons (ps_if (PW.pt (pw_or (pt_not (pt_val (pe_callB call_isi rfl T.n_isinstance (by decide +kernel) (pa_cons (pv 6) (pa_cons (pe_bltn (v := .ty "tuple") (u := .type "tuple") rfl T.n_tuple (by decide +kernel) rfl) pa_nil)))))
        (pw_or (pt_cmpR op_ne (pe_callB call_len_seq rfl T.n_len PySem.boot_len (pa_cons (pv 6) pa_nil)) pe_int (nomark _))
        (pw_or (pt_not (pt_val (pe_c (c_lwhole T) hr (by decide) rfl (pa_cons (pe_ix ix_tup (pv 6) pe_int (fun _ _ => rfl)) pa_nil))))
        (pw_or1 (pt_not (pt_val (pe_c (c_lwhole T) hr (by decide) rfl (pa_cons (pe_ix ix_tup (pv 6) pe_int (fun _ _ => rfl)) pa_nil))))))))) (pss_one (ps_ret pe_bl)) pss_nil)
      (pss_cons (ps_if (PW.pt (pw_or (pt_cmpR op_lt (pe_ix ix_tup (pv 6) pe_int (fun _ _ => rfl)) pe_int (nomark _))
        (pw_or (pt_cmpR op_ne (pe_cmpR op_eq (pe_ix ix_tup (pv 6) pe_int (fun _ _ => rfl)) pe_int (nomark _)) (pe_cmpR op_eq (pe_ix ix_tup (pv 6) pe_int (fun _ _ => rfl)) pe_int (nomark _)) (nomark _))
        (pw_or (pt_cmpR op_lt (pe_ix ix_tup (pv 6) pe_int (fun _ _ => rfl)) pe_int (nomark _))
        (pw_or1 (pt_cmpR op_ge (pe_ix ix_tup (pv 6) pe_int (fun _ _ => rfl)) (pe_op op_shl pe_int (pv 1)) (nomark _))))))) (pss_one (ps_ret pe_bl)) pss_nil)
      (pss_cons (ps_for PassesOwn.never rfl (pi_list (pe_lst (pa_cons (pe_c (c_llie T) hr (by decide) rfl (pa_cons (pv 0) (pa_cons pe_int (pa_cons (pv 2) pa_nil)))) (pa_cons (pe_c (c_llie T) hr (by decide) rfl (pa_cons (pv 0) (pa_cons pe_int (pa_cons (pv 2) pa_nil))))
          (pa_cons (pe_ix ix_tup (pe_ix ix_list (pv 5) (pv 4) (fun _ _ => rfl)) pe_int (fun _ _ => rfl)) pa_nil))))) (pg_name (i := 7) sc_law.nd rfl (Or.inl rfl))
        (pss_one (ps_if (pt_not (pt_val (pe_c (c_lnomore T) hr (Nat.le_refl _) rfl (pa_cons (pv 1) (pa_cons (pv 5) (pa_cons (pv 4) (pa_cons (pv 7) (pa_cons (pe_ix ix_tup (pv 6) pe_int (fun _ _ => rfl)) pa_nil)))))))) (pss_one (ps_ret pe_bl)) pss_nil)))
      (pss_cons (ps_if (pt_cmp (pc_isN (pe_ix ix_tup (pe_ix ix_list (pv 5) (pv 4) (fun _ _ => rfl)) pe_int (fun _ _ => rfl)))) (pss_one (ps_ret (pe_cmpR op_eq (pe_c (c_gain3 T) hr (by decide) rfl (pa_cons (pv 1) (pa_cons (pv 5) (pa_cons (pv 4) pa_nil)))) (pe_ix ix_tup (pv 6) pe_int (fun _ _ => rfl)) (nomark _)))) pss_nil)
      (pss_cons (ps_if (pt_cmpR op_eq (pe_ix ix_tup (pv 6) pe_int (fun _ _ => rfl)) pe_int (nomark _)) (pss_one (ps_ret pe_bl)) pss_nil)
      (pss_one (ps_ret (pe_cmpR op_eq (pe_c (c_gain4 T) hr (by decide) rfl (pa_cons (pv 1) (pa_cons (pv 5) (pa_cons (pv 4) (pa_cons (pe_mk (k_Only T) hr (by decide) rfl (pa_cons (pe_ix ix_tup (pv 6) pe_int (fun _ _ => rfl)) (pa_cons (pe_op op_pow pe_int pe_int) pa_nil))) pa_nil))))) (pe_ix ix_tup (pv 6) pe_int (fun _ _ => rfl)) (nomark _)))))))))))))), ?_⟩
    refine ⟨_, rfl, a, ns, 1, rfl, hS, fun z1 => ⟨z1, rfl, fun H1 m hm5 s1 => ?_⟩⟩
    have hm : m ≤ 6 := by omega
    have p0 : 0 < 2 ^ m := Nat.pow_pos (by decide)
    have p32 : 2 ^ m ≤ 32 := Nat.pow_le_pow_right (n := 2) (by decide) hm5
    refine ⟨_, rfl, a, ns, 0, rfl, s1.seq hS, fun z0 => ⟨z0, rfl, fun p2 H2 c0 c1 s2 hc0 hc1 hp2 => ?_⟩⟩
    refine ⟨_, rfl, _, _, rfl, rfl, ⟨by omega, by omega, by decide⟩, _, _, rfl, rfl, 7, _, rfl, (by show 1 ≤ sizeLine; decide), fun p3 hp3 => ?_⟩
    have s3 : Same H2 (L2.upd H2 p3 (.tup [.int (if (1 : Int) * 2 ^ ((m : Int).toNat) - 1 > 7 then (1 : Int) * 2 ^ ((m : Int).toNat) - 1 else 7)])) := Same.new hp3
    refine ⟨p2, p3, _, _, rfl, rfl, SqT.of (s3 _ _ hp2), SqT.of upd_same, (by intro z; cases z), (by show 2 + 1 ≤ sizeLine; decide), (fun z => by cases z), fun _ sc hsc => ?_⟩
    have s13 := s1.trans (s2.trans s3)
    have s4 := Same.upd (o := .tup ([V.int c0, .int c1] ++ [.int (if (1 : Int) * 2 ^ ((m : Int).toNat) - 1 > 7 then (1 : Int) * 2 ^ ((m : Int).toNat) - 1 else 7)])) s13 (s13.free hsc)
    have hSc : ScAt (L2.upd (L2.upd H2 p3 (.tup [.int (if (1 : Int) * 2 ^ ((m : Int).toNat) - 1 > 7 then (1 : Int) * 2 ^ ((m : Int).toNat) - 1 else 7)])) sc (.tup ([V.int c0, .int c1] ++ [.int (if (1 : Int) * 2 ^ ((m : Int).toNat) - 1 > 7 then (1 : Int) * 2 ^ ((m : Int).toNat) - 1 else 7)]))) sc := by
      refine ⟨c0, c1, _, upd_same, hc0, hc1, ?_⟩
      rw [fullI]
      split <;> omega
    generalize L2.upd (L2.upd H2 p3 (.tup [.int (if (1 : Int) * 2 ^ ((m : Int).toNat) - 1 > 7 then (1 : Int) * 2 ^ ((m : Int).toNat) - 1 else 7)])) sc (.tup ([V.int c0, .int c1] ++ [.int (if (1 : Int) * 2 ^ ((m : Int).toNat) - 1 > 7 then (1 : Int) * 2 ^ ((m : Int).toNat) - 1 else 7)])) = H4 at s4 hSc
    refine ⟨_, rfl, a, ns, 2, rfl, s4.seq hS, fun z2 => ?_⟩
    refine ⟨_, _, rfl, rfl, (by show (0 : Int) < 3; decide), _, _, rfl, rfl, ?_⟩
    obtain ⟨n, en, hn1, hn3⟩ : ∃ n : Nat, z2 % 3 + 1 = (n : Int) ∧ 1 ≤ n ∧ n ≤ 3 := ⟨(z2 % 3 + 1).toNat, by omega, by omega, by omega⟩
    have eN : V.int (z2 % 3 + 1) = nI n := by rw [en]; rfl
    refine ⟨_, rfl, a, ns, 3, rfl, s4.seq hS, fun z3 => ?_⟩
    refine ⟨_, rfl, _, _, rfl, rfl, (by omega), ?_⟩
    obtain ⟨i, ei, hin⟩ : ∃ i : Nat, z3 % (z2 % 3 + 1) = (i : Int) ∧ i < n := by
      have h1 := Int.emod_nonneg z3 (show (z2 % 3 + 1) ≠ 0 by omega)
      have h2 := Int.emod_lt_of_pos z3 (show 0 < (z2 % 3 + 1) by omega)
      exact ⟨(z3 % (z2 % 3 + 1)).toNat, by omega, by omega⟩
    have eI : V.int (z3 % (z2 % 3 + 1)) = nI i := by rw [ei]; rfl
    refine ⟨_, rfl, _, rfl, _, rfl, a, ns, 4, n, sc, (by show [V.ref a, V.int 4, V.int (z2 % 3 + 1), V.ref sc] = _; rw [eN]; rfl), s4.seq hS, hSc, hn3, fun p5 H5 s5 h5 => ?_⟩
    refine ⟨m, p5, n, rfl, h5, hn3, fun b H6 To s6 hT hTl hpu => ?_⟩
    have hiT : i < To.length := by omega
    obtain ⟨W, p, hi⟩ : ∃ W p, To[i]? = some (W, p) := ⟨To[i].1, To[i].2, List.getElem?_eq_getElem hiT⟩
    have hl3 : To.length ≤ 3 := by omega
    have hpu0 : ∀ t ∈ To, ∀ q, t.2 = some q → 0 ≤ q := fun t h q e => (hpu t h q e).1
    have okT : TOk m To := ⟨hT.ok, hpu0⟩
    have S : SureOk (wAt W) (ticket ((offs To).set i []) (2 ^ m - 1)) p (List.range' 1 (2 ^ m - 1)) (sureOf W To m i p) := sure_ok _ _ _ _
    refine ⟨_, rfl, _, rfl, _, rfl, m, b, To, i, W, p, (by show [nI m, V.ref b, V.int (z3 % (z2 % 3 + 1))] = _; rw [eI]), hm, hT, hl3, hi, fun q7 H7 hq7 s7 h7 => ?_⟩
    have hT7 := hT.same s7
    obtain ⟨ts, hb7, hte⟩ := id hT7
    obtain ⟨t, ht, b0, n0, htt, hB0⟩ := hte.r hi
    have hti : (rf ts)[i]? = some (V.ref t) := by rw [List.getElem?_map, ht]; rfl
    have s57 := s4.trans (s5.trans (s6.trans s7))
    have s2lt : (sureOf W To m i p).2 < 2 ^ m := by
      by_cases c : (sureOf W To m i p).2 = 0
      · omega
      · have := (S.at_ c).1
        rw [List.mem_range'_1] at this
        omega
    have g0 : atI [V.int (sureOf W To m i p).1, nI (sureOf W To m i p).2] 0 = some (V.int (sureOf W To m i p).1) := atI_nat (j := 0) rfl
    have g1 : atI [V.int (sureOf W To m i p).1, nI (sureOf W To m i p).2] 1 = some (nI (sureOf W To m i p).2) := atI_nat (j := 1) rfl
    refine ⟨_, rfl, _, _, _, _, true, rfl, .ty "tuple", .base (.tup h7), kit_ty (by decide +kernel), _, rfl, iteF ?_⟩
    refine ⟨_, rfl, q7, _, rfl, .inr (SqT.of h7), rfl, _, rfl, iteF ?_⟩
    refine ⟨_, rfl, q7, _, _, _, rfl, rfl, SqT.of h7, g0, _, rfl, _, rfl, iteF ?_⟩
    refine ⟨_, rfl, q7, _, _, _, rfl, rfl, SqT.of h7, g1, _, rfl, _, rfl, iteF ?_⟩
    refine ⟨_, rfl, q7, _, _, _, rfl, rfl, SqT.of h7, g0, _, _, rfl, rfl, _, rfl, ite2 (fun z => ?_) (fun _ => ?_)⟩
    · have := of_decide_eq_true z
      have := S.nn
      omega
    refine ⟨_, rfl, q7, _, _, _, rfl, rfl, SqT.of h7, g0, rfl, _, rfl, q7, _, _, _, rfl, rfl, SqT.of h7, g1, rfl, rfl, _, rfl, ?_⟩
    rw [eq0I, eq0N, show decide ((sureOf W To m i p).1 = 0) = decide ((sureOf W To m i p).2 = 0) from decide_eq_decide.mpr S.eq0]
    refine iteNS rfl ?_
    refine ⟨_, rfl, q7, _, _, _, rfl, rfl, SqT.of h7, g1, _, _, rfl, rfl, _, rfl, ite2 (fun z => ?_) (fun _ => ?_)⟩
    · have := of_decide_eq_true z
      omega
    refine ⟨_, rfl, q7, _, _, _, rfl, rfl, SqT.of h7, g1, _, rfl, _, _, rfl, rfl, ⟨by omega, by omega, by decide⟩, _, _, rfl, rfl, _, rfl, ite2 (fun z => ?_) (fun _ => ?_)⟩
    · have := of_decide_eq_true z
      rw [pow2I] at this
      omega
    refine ⟨_, rfl, _, rfl, m, a, ns, 22, sc, rfl, s57.seq hS, hSc.same (s5.trans (s6.trans s7)), fun l1 H8 s8 hL1 => ?_⟩
    refine ⟨_, rfl, _, rfl, m, a, ns, 38, sc, rfl, (s57.trans s8).seq hS, hSc.same (s5.trans (s6.trans (s7.trans s8))), fun l2 H9 s9 hL2 => ?_⟩
    have s89 := s8.trans s9
    refine ⟨_, rfl, _, rfl, b, _, _, _, rfl, rfl, SqL.of (s89 _ _ hb7), at_of (j := i) ei hti, t, _, _, _, rfl, rfl, SqT.of (s89 _ _ htt), atI_nat (j := 0) rfl, (by show 3 ≤ sizeLine; decide), fun bl hbl => ?_⟩
    have sA : Same H7 (L2.upd H9 bl (.lst [.ref l1, .ref l2, .ref b0])) := Same.upd s89 (s89.free hbl)
    have s9A : Same H9 (L2.upd H9 bl (.lst [.ref l1, .ref l2, .ref b0])) := Same.new hbl
    have hblA : (L2.upd H9 bl (.lst [.ref l1, .ref l2, .ref b0])) bl = some (.lst [.ref l1, .ref l2, .ref b0]) := upd_same
    generalize L2.upd H9 bl (.lst [.ref l1, .ref l2, .ref b0]) = HA at sA s9A hblA
    refine ⟨bl, rfl, ⟨_, SqL.of hblA⟩, for_list (K := K) (a := bl) (xs := rf [l1, l2, b0]) (fun j σ H' => (∃ v7 : Option V, σ = [some (.ref a), some (nI m), some (.ref sc), some (.int (z2 % 3 + 1)), some (.int (z3 % (z2 % 3 + 1))), some (.ref b), some (.ref q7), v7]) ∧ Same HA H')
      ⟨⟨none, rfl⟩, Same.refl _⟩ (fun j σ H' _ hP => hP.2.seq (SqL.of hblA)) ?_ ?_⟩
    · rintro j x σ H' hx ⟨⟨v7, rfl⟩, sB⟩
      obtain ⟨q, hq, rfl⟩ := get_map hx
      have sAB := sA.trans sB
      have hbq : ∃ (u : List Int) (n : Nat), BidAt K m H' 4 q u n := by
        have hm' := List.mem_of_getElem? hq
        simp only [List.mem_cons, List.not_mem_nil, or_false] at hm'
        rcases hm' with rfl | rfl | rfl
        · obtain ⟨u, k, h, _⟩ := hL1.same (s9.trans (s9A.trans sB))
          exact ⟨u, k, h⟩
        · obtain ⟨u, k, h, _⟩ := hL2.same (s9A.trans sB)
          exact ⟨u, k, h⟩
        · exact ⟨W, n0, hB0.same sAB⟩
      refine ⟨_, rfl, _, rfl, _, rfl, _, rfl, _, rfl, q7, _, _, _, rfl, rfl, SqT.of (sAB _ _ h7), g0, m, b, q, To, i, W, p, (by show [nI m, V.ref b, V.int (z3 % (z2 % 3 + 1)), V.ref q, V.int (sureOf W To m i p).1] = _; rw [eI]), hm, hT7.same sAB, hl3, hpu, hi, hbq, fun H2 sC => ⟨_, rfl, iteF ⟨⟨_, rfl⟩, sB.trans sC⟩⟩⟩
    · rintro σ H' ⟨⟨v7, rfl⟩, sB⟩
      have sAB := sA.trans sB
      refine ⟨_, rfl, _, rfl, b, _, _, _, rfl, rfl, SqL.of (sAB _ _ hb7), at_of (j := i) ei hti, t, _, _, _, rfl, rfl, SqT.of (sAB _ _ htt), atI_nat (j := 1) rfl, _, rfl, ?_⟩
      have h7' := sAB _ _ h7
      cases p with
      | none =>
        refine iteT ⟨_, rfl, _, rfl, _, rfl, m, b, To, To, i, W, none, .non, (by show [nI m, V.ref b, V.int (z3 % (z2 % 3 + 1)), V.non] = _; rw [eI]), hm, hT7.same sAB, hl3, hpu0, hi, .inl ⟨rfl, rfl⟩, fun H2 c l sC hl rc => ?_⟩
        have el := offs_at hi hl
        subst el
        have e := own_gains hm okT hi rc
        refine ⟨_, rfl, q7, _, _, _, rfl, rfl, SqT.of (sC _ _ h7'), g0, rfl, ?_⟩
        rw [gain_is rc, e]
        show Q (.bl (decide (V.int (sureOf W To m i none).1 = V.int (sureOf W To m i none).1))) H2
        rw [decide_eq_true rfl]
        exact hQ H2
      | some q =>
        refine iteF ⟨_, rfl, q7, _, _, _, rfl, rfl, SqT.of h7', g1, rfl, _, rfl, ?_⟩
        rw [eq0N]
        refine ite2 (fun _ => hQ H') (fun ne => ?_)
        have ne0 : (sureOf W To m i (some q)).2 ≠ 0 := fun z => ne (decide_eq_true z)
        refine ⟨_, rfl, _, rfl, _, rfl, _, rfl, q7, _, _, _, rfl, rfl, SqT.of h7', g1, _, _, rfl, rfl, ⟨by decide, by decide, by decide⟩, fun x dx nx ndx nex => ?_⟩
        refine make_only (Hb := H') (m := m) (b := (sureOf W To m i (some q)).2) (z := 10 ^ (9 : Int).toNat) (Same.refl H') ⟨by omega, by omega⟩ (by decide) nx ndx fun H2 s2 hB2 => ⟨rfl, ?_⟩
        have qb := (hpu (W, some q) (List.mem_of_getElem? hi) q rfl).2
        refine ⟨m, b, To, To.set i (onlyW m (sureOf W To m i (some q)).2 (10 ^ (9 : Int).toNat), some q), i, W, some q, .ref x, (by show [nI m, V.ref b, V.int (z3 % (z2 % 3 + 1)), V.ref x] = _; rw [eI]), hm, hT7.same (sAB.trans s2), hl3, hpu0, hi, .inr ⟨x, _, 1, rfl, (hB2.same nw_in).up_ (by decide), rfl⟩, fun H3 c l sC hl rc => ?_⟩
        have el := offs_at (set_at hiT) hl
        subst el
        have e := all_in hm okT hi (big := 10 ^ (9 : Int).toNat) (Int.le_trans qb (by decide)) ne0 rfl rc
        refine ⟨_, rfl, q7, _, _, _, rfl, rfl, SqT.of (sC _ _ (s2 _ _ h7')), g0, rfl, ?_⟩
        rw [gain_is rc, offs_without, e]
        show Q (.bl (decide (V.int (sureOf W To m i (some q)).1 = V.int (sureOf W To m i (some q)).1))) H3
        rw [decide_eq_true rfl]
        exact hQ H3
end
end Gv
namespace Gv
open PySem PySem.Spec PyProof.Rows L2
/-! ### the end -/
theorem facts {P : Program} {w : World} {K : PySem.W.Frag} {h : Heap} {mg : Str → Option Value} {f : Addr} (X : K.In h) (G : h.Ns mainGlobals mg) (hfa : mg ("law" : Str) = some (.ref f)) (c : He.SaysX fa fn [] [] ex w h K) :
    ∃ fd : FuncData, (∀ (s : Shared) (v : Value), BindsTo s fd ⟨[v], []⟩ [("_law_script", v)]) ∧ ∀ base : Heap, K.In base → base.Ns mainGlobals mg → FnOk P w K mg base CX0 12 f fd ["_law_script"] (spLaw K) := by
  have T : Tx K mg := ⟨c.t.d, c.more, h, X, G⟩
  obtain ⟨fd, F⟩ := T.d_law
  have e := hfa.symm.trans T.g_law
  cases e
  have b := FunD.bindsA (ps := ["_law_script"]) F fun _ _ _ _ _ _ us hl => match us, hl with | [_], _ => rfl
  exact ⟨fd, fun s v => b s [v] rfl, fun base _ _ => o_law T F⟩
end Gv
open PySem PySem.W PySem.Calls PyProof.Rows
set_option maxRecDepth 100000 in
set_option maxHeartbeats 0 in
theorem PySem.Challenge.cw_gavelhall_k89_whole_no_bid_gains_more_holds : PySem.Challenge.rw_gavelhall_k89_whole_no_bid_gains_more.Holds := by
  w_on; o_law
  refine HandSHeadRun.head_any (r := OpenLaw.row PySem.Challenge.rw_gavelhall_k89_whole_no_bid_gains_more) (q := view (OpenLaw.row PySem.Challenge.rw_gavelhall_k89_whole_no_bid_gains_more).prog [61]) (H := Gv.hk) (ob := Gv.ob) (M := 6000) (loose := Gv.loose1 ++ Gv.loose2)
    (d := HandSHeadRun.topDef (OpenLaw.row PySem.Challenge.rw_gavelhall_k89_whole_no_bid_gains_more).prog 61) (kwd := []) Gv.ob_eq
    (by kernel_rfl) (fun s => by kernel_rfl) Gv.run (by kernel_rfl) (by kernel_rfl) (by kernel_rfl) (by rfl) (by first | assumption | decide +kernel) (by decide +kernel) ⟨rfl, rfl, rfl, rfl, rfl, by decide +kernel⟩ ?hw ?hc
  case hw => w_witness2
  case hc =>
    refine L2.walk_ofE (l := PySem.Challenge.rw_gavelhall_k89_whole_no_bid_gains_more) (n := 63) (k := 12) (x := "_law_script") (CX := L2.CX0) rfl (by decide) (by kernel_rfl) ⟨rfl, by decide, by decide⟩ ?F (fun _ _ _ _ z => z)
    intro w mg fa h Y G hmg0
    obtain ⟨K, KX, c⟩ := Y
    have hmg : mg ("law" : PySem.Str) = some (.ref fa) := by
      have e : (HandSHeadRun.topDef (OpenLaw.row PySem.Challenge.rw_gavelhall_k89_whole_no_bid_gains_more).prog 61).name = ("law" : PySem.Str) := by kernel_rfl
      rw [← e]
      exact hmg0
    obtain ⟨fd, hb, hF⟩ := Gv.facts (P := (PySem.Challenge.rw_gavelhall_k89_whole_no_bid_gains_more).prog) (w := w) KX G hmg c
    exact ⟨K, fd, Gv.spLaw K, KX, hb, fun H a ns hl _ hS => ⟨a, ns, rfl, hS, fun _ => rfl⟩, hF⟩
