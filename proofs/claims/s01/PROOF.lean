import PyProof.Rows.All
import Wide.All
import OpenK.AllK
import Wide.FinOn
import Open.SpecLaws
import KE.OsGo
import HandS.ForSpec
import HandS.ForMost
import HandS.Evl
import HandS.Walk
import HandS.Steps
import HandS.Style
import HandS.Wide
import HandS.Zip
import HandS.SortRule
import KE.DataMinMax
import KE.SortData
import PySem.Challenge.RW_timberbids_s01_answers
import PyWrtbsa
set_option Elab.async false
set_option linter.all false
set_option maxRecDepth 100000
set_option maxHeartbeats 4000000
/-! # The top: what it writes, told by names -/
namespace TB
open PySem PySem.Spec PyProof.Rows L2
open PySem.W (Codec)
/-- the i-th statement of the program -/
def top (i : Nat) : Stmt := PySem.Challenge.pw_timberbids_s01_answers.main.body.getD i (.Pass ⟨0, 0, 0, 0⟩)
/-- a def of the top -/
def FnAt (K : PySem.W.Frag) (mg : Str → Option Value) (x : Str) (st : Stmt) : Prop := ∃ f fd, Fun K x x st f fd ∧ mg x = some (.ref f)
/-- a method of the class at C -/
def MethAt (K : PySem.W.Frag) (C : Addr) (x qual : Str) (st : Stmt) : Prop := ∃ f fd, Fun K x qual st f fd ∧ Meth K C x f
/-- a class of the top that makes instances by its __init__ -/
structure ClsAt (K : PySem.W.Frag) (mg : Str → Option Value) (C : Addr) (x : Str) : Prop where
  cl : Cls K C
  gC : mg x = some (.ref C)
  mks : PySem.W.makesIn K C = true
  kp : PySem.W.keepIn K (.ref C) = true
/-- a constant that is a whole number -/
def IntAt (mg : Str → Option Value) (x : Str) (i : Int) : Prop := ∃ t, mg x = some (.int i t)
/-- a constant that is a tuple of whole numbers -/
def TupAt (K : PySem.W.Frag) (mg : Str → Option Value) (x : Str) (ns : List Int) : Prop := ∃ a, mg x = some (.ref a) ∧ ∀ H, SqT K H a (ns.map V.int)
/-- where the classes stand -/
structure Adr where
  Contract : Addr
  Delivery : Addr
  Bill : Addr
  Books : Addr
  Lot : Addr
  Bid : Addr
  Sale : Addr
  Desk : Addr
/-- what the top has written -/
structure Top (K : PySem.W.Frag) (mg : Str → Option Value) (A : Adr) : Prop where
  cContract : ClsAt K mg A.Contract "Contract"
  nContract_volumes : NoAttr K A.Contract "volumes"
  nContract_prices : NoAttr K A.Contract "prices"
  nContract_bidders : NoAttr K A.Contract "bidders"
  nContract_value : NoAttr K A.Contract "value"
  nContract_day : NoAttr K A.Contract "day"
  nContract_advance : NoAttr K A.Contract "advance"
  nContract_factor : NoAttr K A.Contract "factor"
  nContract_is_closed : NoAttr K A.Contract "is_closed"
  mContract_init : MethAt K A.Contract "__init__" "Contract.__init__" (inClass (top 10) 0)
  mContract_estimate : MethAt K A.Contract "estimate" "Contract.estimate" (inClass (top 10) 1)
  cDelivery : ClsAt K mg A.Delivery "Delivery"
  nDelivery_contract : NoAttr K A.Delivery "contract"
  nDelivery_day : NoAttr K A.Delivery "day"
  nDelivery_grade : NoAttr K A.Delivery "grade"
  nDelivery_volume : NoAttr K A.Delivery "volume"
  mDelivery_init : MethAt K A.Delivery "__init__" "Delivery.__init__" (inClass (top 11) 0)
  cBill : ClsAt K mg A.Bill "Bill"
  nBill_contract : NoAttr K A.Bill "contract"
  nBill_day : NoAttr K A.Bill "day"
  nBill_amounts : NoAttr K A.Bill "amounts"
  mBill_init : MethAt K A.Bill "__init__" "Bill.__init__" (inClass (top 12) 0)
  cBooks : ClsAt K mg A.Books "Books"
  nBooks_contracts : NoAttr K A.Books "contracts"
  nBooks_deliveries : NoAttr K A.Books "deliveries"
  nBooks_bills : NoAttr K A.Books "bills"
  nBooks_indexes : NoAttr K A.Books "indexes"
  nBooks_paid : NoAttr K A.Books "paid"
  mBooks_init : MethAt K A.Books "__init__" "Books.__init__" (inClass (top 13) 0)
  mBooks_index_of : MethAt K A.Books "index_of" "Books.index_of" (inClass (top 13) 1)
  mBooks_deliveries_of : MethAt K A.Books "deliveries_of" "Books.deliveries_of" (inClass (top 13) 2)
  mBooks_delivered : MethAt K A.Books "delivered" "Books.delivered" (inClass (top 13) 3)
  mBooks_due : MethAt K A.Books "due" "Books.due" (inClass (top 13) 4)
  mBooks_parts : MethAt K A.Books "parts" "Books.parts" (inClass (top 13) 5)
  mBooks_bills_of : MethAt K A.Books "bills_of" "Books.bills_of" (inClass (top 13) 6)
  mBooks_billed : MethAt K A.Books "billed" "Books.billed" (inClass (top 13) 7)
  mBooks_new_amounts : MethAt K A.Books "new_amounts" "Books.new_amounts" (inClass (top 13) 8)
  mBooks_balance : MethAt K A.Books "balance" "Books.balance" (inClass (top 13) 9)
  mBooks_shortfall : MethAt K A.Books "shortfall" "Books.shortfall" (inClass (top 13) 10)
  cLot : ClsAt K mg A.Lot "Lot"
  nLot_reserve : NoAttr K A.Lot "reserve"
  nLot_volumes : NoAttr K A.Lot "volumes"
  mLot_init : MethAt K A.Lot "__init__" "Lot.__init__" (inClass (top 20) 0)
  cBid : ClsAt K mg A.Bid "Bid"
  nBid_lots : NoAttr K A.Bid "lots"
  nBid_prices : NoAttr K A.Bid "prices"
  nBid_bidders : NoAttr K A.Bid "bidders"
  nBid_is_withdrawn : NoAttr K A.Bid "is_withdrawn"
  mBid_init : MethAt K A.Bid "__init__" "Bid.__init__" (inClass (top 21) 0)
  cSale : ClsAt K mg A.Sale "Sale"
  nSale_closing_day : NoAttr K A.Sale "closing_day"
  nSale_rule : NoAttr K A.Sale "rule"
  nSale_advance : NoAttr K A.Sale "advance"
  nSale_lots : NoAttr K A.Sale "lots"
  nSale_bids : NoAttr K A.Sale "bids"
  nSale_limits : NoAttr K A.Sale "limits"
  mSale_init : MethAt K A.Sale "__init__" "Sale.__init__" (inClass (top 22) 0)
  mSale_volumes_of : MethAt K A.Sale "volumes_of" "Sale.volumes_of" (inClass (top 22) 1)
  mSale_value_of : MethAt K A.Sale "value_of" "Sale.value_of" (inClass (top 22) 2)
  mSale_reserve_of : MethAt K A.Sale "reserve_of" "Sale.reserve_of" (inClass (top 22) 3)
  mSale_is_admissible : MethAt K A.Sale "is_admissible" "Sale.is_admissible" (inClass (top 22) 4)
  mSale_total : MethAt K A.Sale "total" "Sale.total" (inClass (top 22) 5)
  mSale_double_lot : MethAt K A.Sale "double_lot" "Sale.double_lot" (inClass (top 22) 6)
  mSale_busy_bidder : MethAt K A.Sale "busy_bidder" "Sale.busy_bidder" (inClass (top 22) 7)
  mSale_bidders_of : MethAt K A.Sale "bidders_of" "Sale.bidders_of" (inClass (top 22) 8)
  mSale_judged : MethAt K A.Sale "judged" "Sale.judged" (inClass (top 22) 9)
  mSale_fits : MethAt K A.Sale "fits" "Sale.fits" (inClass (top 22) 10)
  mSale_longer : MethAt K A.Sale "longer" "Sale.longer" (inClass (top 22) 11)
  mSale_selections : MethAt K A.Sale "selections" "Sale.selections" (inClass (top 22) 12)
  mSale_best : MethAt K A.Sale "best" "Sale.best" (inClass (top 22) 13)
  mSale_threshold : MethAt K A.Sale "threshold" "Sale.threshold" (inClass (top 22) 14)
  cDesk : ClsAt K mg A.Desk "Desk"
  nDesk_day : NoAttr K A.Desk "day"
  nDesk_sale : NoAttr K A.Desk "sale"
  nDesk_books : NoAttr K A.Desk "books"
  mDesk_init : MethAt K A.Desk "__init__" "Desk.__init__" (inClass (top 46) 0)
  mDesk_is_sealed : MethAt K A.Desk "is_sealed" "Desk.is_sealed" (inClass (top 46) 1)
  mDesk_is_bid : MethAt K A.Desk "is_bid" "Desk.is_bid" (inClass (top 46) 2)
  mDesk_is_contract : MethAt K A.Desk "is_contract" "Desk.is_contract" (inClass (top 46) 3)
  mDesk_set_day : MethAt K A.Desk "set_day" "Desk.set_day" (inClass (top 46) 4)
  mDesk_open_sale : MethAt K A.Desk "open_sale" "Desk.open_sale" (inClass (top 46) 5)
  mDesk_add_lot : MethAt K A.Desk "add_lot" "Desk.add_lot" (inClass (top 46) 6)
  mDesk_set_limit : MethAt K A.Desk "set_limit" "Desk.set_limit" (inClass (top 46) 7)
  mDesk_place_bid : MethAt K A.Desk "place_bid" "Desk.place_bid" (inClass (top 46) 8)
  mDesk_withdraw_bid : MethAt K A.Desk "withdraw_bid" "Desk.withdraw_bid" (inClass (top 46) 9)
  mDesk_list_bids : MethAt K A.Desk "list_bids" "Desk.list_bids" (inClass (top 46) 10)
  mDesk_check_selection : MethAt K A.Desk "check_selection" "Desk.check_selection" (inClass (top 46) 11)
  mDesk_best_selection : MethAt K A.Desk "best_selection" "Desk.best_selection" (inClass (top 46) 12)
  mDesk_threshold : MethAt K A.Desk "threshold" "Desk.threshold" (inClass (top 46) 13)
  mDesk_award : MethAt K A.Desk "award" "Desk.award" (inClass (top 46) 14)
  mDesk_get_contract : MethAt K A.Desk "get_contract" "Desk.get_contract" (inClass (top 46) 15)
  mDesk_set_index : MethAt K A.Desk "set_index" "Desk.set_index" (inClass (top 46) 16)
  mDesk_record_delivery : MethAt K A.Desk "record_delivery" "Desk.record_delivery" (inClass (top 46) 17)
  mDesk_correct_delivery : MethAt K A.Desk "correct_delivery" "Desk.correct_delivery" (inClass (top 46) 18)
  mDesk_close_contract : MethAt K A.Desk "close_contract" "Desk.close_contract" (inClass (top 46) 19)
  mDesk_contract_value : MethAt K A.Desk "contract_value" "Desk.contract_value" (inClass (top 46) 20)
  mDesk_create_bill : MethAt K A.Desk "create_bill" "Desk.create_bill" (inClass (top 46) 21)
  mDesk_list_bills : MethAt K A.Desk "list_bills" "Desk.list_bills" (inClass (top 46) 22)
  mDesk_record_payment : MethAt K A.Desk "record_payment" "Desk.record_payment" (inClass (top 46) 23)
  mDesk_balance : MethAt K A.Desk "balance" "Desk.balance" (inClass (top 46) 24)
  mDesk_shortfall : MethAt K A.Desk "shortfall" "Desk.shortfall" (inClass (top 46) 25)
  f_common_of : FnAt K mg "common_of" (top 2)
  f_fraction : FnAt K mg "fraction" (top 3)
  f_plus : FnAt K mg "plus" (top 4)
  f_times : FnAt K mg "times" (top 5)
  f_greater_of : FnAt K mg "greater_of" (top 6)
  f_rounded : FnAt K mg "rounded" (top 7)
  f_contract_of : FnAt K mg "contract_of" (top 14)
  f_filled : FnAt K mg "filled" (top 19)
  f_are_grades : FnAt K mg "are_grades" (top 43)
  f_are_bidders : FnAt K mg "are_bidders" (top 44)
  f_has_twice : FnAt K mg "has_twice" (top 45)
  f_sale_deed : FnAt K mg "sale_deed" (top 47)
  f_contract_deed : FnAt K mg "contract_deed" (top 48)
  f_answers : FnAt K mg "answers" (top 49)
  k_PLAIN_INDEX : IntAt mg "PLAIN_INDEX" (1000)
  k_MOST_LIMIT_sales : IntAt mg "MOST_LIMIT_sales" (12)
  k_BIDDERS : IntAt mg "BIDDERS" (16)
  k_GRADES : IntAt mg "GRADES" (10)
  k_OUT : IntAt mg "OUT" (-1)
  k_MISSING : IntAt mg "MISSING" (-3)
  k_DONE : IntAt mg "DONE" (-8)
  k_NOT_POSSIBLE : IntAt mg "NOT_POSSIBLE" (-4)
  k_FULL : IntAt mg "FULL" (-9)
  k_MOST_DAY : IntAt mg "MOST_DAY" (99999)
  k_MOST_AMOUNT : IntAt mg "MOST_AMOUNT" (1000000000)
  k_MOST_VOLUME : IntAt mg "MOST_VOLUME" (1000000)
  k_MOST_LOTS : IntAt mg "MOST_LOTS" (10)
  k_MOST_BIDS : IntAt mg "MOST_BIDS" (12)
  k_MOST_LIMIT_desk : IntAt mg "MOST_LIMIT_desk" (12)
  k_MOST_WEIGHT : IntAt mg "MOST_WEIGHT" (1000)
  k_MOST_CONTRACTS : IntAt mg "MOST_CONTRACTS" (24)
  k_MOST_INDEX : IntAt mg "MOST_INDEX" (10000)
  k_MOST_INDEXES : IntAt mg "MOST_INDEXES" (16)
  k_MOST_DELIVERIES : IntAt mg "MOST_DELIVERIES" (64)
  k_MOST_BILLS : IntAt mg "MOST_BILLS" (48)
  b_len : mg "len" = none
  b_sum : mg "sum" = none
  b_max : mg "max" = none
  b_min : mg "min" = none
  b_sorted : mg "sorted" = none
  b_set : mg "set" = none
  b_list : mg "list" = none
  b_int : mg "int" = none
  b_zip : mg "zip" = none
  b_enumerate : mg "enumerate" = none
  b_range : mg "range" = none
  t_NOUGHT : TupAt K mg "NOUGHT" [0, 1]
  t_NUMBERS : TupAt K mg "NUMBERS" [1, 3, 1, 2, 0, 1, 0, 0, 0, 1, 0, 1, 2, 4, 2, 1, 1, 1, 1, 2, 1, 1]
  t_LISTS : TupAt K mg "LISTS" [0, 0, 1, 0, 3, 0, 0, 1, 0, 0, 0, 0, 0, 0, 0, 0, 0, 0, 0, 0, 0, 0]
theorem top_mk {K : PySem.W.Frag} {mg : Str → Option Value} {cContract cDelivery cBill cBooks cLot cBid cSale cDesk : Addr}
    (h_cContract : ClsAt K mg cContract "Contract")
    (h_nContract_volumes : NoAttr K cContract "volumes")
    (h_nContract_prices : NoAttr K cContract "prices")
    (h_nContract_bidders : NoAttr K cContract "bidders")
    (h_nContract_value : NoAttr K cContract "value")
    (h_nContract_day : NoAttr K cContract "day")
    (h_nContract_advance : NoAttr K cContract "advance")
    (h_nContract_factor : NoAttr K cContract "factor")
    (h_nContract_is_closed : NoAttr K cContract "is_closed")
    (h_mContract_init : MethAt K cContract "__init__" "Contract.__init__" (inClass (top 10) 0))
    (h_mContract_estimate : MethAt K cContract "estimate" "Contract.estimate" (inClass (top 10) 1))
    (h_cDelivery : ClsAt K mg cDelivery "Delivery")
    (h_nDelivery_contract : NoAttr K cDelivery "contract")
    (h_nDelivery_day : NoAttr K cDelivery "day")
    (h_nDelivery_grade : NoAttr K cDelivery "grade")
    (h_nDelivery_volume : NoAttr K cDelivery "volume")
    (h_mDelivery_init : MethAt K cDelivery "__init__" "Delivery.__init__" (inClass (top 11) 0))
    (h_cBill : ClsAt K mg cBill "Bill")
    (h_nBill_contract : NoAttr K cBill "contract")
    (h_nBill_day : NoAttr K cBill "day")
    (h_nBill_amounts : NoAttr K cBill "amounts")
    (h_mBill_init : MethAt K cBill "__init__" "Bill.__init__" (inClass (top 12) 0))
    (h_cBooks : ClsAt K mg cBooks "Books")
    (h_nBooks_contracts : NoAttr K cBooks "contracts")
    (h_nBooks_deliveries : NoAttr K cBooks "deliveries")
    (h_nBooks_bills : NoAttr K cBooks "bills")
    (h_nBooks_indexes : NoAttr K cBooks "indexes")
    (h_nBooks_paid : NoAttr K cBooks "paid")
    (h_mBooks_init : MethAt K cBooks "__init__" "Books.__init__" (inClass (top 13) 0))
    (h_mBooks_index_of : MethAt K cBooks "index_of" "Books.index_of" (inClass (top 13) 1))
    (h_mBooks_deliveries_of : MethAt K cBooks "deliveries_of" "Books.deliveries_of" (inClass (top 13) 2))
    (h_mBooks_delivered : MethAt K cBooks "delivered" "Books.delivered" (inClass (top 13) 3))
    (h_mBooks_due : MethAt K cBooks "due" "Books.due" (inClass (top 13) 4))
    (h_mBooks_parts : MethAt K cBooks "parts" "Books.parts" (inClass (top 13) 5))
    (h_mBooks_bills_of : MethAt K cBooks "bills_of" "Books.bills_of" (inClass (top 13) 6))
    (h_mBooks_billed : MethAt K cBooks "billed" "Books.billed" (inClass (top 13) 7))
    (h_mBooks_new_amounts : MethAt K cBooks "new_amounts" "Books.new_amounts" (inClass (top 13) 8))
    (h_mBooks_balance : MethAt K cBooks "balance" "Books.balance" (inClass (top 13) 9))
    (h_mBooks_shortfall : MethAt K cBooks "shortfall" "Books.shortfall" (inClass (top 13) 10))
    (h_cLot : ClsAt K mg cLot "Lot")
    (h_nLot_reserve : NoAttr K cLot "reserve")
    (h_nLot_volumes : NoAttr K cLot "volumes")
    (h_mLot_init : MethAt K cLot "__init__" "Lot.__init__" (inClass (top 20) 0))
    (h_cBid : ClsAt K mg cBid "Bid")
    (h_nBid_lots : NoAttr K cBid "lots")
    (h_nBid_prices : NoAttr K cBid "prices")
    (h_nBid_bidders : NoAttr K cBid "bidders")
    (h_nBid_is_withdrawn : NoAttr K cBid "is_withdrawn")
    (h_mBid_init : MethAt K cBid "__init__" "Bid.__init__" (inClass (top 21) 0))
    (h_cSale : ClsAt K mg cSale "Sale")
    (h_nSale_closing_day : NoAttr K cSale "closing_day")
    (h_nSale_rule : NoAttr K cSale "rule")
    (h_nSale_advance : NoAttr K cSale "advance")
    (h_nSale_lots : NoAttr K cSale "lots")
    (h_nSale_bids : NoAttr K cSale "bids")
    (h_nSale_limits : NoAttr K cSale "limits")
    (h_mSale_init : MethAt K cSale "__init__" "Sale.__init__" (inClass (top 22) 0))
    (h_mSale_volumes_of : MethAt K cSale "volumes_of" "Sale.volumes_of" (inClass (top 22) 1))
    (h_mSale_value_of : MethAt K cSale "value_of" "Sale.value_of" (inClass (top 22) 2))
    (h_mSale_reserve_of : MethAt K cSale "reserve_of" "Sale.reserve_of" (inClass (top 22) 3))
    (h_mSale_is_admissible : MethAt K cSale "is_admissible" "Sale.is_admissible" (inClass (top 22) 4))
    (h_mSale_total : MethAt K cSale "total" "Sale.total" (inClass (top 22) 5))
    (h_mSale_double_lot : MethAt K cSale "double_lot" "Sale.double_lot" (inClass (top 22) 6))
    (h_mSale_busy_bidder : MethAt K cSale "busy_bidder" "Sale.busy_bidder" (inClass (top 22) 7))
    (h_mSale_bidders_of : MethAt K cSale "bidders_of" "Sale.bidders_of" (inClass (top 22) 8))
    (h_mSale_judged : MethAt K cSale "judged" "Sale.judged" (inClass (top 22) 9))
    (h_mSale_fits : MethAt K cSale "fits" "Sale.fits" (inClass (top 22) 10))
    (h_mSale_longer : MethAt K cSale "longer" "Sale.longer" (inClass (top 22) 11))
    (h_mSale_selections : MethAt K cSale "selections" "Sale.selections" (inClass (top 22) 12))
    (h_mSale_best : MethAt K cSale "best" "Sale.best" (inClass (top 22) 13))
    (h_mSale_threshold : MethAt K cSale "threshold" "Sale.threshold" (inClass (top 22) 14))
    (h_cDesk : ClsAt K mg cDesk "Desk")
    (h_nDesk_day : NoAttr K cDesk "day")
    (h_nDesk_sale : NoAttr K cDesk "sale")
    (h_nDesk_books : NoAttr K cDesk "books")
    (h_mDesk_init : MethAt K cDesk "__init__" "Desk.__init__" (inClass (top 46) 0))
    (h_mDesk_is_sealed : MethAt K cDesk "is_sealed" "Desk.is_sealed" (inClass (top 46) 1))
    (h_mDesk_is_bid : MethAt K cDesk "is_bid" "Desk.is_bid" (inClass (top 46) 2))
    (h_mDesk_is_contract : MethAt K cDesk "is_contract" "Desk.is_contract" (inClass (top 46) 3))
    (h_mDesk_set_day : MethAt K cDesk "set_day" "Desk.set_day" (inClass (top 46) 4))
    (h_mDesk_open_sale : MethAt K cDesk "open_sale" "Desk.open_sale" (inClass (top 46) 5))
    (h_mDesk_add_lot : MethAt K cDesk "add_lot" "Desk.add_lot" (inClass (top 46) 6))
    (h_mDesk_set_limit : MethAt K cDesk "set_limit" "Desk.set_limit" (inClass (top 46) 7))
    (h_mDesk_place_bid : MethAt K cDesk "place_bid" "Desk.place_bid" (inClass (top 46) 8))
    (h_mDesk_withdraw_bid : MethAt K cDesk "withdraw_bid" "Desk.withdraw_bid" (inClass (top 46) 9))
    (h_mDesk_list_bids : MethAt K cDesk "list_bids" "Desk.list_bids" (inClass (top 46) 10))
    (h_mDesk_check_selection : MethAt K cDesk "check_selection" "Desk.check_selection" (inClass (top 46) 11))
    (h_mDesk_best_selection : MethAt K cDesk "best_selection" "Desk.best_selection" (inClass (top 46) 12))
    (h_mDesk_threshold : MethAt K cDesk "threshold" "Desk.threshold" (inClass (top 46) 13))
    (h_mDesk_award : MethAt K cDesk "award" "Desk.award" (inClass (top 46) 14))
    (h_mDesk_get_contract : MethAt K cDesk "get_contract" "Desk.get_contract" (inClass (top 46) 15))
    (h_mDesk_set_index : MethAt K cDesk "set_index" "Desk.set_index" (inClass (top 46) 16))
    (h_mDesk_record_delivery : MethAt K cDesk "record_delivery" "Desk.record_delivery" (inClass (top 46) 17))
    (h_mDesk_correct_delivery : MethAt K cDesk "correct_delivery" "Desk.correct_delivery" (inClass (top 46) 18))
    (h_mDesk_close_contract : MethAt K cDesk "close_contract" "Desk.close_contract" (inClass (top 46) 19))
    (h_mDesk_contract_value : MethAt K cDesk "contract_value" "Desk.contract_value" (inClass (top 46) 20))
    (h_mDesk_create_bill : MethAt K cDesk "create_bill" "Desk.create_bill" (inClass (top 46) 21))
    (h_mDesk_list_bills : MethAt K cDesk "list_bills" "Desk.list_bills" (inClass (top 46) 22))
    (h_mDesk_record_payment : MethAt K cDesk "record_payment" "Desk.record_payment" (inClass (top 46) 23))
    (h_mDesk_balance : MethAt K cDesk "balance" "Desk.balance" (inClass (top 46) 24))
    (h_mDesk_shortfall : MethAt K cDesk "shortfall" "Desk.shortfall" (inClass (top 46) 25))
    (h_f_common_of : FnAt K mg "common_of" (top 2))
    (h_f_fraction : FnAt K mg "fraction" (top 3))
    (h_f_plus : FnAt K mg "plus" (top 4))
    (h_f_times : FnAt K mg "times" (top 5))
    (h_f_greater_of : FnAt K mg "greater_of" (top 6))
    (h_f_rounded : FnAt K mg "rounded" (top 7))
    (h_f_contract_of : FnAt K mg "contract_of" (top 14))
    (h_f_filled : FnAt K mg "filled" (top 19))
    (h_f_are_grades : FnAt K mg "are_grades" (top 43))
    (h_f_are_bidders : FnAt K mg "are_bidders" (top 44))
    (h_f_has_twice : FnAt K mg "has_twice" (top 45))
    (h_f_sale_deed : FnAt K mg "sale_deed" (top 47))
    (h_f_contract_deed : FnAt K mg "contract_deed" (top 48))
    (h_f_answers : FnAt K mg "answers" (top 49))
    (h_k_PLAIN_INDEX : IntAt mg "PLAIN_INDEX" (1000))
    (h_k_MOST_LIMIT_sales : IntAt mg "MOST_LIMIT_sales" (12))
    (h_k_BIDDERS : IntAt mg "BIDDERS" (16))
    (h_k_GRADES : IntAt mg "GRADES" (10))
    (h_k_OUT : IntAt mg "OUT" (-1))
    (h_k_MISSING : IntAt mg "MISSING" (-3))
    (h_k_DONE : IntAt mg "DONE" (-8))
    (h_k_NOT_POSSIBLE : IntAt mg "NOT_POSSIBLE" (-4))
    (h_k_FULL : IntAt mg "FULL" (-9))
    (h_k_MOST_DAY : IntAt mg "MOST_DAY" (99999))
    (h_k_MOST_AMOUNT : IntAt mg "MOST_AMOUNT" (1000000000))
    (h_k_MOST_VOLUME : IntAt mg "MOST_VOLUME" (1000000))
    (h_k_MOST_LOTS : IntAt mg "MOST_LOTS" (10))
    (h_k_MOST_BIDS : IntAt mg "MOST_BIDS" (12))
    (h_k_MOST_LIMIT_desk : IntAt mg "MOST_LIMIT_desk" (12))
    (h_k_MOST_WEIGHT : IntAt mg "MOST_WEIGHT" (1000))
    (h_k_MOST_CONTRACTS : IntAt mg "MOST_CONTRACTS" (24))
    (h_k_MOST_INDEX : IntAt mg "MOST_INDEX" (10000))
    (h_k_MOST_INDEXES : IntAt mg "MOST_INDEXES" (16))
    (h_k_MOST_DELIVERIES : IntAt mg "MOST_DELIVERIES" (64))
    (h_k_MOST_BILLS : IntAt mg "MOST_BILLS" (48))
    (h_b_len : mg "len" = none)
    (h_b_sum : mg "sum" = none)
    (h_b_max : mg "max" = none)
    (h_b_min : mg "min" = none)
    (h_b_sorted : mg "sorted" = none)
    (h_b_set : mg "set" = none)
    (h_b_list : mg "list" = none)
    (h_b_int : mg "int" = none)
    (h_b_zip : mg "zip" = none)
    (h_b_enumerate : mg "enumerate" = none)
    (h_b_range : mg "range" = none)
    (h_t_NOUGHT : TupAt K mg "NOUGHT" [0, 1])
    (h_t_NUMBERS : TupAt K mg "NUMBERS" [1, 3, 1, 2, 0, 1, 0, 0, 0, 1, 0, 1, 2, 4, 2, 1, 1, 1, 1, 2, 1, 1])
    (h_t_LISTS : TupAt K mg "LISTS" [0, 0, 1, 0, 3, 0, 0, 1, 0, 0, 0, 0, 0, 0, 0, 0, 0, 0, 0, 0, 0, 0])
    : Top K mg ⟨cContract, cDelivery, cBill, cBooks, cLot, cBid, cSale, cDesk⟩ := ⟨h_cContract, h_nContract_volumes, h_nContract_prices, h_nContract_bidders, h_nContract_value, h_nContract_day, h_nContract_advance, h_nContract_factor, h_nContract_is_closed, h_mContract_init, h_mContract_estimate, h_cDelivery, h_nDelivery_contract, h_nDelivery_day, h_nDelivery_grade, h_nDelivery_volume, h_mDelivery_init, h_cBill, h_nBill_contract, h_nBill_day, h_nBill_amounts, h_mBill_init, h_cBooks, h_nBooks_contracts, h_nBooks_deliveries, h_nBooks_bills, h_nBooks_indexes, h_nBooks_paid, h_mBooks_init, h_mBooks_index_of, h_mBooks_deliveries_of, h_mBooks_delivered, h_mBooks_due, h_mBooks_parts, h_mBooks_bills_of, h_mBooks_billed, h_mBooks_new_amounts, h_mBooks_balance, h_mBooks_shortfall, h_cLot, h_nLot_reserve, h_nLot_volumes, h_mLot_init, h_cBid, h_nBid_lots, h_nBid_prices, h_nBid_bidders, h_nBid_is_withdrawn, h_mBid_init, h_cSale, h_nSale_closing_day, h_nSale_rule, h_nSale_advance, h_nSale_lots, h_nSale_bids, h_nSale_limits, h_mSale_init, h_mSale_volumes_of, h_mSale_value_of, h_mSale_reserve_of, h_mSale_is_admissible, h_mSale_total, h_mSale_double_lot, h_mSale_busy_bidder, h_mSale_bidders_of, h_mSale_judged, h_mSale_fits, h_mSale_longer, h_mSale_selections, h_mSale_best, h_mSale_threshold, h_cDesk, h_nDesk_day, h_nDesk_sale, h_nDesk_books, h_mDesk_init, h_mDesk_is_sealed, h_mDesk_is_bid, h_mDesk_is_contract, h_mDesk_set_day, h_mDesk_open_sale, h_mDesk_add_lot, h_mDesk_set_limit, h_mDesk_place_bid, h_mDesk_withdraw_bid, h_mDesk_list_bids, h_mDesk_check_selection, h_mDesk_best_selection, h_mDesk_threshold, h_mDesk_award, h_mDesk_get_contract, h_mDesk_set_index, h_mDesk_record_delivery, h_mDesk_correct_delivery, h_mDesk_close_contract, h_mDesk_contract_value, h_mDesk_create_bill, h_mDesk_list_bills, h_mDesk_record_payment, h_mDesk_balance, h_mDesk_shortfall, h_f_common_of, h_f_fraction, h_f_plus, h_f_times, h_f_greater_of, h_f_rounded, h_f_contract_of, h_f_filled, h_f_are_grades, h_f_are_bidders, h_f_has_twice, h_f_sale_deed, h_f_contract_deed, h_f_answers, h_k_PLAIN_INDEX, h_k_MOST_LIMIT_sales, h_k_BIDDERS, h_k_GRADES, h_k_OUT, h_k_MISSING, h_k_DONE, h_k_NOT_POSSIBLE, h_k_FULL, h_k_MOST_DAY, h_k_MOST_AMOUNT, h_k_MOST_VOLUME, h_k_MOST_LOTS, h_k_MOST_BIDS, h_k_MOST_LIMIT_desk, h_k_MOST_WEIGHT, h_k_MOST_CONTRACTS, h_k_MOST_INDEX, h_k_MOST_INDEXES, h_k_MOST_DELIVERIES, h_k_MOST_BILLS, h_b_len, h_b_sum, h_b_max, h_b_min, h_b_sorted, h_b_set, h_b_list, h_b_int, h_b_zip, h_b_enumerate, h_b_range, h_t_NOUGHT, h_t_NUMBERS, h_t_LISTS⟩
section
variable {K : PySem.W.Frag} {h : Heap} {mg : Str → Option Value}
theorem FnAt.of {x : Str} {st : Stmt} {f : Addr} {od an : Option Addr} {sl : Array (Option Value)} {oc kV dc pm cd ct : Value} (X : K.In h) (G : h.Ns mainGlobals mg) (a : PySem.W.nsIn K mainGlobals x = some (some (.ref f)))
    (l : K.lookup f = some ⟨oc, od, .func (PySem.W.fnOf x x (defArgs st) (defBody st) (defScope st) .none kV dc pm an cd ct), sl⟩) (c : PySem.W.codeIn K cd x = true) (k : PySem.W.keepIn K (.ref f) = true) : FnAt K mg x st :=
  ⟨f, _, fun_mk l c k, PySem.W.mg_of X G a⟩
theorem MethAt.of {C : Addr} {x qual : Str} {st : Stmt} {f : Addr} {od an : Option Addr} {sl : Array (Option Value)} {oc kV dc pm cd ct : Value} (a : PySem.W.findIn K (.ref C) x = some (some (.ref f))) (i : PySem.W.isFn K (.ref f) = true)
    (l : K.lookup f = some ⟨oc, od, .func (PySem.W.fnOf x qual (defArgs st) (defBody st) (defScope st) .none kV dc pm an cd ct), sl⟩) (c : PySem.W.codeIn K cd qual = true) (k : PySem.W.keepIn K (.ref f) = true) : MethAt K C x qual st :=
  ⟨f, _, fun_mk l c k, ⟨a, i, k⟩⟩
theorem ClsAt.of {C : Addr} {x : Str} (X : K.In h) (G : h.Ns mainGlobals mg) (a : PySem.W.nsIn K mainGlobals x = some (some (.ref C))) (pg : PySem.W.plainGet K C Str.empty = true) (hd : PySem.W.hasDictIn K C = true) (po : PySem.W.plainOver K C = true)
    (sa : PySem.W.findIn K (.ref C) "__setattr__" = some (some (.builtin "object.__setattr__"))) (mk : PySem.W.makesIn K C = true) (kc : PySem.W.keepIn K (.ref C) = true) : ClsAt K mg C x := ⟨⟨pg, hd, po, sa⟩, PySem.W.mg_of X G a, mk, kc⟩
theorem NoAttr.of {C : Addr} {f : Str} (a : PySem.W.findIn K (.ref C) f = some none) : NoAttr K C f := a
theorem IntAt.of {x : Str} {i : Int} {t : Tok} (X : K.In h) (G : h.Ns mainGlobals mg) (a : PySem.W.nsIn K mainGlobals x = some (some (.int i t))) : IntAt mg x i := ⟨t, PySem.W.mg_of X G a⟩
def intsB : List Int → List Value → Bool
  | [], [] => true
  | n :: ns, .int i _ :: us => n == i && intsB ns us
  | _, _ => false
theorem vals_ints : ∀ (ns : List Int) (us : List Value), intsB ns us = true → Vals (ns.map V.int) us
  | [], [], _ => .nil
  | n :: ns, .int i t :: us, h => by
    unfold intsB at h
    rw [Bool.and_eq_true] at h
    have e : n = i := by simpa using h.1
    subst e
    exact .cons ⟨t, rfl⟩ (vals_ints ns us h.2)
  | [], u :: us, h => by cases u <;> exact absurd h (by simp [intsB])
  | n :: ns, [], h => by exact absurd h (by simp [intsB])
  | n :: ns, .none :: us, h => by exact absurd h (by simp [intsB])
  | n :: ns, .bool _ :: us, h => by exact absurd h (by simp [intsB])
  | n :: ns, .str _ _ :: us, h => by exact absurd h (by simp [intsB])
  | n :: ns, .bytes _ _ :: us, h => by exact absurd h (by simp [intsB])
  | n :: ns, .float _ _ :: us, h => by exact absurd h (by simp [intsB])
  | n :: ns, .ref _ :: us, h => by exact absurd h (by simp [intsB])
  | n :: ns, .type _ :: us, h => by exact absurd h (by simp [intsB])
theorem TupAt.of {x : Str} {ns : List Int} {a : Addr} {od : Option Addr} {its : Array Value} {n : Nat} {sl : Array (Option Value)} (X : K.In h) (G : h.Ns mainGlobals mg) (e : PySem.W.nsIn K mainGlobals x = some (some (.ref a)))
    (l : K.lookup a = some ⟨.type "tuple", od, .seq its n, sl⟩) (z : its.size ≤ 1000) (v : intsB ns its.toList = true) : TupAt K mg x ns :=
  ⟨a, PySem.W.mg_of X G e, fun _ => .inr ⟨_, its, n, l, rfl, rfl, Nat.le_trans z (by decide), vals_ints ns _ v⟩⟩
end
end TB
/-! # Readings: what a piece gives over what is known of the heap -/
namespace TB
open PySem PySem.Spec PyProof.Rows L2 Evl

/-! ### expressions whose value is described -/
/-- some v of which R tells; a new list, of whose items R tells -/
def EvP (te : TE) (σ : L2.St) (H : Hp) (R : V → Hp → Prop) : Prop := ∀ H1, Ex H H1 → ∀ Q : VK, (∀ v H2, Ex H1 H2 → R v H2 → Q v H2) → te σ H1 Q
def EvLP (te : TE) (σ : L2.St) (H : Hp) (R : List V → Hp → Prop) : Prop := ∀ H1, Ex H H1 → ∀ Q : VK, (∀ p xs H2, H1 p = none → Ex H1 H2 → H2 p = some (.lst xs) → R xs H2 → Q (.ref p) H2) → te σ H1 Q
def EvAP (ta : TA) (σ : L2.St) (H : Hp) (R : List V → Hp → Prop) : Prop := ∀ H1, Ex H H1 → ∀ Q : List V → Hp → Prop, (∀ vs H2, Ex H1 H2 → R vs H2 → Q vs H2) → ta σ H1 Q
/-- a predicate of the heap that stays when more is known -/
def Up (R : Hp → Prop) : Prop := ∀ H H', Ex H H' → R H → R H'

section
variable {K : PySem.W.Frag} {σ : L2.St} {H H' : Hp} {ta tb tc te tx : TE} {t u : TT} {x y z v : V} {r r' : R2} {R S : V → Hp → Prop}
theorem _root_.Evl.Ex.upd {H H' : Hp} {a : Addr} {o : HO} (e : Ex H H') : Ex (upd H a o) (upd H' a o) := fun b u h => by
  by_cases hb : b = a
  · subst hb; rw [upd_same] at h ⊢; exact h
  · rw [upd_ne hb] at h ⊢; exact e b u h
theorem EvP.mono (e : Ex H H') (h : EvP te σ H R) : EvP te σ H' R := fun H1 a Q q => h H1 (e.trans a) Q q
theorem EvLP.mono {R : List V → Hp → Prop} (e : Ex H H') (h : EvLP te σ H R) : EvLP te σ H' R := fun H1 a Q q => h H1 (e.trans a) Q q
theorem _root_.Evl.EvU.mono {xs : List V} (e : Ex H H') (h : EvU te σ H xs) : EvU te σ H' xs := fun H1 a Q q => h H1 (e.trans a) Q q
theorem _root_.Evl.EvO.mono {to : TO} {o : Option Int} (e : Ex H H') (h : EvO to σ H o) : EvO to σ H' o := fun H1 a Q q => h H1 (e.trans a) Q q
theorem _root_.Evl.Ev.p (h : Ev te σ H v) : EvP te σ H fun x _ => x = v := fun H1 e Q q => h H1 e Q fun H2 e2 => q v H2 e2 rfl
theorem _root_.Evl.Ev.pp (h : Ev te σ H v) (hr : ∀ H1, Ex H H1 → R v H1) : EvP te σ H R := fun H1 e Q q => h H1 e Q fun H2 e2 => q v H2 e2 (hr H2 (e.trans e2))
theorem EvP.val (h : EvP te σ H R) (hr : ∀ x H1, R x H1 → x = v) : Ev te σ H v := fun H1 e Q q => h H1 e Q fun x H2 e2 hx => by
  rw [hr x H2 hx]; exact q H2 e2
theorem EvP.imp (h : EvP te σ H R) (hr : ∀ x H1, Ex H H1 → R x H1 → S x H1) : EvP te σ H S := fun H1 e Q q => h H1 e Q fun x H2 e2 hx => q x H2 e2 (hr x H2 (e.trans e2) hx)
theorem _root_.Evl.EvL.lp {xs : List V} (h : EvL te σ H xs) : EvLP te σ H fun ys _ => ys = xs := fun H1 e Q q => h H1 e Q fun p H2 hp e2 h2 => q p xs H2 hp e2 h2 rfl
theorem EvLP.l {R : List V → Hp → Prop} {xs : List V} (h : EvLP te σ H R) (hr : ∀ ys H1, R ys H1 → ys = xs) : EvL te σ H xs := fun H1 e Q q => h H1 e Q fun p ys H2 hp e2 h2 hR => q p H2 hp e2 (by rw [h2, hr ys H2 hR])
theorem EvLP.p {R : List V → Hp → Prop} (h : EvLP te σ H R) : EvP te σ H fun v H2 => ∃ p xs, v = .ref p ∧ H2 p = some (.lst xs) ∧ R xs H2 := fun H1 e Q q => h H1 e Q fun p xs H2 _ e2 h2 hR => q _ H2 e2 ⟨p, xs, rfl, h2, hR⟩
theorem _root_.Evl.EvL.p {xs : List V} (h : EvL te σ H xs) : EvP te σ H fun v H2 => ∃ p, v = .ref p ∧ H2 p = some (.lst xs) := fun H1 e Q q => h H1 e Q fun p H2 _ e2 h2 => q _ H2 e2 ⟨p, rfl, h2⟩
theorem _root_.Evl.EvU.p {xs : List V} (h : EvU te σ H xs) : EvP te σ H fun v H2 => ∃ p, v = .ref p ∧ H2 p = some (.tup xs) := fun H1 e Q q => h H1 e Q fun p H2 _ e2 h2 => q _ H2 e2 ⟨p, rfl, h2⟩
theorem _root_.Evl.Ev.to (h : Ev te σ H v) (e : v = z) : Ev te σ H z := e ▸ h
theorem _root_.Evl.EvL.to {xs ys : List V} (h : EvL te σ H xs) (e : xs = ys) : EvL te σ H ys := e ▸ h
theorem _root_.Evl.EvT.to {a b : Bool} (h : EvT t σ H a) (e : a = b) : EvT t σ H b := e ▸ h

/-! ### a described part first: then its value stands as a constant -/
theorem bindOp1 (h : EvP ta σ H R) (k : ∀ x H1, Ex H H1 → R x H1 → EvP (tOp r (tC x) tb) σ H1 S) : EvP (tOp r ta tb) σ H S := fun H1 e Q q => h H1 e _ fun x H2 e2 hx => k x H2 (e.trans e2) hx H2 (Ex.refl H2) Q fun v H3 e3 => q v H3 (e2.trans e3)
theorem bindOp2 (ha : Ev ta σ H x) (h : EvP tb σ H R) (k : ∀ y H1, Ex H H1 → R y H1 → EvP (tOp r (tC x) (tC y)) σ H1 S) : EvP (tOp r ta tb) σ H S := fun H1 e Q q => ha H1 e _ fun H2 e2 => h H2 (e.trans e2) _ fun y H3 e3 hy =>
  k y H3 ((e.trans e2).trans e3) hy H3 (Ex.refl H3) Q fun v H4 e4 => q v H4 ((e2.trans e3).trans e4)
theorem bindUn {r : V → Hp → VK → Prop} (h : EvP ta σ H R) (k : ∀ x H1, Ex H H1 → R x H1 → EvP (tUn r (tC x)) σ H1 S) : EvP (tUn r ta) σ H S := fun H1 e Q q => h H1 e _ fun x H2 e2 hx => k x H2 (e.trans e2) hx H2 (Ex.refl H2) Q fun v H3 e3 => q v H3 (e2.trans e3)
theorem bindFld {f : Str} (h : EvP ta σ H R) (k : ∀ x H1, Ex H H1 → R x H1 → EvP (tFld K (tC x) f) σ H1 S) : EvP (tFld K ta f) σ H S := fun H1 e Q q => h H1 e _ fun x H2 e2 hx => k x H2 (e.trans e2) hx H2 (Ex.refl H2) Q fun v H3 e3 => q v H3 (e2.trans e3)
theorem bindCB {r : List V → Hp → VK → Prop} {ta : TA} {R : List V → Hp → Prop} (h : EvAP ta σ H R) (k : ∀ vs H1, Ex H H1 → R vs H1 → ∀ Q : VK, (∀ v H2, Ex H1 H2 → S v H2 → Q v H2) → r vs H1 Q) : EvP (tCB r ta) σ H S := fun H1 e Q q =>
  h H1 e _ fun vs H2 e2 hv => k vs H2 (e.trans e2) hv Q fun v H3 e3 => q v H3 (e2.trans e3)
theorem ap_of {ta : TA} {vs : List V} (h : EvA ta σ H vs) : EvAP ta σ H fun xs _ => xs = vs := fun H1 e Q q => h H1 e Q fun H2 e2 => q vs H2 e2 rfl
theorem ap_one (h : EvP ta σ H R) : EvAP (tCons ta tNil) σ H fun vs H1 => ∃ x, vs = [x] ∧ R x H1 := fun H1 e Q q => h H1 e _ fun x H2 e2 hx => q [x] H2 e2 ⟨x, rfl, hx⟩
theorem ap_cons {tr : TA} {R' : V → List V → Hp → Prop} (h : EvP ta σ H R) (k : ∀ x H1, Ex H H1 → R x H1 → EvAP tr σ H1 (R' x)) : EvAP (tCons ta tr) σ H fun vs H1 => ∃ x r, vs = x :: r ∧ R' x r H1 := fun H1 e Q q =>
  h H1 e _ fun x H2 e2 hx => k x H2 (e.trans e2) hx H2 (Ex.refl H2) _ fun r H3 e3 hr => q (x :: r) H3 (e2.trans e3) ⟨x, r, rfl, hr⟩

/-! ### fields, methods, defs, new objects -/
/-- an instance of the class at C with these attributes -/
def Ins (H : Hp) (a C : Addr) (fs : List (Str × V)) : Prop := ∃ dx, H a = some (.ins C dx fs)
theorem Ins.up {H H' : Hp} {a C : Addr} {fs : List (Str × V)} (e : Ex H H') (h : Ins H a C fs) : Ins H' a C fs := let ⟨dx, h⟩ := h; ⟨dx, e a _ h⟩
theorem ev_fld {a C : Addr} {fs : List (Str × V)} {f : Str} (c : Cls K C) (n : NoAttr K C f) (h : Ev ta σ H (.ref a)) (hi : Ins H a C fs) (hl : fs.lookup f = some v) : Ev (tFld K ta f) σ H v := fun H1 e Q q => h H1 e _ fun H2 e2 =>
  let ⟨dx, hi⟩ := hi.up (e.trans e2); ⟨a, C, dx, fs, v, rfl, hi, c, n, hl, q H2 e2⟩
/-- a def of the top, as its callers see it -/
def FOk (P : Program) (w : World) (K : PySem.W.Frag) (mg : Str → Option Value) (base : Heap) (k : Nat) (x : Str) (ps : List Str) (sp : Sp) : Prop :=
  ∃ f fd, FnOk P w K mg base CX0 k f fd ps sp ∧ mg x = some (.ref f) ∧ PySem.W.keepIn K (.ref f) = true ∧ Binds K fd ps []
/-- a method -/
def MOk (P : Program) (w : World) (K : PySem.W.Frag) (mg : Str → Option Value) (base : Heap) (k : Nat) (C : Addr) (m : Str) (ps : List Str) (sp : Sp) : Prop :=
  ∃ f fd, FnOk P w K mg base CX0 k f fd ps sp ∧ Meth K C m f ∧ Binds K fd ps []
end
section
variable {X : Cx} {k : Nat} {C : Addr} {m : Str} {ps : List Str} {sp : Sp} {pos apos p : Pos} {o e : Expr} {es : List Expr} {ta : TE} {t : TA}
theorem pe_f {x : Str} (B : FOk X.prog X.w X.K X.mg X.base k x ps sp) (hr : Room k X.A) (hg : Gl X x) (ha : PA X (e :: es) t)
    (hst : starEach (e :: es) X.env = (false, eval e X.env) :: starEach es X.env := by rfl) (hpl : (backTo pos (starEach es X.env)).any (·.1) = false := by rfl) (hd : (x == ("__debug__" : Str)) = false := by decide) :
    PE X (.Call (.Name x p) (e :: es) [] pos) (tCall sp [] E0 t) := by
  obtain ⟨f, fd, F, hm, hk, hb⟩ := B
  exact pe_call F hr hg hm hk hb .nil pass0 ha hd hst hpl
theorem pe_m {pl : Sem Bool} (B : MOk X.prog X.w X.K X.mg X.base k C m ps sp) (he : PE X o ta) (c : Cls X.K C) (hr : Room k X.A) (ha : PA X (e :: es) t)
    (hst : starEach (e :: es) X.env = (false, eval e X.env) :: starEach es X.env := by rfl) (hpl : (backTo pos (starEach es X.env)).any (·.1) = false := by rfl)
    (ht : eval (.Call (.Attribute o m apos) (e :: es) [] pos) X.env = (do
      let ov ← eval o X.env
      standAt apos.atName
      let (f, first) ← holding [ov] (getMethod ov m pl)
      callWith pos f first (backTo pos (starEach (e :: es) X.env)) (backToKw pos (keywordEach [] X.env))) := by rfl) :
    PE X (.Call (.Attribute o m apos) (e :: es) [] pos) (tMeth C m sp [] E0 ta t) := by
  obtain ⟨f, fd, F, hm, hb⟩ := B
  exact pe_meth he c hm F hr hb .nil pass0 ha hst hpl ht
theorem pe_m0 {pl : Sem Bool} (B : MOk X.prog X.w X.K X.mg X.base k C m ps sp) (he : PE X o ta) (c : Cls X.K C) (hr : Room k X.A)
    (ht : eval (.Call (.Attribute o m apos) [] [] pos) X.env = (do
      let ov ← eval o X.env
      standAt apos.atName
      let (f, first) ← holding [ov] (getMethod ov m pl)
      callWith pos f first (backTo pos (starEach [] X.env)) (backToKw pos (keywordEach [] X.env))) := by rfl) :
    PE X (.Call (.Attribute o m apos) [] [] pos) (tMeth C m sp [] E0 ta tNil) := by
  obtain ⟨f, fd, F, hm, hb⟩ := B
  exact pe_meth0 he c hm F hr hb .nil pass0 ht
/-- a new object of a class of the top -/
theorem pe_new {x : Str} (T : ClsAt X.K X.mg C x) (B : MOk X.prog X.w X.K X.mg X.base k C "__init__" ps sp) (hr : Room (k + 1) X.A) (hg : Gl X x) (ha : PA X (e :: es) t)
    (hd : (x == ("__debug__" : Str)) = false := by decide) (hst : starEach (e :: es) X.env = (false, eval e X.env) :: starEach es X.env := by rfl) (hpl : (backTo pos (starEach es X.env)).any (·.1) = false := by rfl) :
    PE X (.Call (.Name x p) (e :: es) [] pos) (tMake C sp [] E0 t) := by
  obtain ⟨f, fd, F, hm, hb⟩ := B
  exact pe_make ⟨T.mks, hm.at_, hm.fn, T.kp⟩ F hr hg T.gC hb .nil pass0 ha hd hst hpl
theorem pe_new0 {x : Str} (T : ClsAt X.K X.mg C x) (B : MOk X.prog X.w X.K X.mg X.base k C "__init__" ps sp) (hr : Room (k + 1) X.A) (hg : Gl X x) (hd : (x == ("__debug__" : Str)) = false := by decide) :
    PE X (.Call (.Name x p) [] [] pos) (tMake C sp [] E0 tNil) := by
  obtain ⟨f, fd, F, hm, hb⟩ := B
  exact pe_make0 ⟨T.mks, hm.at_, hm.fn, T.kp⟩ F hr hg T.gC hb .nil pass0 hd
/-- a constant of the top -/
theorem pe_k {x : Str} {i : Int} (hg : Gl X x) (h : IntAt X.mg x i) (hd : (x == ("__debug__" : Str)) = false := by decide) : PE X (.Name x pos) (tC (.int i)) := by
  obtain ⟨t, hm⟩ := h
  exact pe_glob hg hm ⟨t, rfl⟩ hd
/-- a tuple of the top -/
def tTop (K : PySem.W.Frag) (mg : Str → Option Value) (x : Str) (ns : List Int) : TE := fun _ H Q => ∀ a, (∀ H, SqT K H a (ns.map V.int)) → Q (.ref a) H
theorem pe_t {x : Str} {ns : List Int} (hg : Gl X x) (h : TupAt X.K X.mg x ns) (hd : (x == ("__debug__" : Str)) = false := by decide) : PE X (.Name x pos) (tTop X.K X.mg x ns) := by
  obtain ⟨a, hm, ha⟩ := h
  exact ⟨fun pins s σ H Q I h => (pe_glob hg hm (v := .ref a) rfl hd).run pins s σ H Q I (h a ha)⟩
end

/-! ### what calls give -/
def SpP (sp : Sp) (vs : List V) (H : Hp) (R : V → Hp → Prop) : Prop := ∀ H1, Ex H H1 → ∀ Q : VK, (∀ v H2, Ex H1 H2 → R v H2 → Q v H2) → ∀ E : XK, sp vs H1 Q E
/-- the promise of a def that changes nothing: of such arguments over some known heap a value of which R tells -/
def spP (Pre : List V → Hp → (V → Hp → Prop) → Prop) : Sp := fun vs H Q _ => ∃ H0 R, Ex H0 H ∧ Pre vs H0 R ∧ ∀ v Hk H2, Ex H H2 → Ex Hk H2 → R v Hk → Q v H2
theorem spP_go {Pre : List V → Hp → (V → Hp → Prop) → Prop} {vs : List V} {H : Hp} {R R' : V → Hp → Prop} (h : Pre vs H R) (hr : ∀ v Hk H2, Ex Hk H2 → R v Hk → R' v H2) : SpP (spP Pre) vs H R' := fun H1 e Q q _ => ⟨H, R, e, h, fun v Hk H2 e2 ek hv => q v H2 e2 (hr v Hk H2 ek hv)⟩
/-- the value, a list, a tuple -/
def isV (z : V) : V → Hp → Prop := fun v _ => v = z
def isL (xs : List V) : V → Hp → Prop := fun v H => ∃ p, v = .ref p ∧ H p = some (.lst xs)
def isT (K : PySem.W.Frag) (xs : List V) : V → Hp → Prop := fun v H => ∃ p, v = .ref p ∧ SqT K H p xs
theorem isV_up {z v : V} {H H' : Hp} (_ : Ex H H') (h : isV z v H) : isV z v H' := h
theorem isL_up {xs : List V} {v : V} {H H' : Hp} (e : Ex H H') (h : isL xs v H) : isL xs v H' := let ⟨p, a, b⟩ := h; ⟨p, a, e p _ b⟩
theorem isT_up {K : PySem.W.Frag} {xs : List V} {v : V} {H H' : Hp} (e : Ex H H') (h : isT K xs v H) : isT K xs v H' := let ⟨p, a, b⟩ := h; ⟨p, a, ex_t e b⟩
theorem spV_go {Pre : List V → Hp → (V → Hp → Prop) → Prop} {vs : List V} {H : Hp} {z : V} (h : Pre vs H (isV z)) : SpP (spP Pre) vs H (isV z) := spP_go h fun _ _ _ e h => isV_up e h
theorem spL_go {Pre : List V → Hp → (V → Hp → Prop) → Prop} {vs xs : List V} {H : Hp} (h : Pre vs H (isL xs)) : SpP (spP Pre) vs H (isL xs) := spP_go h fun _ _ _ e h => isL_up e h
theorem spT_go {K : PySem.W.Frag} {Pre : List V → Hp → (V → Hp → Prop) → Prop} {vs xs : List V} {H : Hp} (h : Pre vs H (isT K xs)) : SpP (spP Pre) vs H (isT K xs) := spP_go h fun _ _ _ e h => isT_up e h
section
variable {K : PySem.W.Frag} {σ : L2.St} {H H' : Hp} {ta tb tc te tx : TE} {C : Addr} {m : Str} {sp : Sp} {fs : List (Str × V)} {S : V → Hp → Prop}
theorem evp_call {t : TA} {vs : List V} {E : XK} (h : EvA t σ H vs) (hs : SpP sp (vs ++ []) H S) : EvP (tCall sp [] E t) σ H S := fun H1 e Q q => h H1 e _ fun H2 e2 => hs H2 (e.trans e2) Q (fun v H3 e3 hv => q v H3 (e2.trans e3) hv) E
theorem evp_callP {t : TA} {R : List V → Hp → Prop} {E : XK} (h : EvAP t σ H R) (hs : ∀ vs H1, Ex H H1 → R vs H1 → SpP sp (vs ++ []) H1 S) : EvP (tCall sp [] E t) σ H S := fun H1 e Q q =>
  h H1 e _ fun vs H2 e2 hv => hs vs H2 (e.trans e2) hv H2 (Ex.refl H2) Q (fun v H3 e3 hv => q v H3 (e2.trans e3) hv) E
theorem evp_meth {t : TA} {vs : List V} {E : XK} {a : Addr} (ho : Ev ta σ H (.ref a)) (hi : Ins H a C fs) (hl : fs.lookup m = none) (h : EvA t σ H vs) (hs : SpP sp (.ref a :: (vs ++ [])) H S) : EvP (tMeth C m sp [] E ta t) σ H S := fun H1 e Q q =>
  ho H1 e _ fun H2 e2 => let ⟨dx, hd⟩ := hi.up (e.trans e2); ⟨a, dx, fs, rfl, hd, hl, h H2 (e.trans e2) _ fun H3 e3 => hs H3 ((e.trans e2).trans e3) Q (fun v H4 e4 hv => q v H4 ((e2.trans e3).trans e4) hv) E⟩
theorem evp_methP {t : TA} {R : List V → Hp → Prop} {E : XK} {a : Addr} (ho : Ev ta σ H (.ref a)) (hi : Ins H a C fs) (hl : fs.lookup m = none) (h : EvAP t σ H R) (hs : ∀ vs H1, Ex H H1 → R vs H1 → SpP sp (.ref a :: (vs ++ [])) H1 S) : EvP (tMeth C m sp [] E ta t) σ H S := fun H1 e Q q =>
  ho H1 e _ fun H2 e2 => let ⟨dx, hd⟩ := hi.up (e.trans e2); ⟨a, dx, fs, rfl, hd, hl, h H2 (e.trans e2) _ fun vs H3 e3 hv => hs vs H3 ((e.trans e2).trans e3) hv H3 (Ex.refl H3) Q (fun v H4 e4 hv => q v H4 ((e2.trans e3).trans e4) hv) E⟩
theorem evp_tTop {mg : Str → Option Value} {x : Str} {ns : List Int} : EvP (tTop K mg x ns) σ H fun v H1 => ∃ a, v = .ref a ∧ SqT K H1 a (ns.map V.int) := fun H1 _ Q q a ha => q _ H1 (Ex.refl H1) ⟨a, rfl, ha H1⟩
/-- the promise of an __init__: at a new instance it sets the attributes -/
def spI (C : Addr) (Pre : List V → Hp → List (Str × V) → Prop) : Sp := fun vs H Q _ => ∃ (p : Addr) (ws : List V) (dx : Addr) (H0 : Hp) (fs : List (Str × V)), vs = .ref p :: ws ∧ H p = some (.ins C dx []) ∧ Ex H0 H ∧ H0 p = none ∧ Pre ws H0 fs ∧
  ∀ H2, Ex H0 H2 → Ins H2 p C fs → (∀ b o, H b = some o → b ≠ p → H2 b = some o) → Q .non H2
/-- a new instance -/
def NewI (C : Addr) (fs : List (Str × V)) (v : V) (H : Hp) : Prop := ∃ p, v = .ref p ∧ Ins H p C fs
theorem evp_new {t : TA} {vs : List V} {E : XK} {Pre : List V → Hp → List (Str × V) → Prop} (h : EvA t σ H vs) (hp : Pre vs H fs) : EvP (tMake C (spI C Pre) [] E t) σ H (NewI C fs) := fun H1 e Q q => h H1 e _ fun H2 e2 x dx nx nd ne =>
  ⟨x, vs, dx, H, fs, by rw [List.append_nil], upd_same, (e.trans e2).trans ((Ex.new nd).trans (Ex.new (by rw [upd_ne ne.symm]; exact nx))), fresh_back (e.trans e2) nx, hp, fun H3 e3 hi kp => ⟨rfl, q _ H3 (fun b o hb => kp b o (by
    have h1 : b ≠ x := ne_of_none (e2 b o hb) nx
    have h2 : b ≠ dx := ne_of_none (e2 b o hb) nd
    rw [upd_ne h1, upd_ne h2]
    exact e2 b o hb) (ne_of_none (e2 b o hb) nx)) ⟨x, rfl, hi⟩⟩⟩
theorem evp_newP {t : TA} {R : List V → Hp → Prop} {E : XK} {Pre : List V → Hp → List (Str × V) → Prop} (h : EvAP t σ H R) (hp : ∀ vs H1, Ex H H1 → R vs H1 → ∃ fs, Pre vs H1 fs ∧ ∀ v H2, Ex H1 H2 → NewI C fs v H2 → S v H2) : EvP (tMake C (spI C Pre) [] E t) σ H S := fun H1 e Q q => h H1 e _ fun vs H2 e2 hv x dx nx nd ne => by
  obtain ⟨fs, hpre, hS⟩ := hp vs H2 (e.trans e2) hv
  refine ⟨x, vs, dx, H2, fs, by rw [List.append_nil], upd_same, (Ex.new nd).trans (Ex.new (by rw [upd_ne ne.symm]; exact nx)), nx, hpre, fun H3 e3 hi kp => ⟨rfl, q _ H3 (fun b o hb => kp b o ?_ (ne_of_none (e2 b o hb) nx)) (hS _ H3 e3 ⟨x, rfl, hi⟩)⟩⟩
  have h1 : b ≠ x := ne_of_none (e2 b o hb) nx
  have h2 : b ≠ dx := ne_of_none (e2 b o hb) nd
  rw [upd_ne h1, upd_ne h2]
  exact e2 b o hb
end
end TB
/-! # Statements, loops and comprehensions over what is known of the heap -/
namespace TB
open PySem PySem.Spec PyProof.Rows L2 Evl

/-! ### targets -/
def EvG (g : TG) (v : V) (σ : L2.St) (H : Hp) (σ2 : L2.St) : Prop := ∀ H1, Ex H H1 → ∀ Q : L2.St → Hp → Prop, Q σ2 H1 → g v σ H1 Q
def setAll : L2.St → List Nat → List V → L2.St
  | σ, i :: is, x :: xs => setAll (σ.set i (some x)) is xs
  | σ, _, _ => σ
def GSet (t : TGs) (is : List Nat) : Prop := ∀ xs σ H (Q : L2.St → Hp → Prop), xs.length = is.length → Q (setAll σ is xs) H → t xs σ H Q
theorem gset_nil : GSet gNil [] := fun xs σ H Q hl q => by
  cases xs with
  | nil => exact ⟨rfl, q⟩
  | cons _ _ => simp at hl
theorem gset_cons {i : Nat} {is : List Nat} {t : TGs} (h : GSet t is) : GSet (gCons (gName i) t) (i :: is) := fun xs σ H Q hl q => by
  cases xs with
  | nil => simp at hl
  | cons x r => exact ⟨x, r, rfl, h r _ H Q (by simpa using hl) q⟩
theorem evg_name {i : Nat} {v : V} {σ : L2.St} {H : Hp} : EvG (gName i) v σ H (σ.set i (some v)) := fun _ _ _ q => q
theorem evg_tup {K : PySem.W.Frag} {n : Nat} {t : TGs} {is : List Nat} {a : Addr} {ws : List V} {σ : L2.St} {H : Hp} (hs : GSet t is) (h : SqT K H a ws) (hn : ws.length = n) (hi : ws.length = is.length) : EvG (gTup K n t) (.ref a) σ H (setAll σ is ws) :=
  fun H1 e Q q => ⟨a, ws, rfl, ex_t e h, hn, hs ws σ H1 Q hi q⟩

/-! ### what is walked -/
abbrev Wk {α : Type} (J : It) (l : List α) (G : Hp → Prop) (Y : α → V → Hp → Prop) : Prop := Walk J l.length G fun i H x H' => Ex H H' ∧ ∃ y, l[i]? = some y ∧ Y y x H'
def EvI {α : Type} (wi : TI) (σ : L2.St) (H : Hp) (l : List α) (G : Hp → Prop) (Y : α → V → Hp → Prop) : Prop :=
  ∀ H1, Ex H H1 → ∀ R : It → Hp → Prop, (∀ J H2, Ex H1 H2 → Wk J l G Y → R J H2) → wi σ H1 R
section
variable {K : PySem.W.Frag} {σ : L2.St} {H : Hp} {ta tb tl : TE} {α β : Type}
theorem up_l {a : Addr} {xs : List V} : Up fun H => SqL K H a xs := fun _ _ e h => ex_l e h
theorem get_map {α : Type} {l : List α} {f : α → V} {i : Nat} {x : V} (h : (l.map f)[i]? = some x) : ∃ y, l[i]? = some y ∧ x = f y := by
  rw [List.getElem?_map] at h
  cases e : l[i]? with
  | none => rw [e] at h; simp at h
  | some y => rw [e] at h; exact ⟨y, rfl, (Option.some.inj h).symm⟩
theorem evi_list (l : List α) (f : α → V) {a : Addr} (h : Ev tl σ H (.ref a)) (hs : SqL K H a (l.map f)) : EvI (iList K tl) σ H l (fun H => SqL K H a (l.map f)) (fun y x _ => x = f y) := fun H1 e R k => h H1 e _ fun H2 e2 =>
  ⟨a, rfl, ⟨_, ex_l (e.trans e2) hs⟩, k _ H2 e2 (by
    have w := walk_list (K := K) (a := a) (xs := l.map f)
    rw [List.length_map] at w
    exact w.mono (fun _ g => g) fun i H x H' hi g y => ⟨by rw [y.1]; exact Ex.refl _, get_map y.2⟩)⟩
theorem evi_zip (as : List α) (bs : List β) (f : α → V) (g : β → V) {a b : Addr} (h1 : Ev ta σ H (.ref a)) (h2 : Ev tb σ H (.ref b)) (s1 : SqL K H a (as.map f)) (s2 : SqL K H b (bs.map g)) :
    EvI (iZip K (tCons ta (tCons tb tNil))) σ H (as.zip bs) (fun H => SqL K H a (as.map f) ∧ SqL K H b (bs.map g)) (fun y x H' => ∃ T, x = .ref T ∧ H' T = some (.tup [f y.1, g y.2])) := fun H1 e R k =>
  h1 H1 e _ fun H2 e2 => h2 H2 (e.trans e2) _ fun H3 e3 => ⟨a, b, _, _, rfl, ex_l ((e.trans e2).trans e3) s1, ex_l ((e.trans e2).trans e3) s2, k _ H3 (e2.trans e3) (by
    have w := walk_zip (K := K) (a := a) (b := b) (xs := as.map f) (ys := bs.map g) (n := (as.zip bs).length) (by rw [List.length_zip, List.length_map, List.length_map])
    refine w.mono (fun _ g => g) fun i H x H' hi _ y => ?_
    obtain ⟨T, u, v, ex, hn, eH, hu, hv⟩ := y
    subst ex eH
    obtain ⟨y1, e1, rfl⟩ := get_map hu
    obtain ⟨y2, e2, rfl⟩ := get_map hv
    refine ⟨Ex.new hn, (y1, y2), ?_, T, rfl, upd_same⟩
    rw [List.getElem?_zip_eq_some]
    exact ⟨e1, e2⟩)⟩
theorem evi_enum (as : List α) (f : α → V) {a : Addr} (h1 : Ev ta σ H (.ref a)) (s1 : SqL K H a (as.map f)) :
    EvI (iEnum K (tCons ta tNil)) σ H as.zipIdx (fun H => SqL K H a (as.map f)) (fun y x H' => ∃ T, x = .ref T ∧ H' T = some (.tup [.int (y.2 : Nat), f y.1])) := fun H1 e R k =>
  h1 H1 e _ fun H2 e2 => ⟨a, _, rfl, ex_l (e.trans e2) s1, k _ H2 e2 (by
    have w := walk_enum (K := K) (a := a) (xs := as.map f)
    have el : (as.map f).length = as.zipIdx.length := by rw [List.length_map, List.length_zipIdx]
    rw [el] at w
    refine w.mono (fun _ g => g) fun i H x H' hi _ y => ?_
    obtain ⟨T, u, v, ex, hn, eH, hu, hv⟩ := y
    subst ex eH
    obtain ⟨y2, e2, rfl⟩ := get_map hv
    have e1 : V.int (i : Nat) = u := Option.some.inj hu
    subst e1
    refine ⟨Ex.new hn, (y2, i), ?_, T, rfl, upd_same⟩
    rw [List.getElem?_zipIdx, e2]
    simp)⟩
theorem evi_range {n : Nat} (h : Ev ta σ H (.int (n : Nat))) (hn : n < 2 ^ 62) : EvI (iRng1 (tCons ta tNil)) σ H (List.range n) (fun _ => True) (fun y x _ => x = .int (y : Nat)) := fun H1 e R k => h H1 e _ fun H2 e2 => ⟨(n : Nat), rfl, by omega, by omega, k _ H2 e2 (by
    have w := walk_range (lo := 0) (n := n)
    have el : ((n : Nat) : Int).toNat = n := Int.toNat_natCast n
    rw [el]
    have e3 : (List.range n).length = n := List.length_range
    rw [Wk, e3]
    refine w.mono (fun _ g => g) fun i H x H' hi _ y => ?_
    obtain ⟨e1, e2⟩ := y
    refine ⟨by rw [e1]; exact Ex.refl _, i, by rw [List.getElem?_range hi], ?_⟩
    rw [e2]
    simp)⟩
theorem rangeSize_two (m : Nat) : Builtin.Range.rangeSize 0 ((2 * m : Nat) : Int) 2 = (m : Int) := by
  unfold Builtin.Range.rangeSize
  simp only [show (2 : Int) > 0 by decide, if_true]
  split <;> omega
theorem small_two {m : Nat} (h : m < 1000) : Builtin.Range.small 0 ((2 * m : Nat) : Int) 2 = true := by
  unfold Builtin.Range.small
  rw [rangeSize_two]
  have e : ((2 * m : Nat) : Int) = 2 * (m : Int) := by omega
  rw [e]
  have hm : (m : Int) < 1000 := by omega
  have hm0 : (0 : Int) ≤ (m : Int) := by omega
  generalize (m : Int) = k at hm hm0
  unfold Builtin.Range.rangeFitsLong
  simp only [Bool.and_eq_true, Bool.or_eq_true, decide_eq_true_eq, beq_iff_eq, show (2 : Int) > 0 by decide, if_true]
  omega
/-- range(0, n, 2), n even -/
theorem evi_range2 {tc : TE} {m : Nat} (h1 : Ev ta σ H (.int 0)) (h2 : Ev tb σ H (.int ((2 * m : Nat) : Int))) (h3 : Ev tc σ H (.int 2)) (hm : m < 1000) : EvI (iRng3 (tCons ta (tCons tb (tCons tc tNil)))) σ H (List.range m) (fun _ => True) (fun y x _ => x = .int ((2 * y : Nat) : Int)) :=
  fun H1 e R k => h1 H1 e _ fun H2 e2 => h2 H2 (e.trans e2) _ fun H3 e3 => h3 H3 ((e.trans e2).trans e3) _ fun H4 e4 => ⟨0, ((2 * m : Nat) : Int), 2, m, rfl, ⟨by decide, by decide, small_two hm, rangeSize_two m⟩, k _ H4 ((e2.trans e3).trans e4) (by
    have w := walk_rangeC (lo := 0) (c := 2) (n := m)
    have e3 : (List.range m).length = m := List.length_range
    rw [Wk, e3]
    refine w.mono (fun _ g => g) fun i H x H' hi _ y => ?_
    obtain ⟨e1, e2⟩ := y
    refine ⟨by rw [e1]; exact Ex.refl _, i, by rw [List.getElem?_range hi], ?_⟩
    rw [e2]
    exact congrArg V.int (by omega))⟩
end

/-! ### comprehensions -/
theorem paired_snoc {α β : Type} {F : α → β → Prop} : ∀ {l : List α} {m : List β} {a : α} {b : β}, Paired F l m → F a b → Paired F (l ++ [a]) (m ++ [b])
  | _, _, _, _, .nil, h => .cons h .nil
  | _, _, _, _, .cons r t, h => .cons r (paired_snoc t h)
theorem take_succ {α : Type} {l : List α} {i : Nat} {y : α} (h : l[i]? = some y) : l.take (i + 1) = l.take i ++ [y] := by
  rw [List.take_add_one, h]
  rfl
/-- the heap without the list under way -/
def less (H : Hp) (D : Addr) : Hp := fun b => if b = D then none else H b
theorem less_ne {H : Hp} {D b : Addr} (h : b ≠ D) : less H D b = H b := if_neg h
theorem less_up {H H' : Hp} {D : Addr} (e : Ex H H') : Ex (less H D) (less H' D) := fun b o h => by
  by_cases hb : b = D
  · subst hb; unfold less at h; rw [if_pos rfl] at h; cases h
  · rw [less_ne hb] at h ⊢; exact e b o h
theorem less_upd {H H' : Hp} {D : Addr} {o : HO} (e : Ex H H') : Ex (less H D) (less (upd H' D o) D) := fun b u h => by
  by_cases hb : b = D
  · subst hb; unfold less at h; rw [if_pos rfl] at h; cases h
  · rw [less_ne hb] at h ⊢; rw [upd_ne hb]; exact e b u h
theorem less_ex {H : Hp} {D : Addr} : Ex (less H D) H := fun b o h => by
  by_cases hb : b = D
  · subst hb; unfold less at h; rw [if_pos rfl] at h; cases h
  · rw [less_ne hb] at h; exact h
theorem ex_less {H H' : Hp} {D : Addr} (hD : H D = none) (e : Ex H H') : Ex H (less H' D) := fun b o h => by
  rw [less_ne (ne_of_none h hD)]; exact e b o h
section
variable {K : PySem.W.Frag} {σ : L2.St} {H : Hp} {te : TE} {tt : TT} {g : TG} {wi : TI} {vs : List Nat} {α : Type}
/-- of each item that is kept a value of which Rg tells; Rs: what its making tells, of the heap where it began -/
theorem evlp_lcS {l : List α} {G : Hp → Prop} {Y : α → V → Hp → Prop} (p : α → Bool) (Rg : α → V → Hp → Prop) (Rs : α → Hp → V → Hp → Prop) (hi : EvI wi σ H l G Y) (hG : Up G) (h0 : G H) (hz : l.length ≤ 40000) (hup : ∀ y v, Up (Rg y v))
    (hst : ∀ y v H5 H6 D zs, H D = none → Ex H H5 → Ex H5 H6 → H5 D = some (.lst zs) → Rs y H5 v H6 → Rg y v (less H6 D))
    (hs : ∀ y x H1, y ∈ l → Ex H H1 → Y y x H1 → ∃ σ2, EvG g x (wipe σ vs) H1 σ2 ∧ wipe σ2 vs = wipe σ vs ∧ EvT tt σ2 H1 (p y) ∧ (p y = true → ∀ H5, Ex H1 H5 → ∀ Q : VK, (∀ v H6, Ex H5 H6 → Rs y H5 v H6 → Q v H6) → te σ2 H5 Q)) :
    EvLP (tLc wi g tt te vs) σ H fun zs H1 => Paired (fun y z => Rg y z H1) (l.filter p) zs := fun H1 e Q q => hi H1 e _ fun J H2 e2 w D hD => by
  have hD0 : H D = none := fresh_back (e.trans e2) hD
  refine lc_it w (D := D) (fun i H' => Ex H2 H' ∧ ∃ zs, H' D = some (.lst zs) ∧ zs.length ≤ i ∧ Paired (fun y z => Rg y z (less H' D)) ((l.take i).filter p) zs) ?_ ?_ ?_ ?_
  · exact ⟨Ex.new hD, [], upd_same, Nat.le_refl _, by rw [List.take_zero]; exact .nil⟩
  · intro i H' _ ⟨e3, _⟩
    exact hG _ _ ((e.trans e2).trans e3) h0
  · rintro i x H3 H4 hil ⟨e3, zs, hz3, hzl, hp⟩ ⟨e4, y, hy, hY⟩
    obtain ⟨σ2, hg, hw, ht, he⟩ := hs y x H4 (List.mem_of_getElem? hy) (((e.trans e2).trans e3).trans e4) hY
    refine hg H4 (Ex.refl _) _ ⟨hw, ht H4 (Ex.refl _) _ fun H5 e5 => ?_⟩
    cases hpy : p y with
    | true =>
      rw [if_pos rfl]
      have e05 := (((e.trans e2).trans e3).trans e4).trans e5
      have hD5 : H5 D = some (.lst zs) := e5 D _ (e4 D _ hz3)
      refine he hpy H5 e5 _ fun z H6 e6 hR => ⟨zs, e6 D _ hD5, sz_lt (by omega), ?_, zs ++ [z], upd_same, by rw [List.length_append]; simp; omega, ?_⟩
      · exact Ex.mut (((e3.trans e4).trans e5).trans e6) hD
      · rw [take_succ hy, List.filter_append, List.filter_cons, if_pos hpy, List.filter_nil]
        refine paired_snoc (Paired.mapP hp fun a b r => hup a b _ _ (less_upd ((e4.trans e5).trans e6)) r) ?_
        exact hup _ _ _ _ (less_upd (Ex.refl _)) (hst y z H5 H6 D zs hD0 e05 e6 hD5 hR)
    | false =>
      rw [if_neg Bool.false_ne_true]
      refine ⟨(e3.trans e4).trans e5, zs, e5 D _ (e4 D _ hz3), by omega, ?_⟩
      rw [take_succ hy, List.filter_append, List.filter_cons, if_neg (by rw [hpy]; decide), List.filter_nil, List.append_nil]
      exact Paired.mapP hp fun a b r => hup a b _ _ (less_up (e4.trans e5)) r
  · rintro H' ⟨e3, zs, hz3, _, hp⟩
    rw [List.take_length] at hp
    exact q D zs H' (fresh_back e2 hD) (e2.trans e3) hz3 (Paired.mapP hp fun a b r => hup a b _ _ less_ex r)
theorem paired_map {α : Type} {f : α → V} : ∀ {l : List α} {zs : List V}, Paired (fun y z => z = f y) l zs → zs = l.map f
  | _, _, .nil => rfl
  | _, _, .cons h t => by rw [h, paired_map t, List.map_cons]
/-- values that hang on the item alone -/
theorem evl_lc {l : List α} {G : Hp → Prop} {Y : α → V → Hp → Prop} (p : α → Bool) (f : α → V) (hi : EvI wi σ H l G Y) (hG : Up G) (h0 : G H) (hz : l.length ≤ 40000)
    (hs : ∀ y x H1, y ∈ l → Ex H H1 → Y y x H1 → ∃ σ2, EvG g x (wipe σ vs) H1 σ2 ∧ wipe σ2 vs = wipe σ vs ∧ EvT tt σ2 H1 (p y) ∧ (p y = true → Ev te σ2 H1 (f y))) :
    EvL (tLc wi g tt te vs) σ H ((l.filter p).map f) :=
  (evlp_lcS p (fun y z _ => z = f y) (fun y _ v _ => v = f y) hi hG h0 hz (fun _ _ _ _ _ h => h) (fun _ _ _ _ _ _ _ _ _ _ h => h) fun y x H1 hy e hY => by
    obtain ⟨σ2, a, b, c, d⟩ := hs y x H1 hy e hY
    exact ⟨σ2, a, b, c, fun hp H5 e5 Q q => d hp H5 e5 Q fun H6 e6 => q _ H6 e6 rfl⟩).l fun ys H1 h => paired_map h
/-- a new tuple each -/
theorem evlp_lcU {l : List α} {G : Hp → Prop} {Y : α → V → Hp → Prop} (p : α → Bool) (f : α → List V) (hi : EvI wi σ H l G Y) (hG : Up G) (h0 : G H) (hz : l.length ≤ 40000)
    (hs : ∀ y x H1, y ∈ l → Ex H H1 → Y y x H1 → ∃ σ2, EvG g x (wipe σ vs) H1 σ2 ∧ wipe σ2 vs = wipe σ vs ∧ EvT tt σ2 H1 (p y) ∧ (p y = true → EvU te σ2 H1 (f y))) :
    EvLP (tLc wi g tt te vs) σ H fun zs H1 => Paired (fun y z => ∃ t, z = .ref t ∧ H1 t = some (.tup (f y))) (l.filter p) zs :=
  evlp_lcS p (fun y z H1 => ∃ t, z = .ref t ∧ H1 t = some (.tup (f y))) (fun y _ z H1 => ∃ t, z = .ref t ∧ H1 t = some (.tup (f y))) hi hG h0 hz (fun _ _ _ _ e ⟨t, a, b⟩ => ⟨t, a, e t _ b⟩)
    (fun y v H5 H6 D zs _ _ e6 hD ⟨t, a, b⟩ => ⟨t, a, by rw [less_ne (ne_of b (e6 D _ hD) (by intro z; cases z))]; exact b⟩) fun y x H1 hy e hY => by
    obtain ⟨σ2, a, b, c, d⟩ := hs y x H1 hy e hY
    exact ⟨σ2, a, b, c, fun hp H5 e5 Q q => d hp H5 e5 Q fun t H6 _ e6 ht => q _ H6 e6 ⟨t, rfl, ht⟩⟩
theorem et_yes : EvT tYes σ H true := fun H1 _ _ q => q H1 (Ex.refl H1)
end

/-! ### statements -/
/-- run from what is known (H0), with what must stay (B): falls through to N or returns by P, told of what is known then -/
def Sj (B : Hp) (t : TS) (σ : L2.St) (H0 : Hp) (N : L2.St → Hp → Prop) (P : V → Hp → Prop) : Prop :=
  ∀ H, Ex H0 H → Ex B H → ∀ D : Ends, (∀ σ' Hk H', Ex Hk H' → Ex B H' → N σ' Hk → D.nx σ' H') → (∀ v Hk H', Ex Hk H' → Ex B H' → P v Hk → D.rt v H') → t D σ H
section
variable {K : PySem.W.Frag} {B : Hp} {σ : L2.St} {H : Hp} {N M : L2.St → Hp → Prop} {P : V → Hp → Prop} {te ta tb to ti tl : TE} {tc : TT} {t u f : TS} {v : V} {i j : Nat}
theorem Sj.last (h : Sj B (tSeq t tNext) σ H N P) : Sj B t σ H N P := h
theorem sj_next (h : N σ H) : Sj B tNext σ H N P := fun H1 e eb D kn _ => kn σ H H1 e eb h
theorem sj_mono {H' : Hp} (e : Ex H H') (h : Sj B t σ H N P) : Sj B t σ H' N P := fun H1 e1 => h H1 (e.trans e1)
theorem sj_seq (h : Sj B t σ H M P) (k : ∀ σ' Hk, M σ' Hk → Sj B u σ' Hk N P) : Sj B (tSeq t u) σ H N P := fun H1 e eb D kn kr => h H1 e eb { D with nx := u D } (fun σ' Hk H' e' eb' m => k σ' Hk m H' e' eb' D kn kr) kr
theorem sj_ret (h : Ev te σ H v) (hp : P v H) : Sj B (tRet te) σ H N P := fun H1 e eb D _ kr => h H1 e _ fun H2 e2 => kr v H H2 (e.trans e2) (eb.trans e2) hp
theorem sj_retP {R : V → Hp → Prop} (h : EvP te σ H R) (hp : ∀ v H1, Ex H H1 → R v H1 → P v H1) : Sj B (tRet te) σ H N P := fun H1 e eb D _ kr => h H1 e _ fun v H2 e2 hv => kr v H2 H2 (Ex.refl _) (eb.trans e2) (hp v H2 (e.trans e2) hv)
theorem sj_retLP {R : List V → Hp → Prop} (h : EvLP te σ H R) (hp : ∀ p xs H1, B p = none → H p = none → Ex H H1 → H1 p = some (.lst xs) → R xs H1 → P (.ref p) H1) : Sj B (tRet te) σ H N P := fun H1 e eb D _ kr => h H1 e _ fun p xs H2 hp' e2 h2 hR =>
  kr _ H2 H2 (Ex.refl _) (eb.trans e2) (hp p xs H2 (fresh_back eb hp') (fresh_back e hp') (e.trans e2) h2 hR)
theorem sj_retL {xs : List V} (h : EvL te σ H xs) (hp : ∀ p H1, B p = none → H p = none → Ex H H1 → H1 p = some (.lst xs) → P (.ref p) H1) : Sj B (tRet te) σ H N P := sj_retLP h.lp fun p ys H1 a b c d e => hp p H1 a b c (by rw [d, e])
theorem sj_retU {xs : List V} (h : EvU te σ H xs) (hp : ∀ p H1, B p = none → H p = none → Ex H H1 → H1 p = some (.tup xs) → P (.ref p) H1) : Sj B (tRet te) σ H N P := fun H1 e eb D _ kr => h H1 e _ fun p H2 hp' e2 h2 =>
  kr _ H2 H2 (Ex.refl _) (eb.trans e2) (hp p H2 (fresh_back eb hp') (fresh_back e hp') (e.trans e2) h2)
theorem sj_retSeq (h : Sj B (tRet te) σ H N P) : Sj B (tSeq (tRet te) u) σ H N P := fun H1 e eb D kn kr => h H1 e eb { D with nx := fun σ' H' => D.nx σ' H' } kn kr
theorem sq_asg (h : Ev te σ H v) (k : Sj B u (σ.set i (some v)) H N P) : Sj B (tSeq (tAsg te (gName i)) u) σ H N P := fun H1 e eb D kn kr => h H1 e _ fun H2 e2 => k H2 (e.trans e2) (eb.trans e2) D kn kr
theorem sq_asgP {R : V → Hp → Prop} (h : EvP te σ H R) (k : ∀ v H1, Ex H H1 → R v H1 → Sj B u (σ.set i (some v)) H1 N P) : Sj B (tSeq (tAsg te (gName i)) u) σ H N P := fun H1 e eb D kn kr => h H1 e _ fun v H2 e2 hv =>
  k v H2 (e.trans e2) hv H2 (Ex.refl _) (eb.trans e2) D kn kr
theorem sq_asgLP {R : List V → Hp → Prop} (h : EvLP te σ H R) (k : ∀ p xs H1, B p = none → H p = none → Ex H H1 → H1 p = some (.lst xs) → R xs H1 → Sj B u (σ.set i (some (.ref p))) H1 N P) : Sj B (tSeq (tAsg te (gName i)) u) σ H N P := fun H1 e eb D kn kr =>
  h H1 e _ fun p xs H2 hp e2 h2 hv => k p xs H2 (fresh_back eb hp) (fresh_back e hp) (e.trans e2) h2 hv H2 (Ex.refl _) (eb.trans e2) D kn kr
theorem sq_asgL {xs : List V} (h : EvL te σ H xs) (k : ∀ p H1, B p = none → H p = none → Ex H H1 → H1 p = some (.lst xs) → Sj B u (σ.set i (some (.ref p))) H1 N P) : Sj B (tSeq (tAsg te (gName i)) u) σ H N P :=
  sq_asgLP h.lp fun p ys H1 a b c d e => k p H1 a b c (by rw [d, e])
/-- a, b, .. = a tuple -/
theorem sq_tup {n : Nat} {tg : TGs} {is : List Nat} {R : List V → Hp → Prop} (h : EvP te σ H fun v H1 => ∃ a xs, v = .ref a ∧ SqT K H1 a xs ∧ R xs H1) (hs : GSet tg is) (hn : is.length = n) (hl : ∀ xs H1, R xs H1 → xs.length = n)
    (k : ∀ xs H1, Ex H H1 → R xs H1 → Sj B u (setAll σ is xs) H1 N P) : Sj B (tSeq (tAsg te (gTup K n tg)) u) σ H N P := fun H1 e eb D kn kr => h H1 e _ fun v H2 e2 ⟨a, xs, ev, hq, hR⟩ => by
  subst ev
  exact ⟨a, xs, rfl, hq, hl xs H2 hR, hs xs σ H2 _ ((hl xs H2 hR).trans hn.symm) (k xs H2 (e.trans e2) hR H2 (Ex.refl _) (eb.trans e2) D kn kr)⟩
/-- a, b = x, y -/
theorem sq_parP {R : V → Hp → Prop} {R' : V → V → Hp → Prop} (ha : EvP ta σ H R) (hb : ∀ x H1, Ex H H1 → R x H1 → EvP tb σ H1 (R' x)) (k : ∀ x y H1, Ex H H1 → R' x y H1 → Sj B u ((σ.set i (some x)).set j (some y)) H1 N P) :
    Sj B (tSeq (tPar i j (tCons ta (tCons tb tNil))) u) σ H N P := fun H1 e eb D kn kr => ha H1 e _ fun x H2 e2 hx => hb x H2 (e.trans e2) hx H2 (Ex.refl _) _ fun y H3 e3 hy =>
  ⟨x, y, rfl, k x y H3 ((e.trans e2).trans e3) hy H3 (Ex.refl _) ((eb.trans e2).trans e3) D kn kr⟩
theorem sq_par {x y : V} (ha : Ev ta σ H x) (hb : Ev tb σ H y) (k : Sj B u ((σ.set i (some x)).set j (some y)) H N P) : Sj B (tSeq (tPar i j (tCons ta (tCons tb tNil))) u) σ H N P := fun H1 e eb D kn kr => ha H1 e _ fun H2 e2 => hb H2 (e.trans e2) _ fun H3 e3 =>
  ⟨x, y, rfl, k H3 ((e.trans e2).trans e3) ((eb.trans e2).trans e3) D kn kr⟩
theorem sq_if {b : Bool} (h : EvT tc σ H b) (h1 : b = true → Sj B (tSeq t u) σ H N P) (h2 : b = false → Sj B (tSeq f u) σ H N P) : Sj B (tSeq (tIfS tc t f) u) σ H N P := fun H1 e eb D kn kr => h H1 e _ fun H2 e2 => by
  cases b with
  | true => exact h1 rfl H2 (e.trans e2) (eb.trans e2) D kn kr
  | false => exact h2 rfl H2 (e.trans e2) (eb.trans e2) D kn kr
/-- an if without else -/
theorem sq_when {b : Bool} (h : EvT tc σ H b) (h1 : b = true → Sj B (tSeq t u) σ H N P) (h2 : b = false → Sj B u σ H N P) : Sj B (tSeq (tIfS tc t tNext) u) σ H N P := sq_if h h1 h2
/-- an if that returns -/
theorem sq_ifRet {b : Bool} (h : EvT tc σ H b) (h1 : b = true → Sj B (tRet te) σ H N P) (h2 : b = false → Sj B u σ H N P) : Sj B (tSeq (tIfS tc (tRet te) tNext) u) σ H N P := sq_if h (fun e => sj_retSeq (h1 e)) h2
/-- xs.append(e), xs.extend(e) -/
theorem sq_appP {l : Addr} {xs : List V} {R : V → Hp → Prop} (hl : H l = some (.lst xs)) (hb : B l = none) (ha : Ev ta σ H (.ref l)) (h : EvP te σ H R) (hz : xs.length < 10000000) (k : ∀ v H1, Ex H H1 → R v H1 → Sj B u σ (upd H1 l (.lst (xs ++ [v]))) N P) :
    Sj B (tSeq (tDrop (tBM K "list" rAppend ta (tCons te tNil))) u) σ H N P := fun H1 e eb D kn kr => ha H1 e _ fun H2 e2 => ⟨Or.inl ⟨rfl, xs, sq_of (e2 l _ (e l _ hl))⟩, h H2 (e.trans e2) _ fun v H3 e3 hv =>
    ⟨l, xs, v, rfl, rfl, e3 l _ (e2 l _ (e l _ hl)), Nat.lt_of_lt_of_le hz (by decide), k v H3 ((e.trans e2).trans e3) hv _ (Ex.refl _) (Ex.mut ((eb.trans e2).trans e3) hb) D kn kr⟩⟩
theorem sq_app {l : Addr} {xs : List V} (hl : H l = some (.lst xs)) (hb : B l = none) (ha : Ev ta σ H (.ref l)) (h : Ev te σ H v) (hz : xs.length < 10000000) (k : Sj B u σ (upd H l (.lst (xs ++ [v]))) N P) :
    Sj B (tSeq (tDrop (tBM K "list" rAppend ta (tCons te tNil))) u) σ H N P := sq_appP hl hb ha h.p hz fun w H1 e1 hw => by
  subst hw
  exact sj_mono e1.upd k
theorem sq_extP {l : Addr} {xs : List V} {R : List V → Hp → Prop} (hl : H l = some (.lst xs)) (hb : B l = none) (ha : Ev ta σ H (.ref l)) (h : EvP te σ H fun v H1 => ∃ b zs, v = .ref b ∧ H1 b = some (.lst zs) ∧ R zs H1) (hz : ∀ zs H1, R zs H1 → xs.length + zs.length ≤ 16000000)
    (k : ∀ zs H1, Ex H H1 → R zs H1 → Sj B u σ (upd H1 l (.lst (xs ++ zs))) N P) : Sj B (tSeq (tDrop (tBM K "list" rExtend ta (tCons te tNil))) u) σ H N P := fun H1 e eb D kn kr => ha H1 e _ fun H2 e2 => ⟨Or.inl ⟨rfl, xs, sq_of (e2 l _ (e l _ hl))⟩, h H2 (e.trans e2) _ fun v H3 e3 ⟨b, zs, ev, hbz, hR⟩ => by
    subst ev
    exact ⟨l, b, xs, zs, rfl, rfl, e3 l _ (e2 l _ (e l _ hl)), hbz, Nat.le_trans (hz zs H3 hR) (by decide), k zs H3 ((e.trans e2).trans e3) hR _ (Ex.refl _) (Ex.mut ((eb.trans e2).trans e3) hb) D kn kr⟩⟩
theorem sq_ext {l : Addr} {xs zs : List V} (hl : H l = some (.lst xs)) (hb : B l = none) (ha : Ev ta σ H (.ref l)) (h : EvL te σ H zs) (hz : xs.length + zs.length ≤ 16000000) (k : Sj B u σ (upd H l (.lst (xs ++ zs))) N P) :
    Sj B (tSeq (tDrop (tBM K "list" rExtend ta (tCons te tNil))) u) σ H N P := sq_extP (R := fun ys _ => ys = zs) hl hb ha (h.p.imp fun x H1 _ ⟨p, a, b⟩ => ⟨p, zs, a, b, rfl⟩) (fun ys _ e => by rw [e]; exact hz) fun ys H1 e1 e => by
  subst e
  exact sj_mono e1.upd k
/-- xs[i] = e -/
theorem sq_setP {l : Addr} {xs : List V} {n : Nat} {R : V → Hp → Prop} (hl : H l = some (.lst xs)) (hb : B l = none) (h : EvP te σ H R) (ho : Ev to σ H (.ref l)) (hi : Ev ti σ H (.int (n : Nat))) (hn : n < xs.length) (k : ∀ v H1, Ex H H1 → R v H1 → Sj B u σ (upd H1 l (.lst (xs.set n v))) N P) :
    Sj B (tSeq (tAsg te (gSub to ti rSetL)) u) σ H N P := fun H1 e eb D kn kr => h H1 e _ fun v H2 e2 hv => ho H2 (e.trans e2) _ fun H3 e3 => hi H3 ((e.trans e2).trans e3) _ fun H4 e4 =>
  ⟨l, xs, (n : Nat), n, rfl, rfl, ((e.trans e2).trans (e3.trans e4)) l _ hl, ixN_nat hn, sj_mono (e3.trans e4).upd (k v H2 (e.trans e2) hv) _ (Ex.refl _) (Ex.mut ((eb.trans e2).trans (e3.trans e4)) hb) D kn kr⟩
/-- o.f = e -/
theorem sq_fldP {a C dx : Addr} {fs : List (Str × V)} {fn : Str} {R : V → Hp → Prop} (c : Cls K C) (n : NoAttr K C fn) (hi : H a = some (.ins C dx fs)) (hb : B a = none) (hf : fs.length < 1000) (h : EvP te σ H R) (ho : ∀ v H1, Ex H H1 → R v H1 → Ev to σ H1 (.ref a))
    (k : ∀ v H1, Ex H H1 → R v H1 → Sj B u σ (upd H1 a (.ins C dx (putF fn v fs))) N P) : Sj B (tSeq (sFld K to te fn) u) σ H N P := fun H1 e eb D kn kr => h H1 e _ fun v H2 e2 hv => ho v H2 (e.trans e2) hv H2 (Ex.refl _) _ fun H3 e3 =>
  ⟨a, C, dx, fs, rfl, ((e.trans e2).trans e3) a _ hi, c, n, hf, sj_mono e3.upd (k v H2 (e.trans e2) hv) _ (Ex.refl _) (Ex.mut ((eb.trans e2).trans e3) hb) D kn kr⟩
theorem sq_fld {a C dx : Addr} {fs : List (Str × V)} {fn : Str} (c : Cls K C) (n : NoAttr K C fn) (hi : H a = some (.ins C dx fs)) (hb : B a = none) (hf : fs.length < 1000) (h : Ev te σ H v) (ho : Ev to σ H (.ref a))
    (k : Sj B u σ (upd H a (.ins C dx (putF fn v fs))) N P) : Sj B (tSeq (sFld K to te fn) u) σ H N P := sq_fldP c n hi hb hf h.p (fun _ H1 e1 _ => ho.mono e1) fun w H1 e1 hw => by
  subst hw
  exact sj_mono e1.upd k
/-! ### loops -/
theorem sq_for {α : Type} {wi : TI} {g : TG} {tb : TS} {l : List α} {G : Hp → Prop} {Y : α → V → Hp → Prop} (hi : EvI wi σ H l G Y) (Iv : Nat → L2.St → Hp → Prop) (h0 : Iv 0 σ H) (hG : Up G) (hv : ∀ i σ' Hk, i ≤ l.length → Iv i σ' Hk → G Hk)
    (hs : ∀ i y x σ' Hk H1, l[i]? = some y → Iv i σ' Hk → Ex Hk H1 → Y y x H1 → ∃ σ2, EvG g x σ' H1 σ2 ∧ Sj B tb σ2 H1 (Iv (i + 1)) P) (hd : ∀ σ' Hk, Iv l.length σ' Hk → Sj B u σ' Hk N P) : Sj B (tSeq (tFor wi g tb) u) σ H N P := fun H1 e eb D kn kr =>
  hi H1 e _ fun J H2 e2 w => for_it w (fun i σ' H' => ∃ Hk, Ex Hk H' ∧ Ex B H' ∧ Iv i σ' Hk) ⟨H, e.trans e2, eb.trans e2, h0⟩ (fun i σ' H' hi' ⟨Hk, ek, _, iv⟩ => hG _ _ ek (hv i σ' Hk hi' iv))
    (fun i x σ' H' H'' hil ⟨Hk, ek, ebk, iv⟩ ⟨e3, y, hy, hY⟩ => by
      obtain ⟨σ2, hg, hsj⟩ := hs i y x σ' Hk H'' hy iv (ek.trans e3) hY
      exact hg H'' (Ex.refl _) _ (hsj H'' (Ex.refl _) (ebk.trans e3) _ (fun σ3 Hk3 H3 e4 eb4 n3 => ⟨Hk3, e4, eb4, n3⟩) kr))
    fun σ' H' ⟨Hk, ek, ebk, iv⟩ => hd σ' Hk iv H' ek ebk D kn kr
/-- the thing walked is described: it stands as a constant -/
theorem bindFor {g : TG} {tb : TS} {R : V → Hp → Prop} (h : EvP tl σ H R) (k : ∀ x H1, Ex H H1 → R x H1 → Sj B (tSeq (tFor (iList K (tC x)) g tb) u) σ H1 N P) : Sj B (tSeq (tFor (iList K tl) g tb) u) σ H N P := fun H1 e eb D kn kr => h H1 e _ fun x H2 e2 hx =>
  k x H2 (e.trans e2) hx H2 (Ex.refl _) (eb.trans e2) D kn kr
theorem bindForZ {g : TG} {tb : TS} {R : V → Hp → Prop} {R' : V → V → Hp → Prop} (h : EvP ta σ H R) (h' : ∀ x H1, Ex H H1 → R x H1 → EvP tl σ H1 (R' x)) (k : ∀ x y H1, Ex H H1 → R' x y H1 → Sj B (tSeq (tFor (iZip K (tCons (tC x) (tCons (tC y) tNil))) g tb) u) σ H1 N P) :
    Sj B (tSeq (tFor (iZip K (tCons ta (tCons tl tNil))) g tb) u) σ H N P := fun H1 e eb D kn kr => h H1 e _ fun x H2 e2 hx => h' x H2 (e.trans e2) hx H2 (Ex.refl _) _ fun y H3 e3 hy =>
  k x y H3 ((e.trans e2).trans e3) hy H3 (Ex.refl _) ((eb.trans e2).trans e3) D kn kr
theorem bindLc {g : TG} {tt : TT} {vs : List Nat} {R : V → Hp → Prop} {S : List V → Hp → Prop} (h : EvP tl σ H R) (k : ∀ x H1, Ex H H1 → R x H1 → EvLP (tLc (iList K (tC x)) g tt te vs) σ H1 S) : EvLP (tLc (iList K tl) g tt te vs) σ H S := fun H1 e Q q => h H1 e _ fun x H2 e2 hx =>
  k x H2 (e.trans e2) hx H2 (Ex.refl _) Q fun p xs H3 hp e3 => q p xs H3 (fresh_back e2 hp) (e2.trans e3)
theorem bindLcZ {g : TG} {tt : TT} {vs : List Nat} {R : V → Hp → Prop} {R' : V → V → Hp → Prop} {S : List V → Hp → Prop} (h : EvP ta σ H R) (h' : ∀ x H1, Ex H H1 → R x H1 → EvP tl σ H1 (R' x)) (k : ∀ x y H1, Ex H H1 → R' x y H1 → EvLP (tLc (iZip K (tCons (tC x) (tCons (tC y) tNil))) g tt te vs) σ H1 S) :
    EvLP (tLc (iZip K (tCons ta (tCons tl tNil))) g tt te vs) σ H S := fun H1 e Q q => h H1 e _ fun x H2 e2 hx => h' x H2 (e.trans e2) hx H2 (Ex.refl _) _ fun y H3 e3 hy =>
  k x y H3 ((e.trans e2).trans e3) hy H3 (Ex.refl _) Q fun p xs H4 hp e4 => q p xs H4 (fresh_back (e2.trans e3) hp) ((e2.trans e3).trans e4)
/-- while, by a number that falls -/
theorem sq_while (W : Nat → L2.St → Hp → Prop) (m0 : Nat) (h0 : W m0 σ H) (hs : ∀ m σ' Hk, W m σ' Hk → ∃ b, EvT tc σ' Hk b ∧ (b = true → Sj B t σ' Hk (fun σ2 Hk2 => ∃ m', m' < m ∧ W m' σ2 Hk2) P) ∧ (b = false → Sj B u σ' Hk N P)) : Sj B (tSeq (tWhile tc t) u) σ H N P := fun H1 e eb D kn kr =>
  ⟨fun m σ' H' => ∃ Hk, Ex Hk H' ∧ Ex B H' ∧ W m σ' Hk, ⟨m0, H, e, eb, h0⟩, fun m σ' H' ⟨Hk, ek, ebk, hw⟩ => by
    obtain ⟨b, hb, h1, h2⟩ := hs m σ' Hk hw
    refine hb H' ek _ fun H2 e2 => ?_
    cases b with
    | true => exact ⟨fun σ2 H3 => ∃ m', m' < m ∧ ∃ Hk, Ex Hk H3 ∧ Ex B H3 ∧ W m' σ2 Hk, fun σ2 H3 q => q, h1 rfl H2 (ek.trans e2) (ebk.trans e2) _ (fun σ3 Hk3 H3 e3 eb3 ⟨m', hm, hw'⟩ => ⟨m', hm, Hk3, e3, eb3, hw'⟩) kr⟩
    | false => exact h2 rfl H2 (ek.trans e2) (ebk.trans e2) D kn kr⟩
end
end TB
/-! # Rules that the layer lacks: slices by twos, xs[i] op= e, a target o.f, len(set(xs)), min of rows -/
namespace TB
open PySem PySem.Spec PyProof.Rows L2 Evl
section
variable {X : Cx} {pos : Pos}
/-! ### xs[i] op= e -/
/-- the item at a place from 0 on -/
def rGetN (K : PySem.W.Frag) : V → V → Hp → VK → Prop := fun o i H Q => ∃ (p : Addr) (xs : List V) (n : Nat) (z : V), o = .ref p ∧ i = .int (n : Nat) ∧ SqL K H p xs ∧ xs[n]? = some z ∧ Q z H
theorem get_list : PGet X (rGetN X.K) := fun pins s σ H o i ov iv Q I ro ri h => by
  obtain ⟨p, xs, n, z, rfl, rfl, hq, he, q⟩ := h
  cases ro
  obtain ⟨t, rfl⟩ := ri
  obtain ⟨its, r, pl, hz⟩ := I.list hq
  obtain ⟨w, ew, rw'⟩ := r.get he
  have hl := r.length
  have hn := line63
  have h2 := (List.getElem?_eq_some_iff.mp he).1
  exact wpAny_getItem_list pl.isList (by omega) (by omega) (by rw [Int.toNat_natCast]; simpa using ew) ⟨z, H, I, rw', q⟩
/-- xs[i] += e of a list of ints -/
theorem ps_augL {o i e : Expr} {to ti te : TE} {op : Operator} {tip : TIp} {tpos : Pos} (hp : PIp X op tip) (ho : PE X o to) (hi : PE X i ti) (he : PE X e te)
    (ha : ∀ ov iv new, augStore i ov iv new = (do holding [new, ov, iv] (setItem ov iv new); release [new, ov, iv] []; pure .next) := by intros; rfl) : PS X (.AugAssign (.Subscript o i tpos) op e pos) (tAugS to ti te (rGetN X.K) tip rSetL) :=
  ps_augS ho hi get_list he hp set_list ha
/-! ### slices by twos -/
/-- every second one, from st on -/
def alt {α : Type} (st : Nat) (l : List α) : List α := (List.range ((l.length - st + 1) / 2)).filterMap fun k => l[st + 2 * k]?
theorem vals_filterMap {xs : List V} {us : List Value} (r : Vals xs us) (f : Nat → Nat) : ∀ ks : List Nat, Vals (ks.filterMap fun k => xs[f k]?) (ks.filterMap fun k => us[f k]?)
  | [] => .nil
  | k :: ks => by
    rw [List.filterMap_cons, List.filterMap_cons]
    cases e : xs[f k]? with
    | none =>
      rw [r.none_of e]
      exact vals_filterMap r f ks
    | some x =>
      obtain ⟨u, e2, ru⟩ := r.get e
      rw [e2]
      exact .cons ru (vals_filterMap r f ks)
theorem vals_alt {st : Nat} {xs : List V} {us : List Value} (r : Vals xs us) : Vals (alt st xs) (alt st us) := by
  unfold alt
  rw [r.length]
  exact vals_filterMap r (fun k => st + 2 * k) _
theorem filterMap_same {α β : Type} {f g : α → Option β} : ∀ {l : List α}, (∀ a ∈ l, f a = g a) → l.filterMap f = l.filterMap g
  | [], _ => rfl
  | a :: l, h => by
    rw [List.filterMap_cons, List.filterMap_cons, h a List.mem_cons_self, filterMap_same fun b hb => h b (List.mem_cons_of_mem _ hb)]
theorem filterMap_length_le {α β : Type} (f : α → Option β) (l : List α) : (l.filterMap f).length ≤ l.length := List.length_filterMap_le f l
theorem alt_length {α : Type} {st : Nat} {l : List α} : (alt st l).length ≤ l.length := by
  refine Nat.le_trans (filterMap_length_le _ _) ?_
  rw [List.length_range]
  omega
theorem pick_alt {items : Array Value} {lo : Option Int} {st : Nat} (hlo : (lo = none ∧ st = 0) ∨ (lo = some 1 ∧ st = 1)) : slicePick items lo none (some 2) = (alt st items.toList).toArray := by
  have key : ∀ n : Nat, sliceRange ((min st n : Nat) : Int) (n : Int) 2 = (List.range ((n - st + 1) / 2)).map fun k => min st n + 2 * k := fun n => by
    unfold sliceRange
    simp only [show (2 : Int) > 0 by decide, if_true]
    have e1 : (if ((min st n : Nat) : Int) < (n : Int) then ((n : Int) - ((min st n : Nat) : Int) + 2 - 1) / 2 else 0).toNat = (n - st + 1) / 2 := by
      split <;> omega
    rw [e1]
    refine List.map_congr_left fun k _ => ?_
    omega
  have eb : sliceBounds lo none (some 2) items.size = (((min st items.size : Nat) : Int), (items.size : Int), 2) := by
    rcases hlo with ⟨rfl, rfl⟩ | ⟨rfl, rfl⟩
    · simp [sliceBounds]
    · simp only [sliceBounds]
      simp
      try omega
  unfold slicePick alt
  rw [eb]
  simp only [key]
  rw [List.filterMap_map, Array.length_toList]
  congr 1
  refine filterMap_same fun k hk => ?_
  have hk := List.mem_range.mp hk
  show items[min st items.size + 2 * k]? = items.toList[st + 2 * k]?
  rw [Array.getElem?_toList]
  have e : min st items.size + 2 * k = st + 2 * k := by omega
  rw [e]
def tAlt (K : PySem.W.Frag) (st : Nat) (te : TE) : TE := fun σ H Q => te σ H fun x H1 => ∃ a xs, x = .ref a ∧ SqL K H1 a xs ∧ ∀ p, H1 p = none → Q (.ref p) (upd H1 p (.lst (alt st xs)))
theorem pe_altO {e : Expr} {te : TE} {st k : Nat} {lo : Option Int} {loE : Option Expr} {p1 p3 : Pos} (he : PE X e te) (hlo : (lo = none ∧ st = 0) ∨ (lo = some 1 ∧ st = 1)) (hp : ∃ t, PO X loE t ∧ ∀ σ H Q, Q lo H → t σ H Q)
    (hop : ∀ (a sl : Addr), subscripted (.Slice loE none (some (.Constant (.int 2) k p1)) p3) false (.ref a) (.ref sl) = operate [.ref a, .ref sl] (getItem (.ref a) (.ref sl))) : PE X (.Subscript e (.Slice loE none (some (.Constant (.int 2) k p1)) p3) pos) (tAlt X.K st te) := by
  refine ⟨fun pins s σ H Q I h => ?_⟩
  obtain ⟨tl, hpl, htl⟩ := hp
  refine Subscript_ (thn (he.run pins s σ H _ I h) fun v s1 ⟨x, H1, I1, r1, q1⟩ => ?_)
  obtain ⟨a, xs, ex, hx, q⟩ := q1
  subst ex
  cases r1
  have hst : PO X (some (.Constant (.int 2) k p1)) (tPart (tC (.int 2))) := po_some pe_int
  refine wpAny_Slice (thn (hpl.run pins s1 σ H1 (fun o H2 => o = lo ∧ H2 = H1) I1 (htl _ _ _ ⟨rfl, rfl⟩)) fun vl s2 ⟨l, H2, I2, pl, el, e2⟩ => ?_)
  subst el e2
  refine thn (po_none.run pins s2 σ H2 (fun o H3 => o = none ∧ H3 = H2) I2 ⟨rfl, rfl⟩) fun vu s3 ⟨u, H3, I3, pu, eu, e3⟩ => ?_
  subst eu e3
  refine thn (hst.run pins s3 σ H3 (fun o H4 => o = some 2 ∧ H4 = H3) I3 ⟨2, rfl, rfl, rfl⟩) fun vs s4 ⟨o, H4, I4, ps, eo, e4⟩ => ?_
  subst eo e4
  have I5 : Inv X pins σ H4 { s4 with heap := s4.heap.push { cls := .type "slice", data := .fields #[vl, vu, vs] } } := I4.kept (t' := s4.toks) fun b ob q => Heap.get?_push_of_some _ q
  obtain ⟨its, r, ht, hz⟩ := I5.list hx
  have hlen := r.length
  show wpAny (model X.prog X.w) X.A (subscriptTail e (.Slice loE none (some (.Constant (.int 2) k p1)) p3) (.ref a) (.ref s4.heap.objs.size)) (EP X pins σ Q) X.xe { s4 with heap := s4.heap.push { cls := .type "slice", data := .fields #[vl, vu, vs] } }
  refine tail_any (ops := [.ref a, .ref s4.heap.objs.size]) ht.isList.typeIs (PySem.slot_list_getitem.lookup) ?_ (hop _ _)
  refine wpAny_getItem_list_slice ht.isList (Heap.IsSliceOf.new _ vl vu vs) pl pu ps (by decide) ?_ (by rw [List.size_toArray]; omega)
  rw [pick_alt hlo]
  refine ⟨.ref _, _, I5.laid (t' := s4.toks) (o := .lst (alt st xs)) (fun b ob q => Heap.get?_push_of_some _ q) (Nat.le_refl _) ?_, rfl, q _ (I5.hok.fresh (Nat.le_refl _))⟩
  exact ⟨Nat.le_trans alt_length hz, _, 0, vals_alt r, Heap.get?_push_size _ rfl⟩
/-- xs[::2], xs[1::2] -/
theorem pe_alt0 {e : Expr} {te : TE} {k : Nat} {p1 p3 : Pos} (he : PE X e te) : PE X (.Subscript e (.Slice none none (some (.Constant (.int 2) k p1)) p3) pos) (tAlt X.K 0 te) :=
  pe_altO he (.inl ⟨rfl, rfl⟩) ⟨_, po_none, fun _ _ _ q => q⟩ fun _ _ => by with_unfolding_all rfl
theorem pe_alt1 {e : Expr} {te : TE} {k j : Nat} {p1 p2 p3 : Pos} (he : PE X e te) : PE X (.Subscript e (.Slice (some (.Constant (.int 1) j p2)) none (some (.Constant (.int 2) k p1)) p3) pos) (tAlt X.K 1 te) :=
  pe_altO he (.inr ⟨rfl, rfl⟩) ⟨_, po_some pe_int, fun _ _ _ q => ⟨1, rfl, q⟩⟩ fun _ _ => by with_unfolding_all rfl
/-! ### len(set(xs)) -/
/-- the first of each, in order -/
def met (ns : List Int) : List Int := PyProof.Rows.firstMet (fun i => ns.getD i 0) ns.length
def tLenSet (K : PySem.W.Frag) (ta : TE) : TE := fun σ H Q => ta σ H fun x H1 => ∃ (l : Addr) (ns : List Int), x = .ref l ∧ SqL K H1 l (ns.map V.int) ∧ ns.length ≤ 1000 ∧ (met ns).length ≤ ns.length ∧ Q (.int ((met ns).length : Nat)) H1
theorem pe_lenSet {a : Expr} {ta : TE} {p p2 q pos : Pos} (hg : Gl X "len") (hm : X.mg "len" = none) (hg2 : Gl X "set") (hm2 : X.mg "set" = none) (ha : PE X a ta) (hc : X.calm = true := by rfl)
    (na : starEach [a] X.env = (false, eval a X.env) :: starEach [] X.env := by rfl) : PE X (.Call (.Name "len" p) [.Call (.Name "set" p2) [a] [] q] [] pos) (tLenSet X.K ta) := by
  refine ⟨fun pins s σ H Q I h => ?_⟩
  refine Call_ (ld_blt I hg hm boot_len ?_)
  refine PyProof.Rows.callWith_builtin1 (PyProof.Rows.args_cons ?_ rfl) rfl rfl
  refine Call_ (ld_blt I hg2 hm2 boot_set ?_)
  refine PyProof.Rows.callWith_type1 (PyProof.Rows.args_cons (thn (ha.run pins s σ H _ I h) fun v s1 ⟨x, H1, I1, r1, q1⟩ => PyProof.Rows.args_nil ?_) na) na rfl
  obtain ⟨l, ns, rfl, hq, hl, hmet, q1⟩ := q1
  cases r1
  obtain ⟨its, r, pl, hz⟩ := I1.list hq
  have hlen : its.toArray.size = ns.length := by rw [List.size_toArray, ← r.length, List.length_map]
  refine call_set_list (I1.ok.hd hc) pl.isList (by simpa using RZ.intsAre_vals r) (by rw [hlen]; unfold scanBound; omega) fun h' tk hS hk => ?_
  refine PyProof.Rows.args_nil ?_
  rw [hlen] at hS
  obtain ⟨o, es, ep, t, ho, hex, hd, _, _, _, hf, hn⟩ := hS
  have I2 : Inv X pins σ H1 { s1 with heap := h', toks := tk } := I1.kept fun b o e => hk b o (Heap.lt_size e) e
  exact call_len_set ho hex hd hf (by rw [hn]; show ((met ns).length : Int) < _; omega) ⟨.int ((met ns).length : Nat), H1, I2.tok _, ⟨_, by rw [hn]; rfl⟩, q1⟩
/-! ### xs == [], xs != [], whatever the items -/
def rEqN (K : PySem.W.Frag) : R2 := fun x y H Q => ∃ (a b : Addr) (xs : List V), x = .ref a ∧ y = .ref b ∧ SqL K H a xs ∧ SqL K H b [] ∧ Q (.bl xs.isEmpty) H
def rNeN (K : PySem.W.Frag) : R2 := fun x y H Q => ∃ (a b : Addr) (xs : List V), x = .ref a ∧ y = .ref b ∧ SqL K H a xs ∧ SqL K H b [] ∧ Q (.bl (!xs.isEmpty)) H
theorem op_eqN (hu : X.A.units < cLine) : OpR X (compareOp .Eq) (rEqN X.K) := by
  intro pins s σ H x y v u Q I rx ry h
  obtain ⟨a, b, xs, rfl, rfl, ha, hb, q⟩ := h
  cases rx
  cases ry
  obtain ⟨its, r, pl, hz⟩ := I.list ha
  obtain ⟨its2, r2, pl2, hz2⟩ := I.list hb
  cases r2
  cases xs with
  | nil =>
    cases r
    exact SeqAt.RcAt.lists (e := fun _ => true) pl.isList pl2.isList rfl hu (fun j h1 h2 => absurd h1 (by simp)) X.prog X.w X.xe _ ⟨.bl true, H, I, rfl, q⟩
  | cons x xs =>
    cases r with
    | cons r1 r2 => exact SeqAt.RcAt.lists_lengths pl.isList pl2.isList (by simp) hu X.prog X.w X.xe _ ⟨.bl false, H, I, rfl, q⟩
theorem op_neN (hu : X.A.units < cLine) : OpR X (compareOp .NotEq) (rNeN X.K) := by
  intro pins s σ H x y v u Q I rx ry h
  obtain ⟨a, b, xs, rfl, rfl, ha, hb, q⟩ := h
  cases rx
  cases ry
  obtain ⟨its, r, pl, hz⟩ := I.list ha
  obtain ⟨its2, r2, pl2, hz2⟩ := I.list hb
  cases r2
  cases xs with
  | nil =>
    cases r
    exact SeqAt.RcNeAt.lists (e := fun _ => true) pl.isList pl2.isList rfl hu (fun j h1 h2 => absurd h1 (by simp)) X.prog X.w X.xe _ ⟨.bl false, H, I, rfl, q⟩
  | cons x xs =>
    cases r with
    | cons r1 r2 => exact SeqAt.RcNeAt.lists_lengths pl.isList pl2.isList (by simp) hu X.prog X.w X.xe _ ⟨.bl true, H, I, rfl, q⟩
/-! ### min of rows -/
theorem min_list_at {prog : Program} {w : World} {A : Around} {E : Value → Shared → Prop} {s : Shared} {l : Addr} {vs : Array Value} {x : PyData} {xs : List PyData} {as : List Addr} {Q : Value → Shared → Prop} (hh : A.handled = none) (hl : s.heap.IsList l vs) (hr : ReadsAll s.heap vs.toList (x :: xs) as) (ha : PySem.W.AlikeAll (x :: xs)) (hu : A.units + 1 + PyData.depthAll (x :: xs) < cLine)
    (h : ∀ (i : Nat) v h' tk, vs[i]? = some v → (x :: xs).getD i .none = PySem.W.minD x xs → (∀ b o, s.heap.get? b = some o → h'.get? b = some o) → Q v { s with heap := h', toks := tk }) :
    wpAny (model prog w) A (call (.builtin "min") [.ref l]) Q E s := by
  have hn : vs.size = xs.length + 1 := PySem.W.readsAll_len hr
  refine call_min_walkH (PySem.W.iter_listW (A := A.in1) hh hl fun s₂ e W st hfp hw hk => ?_)
  refine ⟨_, _, _, _, _, _, _, s.heap, _, rfl, W, st, hfp, by omega, hw, hk, PySem.W.cmpIn_lt (A := A.in1) hr ha (by show A.units + 1 + _ < _; exact hu), fun v s' hP m => ?_⟩
  obtain ⟨h', tk, rfl, hk'⟩ := PySem.W.moved_old e rfl m
  have e1 : vs.size - 1 = xs.length := by omega
  have e2 := (PySem.W.argBest_fold PySem.W.dataLt PyData.none x xs xs.length (Nat.le_refl _)).2
  rw [List.take_length] at e2
  rw [e1] at hP
  exact h _ v h' tk hP (by unfold PySem.W.minD; exact e2) hk'
def rMinR (K : PySem.W.Frag) : List V → Hp → VK → Prop := fun vs H Q => ∃ (a : Addr) (zs : List V) (d : PyData) (ds : List PyData), vs = [.ref a] ∧ SqL K H a zs ∧ DpAll K H zs (d :: ds) ∧ PySem.W.AlikeAll (d :: ds) ∧ PyData.depthAll (d :: ds) ≤ 10 ∧
  ∀ (i : Nat) z, zs[i]? = some z → (d :: ds).getD i .none = PySem.W.minD d ds → Q z H
theorem cr_minR (hc : X.calm = true) (hu : X.A.units + 64 < cLine) : CallR X (.builtin "min") (rMinR X.K) := by
  intro pins s σ H vs us Q I r h
  obtain ⟨a, zs, d, ds, rfl, hs, hd, hal, hdep, q⟩ := h
  obtain ⟨its, rv, hl, _⟩ := I.list hs
  obtain ⟨as, hr⟩ := Dp.readsAll I _ _ its hd rv
  rw [Vals.ref1 r]
  refine min_list_at (I.ok.hd hc) hl.isList (by simpa using hr) hal (by omega) fun i v h' tk hv hi hk => ?_
  have hv' : its[i]? = some v := by simpa using hv
  cases e : zs[i]? with
  | none => rw [rv.none_of e] at hv'; cases hv'
  | some z =>
    obtain ⟨u, e2, ru⟩ := rv.get e
    rw [hv'] at e2
    cases e2
    exact ⟨z, H, I.kept hk, ru, q i z e hi⟩
/-- o.f as a target -/
def gFld (K : PySem.W.Frag) (to : TE) (f : Str) : TG := fun v σ H Q => to σ H fun x H1 => ∃ a C dx fs, x = .ref a ∧ H1 a = some (.ins C dx fs) ∧ Cls K C ∧ NoAttr K C f ∧ fs.length < 1000 ∧ Q σ (upd H1 a (.ins C dx (putF f v fs)))
theorem pg_fld {o : Expr} {f : Str} {to : TE} (ho : PE X o to)
    (ha : ∀ v, assign (.Attribute o f pos) X.env v = (do
      let ov ← holding [v] (eval o X.env)
      standAt pos.atName
      holding [v, ov] (setAttr ov f v)
      release [v, ov] []) := by intro _; rfl) : PG X (.Attribute o f pos) (gFld X.K to f) := by
  refine ⟨fun pins s σ H v u Q I r h => ?_⟩
  rw [ha]
  refine wpAny_bind (wpAny_holding (thn (ho.run pins s σ H _ I h) fun ov s1 ⟨x, H1, I1, rx, a, C, dx, fs, ex, ea, c, n, l, q⟩ => ?_))
  subst ex
  obtain rfl : ov = Value.ref a := rx
  refine wpAny_bind (wpAny_standAt (wpAny_bind (wpAny_holding (setattr_ok I1 ea c n l r fun s2 I2 => ?_))))
  exact wpAny_release ⟨σ, _, I2, q⟩
end
end TB
/-! # A def's promise by its body; the fractions -/
namespace TB
open PySem PySem.Spec PyProof.Rows L2 Evl
theorem hu64 {k : Nat} {A : Around} (hr : Room k A) : A.units + 64 < cLine := Nat.lt_of_le_of_lt (by omega) hr.un
theorem hu1 {k : Nat} {A : Around} (hr : Room k A) : A.units < cLine := Nat.lt_of_le_of_lt (by omega) hr.un
theorem cr_lenS {X : Cx} : CallR X (.builtin "len") (rLenS X.K) := call_len_seq
theorem cr_max2 {X : Cx} (hc : X.calm = true) : CallR X (.builtin "max") rMax2 := call_max2 hc
def rInt1 : List V → Hp → VK → Prop := fun xs H Q => (∃ i, xs = [.int i] ∧ Q (.int i) H) ∨ ∃ k, xs = [.bl k] ∧ Q (.int (if k then 1 else 0)) H
theorem cr_int1 {X : Cx} : CallR X (.type "int") rInt1 := call_int1
def rLenD : List V → Hp → VK → Prop := fun xs H Q => ∃ a kvs, xs = [V.ref a] ∧ H a = some (.dK kvs) ∧ Q (.int kvs.length) H
theorem cr_lenD {X : Cx} : CallR X (.builtin "len") rLenD := call_lenD
theorem cr_listS {X : Cx} : CallR X (.type "list") (rListS X.K) := call_list_of
section
variable {P : Program} {w : World} {K : PySem.W.Frag} {mg : Str → Option Value} {base : Heap} {A : Adr}
theorem mok {C : Addr} {x qual : Str} {st : Stmt} {N ps : List Str} {k : Nat} {sp : Sp} (M : MethAt K C x qual st) (S : FnScope N ps (defScope st)) (len : ∀ vs H Q E, sp vs H Q E → vs.length = ps.length)
    (bind : ∀ (kV doc pm : Value) (an : Option Addr) (cdv ct : Value) (us : List Value), us.length = ps.length → bindArgs (PySem.W.fnOf x qual (defArgs st) (defBody st) (defScope st) .none kV doc pm an cdv ct) ⟨us, []⟩ = pure (ps.zip us))
    (hbody : ∀ (f : Addr) (cdv : Value) (A : Around) (outer : List Env) (s : Shared) (H : Hp) (vs : List V) (Q : VK) (E : XK), Room k (A.deeper (envOfC qual (defScope st) s.heap.objs.size f cdv)) → sp vs H Q E →
      ∃ t, PSs (cxOf CX0 P w K mg base N qual (defScope st) f cdv A outer s H E).nox (defBody st) t ∧ t { nx := fun _ H' => Q .non H', rt := Q } (start N vs) H) : MOk P w K mg base (k + 1) C x ps sp := by
  obtain ⟨f, fd, F, hm⟩ := M
  exact ⟨f, fd, F.ok S len (hbody f), hm, F.binds bind⟩
theorem fok {x : Str} {st : Stmt} {N ps : List Str} {k : Nat} {sp : Sp} (M : FnAt K mg x st) (S : FnScope N ps (defScope st)) (len : ∀ vs H Q E, sp vs H Q E → vs.length = ps.length)
    (bind : ∀ (kV doc pm : Value) (an : Option Addr) (cdv ct : Value) (us : List Value), us.length = ps.length → bindArgs (PySem.W.fnOf x x (defArgs st) (defBody st) (defScope st) .none kV doc pm an cdv ct) ⟨us, []⟩ = pure (ps.zip us))
    (hbody : ∀ (f : Addr) (cdv : Value) (A : Around) (outer : List Env) (s : Shared) (H : Hp) (vs : List V) (Q : VK) (E : XK), Room k (A.deeper (envOfC x (defScope st) s.heap.objs.size f cdv)) → sp vs H Q E →
      ∃ t, PSs (cxOf CX0 P w K mg base N x (defScope st) f cdv A outer s H E).nox (defBody st) t ∧ t { nx := fun _ H' => Q .non H', rt := Q } (start N vs) H) : FOk P w K mg base (k + 1) x ps sp := by
  obtain ⟨f, fd, F, hm⟩ := M
  exact ⟨f, fd, F.ok S len (hbody f), hm, F.kp, F.binds bind⟩
abbrev PreT := List V → Hp → (V → Hp → Prop) → Prop
/-- of a def that changes nothing -/
theorem fokP {x : Str} {st : Stmt} {N ps : List Str} {k : Nat} {Pre : PreT} (M : FnAt K mg x st) (S : FnScope N ps (defScope st)) (len : ∀ vs H R, Pre vs H R → vs.length = ps.length)
    (bind : ∀ (kV doc pm : Value) (an : Option Addr) (cdv ct : Value) (us : List Value), us.length = ps.length → bindArgs (PySem.W.fnOf x x (defArgs st) (defBody st) (defScope st) .none kV doc pm an cdv ct) ⟨us, []⟩ = pure (ps.zip us))
    (hbody : ∀ (f : Addr) (cdv : Value) (A : Around) (outer : List Env) (s : Shared) (H : Hp) (E : XK), Room k (A.deeper (envOfC x (defScope st) s.heap.objs.size f cdv)) →
      ∃ t, PSs (cxOf CX0 P w K mg base N x (defScope st) f cdv A outer s H E).nox (defBody st) t ∧ ∀ vs H0 R, Ex H0 H → Pre vs H0 R → Sj H t (start N vs) H0 (fun _ Hk => R .non Hk) R) : FOk P w K mg base (k + 1) x ps (spP Pre) :=
  fok M S (fun vs H Q E ⟨H0, R, _, h, _⟩ => len vs H0 R h) bind fun f cdv A outer s H vs Q E hr ⟨H0, R, e, h, q⟩ => by
    obtain ⟨t, h1, h2⟩ := hbody f cdv A outer s H E hr
    exact ⟨t, h1, h2 vs H0 R e h H e (Ex.refl H) _ (fun σ' Hk H' ek eb hn => q .non Hk H' eb ek hn) fun v Hk H' ek eb hv => q v Hk H' eb ek hv⟩
theorem mokP {C : Addr} {x qual : Str} {st : Stmt} {N ps : List Str} {k : Nat} {Pre : PreT} (M : MethAt K C x qual st) (S : FnScope N ps (defScope st)) (len : ∀ vs H R, Pre vs H R → vs.length = ps.length)
    (bind : ∀ (kV doc pm : Value) (an : Option Addr) (cdv ct : Value) (us : List Value), us.length = ps.length → bindArgs (PySem.W.fnOf x qual (defArgs st) (defBody st) (defScope st) .none kV doc pm an cdv ct) ⟨us, []⟩ = pure (ps.zip us))
    (hbody : ∀ (f : Addr) (cdv : Value) (A : Around) (outer : List Env) (s : Shared) (H : Hp) (E : XK), Room k (A.deeper (envOfC qual (defScope st) s.heap.objs.size f cdv)) →
      ∃ t, PSs (cxOf CX0 P w K mg base N qual (defScope st) f cdv A outer s H E).nox (defBody st) t ∧ ∀ vs H0 R, Ex H0 H → Pre vs H0 R → Sj H t (start N vs) H0 (fun _ Hk => R .non Hk) R) : MOk P w K mg base (k + 1) C x ps (spP Pre) :=
  mok M S (fun vs H Q E ⟨H0, R, _, h, _⟩ => len vs H0 R h) bind fun f cdv A outer s H vs Q E hr ⟨H0, R, e, h, q⟩ => by
    obtain ⟨t, h1, h2⟩ := hbody f cdv A outer s H E hr
    exact ⟨t, h1, h2 vs H0 R e h H e (Ex.refl H) _ (fun σ' Hk H' ek eb hn => q .non Hk H' eb ek hn) fun v Hk H' ek eb hv => q v Hk H' eb ek hv⟩
end
end TB
/-! # Values of which also is told what was not there before -/
namespace TB
open PySem PySem.Spec PyProof.Rows L2 Evl
/-- some v of which R tells, by the heap before and the heap then -/
def EvN (te : TE) (σ : L2.St) (H : Hp) (R : V → Hp → Hp → Prop) : Prop := ∀ H1, Ex H H1 → ∀ Q : VK, (∀ v H2, Ex H1 H2 → R v H1 H2 → Q v H2) → te σ H1 Q
def EvAN (ta : TA) (σ : L2.St) (H : Hp) (R : List V → Hp → Hp → Prop) : Prop := ∀ H1, Ex H H1 → ∀ Q : List V → Hp → Prop, (∀ vs H2, Ex H1 H2 → R vs H1 H2 → Q vs H2) → ta σ H1 Q
abbrev PreN := List V → Hp → (V → Hp → Hp → Prop) → Prop
/-- the promise of a def that hands back something new and changes nothing that was there -/
def spN (Pre : PreN) : Sp := fun vs H Q _ => ∃ H0 R, Ex H0 H ∧ Pre vs H0 R ∧ ∀ v Hk H2, Ex H H2 → Ex Hk H2 → R v H Hk → Q v H2
/-- the promise of an __init__ -/
def spJ (C : Addr) (Pre : List V → Hp → (Addr → Hp → Hp → Prop) → Prop) : Sp := fun vs H Q _ => ∃ (p : Addr) (ws : List V) (dx : Addr) (H0 : Hp) (R : Addr → Hp → Hp → Prop), vs = .ref p :: ws ∧ H p = some (.ins C dx []) ∧ Ex H0 H ∧ H0 p = none ∧ Pre ws H0 R ∧
  ∀ H2, Ex H0 H2 → (∀ b o, H b = some o → b ≠ p → H2 b = some o) → (∃ Hk, Ex Hk H2 ∧ R p H0 Hk) → Q .non H2
/-- a list that was not there before -/
def isLF (xs : List V) : V → Hp → Hp → Prop := fun v H H' => ∃ p, v = .ref p ∧ H' p = some (.lst xs) ∧ H p = none
theorem isLF_up {xs : List V} {v : V} {Ha Hb Hk H2 : Hp} (ea : Ex Ha Hb) (e : Ex Hk H2) (h : isLF xs v Hb Hk) : isLF xs v Ha H2 := let ⟨p, a, b, c⟩ := h; ⟨p, a, e p _ b, fresh_back ea c⟩
section
variable {K : PySem.W.Frag} {σ : L2.St} {H H' B : Hp} {ta tb tc te to ti tx : TE} {u : TS} {v : V} {i : Nat} {R S : V → Hp → Hp → Prop} {N : L2.St → Hp → Prop} {P : V → Hp → Prop}
theorem EvN.mono (e : Ex H H') (h : EvN te σ H R) : EvN te σ H' R := fun H1 a Q q => h H1 (e.trans a) Q q
theorem EvN.p (h : EvN te σ H R) : EvP te σ H fun v H2 => ∃ H1, Ex H H1 ∧ R v H1 H2 := fun H1 e Q q => h H1 e Q fun v H2 e2 hv => q v H2 e2 ⟨H1, e, hv⟩
theorem EvP.n {R : V → Hp → Prop} (h : EvP te σ H R) : EvN te σ H fun v _ H2 => R v H2 := h
theorem _root_.Evl.EvL.n {xs : List V} (h : EvL te σ H xs) : EvN te σ H (isLF xs) := fun H1 e Q q => h H1 e Q fun p H2 hp e2 h2 => q _ H2 e2 ⟨p, rfl, h2, hp⟩
theorem EvN.lp {xs : List V} (h : EvN te σ H (isLF xs)) : EvL te σ H xs := fun H1 e Q q => h H1 e Q fun v H2 e2 ⟨p, ev, h2, hp⟩ => by
  subst ev
  exact q p H2 hp e2 h2
theorem an_nil : EvAN tNil σ H fun vs _ _ => vs = [] := fun H1 _ Q q => q [] H1 (Ex.refl H1) rfl
theorem an_cons {tr : TA} {R' : V → List V → Hp → Hp → Prop} (h : EvN ta σ H R) (k : ∀ x H1 H2, Ex H H1 → Ex H1 H2 → R x H1 H2 → EvAN tr σ H2 (R' x)) : EvAN (tCons ta tr) σ H fun vs H1 H3 => ∃ x r H2, vs = x :: r ∧ Ex H1 H2 ∧ Ex H2 H3 ∧ R x H1 H2 ∧ R' x r H2 H3 := fun H1 e Q q =>
  h H1 e _ fun x H2 e2 hx => k x H1 H2 e e2 hx H2 (Ex.refl H2) _ fun r H3 e3 hr => q (x :: r) H3 (e2.trans e3) ⟨x, r, H2, rfl, e2, e3, hx, hr⟩
theorem an_of {t : TA} {vs : List V} (h : EvA t σ H vs) : EvAN t σ H fun xs _ _ => xs = vs := fun H1 e Q q => h H1 e Q fun H2 e2 => q vs H2 e2 rfl
/-! ### calls -/
theorem evn_call {t : TA} {vs : List V} {E : XK} {Pre : PreN} (h : EvA t σ H vs) (hp : Pre (vs ++ []) H R) (hr : ∀ v Ha Hb Hk H2, Ex Ha Hb → Ex Hk H2 → R v Hb Hk → R v Ha H2) : EvN (tCall (spN Pre) [] E t) σ H R := fun H1 e Q q =>
  h H1 e _ fun H2 e2 => ⟨H, R, e.trans e2, hp, fun v Hk H3 e3 ek hv => q v H3 (e2.trans e3) (hr v H1 H2 Hk H3 e2 ek hv)⟩
theorem evn_meth {t : TA} {vs : List V} {E : XK} {Pre : PreN} {C : Addr} {m : Str} {a : Addr} {fs : List (Str × V)} (ho : Ev ta σ H (.ref a)) (hi : Ins H a C fs) (hl : fs.lookup m = none) (h : EvA t σ H vs) (hp : Pre (.ref a :: (vs ++ [])) H R)
    (hr : ∀ v Ha Hb Hk H2, Ex Ha Hb → Ex Hk H2 → R v Hb Hk → R v Ha H2) : EvN (tMeth C m (spN Pre) [] E ta t) σ H R := fun H1 e Q q =>
  ho H1 e _ fun H2 e2 => let ⟨dx, hd⟩ := hi.up (e.trans e2); ⟨a, dx, fs, rfl, hd, hl, h H2 (e.trans e2) _ fun H3 e3 => ⟨H, R, (e.trans e2).trans e3, hp, fun v Hk H4 e4 ek hv => q v H4 ((e2.trans e3).trans e4) (hr v H1 H3 Hk H4 (e2.trans e3) ek hv)⟩⟩
theorem evn_new {t : TA} {C : Addr} {RA : List V → Hp → Hp → Prop} {E : XK} {Pre : List V → Hp → (Addr → Hp → Hp → Prop) → Prop} (h : EvAN t σ H RA)
    (hp : ∀ vs H1 H2, Ex H H1 → Ex H1 H2 → RA vs H1 H2 → ∃ R', Pre vs H2 R' ∧ ∀ p H3 H4, H2 p = none → R' p H2 H3 → Ex H2 H4 → Ex H3 H4 → S (.ref p) H1 H4) : EvN (tMake C (spJ C Pre) [] E t) σ H S := fun H1 e Q q =>
  h H1 e _ fun vs H2 e2 hv x dx nx nd ne => by
    obtain ⟨R', hpre, hS⟩ := hp vs H1 H2 e e2 hv
    refine ⟨x, vs, dx, H2, R', by rw [List.append_nil], upd_same, (Ex.new nd).trans (Ex.new (by rw [upd_ne ne.symm]; exact nx)), nx, hpre, fun H3 e3 kp ⟨Hk, ek, hR⟩ => ⟨rfl, q _ H3 (fun b o hb => kp b o ?_ (ne_of_none (e2 b o hb) nx)) (hS x Hk H3 nx hR e3 ek)⟩⟩
    have h1 : b ≠ x := ne_of_none (e2 b o hb) nx
    have h2 : b ≠ dx := ne_of_none (e2 b o hb) nd
    rw [upd_ne h1, upd_ne h2]
    exact e2 b o hb
/-! ### statements -/
theorem sq_asgN (h : EvN te σ H R) (k : ∀ v H1 H2, Ex H H1 → Ex B H1 → Ex H1 H2 → R v H1 H2 → Sj B u (σ.set i (some v)) H2 N P) : Sj B (tSeq (tAsg te (gName i)) u) σ H N P := fun H1 e eb D kn kr => h H1 e _ fun v H2 e2 hv =>
  k v H1 H2 e eb e2 hv H2 (Ex.refl _) (eb.trans e2) D kn kr
theorem sj_retN (h : EvN te σ H R) (hp : ∀ v H1 H2, Ex H H1 → Ex B H1 → Ex H1 H2 → R v H1 H2 → P v H2) : Sj B (tRet te) σ H N P := fun H1 e eb D _ kr => h H1 e _ fun v H2 e2 hv => kr v H2 H2 (Ex.refl _) (eb.trans e2) (hp v H1 H2 e eb e2 hv)
theorem sq_appN {l : Addr} {xs : List V} (hl : H l = some (.lst xs)) (hb : B l = none) (ha : Ev ta σ H (.ref l)) (h : EvN te σ H R) (hz : xs.length < 10000000)
    (k : ∀ v H1 H2, Ex H H1 → Ex B H1 → Ex H1 H2 → R v H1 H2 → Sj B u σ (upd H2 l (.lst (xs ++ [v]))) N P) : Sj B (tSeq (tDrop (tBM K "list" rAppend ta (tCons te tNil))) u) σ H N P := fun H1 e eb D kn kr =>
  ha H1 e _ fun H2 e2 => ⟨Or.inl ⟨rfl, xs, sq_of (e2 l _ (e l _ hl))⟩, h H2 (e.trans e2) _ fun v H3 e3 hv =>
    ⟨l, xs, v, rfl, rfl, e3 l _ (e2 l _ (e l _ hl)), Nat.lt_of_lt_of_le hz (by decide), k v H2 H3 (e.trans e2) (eb.trans e2) e3 hv _ (Ex.refl _) (Ex.mut ((eb.trans e2).trans e3) hb) D kn kr⟩⟩
theorem sq_fldN {a C dx : Addr} {fs : List (Str × V)} {fn : Str} (c : Cls K C) (n : NoAttr K C fn) (hi : H a = some (.ins C dx fs)) (hb : B a = none) (hf : fs.length < 1000) (h : EvN te σ H R) (ho : Ev to σ H (.ref a))
    (k : ∀ v H1 H2, Ex H H1 → Ex B H1 → Ex H1 H2 → R v H1 H2 → Sj B u σ (upd H2 a (.ins C dx (putF fn v fs))) N P) : Sj B (tSeq (sFld K to te fn) u) σ H N P := fun H1 e eb D kn kr => h H1 e _ fun v H2 e2 hv => ho H2 (e.trans e2) _ fun H3 e3 =>
  ⟨a, C, dx, fs, rfl, ((e.trans e2).trans e3) a _ hi, c, n, hf, sj_mono e3.upd (k v H1 H2 e eb e2 hv) _ (Ex.refl _) (Ex.mut ((eb.trans e2).trans e3) hb) D kn kr⟩
/-- self.a, self.b, self.c = a triple -/
theorem sq_fld3 {a C dx t : Addr} {fs : List (Str × V)} {f1 f2 f3 : Str} {x y z : V} {j : Nat} (c : Cls K C) (n1 : NoAttr K C f1) (n2 : NoAttr K C f2) (n3 : NoAttr K C f3) (hi : H a = some (.ins C dx fs)) (hb : B a = none)
    (hf : fs.length < 1000) (hf1 : (putF f1 x fs).length < 1000) (hf2 : (putF f2 y (putF f1 x fs)).length < 1000) (h : Ev te σ H (.ref t)) (ht : SqT K H t [x, y, z]) (hs : σ[j]? = some (some (.ref a)))
    (k : Sj B u σ (upd H a (.ins C dx (putF f3 z (putF f2 y (putF f1 x fs))))) N P) : Sj B (tSeq (tAsg te (gTup K 3 (gCons (gFld K (tVar j) f1) (gCons (gFld K (tVar j) f2) (gCons (gFld K (tVar j) f3) gNil))))) u) σ H N P := fun H1 e eb D kn kr =>
  h H1 e _ fun H2 e2 => by
    refine ⟨t, _, rfl, ex_t (e.trans e2) ht, rfl, x, _, rfl, (ev_var hs) H2 (e.trans e2) _ fun H3 e3 => ⟨a, C, dx, _, rfl, ((e.trans e2).trans e3) a _ hi, c, n1, hf, y, _, rfl, (ev_var hs) _ (Ex.refl _) _ fun H4 e4 => ⟨a, C, dx, _, rfl, e4 a _ upd_same, c, n2, hf1,
      z, _, rfl, (ev_var hs) _ (Ex.refl _) _ fun H5 e5 => ⟨a, C, dx, _, rfl, e5 a _ upd_same, c, n3, hf2, rfl, ?_⟩⟩⟩⟩
    have e03 := (e.trans e2).trans e3
    have eb3 := (eb.trans e2).trans e3
    refine k _ (fun b o hbo => ?_) (fun b o hbo => ?_) D kn kr
    · by_cases hba : b = a
      · subst hba
        rw [upd_same] at hbo ⊢
        exact hbo
      · rw [upd_ne hba] at hbo ⊢
        exact e5 _ _ (by rw [upd_ne hba]; exact e4 _ _ (by rw [upd_ne hba]; exact e03 _ _ hbo))
    · have hba : b ≠ a := ne_of_none hbo hb
      rw [upd_ne hba]
      exact e5 _ _ (by rw [upd_ne hba]; exact e4 _ _ (by rw [upd_ne hba]; exact eb3 _ _ hbo))
end
/-! ### defs by these promises -/
section
variable {P : Program} {w : World} {K : PySem.W.Frag} {mg : Str → Option Value} {base : Heap} {A : Adr}
theorem mokN {C : Addr} {x qual : Str} {st : Stmt} {N ps : List Str} {k : Nat} {Pre : PreN} (M : MethAt K C x qual st) (S : FnScope N ps (defScope st)) (len : ∀ vs H R, Pre vs H R → vs.length = ps.length)
    (bind : ∀ (kV doc pm : Value) (an : Option Addr) (cdv ct : Value) (us : List Value), us.length = ps.length → bindArgs (PySem.W.fnOf x qual (defArgs st) (defBody st) (defScope st) .none kV doc pm an cdv ct) ⟨us, []⟩ = pure (ps.zip us))
    (hbody : ∀ (f : Addr) (cdv : Value) (A : Around) (outer : List Env) (s : Shared) (H : Hp) (E : XK), Room k (A.deeper (envOfC qual (defScope st) s.heap.objs.size f cdv)) →
      ∃ t, PSs (cxOf CX0 P w K mg base N qual (defScope st) f cdv A outer s H E).nox (defBody st) t ∧ ∀ vs H0 R, Ex H0 H → Pre vs H0 R → Sj H t (start N vs) H0 (fun _ Hk => R .non H Hk) (fun v Hk => R v H Hk)) : MOk P w K mg base (k + 1) C x ps (spN Pre) :=
  mok M S (fun vs H Q E ⟨H0, R, _, h, _⟩ => len vs H0 R h) bind fun f cdv A outer s H vs Q E hr ⟨H0, R, e, h, q⟩ => by
    obtain ⟨t, h1, h2⟩ := hbody f cdv A outer s H E hr
    exact ⟨t, h1, h2 vs H0 R e h H e (Ex.refl H) _ (fun σ' Hk H' ek eb hn => q .non Hk H' eb ek hn) fun v Hk H' ek eb hv => q v Hk H' eb ek hv⟩
theorem fokN {x : Str} {st : Stmt} {N ps : List Str} {k : Nat} {Pre : PreN} (M : FnAt K mg x st) (S : FnScope N ps (defScope st)) (len : ∀ vs H R, Pre vs H R → vs.length = ps.length)
    (bind : ∀ (kV doc pm : Value) (an : Option Addr) (cdv ct : Value) (us : List Value), us.length = ps.length → bindArgs (PySem.W.fnOf x x (defArgs st) (defBody st) (defScope st) .none kV doc pm an cdv ct) ⟨us, []⟩ = pure (ps.zip us))
    (hbody : ∀ (f : Addr) (cdv : Value) (A : Around) (outer : List Env) (s : Shared) (H : Hp) (E : XK), Room k (A.deeper (envOfC x (defScope st) s.heap.objs.size f cdv)) →
      ∃ t, PSs (cxOf CX0 P w K mg base N x (defScope st) f cdv A outer s H E).nox (defBody st) t ∧ ∀ vs H0 R, Ex H0 H → Pre vs H0 R → Sj H t (start N vs) H0 (fun _ Hk => R .non H Hk) (fun v Hk => R v H Hk)) : FOk P w K mg base (k + 1) x ps (spN Pre) :=
  fok M S (fun vs H Q E ⟨H0, R, _, h, _⟩ => len vs H0 R h) bind fun f cdv A outer s H vs Q E hr ⟨H0, R, e, h, q⟩ => by
    obtain ⟨t, h1, h2⟩ := hbody f cdv A outer s H E hr
    exact ⟨t, h1, h2 vs H0 R e h H e (Ex.refl H) _ (fun σ' Hk H' ek eb hn => q .non Hk H' eb ek hn) fun v Hk H' ek eb hv => q v Hk H' eb ek hv⟩
/-- an __init__: the new instance at p may change, all else stays -/
theorem mokJ {C : Addr} {x qual : Str} {st : Stmt} {N ps : List Str} {k : Nat} {Pre : List V → Hp → (Addr → Hp → Hp → Prop) → Prop} (M : MethAt K C x qual st) (S : FnScope N ps (defScope st)) (len : ∀ ws H R, Pre ws H R → ws.length + 1 = ps.length)
    (bind : ∀ (kV doc pm : Value) (an : Option Addr) (cdv ct : Value) (us : List Value), us.length = ps.length → bindArgs (PySem.W.fnOf x qual (defArgs st) (defBody st) (defScope st) .none kV doc pm an cdv ct) ⟨us, []⟩ = pure (ps.zip us))
    (hbody : ∀ (f : Addr) (cdv : Value) (A : Around) (outer : List Env) (s : Shared) (H : Hp) (E : XK), Room k (A.deeper (envOfC qual (defScope st) s.heap.objs.size f cdv)) →
      ∃ t, PSs (cxOf CX0 P w K mg base N qual (defScope st) f cdv A outer s H E).nox (defBody st) t ∧ ∀ p ws dx H0 R, H p = some (.ins C dx []) → Ex H0 H → H0 p = none → Pre ws H0 R → Sj (less H p) t (start N (.ref p :: ws)) H (fun _ Hk => R p H0 Hk) (fun _ _ => False)) : MOk P w K mg base (k + 1) C x ps (spJ C Pre) :=
  mok M S (fun vs H Q E ⟨p, ws, dx, H0, R, ev, _, _, _, h, _⟩ => by rw [ev]; exact len ws H0 R h) bind fun f cdv A outer s H vs Q E hr ⟨p, ws, dx, H0, R, ev, hp, e, h0, h, q⟩ => by
    obtain ⟨t, h1, h2⟩ := hbody f cdv A outer s H E hr
    subst ev
    refine ⟨t, h1, h2 p ws dx H0 R hp e h0 h H (Ex.refl H) (fun b o hb => ?_) _ (fun σ' Hk H' ek eb hn => q H' (fun b o hb => ?_) (fun b o hb hne => ?_) ⟨Hk, ek, hn⟩) fun v Hk H' ek eb hv => hv.elim⟩
    · unfold less at hb
      split at hb
      · cases hb
      · exact hb
    · exact eb b o (by rw [less_ne (ne_of_none hb h0)]; exact e b o hb)
    · exact eb b o (by rw [less_ne hne]; exact hb)
theorem less_none {H : Hp} {p q : Addr} (h : less H p q = none) (hq : q ≠ p) : H q = none := by rw [less_ne hq] at h; exact h
theorem less_self {H : Hp} {p : Addr} : less H p p = none := if_pos rfl
end
end TB
/-! # How the state lies in the heap -/
namespace TB
open PySem PySem.Spec PyProof.Rows L2 Evl
open TimberAuction (Lot Bid Sale Contract Delivery Bill)
/-! ### the attributes, in the order in which they are set -/
def lotF (r : Int) (va : Addr) : List (Str × V) := [("reserve", .int r), ("volumes", .ref va)]
def bidF (la pa ba : Addr) (wd : Bool) : List (Str × V) := [("lots", .ref la), ("prices", .ref pa), ("bidders", .ref ba), ("is_withdrawn", .bl wd)]
def saleF (cd ru ad : Int) (la ba ma : Addr) : List (Str × V) := [("closing_day", .int cd), ("rule", .int ru), ("advance", .int ad), ("lots", .ref la), ("bids", .ref ba), ("limits", .ref ma)]
def conF (va pa ba : Addr) (va' day ad : Int) (fa : Addr) (cl : Bool) : List (Str × V) := [("volumes", .ref va), ("prices", .ref pa), ("bidders", .ref ba), ("value", .int va'), ("day", .int day), ("advance", .int ad), ("factor", .ref fa), ("is_closed", .bl cl)]
def delF (c d g v : Int) : List (Str × V) := [("contract", .int c), ("day", .int d), ("grade", .int g), ("volume", .int v)]
def bilF (c d : Int) (aa : Addr) : List (Str × V) := [("contract", .int c), ("day", .int d), ("amounts", .ref aa)]
def bookF (ca da ba xa pa : Addr) : List (Str × V) := [("contracts", .ref ca), ("deliveries", .ref da), ("bills", .ref ba), ("indexes", .ref xa), ("paid", .ref pa)]
def deskF (day : Int) (sale : V) (ba : Addr) : List (Str × V) := [("day", .int day), ("sale", sale), ("books", .ref ba)]
/-! ### the objects -/
/-- who holds an address: nobody, what never changes, or one place that may change -/
inductive Tag where
  | no | fro | desk | books | sale | lots | bids | limits | cons | dels | bills | idx | paid | bid (i : Nat) | del (i : Nat) | con (i : Nat)
  deriving DecidableEq
abbrev Tg := Addr → Tag
def nV (n : Nat) : V := .int (n : Int)
def pV (p : Nat × Nat) : List V := [.int (p.1 : Int), .int (p.2 : Int)]
def NL (H : Hp) (a : Addr) (ns : List Nat) : Prop := H a = some (.lst (ns.map nV))
structure LotG where
  p : Addr
  va : Addr
  l : Lot
structure BidG where
  p : Addr
  la : Addr
  pa : Addr
  ba : Addr
  ts : List (Addr × (Nat × Nat))
  b : Bid
structure SaleG where
  cd : Nat
  ru : Nat
  ad : Nat
  la : Addr
  ba : Addr
  ma : Addr
  ls : List LotG
  bs : List BidG
  lim : List Nat
def SaleG.sale (G : SaleG) : Sale := ⟨G.cd, G.ru, G.ad, G.ls.map (·.l), G.bs.map (·.b), G.lim⟩
structure ConG where
  p : Addr
  va : Addr
  pa : Addr
  ba : Addr
  ts : List (Addr × (Nat × Nat))
  fa : Addr
  c : Contract
structure DelG where
  p : Addr
  d : Delivery
structure BilG where
  p : Addr
  aa : Addr
  b : Bill
structure BooksG where
  ca : Addr
  da : Addr
  ba : Addr
  xa : Addr
  pa : Addr
  cs : List ConG
  ds : List DelG
  bs : List BilG
  xs : List (Nat × Nat)
  paid : List Int
structure LotAt (A : Adr) (g : Tg) (H : Hp) (y : LotG) : Prop where
  ins : Ins H y.p A.Lot (lotF (y.l.reserve : Int) y.va)
  vol : NL H y.va y.l.volumes
  gp : g y.p = .fro
  gv : g y.va = .fro
/-- a list of pairs of whole numbers -/
structure PairsAt (g : Tg) (H : Hp) (a : Addr) (zs : List (Addr × (Nat × Nat))) (ps : List (Nat × Nat)) : Prop where
  lst : H a = some (.lst (zs.map fun z => V.ref z.1))
  tup : ∀ z ∈ zs, H z.1 = some (.tup (pV z.2))
  eq : zs.map (·.2) = ps
  ga : g a = .fro
structure BidAt (A : Adr) (g : Tg) (H : Hp) (y : BidG) : Prop where
  ins : Ins H y.p A.Bid (bidF y.la y.pa y.ba y.b.withdrawn)
  lots : NL H y.la y.b.lots
  prices : NL H y.pa y.b.prices
  bidders : PairsAt g H y.ba y.ts y.b.bidders
  gl : g y.la = .fro
  gp : g y.pa = .fro
structure SaleAt (A : Adr) (g : Tg) (H : Hp) (s : Addr) (G : SaleG) : Prop where
  ins : Ins H s A.Sale (saleF (G.cd : Int) (G.ru : Int) (G.ad : Int) G.la G.ba G.ma)
  lots : H G.la = some (.lst (G.ls.map fun y => V.ref y.p))
  lot : ∀ y ∈ G.ls, LotAt A g H y
  bids : H G.ba = some (.lst (G.bs.map fun y => V.ref y.p))
  bid : ∀ y ∈ G.bs, BidAt A g H y
  lims : NL H G.ma G.lim
  gs : g s = .sale
  gl : g G.la = .lots
  gb : g G.ba = .bids
  gm : g G.ma = .limits
  gbid : ∀ (i : Nat) y, G.bs[i]? = some y → g y.p = .bid i
structure ConAt (K : PySem.W.Frag) (A : Adr) (g : Tg) (H : Hp) (y : ConG) : Prop where
  ins : Ins H y.p A.Contract (conF y.va y.pa y.ba ((TimberAuction.valueOf y.c.volumes y.c.prices : Nat) : Int) (y.c.day : Int) (y.c.advance : Int) y.fa y.c.closed)
  vol : NL H y.va y.c.volumes
  prices : NL H y.pa y.c.prices
  bidders : PairsAt g H y.ba y.ts y.c.bidders
  factor : SqT K H y.fa [.int y.c.factor.num, .int ((y.c.factor.den : Nat) : Int)]
  gv : g y.va = .fro
  gp : g y.pa = .fro
structure DelAt (A : Adr) (g : Tg) (H : Hp) (y : DelG) : Prop where
  ins : Ins H y.p A.Delivery (delF (y.d.contract : Int) (y.d.day : Int) (y.d.grade : Int) (y.d.volume : Int))
structure BilAt (A : Adr) (g : Tg) (H : Hp) (y : BilG) : Prop where
  ins : Ins H y.p A.Bill (bilF (y.b.contract : Int) (y.b.day : Int) y.aa)
  am : H y.aa = some (.lst (y.b.amounts.map V.int))
  gp : g y.p = .fro
  ga : g y.aa = .fro
structure BooksAt (K : PySem.W.Frag) (A : Adr) (g : Tg) (H : Hp) (b : Addr) (G : BooksG) : Prop where
  ins : Ins H b A.Books (bookF G.ca G.da G.ba G.xa G.pa)
  cons : H G.ca = some (.lst (G.cs.map fun y => V.ref y.p))
  con : ∀ y ∈ G.cs, ConAt K A g H y
  dels : H G.da = some (.lst (G.ds.map fun y => V.ref y.p))
  del : ∀ y ∈ G.ds, DelAt A g H y
  bills : H G.ba = some (.lst (G.bs.map fun y => V.ref y.p))
  bill : ∀ y ∈ G.bs, BilAt A g H y
  idx : H G.xa = some (.dK (G.xs.map fun e => (Sum.inl (e.1 : Int), V.int (e.2 : Int))))
  paid : H G.pa = some (.lst (G.paid.map V.int))
  gb : g b = .books
  gc : g G.ca = .cons
  gd : g G.da = .dels
  gi : g G.ba = .bills
  gx : g G.xa = .idx
  gp : g G.pa = .paid
  gcon : ∀ (i : Nat) y, G.cs[i]? = some y → g y.p = .con i
  gdel : ∀ (i : Nat) y, G.ds[i]? = some y → g y.p = .del i
/-! ### more of the heap known, all stands -/
section
variable {K : PySem.W.Frag} {A : Adr} {g : Tg} {H H' : Hp}
theorem NL.up {a : Addr} {ns : List Nat} (e : Ex H H') (h : NL H a ns) : NL H' a ns := e a _ h
theorem LotAt.up {y : LotG} (e : Ex H H') (h : LotAt A g H y) : LotAt A g H' y := ⟨h.ins.up e, h.vol.up e, h.gp, h.gv⟩
theorem PairsAt.up {a : Addr} {ts : List (Addr × (Nat × Nat))} {ps : List (Nat × Nat)} (e : Ex H H') (h : PairsAt g H a ts ps) : PairsAt g H' a ts ps := ⟨e _ _ h.lst, fun z hz => e _ _ (h.tup z hz), h.eq, h.ga⟩
theorem BidAt.up {y : BidG} (e : Ex H H') (h : BidAt A g H y) : BidAt A g H' y := ⟨h.ins.up e, h.lots.up e, h.prices.up e, h.bidders.up e, h.gl, h.gp⟩
theorem SaleAt.up {s : Addr} {G : SaleG} (e : Ex H H') (h : SaleAt A g H s G) : SaleAt A g H' s G := ⟨h.ins.up e, e _ _ h.lots, fun y hy => (h.lot y hy).up e, e _ _ h.bids, fun y hy => (h.bid y hy).up e, h.lims.up e, h.gs, h.gl, h.gb, h.gm, h.gbid⟩
theorem ConAt.up {y : ConG} (e : Ex H H') (h : ConAt K A g H y) : ConAt K A g H' y := ⟨h.ins.up e, h.vol.up e, h.prices.up e, h.bidders.up e, ex_t e h.factor, h.gv, h.gp⟩
theorem DelAt.up {y : DelG} (e : Ex H H') (h : DelAt A g H y) : DelAt A g H' y := ⟨h.ins.up e⟩
theorem BilAt.up {y : BilG} (e : Ex H H') (h : BilAt A g H y) : BilAt A g H' y := ⟨h.ins.up e, e _ _ h.am, h.gp, h.ga⟩
theorem BooksAt.up {b : Addr} {G : BooksG} (e : Ex H H') (h : BooksAt K A g H b G) : BooksAt K A g H' b G :=
  ⟨h.ins.up e, e _ _ h.cons, fun y hy => (h.con y hy).up e, e _ _ h.dels, fun y hy => (h.del y hy).up e, e _ _ h.bills, fun y hy => (h.bill y hy).up e, e _ _ h.idx, e _ _ h.paid, h.gb, h.gc, h.gd, h.gi, h.gx, h.gp, h.gcon, h.gdel⟩
end
/-! ### attributes read, methods' names that are none -/
section
variable {K : PySem.W.Frag} {mg : Str → Option Value} {A : Adr} {H : Hp} {σ : L2.St} {te : TE} {a : Addr}
theorem lk_here {k : Str} {v : V} {r : List (Str × V)} : List.lookup k ((k, v) :: r) = some v := by
  have e : (k == k) = true := beq_self_eq_true k
  simp only [List.lookup, e]
theorem lk_past {k f : Str} {v : V} {r : List (Str × V)} (h : (k == f) = false) : List.lookup k ((f, v) :: r) = List.lookup k r := by
  simp only [List.lookup, h]
theorem lk_Lot_reserve {r : Int} {va : Addr} : (lotF r va).lookup ("reserve" : Str) = some (.int r) := lk_here
theorem fld_Lot_reserve {r : Int} {va : Addr} (T : Top K mg A) (h : Ev te σ H (.ref a)) (hi : Ins H a A.Lot (lotF r va)) : Ev (tFld K te "reserve") σ H (.int r) := ev_fld T.cLot.cl T.nLot_reserve h hi lk_Lot_reserve
theorem lk_Lot_volumes {r : Int} {va : Addr} : (lotF r va).lookup ("volumes" : Str) = some (.ref va) := ((lk_past (by decide +kernel)).trans lk_here)
theorem fld_Lot_volumes {r : Int} {va : Addr} (T : Top K mg A) (h : Ev te σ H (.ref a)) (hi : Ins H a A.Lot (lotF r va)) : Ev (tFld K te "volumes") σ H (.ref va) := ev_fld T.cLot.cl T.nLot_volumes h hi lk_Lot_volumes
theorem lk_Bid_lots {la pa ba : Addr} {wd : Bool} : (bidF la pa ba wd).lookup ("lots" : Str) = some (.ref la) := lk_here
theorem fld_Bid_lots {la pa ba : Addr} {wd : Bool} (T : Top K mg A) (h : Ev te σ H (.ref a)) (hi : Ins H a A.Bid (bidF la pa ba wd)) : Ev (tFld K te "lots") σ H (.ref la) := ev_fld T.cBid.cl T.nBid_lots h hi lk_Bid_lots
theorem lk_Bid_prices {la pa ba : Addr} {wd : Bool} : (bidF la pa ba wd).lookup ("prices" : Str) = some (.ref pa) := ((lk_past (by decide +kernel)).trans lk_here)
theorem fld_Bid_prices {la pa ba : Addr} {wd : Bool} (T : Top K mg A) (h : Ev te σ H (.ref a)) (hi : Ins H a A.Bid (bidF la pa ba wd)) : Ev (tFld K te "prices") σ H (.ref pa) := ev_fld T.cBid.cl T.nBid_prices h hi lk_Bid_prices
theorem lk_Bid_bidders {la pa ba : Addr} {wd : Bool} : (bidF la pa ba wd).lookup ("bidders" : Str) = some (.ref ba) := ((lk_past (by decide +kernel)).trans ((lk_past (by decide +kernel)).trans lk_here))
theorem fld_Bid_bidders {la pa ba : Addr} {wd : Bool} (T : Top K mg A) (h : Ev te σ H (.ref a)) (hi : Ins H a A.Bid (bidF la pa ba wd)) : Ev (tFld K te "bidders") σ H (.ref ba) := ev_fld T.cBid.cl T.nBid_bidders h hi lk_Bid_bidders
theorem lk_Bid_is_withdrawn {la pa ba : Addr} {wd : Bool} : (bidF la pa ba wd).lookup ("is_withdrawn" : Str) = some (.bl wd) := ((lk_past (by decide +kernel)).trans ((lk_past (by decide +kernel)).trans ((lk_past (by decide +kernel)).trans lk_here)))
theorem fld_Bid_is_withdrawn {la pa ba : Addr} {wd : Bool} (T : Top K mg A) (h : Ev te σ H (.ref a)) (hi : Ins H a A.Bid (bidF la pa ba wd)) : Ev (tFld K te "is_withdrawn") σ H (.bl wd) := ev_fld T.cBid.cl T.nBid_is_withdrawn h hi lk_Bid_is_withdrawn
theorem lk_Sale_closing_day {cd ru ad : Int} {la ba ma : Addr} : (saleF cd ru ad la ba ma).lookup ("closing_day" : Str) = some (.int cd) := lk_here
theorem fld_Sale_closing_day {cd ru ad : Int} {la ba ma : Addr} (T : Top K mg A) (h : Ev te σ H (.ref a)) (hi : Ins H a A.Sale (saleF cd ru ad la ba ma)) : Ev (tFld K te "closing_day") σ H (.int cd) := ev_fld T.cSale.cl T.nSale_closing_day h hi lk_Sale_closing_day
theorem lk_Sale_rule {cd ru ad : Int} {la ba ma : Addr} : (saleF cd ru ad la ba ma).lookup ("rule" : Str) = some (.int ru) := ((lk_past (by decide +kernel)).trans lk_here)
theorem fld_Sale_rule {cd ru ad : Int} {la ba ma : Addr} (T : Top K mg A) (h : Ev te σ H (.ref a)) (hi : Ins H a A.Sale (saleF cd ru ad la ba ma)) : Ev (tFld K te "rule") σ H (.int ru) := ev_fld T.cSale.cl T.nSale_rule h hi lk_Sale_rule
theorem lk_Sale_advance {cd ru ad : Int} {la ba ma : Addr} : (saleF cd ru ad la ba ma).lookup ("advance" : Str) = some (.int ad) := ((lk_past (by decide +kernel)).trans ((lk_past (by decide +kernel)).trans lk_here))
theorem fld_Sale_advance {cd ru ad : Int} {la ba ma : Addr} (T : Top K mg A) (h : Ev te σ H (.ref a)) (hi : Ins H a A.Sale (saleF cd ru ad la ba ma)) : Ev (tFld K te "advance") σ H (.int ad) := ev_fld T.cSale.cl T.nSale_advance h hi lk_Sale_advance
theorem lk_Sale_lots {cd ru ad : Int} {la ba ma : Addr} : (saleF cd ru ad la ba ma).lookup ("lots" : Str) = some (.ref la) := ((lk_past (by decide +kernel)).trans ((lk_past (by decide +kernel)).trans ((lk_past (by decide +kernel)).trans lk_here)))
theorem fld_Sale_lots {cd ru ad : Int} {la ba ma : Addr} (T : Top K mg A) (h : Ev te σ H (.ref a)) (hi : Ins H a A.Sale (saleF cd ru ad la ba ma)) : Ev (tFld K te "lots") σ H (.ref la) := ev_fld T.cSale.cl T.nSale_lots h hi lk_Sale_lots
theorem lk_Sale_bids {cd ru ad : Int} {la ba ma : Addr} : (saleF cd ru ad la ba ma).lookup ("bids" : Str) = some (.ref ba) := ((lk_past (by decide +kernel)).trans ((lk_past (by decide +kernel)).trans ((lk_past (by decide +kernel)).trans ((lk_past (by decide +kernel)).trans lk_here))))
theorem fld_Sale_bids {cd ru ad : Int} {la ba ma : Addr} (T : Top K mg A) (h : Ev te σ H (.ref a)) (hi : Ins H a A.Sale (saleF cd ru ad la ba ma)) : Ev (tFld K te "bids") σ H (.ref ba) := ev_fld T.cSale.cl T.nSale_bids h hi lk_Sale_bids
theorem lk_Sale_limits {cd ru ad : Int} {la ba ma : Addr} : (saleF cd ru ad la ba ma).lookup ("limits" : Str) = some (.ref ma) := ((lk_past (by decide +kernel)).trans ((lk_past (by decide +kernel)).trans ((lk_past (by decide +kernel)).trans ((lk_past (by decide +kernel)).trans ((lk_past (by decide +kernel)).trans lk_here)))))
theorem fld_Sale_limits {cd ru ad : Int} {la ba ma : Addr} (T : Top K mg A) (h : Ev te σ H (.ref a)) (hi : Ins H a A.Sale (saleF cd ru ad la ba ma)) : Ev (tFld K te "limits") σ H (.ref ma) := ev_fld T.cSale.cl T.nSale_limits h hi lk_Sale_limits
theorem no_Sale_volumes_of {cd ru ad : Int} {la ba ma : Addr} : (saleF cd ru ad la ba ma).lookup ("volumes_of" : Str) = none := ((lk_past (by decide +kernel)).trans ((lk_past (by decide +kernel)).trans ((lk_past (by decide +kernel)).trans ((lk_past (by decide +kernel)).trans ((lk_past (by decide +kernel)).trans ((lk_past (by decide +kernel)).trans rfl))))))
theorem no_Sale_value_of {cd ru ad : Int} {la ba ma : Addr} : (saleF cd ru ad la ba ma).lookup ("value_of" : Str) = none := ((lk_past (by decide +kernel)).trans ((lk_past (by decide +kernel)).trans ((lk_past (by decide +kernel)).trans ((lk_past (by decide +kernel)).trans ((lk_past (by decide +kernel)).trans ((lk_past (by decide +kernel)).trans rfl))))))
theorem no_Sale_reserve_of {cd ru ad : Int} {la ba ma : Addr} : (saleF cd ru ad la ba ma).lookup ("reserve_of" : Str) = none := ((lk_past (by decide +kernel)).trans ((lk_past (by decide +kernel)).trans ((lk_past (by decide +kernel)).trans ((lk_past (by decide +kernel)).trans ((lk_past (by decide +kernel)).trans ((lk_past (by decide +kernel)).trans rfl))))))
theorem no_Sale_is_admissible {cd ru ad : Int} {la ba ma : Addr} : (saleF cd ru ad la ba ma).lookup ("is_admissible" : Str) = none := ((lk_past (by decide +kernel)).trans ((lk_past (by decide +kernel)).trans ((lk_past (by decide +kernel)).trans ((lk_past (by decide +kernel)).trans ((lk_past (by decide +kernel)).trans ((lk_past (by decide +kernel)).trans rfl))))))
theorem no_Sale_total {cd ru ad : Int} {la ba ma : Addr} : (saleF cd ru ad la ba ma).lookup ("total" : Str) = none := ((lk_past (by decide +kernel)).trans ((lk_past (by decide +kernel)).trans ((lk_past (by decide +kernel)).trans ((lk_past (by decide +kernel)).trans ((lk_past (by decide +kernel)).trans ((lk_past (by decide +kernel)).trans rfl))))))
theorem no_Sale_double_lot {cd ru ad : Int} {la ba ma : Addr} : (saleF cd ru ad la ba ma).lookup ("double_lot" : Str) = none := ((lk_past (by decide +kernel)).trans ((lk_past (by decide +kernel)).trans ((lk_past (by decide +kernel)).trans ((lk_past (by decide +kernel)).trans ((lk_past (by decide +kernel)).trans ((lk_past (by decide +kernel)).trans rfl))))))
theorem no_Sale_busy_bidder {cd ru ad : Int} {la ba ma : Addr} : (saleF cd ru ad la ba ma).lookup ("busy_bidder" : Str) = none := ((lk_past (by decide +kernel)).trans ((lk_past (by decide +kernel)).trans ((lk_past (by decide +kernel)).trans ((lk_past (by decide +kernel)).trans ((lk_past (by decide +kernel)).trans ((lk_past (by decide +kernel)).trans rfl))))))
theorem no_Sale_bidders_of {cd ru ad : Int} {la ba ma : Addr} : (saleF cd ru ad la ba ma).lookup ("bidders_of" : Str) = none := ((lk_past (by decide +kernel)).trans ((lk_past (by decide +kernel)).trans ((lk_past (by decide +kernel)).trans ((lk_past (by decide +kernel)).trans ((lk_past (by decide +kernel)).trans ((lk_past (by decide +kernel)).trans rfl))))))
theorem no_Sale_judged {cd ru ad : Int} {la ba ma : Addr} : (saleF cd ru ad la ba ma).lookup ("judged" : Str) = none := ((lk_past (by decide +kernel)).trans ((lk_past (by decide +kernel)).trans ((lk_past (by decide +kernel)).trans ((lk_past (by decide +kernel)).trans ((lk_past (by decide +kernel)).trans ((lk_past (by decide +kernel)).trans rfl))))))
theorem no_Sale_fits {cd ru ad : Int} {la ba ma : Addr} : (saleF cd ru ad la ba ma).lookup ("fits" : Str) = none := ((lk_past (by decide +kernel)).trans ((lk_past (by decide +kernel)).trans ((lk_past (by decide +kernel)).trans ((lk_past (by decide +kernel)).trans ((lk_past (by decide +kernel)).trans ((lk_past (by decide +kernel)).trans rfl))))))
theorem no_Sale_longer {cd ru ad : Int} {la ba ma : Addr} : (saleF cd ru ad la ba ma).lookup ("longer" : Str) = none := ((lk_past (by decide +kernel)).trans ((lk_past (by decide +kernel)).trans ((lk_past (by decide +kernel)).trans ((lk_past (by decide +kernel)).trans ((lk_past (by decide +kernel)).trans ((lk_past (by decide +kernel)).trans rfl))))))
theorem no_Sale_selections {cd ru ad : Int} {la ba ma : Addr} : (saleF cd ru ad la ba ma).lookup ("selections" : Str) = none := ((lk_past (by decide +kernel)).trans ((lk_past (by decide +kernel)).trans ((lk_past (by decide +kernel)).trans ((lk_past (by decide +kernel)).trans ((lk_past (by decide +kernel)).trans ((lk_past (by decide +kernel)).trans rfl))))))
theorem no_Sale_best {cd ru ad : Int} {la ba ma : Addr} : (saleF cd ru ad la ba ma).lookup ("best" : Str) = none := ((lk_past (by decide +kernel)).trans ((lk_past (by decide +kernel)).trans ((lk_past (by decide +kernel)).trans ((lk_past (by decide +kernel)).trans ((lk_past (by decide +kernel)).trans ((lk_past (by decide +kernel)).trans rfl))))))
theorem no_Sale_threshold {cd ru ad : Int} {la ba ma : Addr} : (saleF cd ru ad la ba ma).lookup ("threshold" : Str) = none := ((lk_past (by decide +kernel)).trans ((lk_past (by decide +kernel)).trans ((lk_past (by decide +kernel)).trans ((lk_past (by decide +kernel)).trans ((lk_past (by decide +kernel)).trans ((lk_past (by decide +kernel)).trans rfl))))))
theorem lk_Contract_volumes {va pa ba : Addr} {w1 day ad : Int} {fa : Addr} {cl : Bool} : (conF va pa ba w1 day ad fa cl).lookup ("volumes" : Str) = some (.ref va) := lk_here
theorem fld_Contract_volumes {va pa ba : Addr} {w1 day ad : Int} {fa : Addr} {cl : Bool} (T : Top K mg A) (h : Ev te σ H (.ref a)) (hi : Ins H a A.Contract (conF va pa ba w1 day ad fa cl)) : Ev (tFld K te "volumes") σ H (.ref va) := ev_fld T.cContract.cl T.nContract_volumes h hi lk_Contract_volumes
theorem lk_Contract_prices {va pa ba : Addr} {w1 day ad : Int} {fa : Addr} {cl : Bool} : (conF va pa ba w1 day ad fa cl).lookup ("prices" : Str) = some (.ref pa) := ((lk_past (by decide +kernel)).trans lk_here)
theorem fld_Contract_prices {va pa ba : Addr} {w1 day ad : Int} {fa : Addr} {cl : Bool} (T : Top K mg A) (h : Ev te σ H (.ref a)) (hi : Ins H a A.Contract (conF va pa ba w1 day ad fa cl)) : Ev (tFld K te "prices") σ H (.ref pa) := ev_fld T.cContract.cl T.nContract_prices h hi lk_Contract_prices
theorem lk_Contract_bidders {va pa ba : Addr} {w1 day ad : Int} {fa : Addr} {cl : Bool} : (conF va pa ba w1 day ad fa cl).lookup ("bidders" : Str) = some (.ref ba) := ((lk_past (by decide +kernel)).trans ((lk_past (by decide +kernel)).trans lk_here))
theorem fld_Contract_bidders {va pa ba : Addr} {w1 day ad : Int} {fa : Addr} {cl : Bool} (T : Top K mg A) (h : Ev te σ H (.ref a)) (hi : Ins H a A.Contract (conF va pa ba w1 day ad fa cl)) : Ev (tFld K te "bidders") σ H (.ref ba) := ev_fld T.cContract.cl T.nContract_bidders h hi lk_Contract_bidders
theorem lk_Contract_value {va pa ba : Addr} {w1 day ad : Int} {fa : Addr} {cl : Bool} : (conF va pa ba w1 day ad fa cl).lookup ("value" : Str) = some (.int w1) := ((lk_past (by decide +kernel)).trans ((lk_past (by decide +kernel)).trans ((lk_past (by decide +kernel)).trans lk_here)))
theorem fld_Contract_value {va pa ba : Addr} {w1 day ad : Int} {fa : Addr} {cl : Bool} (T : Top K mg A) (h : Ev te σ H (.ref a)) (hi : Ins H a A.Contract (conF va pa ba w1 day ad fa cl)) : Ev (tFld K te "value") σ H (.int w1) := ev_fld T.cContract.cl T.nContract_value h hi lk_Contract_value
theorem lk_Contract_day {va pa ba : Addr} {w1 day ad : Int} {fa : Addr} {cl : Bool} : (conF va pa ba w1 day ad fa cl).lookup ("day" : Str) = some (.int day) := ((lk_past (by decide +kernel)).trans ((lk_past (by decide +kernel)).trans ((lk_past (by decide +kernel)).trans ((lk_past (by decide +kernel)).trans lk_here))))
theorem fld_Contract_day {va pa ba : Addr} {w1 day ad : Int} {fa : Addr} {cl : Bool} (T : Top K mg A) (h : Ev te σ H (.ref a)) (hi : Ins H a A.Contract (conF va pa ba w1 day ad fa cl)) : Ev (tFld K te "day") σ H (.int day) := ev_fld T.cContract.cl T.nContract_day h hi lk_Contract_day
theorem lk_Contract_advance {va pa ba : Addr} {w1 day ad : Int} {fa : Addr} {cl : Bool} : (conF va pa ba w1 day ad fa cl).lookup ("advance" : Str) = some (.int ad) := ((lk_past (by decide +kernel)).trans ((lk_past (by decide +kernel)).trans ((lk_past (by decide +kernel)).trans ((lk_past (by decide +kernel)).trans ((lk_past (by decide +kernel)).trans lk_here)))))
theorem fld_Contract_advance {va pa ba : Addr} {w1 day ad : Int} {fa : Addr} {cl : Bool} (T : Top K mg A) (h : Ev te σ H (.ref a)) (hi : Ins H a A.Contract (conF va pa ba w1 day ad fa cl)) : Ev (tFld K te "advance") σ H (.int ad) := ev_fld T.cContract.cl T.nContract_advance h hi lk_Contract_advance
theorem lk_Contract_factor {va pa ba : Addr} {w1 day ad : Int} {fa : Addr} {cl : Bool} : (conF va pa ba w1 day ad fa cl).lookup ("factor" : Str) = some (.ref fa) := ((lk_past (by decide +kernel)).trans ((lk_past (by decide +kernel)).trans ((lk_past (by decide +kernel)).trans ((lk_past (by decide +kernel)).trans ((lk_past (by decide +kernel)).trans ((lk_past (by decide +kernel)).trans lk_here))))))
theorem fld_Contract_factor {va pa ba : Addr} {w1 day ad : Int} {fa : Addr} {cl : Bool} (T : Top K mg A) (h : Ev te σ H (.ref a)) (hi : Ins H a A.Contract (conF va pa ba w1 day ad fa cl)) : Ev (tFld K te "factor") σ H (.ref fa) := ev_fld T.cContract.cl T.nContract_factor h hi lk_Contract_factor
theorem lk_Contract_is_closed {va pa ba : Addr} {w1 day ad : Int} {fa : Addr} {cl : Bool} : (conF va pa ba w1 day ad fa cl).lookup ("is_closed" : Str) = some (.bl cl) := ((lk_past (by decide +kernel)).trans ((lk_past (by decide +kernel)).trans ((lk_past (by decide +kernel)).trans ((lk_past (by decide +kernel)).trans ((lk_past (by decide +kernel)).trans ((lk_past (by decide +kernel)).trans ((lk_past (by decide +kernel)).trans lk_here)))))))
theorem fld_Contract_is_closed {va pa ba : Addr} {w1 day ad : Int} {fa : Addr} {cl : Bool} (T : Top K mg A) (h : Ev te σ H (.ref a)) (hi : Ins H a A.Contract (conF va pa ba w1 day ad fa cl)) : Ev (tFld K te "is_closed") σ H (.bl cl) := ev_fld T.cContract.cl T.nContract_is_closed h hi lk_Contract_is_closed
theorem no_Contract_estimate {va pa ba : Addr} {w1 day ad : Int} {fa : Addr} {cl : Bool} : (conF va pa ba w1 day ad fa cl).lookup ("estimate" : Str) = none := ((lk_past (by decide +kernel)).trans ((lk_past (by decide +kernel)).trans ((lk_past (by decide +kernel)).trans ((lk_past (by decide +kernel)).trans ((lk_past (by decide +kernel)).trans ((lk_past (by decide +kernel)).trans ((lk_past (by decide +kernel)).trans ((lk_past (by decide +kernel)).trans rfl))))))))
theorem lk_Delivery_contract {c d g1 v : Int} : (delF c d g1 v).lookup ("contract" : Str) = some (.int c) := lk_here
theorem fld_Delivery_contract {c d g1 v : Int} (T : Top K mg A) (h : Ev te σ H (.ref a)) (hi : Ins H a A.Delivery (delF c d g1 v)) : Ev (tFld K te "contract") σ H (.int c) := ev_fld T.cDelivery.cl T.nDelivery_contract h hi lk_Delivery_contract
theorem lk_Delivery_day {c d g1 v : Int} : (delF c d g1 v).lookup ("day" : Str) = some (.int d) := ((lk_past (by decide +kernel)).trans lk_here)
theorem fld_Delivery_day {c d g1 v : Int} (T : Top K mg A) (h : Ev te σ H (.ref a)) (hi : Ins H a A.Delivery (delF c d g1 v)) : Ev (tFld K te "day") σ H (.int d) := ev_fld T.cDelivery.cl T.nDelivery_day h hi lk_Delivery_day
theorem lk_Delivery_grade {c d g1 v : Int} : (delF c d g1 v).lookup ("grade" : Str) = some (.int g1) := ((lk_past (by decide +kernel)).trans ((lk_past (by decide +kernel)).trans lk_here))
theorem fld_Delivery_grade {c d g1 v : Int} (T : Top K mg A) (h : Ev te σ H (.ref a)) (hi : Ins H a A.Delivery (delF c d g1 v)) : Ev (tFld K te "grade") σ H (.int g1) := ev_fld T.cDelivery.cl T.nDelivery_grade h hi lk_Delivery_grade
theorem lk_Delivery_volume {c d g1 v : Int} : (delF c d g1 v).lookup ("volume" : Str) = some (.int v) := ((lk_past (by decide +kernel)).trans ((lk_past (by decide +kernel)).trans ((lk_past (by decide +kernel)).trans lk_here)))
theorem fld_Delivery_volume {c d g1 v : Int} (T : Top K mg A) (h : Ev te σ H (.ref a)) (hi : Ins H a A.Delivery (delF c d g1 v)) : Ev (tFld K te "volume") σ H (.int v) := ev_fld T.cDelivery.cl T.nDelivery_volume h hi lk_Delivery_volume
theorem lk_Bill_contract {c d : Int} {aa : Addr} : (bilF c d aa).lookup ("contract" : Str) = some (.int c) := lk_here
theorem fld_Bill_contract {c d : Int} {aa : Addr} (T : Top K mg A) (h : Ev te σ H (.ref a)) (hi : Ins H a A.Bill (bilF c d aa)) : Ev (tFld K te "contract") σ H (.int c) := ev_fld T.cBill.cl T.nBill_contract h hi lk_Bill_contract
theorem lk_Bill_day {c d : Int} {aa : Addr} : (bilF c d aa).lookup ("day" : Str) = some (.int d) := ((lk_past (by decide +kernel)).trans lk_here)
theorem fld_Bill_day {c d : Int} {aa : Addr} (T : Top K mg A) (h : Ev te σ H (.ref a)) (hi : Ins H a A.Bill (bilF c d aa)) : Ev (tFld K te "day") σ H (.int d) := ev_fld T.cBill.cl T.nBill_day h hi lk_Bill_day
theorem lk_Bill_amounts {c d : Int} {aa : Addr} : (bilF c d aa).lookup ("amounts" : Str) = some (.ref aa) := ((lk_past (by decide +kernel)).trans ((lk_past (by decide +kernel)).trans lk_here))
theorem fld_Bill_amounts {c d : Int} {aa : Addr} (T : Top K mg A) (h : Ev te σ H (.ref a)) (hi : Ins H a A.Bill (bilF c d aa)) : Ev (tFld K te "amounts") σ H (.ref aa) := ev_fld T.cBill.cl T.nBill_amounts h hi lk_Bill_amounts
theorem lk_Books_contracts {ca da ba xa pa : Addr} : (bookF ca da ba xa pa).lookup ("contracts" : Str) = some (.ref ca) := lk_here
theorem fld_Books_contracts {ca da ba xa pa : Addr} (T : Top K mg A) (h : Ev te σ H (.ref a)) (hi : Ins H a A.Books (bookF ca da ba xa pa)) : Ev (tFld K te "contracts") σ H (.ref ca) := ev_fld T.cBooks.cl T.nBooks_contracts h hi lk_Books_contracts
theorem lk_Books_deliveries {ca da ba xa pa : Addr} : (bookF ca da ba xa pa).lookup ("deliveries" : Str) = some (.ref da) := ((lk_past (by decide +kernel)).trans lk_here)
theorem fld_Books_deliveries {ca da ba xa pa : Addr} (T : Top K mg A) (h : Ev te σ H (.ref a)) (hi : Ins H a A.Books (bookF ca da ba xa pa)) : Ev (tFld K te "deliveries") σ H (.ref da) := ev_fld T.cBooks.cl T.nBooks_deliveries h hi lk_Books_deliveries
theorem lk_Books_bills {ca da ba xa pa : Addr} : (bookF ca da ba xa pa).lookup ("bills" : Str) = some (.ref ba) := ((lk_past (by decide +kernel)).trans ((lk_past (by decide +kernel)).trans lk_here))
theorem fld_Books_bills {ca da ba xa pa : Addr} (T : Top K mg A) (h : Ev te σ H (.ref a)) (hi : Ins H a A.Books (bookF ca da ba xa pa)) : Ev (tFld K te "bills") σ H (.ref ba) := ev_fld T.cBooks.cl T.nBooks_bills h hi lk_Books_bills
theorem lk_Books_indexes {ca da ba xa pa : Addr} : (bookF ca da ba xa pa).lookup ("indexes" : Str) = some (.ref xa) := ((lk_past (by decide +kernel)).trans ((lk_past (by decide +kernel)).trans ((lk_past (by decide +kernel)).trans lk_here)))
theorem fld_Books_indexes {ca da ba xa pa : Addr} (T : Top K mg A) (h : Ev te σ H (.ref a)) (hi : Ins H a A.Books (bookF ca da ba xa pa)) : Ev (tFld K te "indexes") σ H (.ref xa) := ev_fld T.cBooks.cl T.nBooks_indexes h hi lk_Books_indexes
theorem lk_Books_paid {ca da ba xa pa : Addr} : (bookF ca da ba xa pa).lookup ("paid" : Str) = some (.ref pa) := ((lk_past (by decide +kernel)).trans ((lk_past (by decide +kernel)).trans ((lk_past (by decide +kernel)).trans ((lk_past (by decide +kernel)).trans lk_here))))
theorem fld_Books_paid {ca da ba xa pa : Addr} (T : Top K mg A) (h : Ev te σ H (.ref a)) (hi : Ins H a A.Books (bookF ca da ba xa pa)) : Ev (tFld K te "paid") σ H (.ref pa) := ev_fld T.cBooks.cl T.nBooks_paid h hi lk_Books_paid
theorem no_Books_index_of {ca da ba xa pa : Addr} : (bookF ca da ba xa pa).lookup ("index_of" : Str) = none := ((lk_past (by decide +kernel)).trans ((lk_past (by decide +kernel)).trans ((lk_past (by decide +kernel)).trans ((lk_past (by decide +kernel)).trans ((lk_past (by decide +kernel)).trans rfl)))))
theorem no_Books_deliveries_of {ca da ba xa pa : Addr} : (bookF ca da ba xa pa).lookup ("deliveries_of" : Str) = none := ((lk_past (by decide +kernel)).trans ((lk_past (by decide +kernel)).trans ((lk_past (by decide +kernel)).trans ((lk_past (by decide +kernel)).trans ((lk_past (by decide +kernel)).trans rfl)))))
theorem no_Books_delivered {ca da ba xa pa : Addr} : (bookF ca da ba xa pa).lookup ("delivered" : Str) = none := ((lk_past (by decide +kernel)).trans ((lk_past (by decide +kernel)).trans ((lk_past (by decide +kernel)).trans ((lk_past (by decide +kernel)).trans ((lk_past (by decide +kernel)).trans rfl)))))
theorem no_Books_due {ca da ba xa pa : Addr} : (bookF ca da ba xa pa).lookup ("due" : Str) = none := ((lk_past (by decide +kernel)).trans ((lk_past (by decide +kernel)).trans ((lk_past (by decide +kernel)).trans ((lk_past (by decide +kernel)).trans ((lk_past (by decide +kernel)).trans rfl)))))
theorem no_Books_parts {ca da ba xa pa : Addr} : (bookF ca da ba xa pa).lookup ("parts" : Str) = none := ((lk_past (by decide +kernel)).trans ((lk_past (by decide +kernel)).trans ((lk_past (by decide +kernel)).trans ((lk_past (by decide +kernel)).trans ((lk_past (by decide +kernel)).trans rfl)))))
theorem no_Books_bills_of {ca da ba xa pa : Addr} : (bookF ca da ba xa pa).lookup ("bills_of" : Str) = none := ((lk_past (by decide +kernel)).trans ((lk_past (by decide +kernel)).trans ((lk_past (by decide +kernel)).trans ((lk_past (by decide +kernel)).trans ((lk_past (by decide +kernel)).trans rfl)))))
theorem no_Books_billed {ca da ba xa pa : Addr} : (bookF ca da ba xa pa).lookup ("billed" : Str) = none := ((lk_past (by decide +kernel)).trans ((lk_past (by decide +kernel)).trans ((lk_past (by decide +kernel)).trans ((lk_past (by decide +kernel)).trans ((lk_past (by decide +kernel)).trans rfl)))))
theorem no_Books_new_amounts {ca da ba xa pa : Addr} : (bookF ca da ba xa pa).lookup ("new_amounts" : Str) = none := ((lk_past (by decide +kernel)).trans ((lk_past (by decide +kernel)).trans ((lk_past (by decide +kernel)).trans ((lk_past (by decide +kernel)).trans ((lk_past (by decide +kernel)).trans rfl)))))
theorem no_Books_balance {ca da ba xa pa : Addr} : (bookF ca da ba xa pa).lookup ("balance" : Str) = none := ((lk_past (by decide +kernel)).trans ((lk_past (by decide +kernel)).trans ((lk_past (by decide +kernel)).trans ((lk_past (by decide +kernel)).trans ((lk_past (by decide +kernel)).trans rfl)))))
theorem no_Books_shortfall {ca da ba xa pa : Addr} : (bookF ca da ba xa pa).lookup ("shortfall" : Str) = none := ((lk_past (by decide +kernel)).trans ((lk_past (by decide +kernel)).trans ((lk_past (by decide +kernel)).trans ((lk_past (by decide +kernel)).trans ((lk_past (by decide +kernel)).trans rfl)))))
theorem lk_Desk_day {day : Int} {sl : V} {ba : Addr} : (deskF day sl ba).lookup ("day" : Str) = some (.int day) := lk_here
theorem fld_Desk_day {day : Int} {sl : V} {ba : Addr} (T : Top K mg A) (h : Ev te σ H (.ref a)) (hi : Ins H a A.Desk (deskF day sl ba)) : Ev (tFld K te "day") σ H (.int day) := ev_fld T.cDesk.cl T.nDesk_day h hi lk_Desk_day
theorem lk_Desk_sale {day : Int} {sl : V} {ba : Addr} : (deskF day sl ba).lookup ("sale" : Str) = some (sl) := ((lk_past (by decide +kernel)).trans lk_here)
theorem fld_Desk_sale {day : Int} {sl : V} {ba : Addr} (T : Top K mg A) (h : Ev te σ H (.ref a)) (hi : Ins H a A.Desk (deskF day sl ba)) : Ev (tFld K te "sale") σ H (sl) := ev_fld T.cDesk.cl T.nDesk_sale h hi lk_Desk_sale
theorem lk_Desk_books {day : Int} {sl : V} {ba : Addr} : (deskF day sl ba).lookup ("books" : Str) = some (.ref ba) := ((lk_past (by decide +kernel)).trans ((lk_past (by decide +kernel)).trans lk_here))
theorem fld_Desk_books {day : Int} {sl : V} {ba : Addr} (T : Top K mg A) (h : Ev te σ H (.ref a)) (hi : Ins H a A.Desk (deskF day sl ba)) : Ev (tFld K te "books") σ H (.ref ba) := ev_fld T.cDesk.cl T.nDesk_books h hi lk_Desk_books
theorem no_Desk_is_sealed {day : Int} {sl : V} {ba : Addr} : (deskF day sl ba).lookup ("is_sealed" : Str) = none := ((lk_past (by decide +kernel)).trans ((lk_past (by decide +kernel)).trans ((lk_past (by decide +kernel)).trans rfl)))
theorem no_Desk_is_bid {day : Int} {sl : V} {ba : Addr} : (deskF day sl ba).lookup ("is_bid" : Str) = none := ((lk_past (by decide +kernel)).trans ((lk_past (by decide +kernel)).trans ((lk_past (by decide +kernel)).trans rfl)))
theorem no_Desk_is_contract {day : Int} {sl : V} {ba : Addr} : (deskF day sl ba).lookup ("is_contract" : Str) = none := ((lk_past (by decide +kernel)).trans ((lk_past (by decide +kernel)).trans ((lk_past (by decide +kernel)).trans rfl)))
theorem no_Desk_set_day {day : Int} {sl : V} {ba : Addr} : (deskF day sl ba).lookup ("set_day" : Str) = none := ((lk_past (by decide +kernel)).trans ((lk_past (by decide +kernel)).trans ((lk_past (by decide +kernel)).trans rfl)))
theorem no_Desk_open_sale {day : Int} {sl : V} {ba : Addr} : (deskF day sl ba).lookup ("open_sale" : Str) = none := ((lk_past (by decide +kernel)).trans ((lk_past (by decide +kernel)).trans ((lk_past (by decide +kernel)).trans rfl)))
theorem no_Desk_add_lot {day : Int} {sl : V} {ba : Addr} : (deskF day sl ba).lookup ("add_lot" : Str) = none := ((lk_past (by decide +kernel)).trans ((lk_past (by decide +kernel)).trans ((lk_past (by decide +kernel)).trans rfl)))
theorem no_Desk_set_limit {day : Int} {sl : V} {ba : Addr} : (deskF day sl ba).lookup ("set_limit" : Str) = none := ((lk_past (by decide +kernel)).trans ((lk_past (by decide +kernel)).trans ((lk_past (by decide +kernel)).trans rfl)))
theorem no_Desk_place_bid {day : Int} {sl : V} {ba : Addr} : (deskF day sl ba).lookup ("place_bid" : Str) = none := ((lk_past (by decide +kernel)).trans ((lk_past (by decide +kernel)).trans ((lk_past (by decide +kernel)).trans rfl)))
theorem no_Desk_withdraw_bid {day : Int} {sl : V} {ba : Addr} : (deskF day sl ba).lookup ("withdraw_bid" : Str) = none := ((lk_past (by decide +kernel)).trans ((lk_past (by decide +kernel)).trans ((lk_past (by decide +kernel)).trans rfl)))
theorem no_Desk_list_bids {day : Int} {sl : V} {ba : Addr} : (deskF day sl ba).lookup ("list_bids" : Str) = none := ((lk_past (by decide +kernel)).trans ((lk_past (by decide +kernel)).trans ((lk_past (by decide +kernel)).trans rfl)))
theorem no_Desk_check_selection {day : Int} {sl : V} {ba : Addr} : (deskF day sl ba).lookup ("check_selection" : Str) = none := ((lk_past (by decide +kernel)).trans ((lk_past (by decide +kernel)).trans ((lk_past (by decide +kernel)).trans rfl)))
theorem no_Desk_best_selection {day : Int} {sl : V} {ba : Addr} : (deskF day sl ba).lookup ("best_selection" : Str) = none := ((lk_past (by decide +kernel)).trans ((lk_past (by decide +kernel)).trans ((lk_past (by decide +kernel)).trans rfl)))
theorem no_Desk_threshold {day : Int} {sl : V} {ba : Addr} : (deskF day sl ba).lookup ("threshold" : Str) = none := ((lk_past (by decide +kernel)).trans ((lk_past (by decide +kernel)).trans ((lk_past (by decide +kernel)).trans rfl)))
theorem no_Desk_award {day : Int} {sl : V} {ba : Addr} : (deskF day sl ba).lookup ("award" : Str) = none := ((lk_past (by decide +kernel)).trans ((lk_past (by decide +kernel)).trans ((lk_past (by decide +kernel)).trans rfl)))
theorem no_Desk_get_contract {day : Int} {sl : V} {ba : Addr} : (deskF day sl ba).lookup ("get_contract" : Str) = none := ((lk_past (by decide +kernel)).trans ((lk_past (by decide +kernel)).trans ((lk_past (by decide +kernel)).trans rfl)))
theorem no_Desk_set_index {day : Int} {sl : V} {ba : Addr} : (deskF day sl ba).lookup ("set_index" : Str) = none := ((lk_past (by decide +kernel)).trans ((lk_past (by decide +kernel)).trans ((lk_past (by decide +kernel)).trans rfl)))
theorem no_Desk_record_delivery {day : Int} {sl : V} {ba : Addr} : (deskF day sl ba).lookup ("record_delivery" : Str) = none := ((lk_past (by decide +kernel)).trans ((lk_past (by decide +kernel)).trans ((lk_past (by decide +kernel)).trans rfl)))
theorem no_Desk_correct_delivery {day : Int} {sl : V} {ba : Addr} : (deskF day sl ba).lookup ("correct_delivery" : Str) = none := ((lk_past (by decide +kernel)).trans ((lk_past (by decide +kernel)).trans ((lk_past (by decide +kernel)).trans rfl)))
theorem no_Desk_close_contract {day : Int} {sl : V} {ba : Addr} : (deskF day sl ba).lookup ("close_contract" : Str) = none := ((lk_past (by decide +kernel)).trans ((lk_past (by decide +kernel)).trans ((lk_past (by decide +kernel)).trans rfl)))
theorem no_Desk_contract_value {day : Int} {sl : V} {ba : Addr} : (deskF day sl ba).lookup ("contract_value" : Str) = none := ((lk_past (by decide +kernel)).trans ((lk_past (by decide +kernel)).trans ((lk_past (by decide +kernel)).trans rfl)))
theorem no_Desk_create_bill {day : Int} {sl : V} {ba : Addr} : (deskF day sl ba).lookup ("create_bill" : Str) = none := ((lk_past (by decide +kernel)).trans ((lk_past (by decide +kernel)).trans ((lk_past (by decide +kernel)).trans rfl)))
theorem no_Desk_list_bills {day : Int} {sl : V} {ba : Addr} : (deskF day sl ba).lookup ("list_bills" : Str) = none := ((lk_past (by decide +kernel)).trans ((lk_past (by decide +kernel)).trans ((lk_past (by decide +kernel)).trans rfl)))
theorem no_Desk_record_payment {day : Int} {sl : V} {ba : Addr} : (deskF day sl ba).lookup ("record_payment" : Str) = none := ((lk_past (by decide +kernel)).trans ((lk_past (by decide +kernel)).trans ((lk_past (by decide +kernel)).trans rfl)))
theorem no_Desk_balance {day : Int} {sl : V} {ba : Addr} : (deskF day sl ba).lookup ("balance" : Str) = none := ((lk_past (by decide +kernel)).trans ((lk_past (by decide +kernel)).trans ((lk_past (by decide +kernel)).trans rfl)))
theorem no_Desk_shortfall {day : Int} {sl : V} {ba : Addr} : (deskF day sl ba).lookup ("shortfall" : Str) = none := ((lk_past (by decide +kernel)).trans ((lk_past (by decide +kernel)).trans ((lk_past (by decide +kernel)).trans rfl)))
end
end TB
/-! # What expressions give -/
namespace TB
open PySem PySem.Spec PyProof.Rows L2 Evl
section
variable {K : PySem.W.Frag} {mg : Str → Option Value} {A : Adr} {H : Hp} {σ : L2.St} {te ta tb tc tl : TE} {tt tu : TT} {a : Addr} {v : V}
theorem ev_I0 {g : Int → Int → V} {i j : Int} (ha : Ev ta σ H (.int i)) (hb : Ev tb σ H (.int j)) : Ev (tOp (rI0 g) ta tb) σ H (g i j) := ev_op ha hb rv_I0
theorem ev_I {C : Int → Int → Prop} {g : Int → Int → V} {i j : Int} (ha : Ev ta σ H (.int i)) (hb : Ev tb σ H (.int j)) (hc : C i j) : Ev (tOp (rI C g) ta tb) σ H (g i j) := ev_op ha hb (rv_I hc)
theorem ev_neg {i : Int} (ha : Ev ta σ H (.int i)) : Ev (tUn (rU fun i => .int (-i)) ta) σ H (.int (-i)) := ev_un ha ru_neg
theorem ev_eqS {x y : V} (ha : Ev ta σ H x) (hb : Ev tb σ H y) (h : scal x y = true) : Ev (tOp rEq ta tb) σ H (.bl (decide (x = y))) := ev_op ha hb (rv_eq h)
theorem ev_neS {x y : V} (ha : Ev ta σ H x) (hb : Ev tb σ H y) (h : scal x y = true) : Ev (tOp rNe ta tb) σ H (.bl (!decide (x = y))) := ev_op ha hb (rv_ne h)
theorem ev_isN {x : V} (ha : Ev ta σ H x) : Ev (tOp rIsN ta (tC .non)) σ H (.bl (decide (x = .non))) := ev_op ha ev_c (rv_val fun H1 _ Q q => ⟨rfl, q⟩)
theorem ev_notN {x : V} (ha : Ev ta σ H x) : Ev (tOp rNotN ta (tC .non)) σ H (.bl (!decide (x = .non))) := ev_op ha ev_c (rv_val fun H1 _ Q q => ⟨rfl, q⟩)
/-- a chain of two comparisons of ints -/
theorem ev_chain {g g' : Int → Int → V} {i j k : Int} {p q : Bool} (ha : Ev ta σ H (.int i)) (hb : Ev tb σ H (.int j)) (hc : Ev tc σ H (.int k)) (hg : g i j = .bl p) (hg' : g' j k = .bl q) : Ev (tChain (rI0 g) (rI0 g') ta tb tc) σ H (.bl (p && q)) := fun H1 e Q kq =>
  ha H1 e _ fun H2 e2 => hb H2 (e.trans e2) _ fun H3 e3 => ⟨i, j, rfl, rfl, p, hg, by
    cases p with
    | true =>
      show tc σ H3 fun w' H4 => _
      exact hc H3 ((e.trans e2).trans e3) _ fun H4 e4 => ⟨j, k, rfl, rfl, by
        rw [hg', Bool.true_and] at *
        exact kq H4 ((e2.trans e3).trans e4)⟩
    | false => exact kq H3 (e2.trans e3)⟩
theorem ev_ixL {p : Addr} {xs : List V} {n : Nat} (ha : Ev ta σ H (.ref p)) (hb : Ev tb σ H (.int (n : Nat))) (h : H p = some (.lst xs)) (hx : xs[n]? = some v) : Ev (tOp (rIxL K) ta tb) σ H v := ev_op ha hb (rv_ixL (sq_of h) (atI_nat hx))
theorem ev_ixS {p : Addr} {xs : List V} {n : Nat} (ha : Ev ta σ H (.ref p)) (hb : Ev tb σ H (.int (n : Nat))) (h : SqL K H p xs) (hx : xs[n]? = some v) : Ev (tOp (rIxL K) ta tb) σ H v := ev_op ha hb (rv_ixL h (atI_nat hx))
theorem ev_ixT {p : Addr} {xs : List V} {n : Nat} (ha : Ev ta σ H (.ref p)) (hb : Ev tb σ H (.int (n : Nat))) (h : SqT K H p xs) (hx : xs[n]? = some v) : Ev (tOp (rIxT K) ta tb) σ H v := ev_op ha hb (rv_ixT h (atI_nat hx))
theorem ev_lenL {p : Addr} {xs : List V} (ha : Ev ta σ H (.ref p)) (h : H p = some (.lst xs)) : Ev (tCB (rLenS K) (tCons ta tNil)) σ H (.int (xs.length : Nat)) := ev_len ha (sq_of h)
theorem ev_sumN {ns : List Int} (ha : EvL ta σ H (ns.map V.int)) : Ev (tCB (rSum K) (tCons ta tNil)) σ H (.int ns.sum) := fun H1 e Q q => ha H1 e _ fun p H2 _ e2 h2 => ⟨p, ns, rfl, sq_of h2, q H2 e2⟩
theorem ev_sumA {p : Addr} {ns : List Int} (ha : Ev ta σ H (.ref p)) (h : H p = some (.lst (ns.map V.int))) : Ev (tCB (rSum K) (tCons ta tNil)) σ H (.int ns.sum) := fun H1 e Q q => ha H1 e _ fun H2 e2 => ⟨p, ns, rfl, sq_of ((e.trans e2) p _ h), q H2 e2⟩
theorem el_nil : EvL (tLst tNil) σ H [] := el_lst ea_nil (by decide)
theorem ev_eqN {xs : List V} (ha : EvL ta σ H xs) : Ev (tOp (rEqN K) ta (tLst tNil)) σ H (.bl xs.isEmpty) := ev_opLL ha el_nil fun p q H1 hp hq _ => rv_val fun H2 e2 Q k => ⟨p, q, xs, rfl, rfl, sq_of (e2 _ _ hp), sq_of (e2 _ _ hq), k⟩
theorem ev_neN {xs : List V} (ha : EvL ta σ H xs) : Ev (tOp (rNeN K) ta (tLst tNil)) σ H (.bl (!xs.isEmpty)) := ev_opLL ha el_nil fun p q H1 hp hq _ => rv_val fun H2 e2 Q k => ⟨p, q, xs, rfl, rfl, sq_of (e2 _ _ hp), sq_of (e2 _ _ hq), k⟩
theorem ev_eqA {p : Addr} {xs : List V} (ha : Ev ta σ H (.ref p)) (h : H p = some (.lst xs)) : Ev (tOp (rEqN K) ta (tLst tNil)) σ H (.bl xs.isEmpty) := ev_opL ha el_nil fun q H1 hq e => rv_val fun H2 e2 Q k => ⟨p, q, xs, rfl, rfl, sq_of ((e.trans e2) _ _ h), sq_of (e2 _ _ hq), k⟩
theorem ev_neA {p : Addr} {xs : List V} (ha : Ev ta σ H (.ref p)) (h : H p = some (.lst xs)) : Ev (tOp (rNeN K) ta (tLst tNil)) σ H (.bl (!xs.isEmpty)) := ev_opL ha el_nil fun q H1 hq e => rv_val fun H2 e2 Q k => ⟨p, q, xs, rfl, rfl, sq_of ((e.trans e2) _ _ h), sq_of (e2 _ _ hq), k⟩
/-- x in xs -/
theorem ev_inA {neg : Bool} {p : Addr} {x : V} {xs : List V} (ha : Ev ta σ H x) (hb : Ev tb σ H (.ref p)) (h : H p = some (.lst xs)) (hx : flatV x = true) (hf : xs.all flatV = true) : Ev (tOp (rIn K neg) ta tb) σ H (.bl (if neg then !inV x xs else inV x xs)) := ev_op ha hb (rv_inL (sq_of h) hx hf)
theorem ev_inN {neg : Bool} {x : V} {xs : List V} (ha : Ev ta σ H x) (hb : EvL tb σ H xs) (hx : flatV x = true) (hf : xs.all flatV = true) : Ev (tOp (rIn K neg) ta tb) σ H (.bl (if neg then !inV x xs else inV x xs)) := ev_opL ha hb fun p H1 h _ => rv_inL (sq_of h) hx hf
/-- a + b of lists -/
theorem el_cat {xs ys : List V} (ha : EvL ta σ H xs) (hb : EvL tb σ H ys) (hz : xs.length + ys.length ≤ 10000000) : EvL (tOp rCat ta tb) σ H (xs ++ ys) := fun H1 e Q q => ha H1 e _ fun p H2 hp e2 h2 => hb H2 (e.trans e2) _ fun p' H3 hp' e3 h3 =>
  ⟨p, p', xs, ys, rfl, rfl, e3 _ _ h2, h3, Nat.le_trans hz (by decide), fun r hr => q r _ (fresh_back (e2.trans e3) hr) ((e2.trans e3).trans (Ex.new hr)) upd_same⟩
theorem el_catA {xs ys : List V} {p : Addr} (ha : EvL ta σ H xs) (hb : Ev tb σ H (.ref p)) (h : H p = some (.lst ys)) (hz : xs.length + ys.length ≤ 10000000) : EvL (tOp rCat ta tb) σ H (xs ++ ys) := fun H1 e Q q => ha H1 e _ fun p1 H2 hp e2 h2 => hb H2 (e.trans e2) _ fun H3 e3 =>
  ⟨p1, p, xs, ys, rfl, rfl, e3 _ _ h2, ((e.trans e2).trans e3) _ _ h, Nat.le_trans hz (by decide), fun r hr => q r _ (fresh_back (e2.trans e3) hr) ((e2.trans e3).trans (Ex.new hr)) upd_same⟩
theorem el_catAL {xs ys : List V} {p : Addr} (ha : Ev ta σ H (.ref p)) (h : H p = some (.lst xs)) (hb : EvL tb σ H ys) (hz : xs.length + ys.length ≤ 10000000) : EvL (tOp rCat ta tb) σ H (xs ++ ys) := fun H1 e Q q => ha H1 e _ fun H2 e2 => hb H2 (e.trans e2) _ fun p' H3 hp' e3 h3 =>
  ⟨p, p', xs, ys, rfl, rfl, ((e.trans e2).trans e3) _ _ h, h3, Nat.le_trans hz (by decide), fun r hr => q r _ (fresh_back (e2.trans e3) hr) ((e2.trans e3).trans (Ex.new hr)) upd_same⟩
theorem el_catAA {xs ys : List V} {p p' : Addr} (ha : Ev ta σ H (.ref p)) (h : H p = some (.lst xs)) (hb : Ev tb σ H (.ref p')) (h' : H p' = some (.lst ys)) (hz : xs.length + ys.length ≤ 10000000) : EvL (tOp rCat ta tb) σ H (xs ++ ys) := fun H1 e Q q => ha H1 e _ fun H2 e2 => hb H2 (e.trans e2) _ fun H3 e3 =>
  ⟨p, p', xs, ys, rfl, rfl, ((e.trans e2).trans e3) _ _ h, ((e.trans e2).trans e3) _ _ h', Nat.le_trans hz (by decide), fun r hr => q r _ (fresh_back (e2.trans e3) hr) ((e2.trans e3).trans (Ex.new hr)) upd_same⟩
/-- a + b, b a described list -/
theorem el_catP {xs ys : List V} (ha : EvL ta σ H xs) (hb : EvP tb σ H (isL ys)) (hz : xs.length + ys.length ≤ 10000000) : EvL (tOp rCat ta tb) σ H (xs ++ ys) := fun H1 e Q q => ha H1 e _ fun p H2 hp e2 h2 => hb H2 (e.trans e2) _ fun v H3 e3 ⟨p', ev, h3⟩ => by
  subst ev
  exact ⟨p, p', xs, ys, rfl, rfl, e3 _ _ h2, h3, Nat.le_trans hz (by decide), fun r hr => q r _ (fresh_back (e2.trans e3) hr) ((e2.trans e3).trans (Ex.new hr)) upd_same⟩
/-- [x] * n -/
theorem el_rep {x : V} {n : Int} (ha : EvL ta σ H [x]) (hb : Ev tb σ H (.int n)) (hn : -1000 ≤ n ∧ n ≤ 1000) : EvL (tOp rRep ta tb) σ H (List.replicate n.toNat x) := fun H1 e Q q => ha H1 e _ fun p H2 hp e2 h2 => hb H2 (e.trans e2) _ fun H3 e3 =>
  ⟨p, n, [x], rfl, rfl, e3 _ _ h2, by omega, by omega, by show 1 * n.toNat ≤ sizeLine; exact Nat.le_trans (show 1 * n.toNat ≤ 1000 by omega) (by decide), fun r hr => q r _ (fresh_back (e2.trans e3) hr) ((e2.trans e3).trans (Ex.new hr)) (by
    rw [upd_same]
    congr 2
    generalize n.toNat = m
    induction m with
    | zero => rfl
    | succ m ih => rw [List.replicate_succ, List.replicate_succ, List.flatten_cons, ih]; rfl)⟩
/-- list(xs) -/
theorem el_listA {p : Addr} {xs : List V} (ha : Ev ta σ H (.ref p)) (h : H p = some (.lst xs)) : EvL (tCB (rListS K) (tCons ta tNil)) σ H xs := el_list ha (sq_of h)
theorem el_listT {xs : List V} (ha : EvP ta σ H (isT K xs)) : EvL (tCB (rListS K) (tCons ta tNil)) σ H xs := fun H1 e Q q => ha H1 e _ fun v H2 e2 ⟨p, ev, h2⟩ => by
  subst ev
  exact ⟨p, xs, rfl, Or.inr h2, fun l hl => q l _ (fresh_back e2 hl) (e2.trans (Ex.new hl)) upd_same⟩
theorem ev_int1 {b : Bool} (ha : Ev ta σ H (.bl b)) : Ev (tCB rInt1 (tCons ta tNil)) σ H (.int (if b then 1 else 0)) := fun H1 e Q q => ha H1 e _ fun H2 e2 => .inr ⟨b, rfl, q H2 e2⟩
theorem ev_lenD {kvs : List (Key × V)} (ha : Ev ta σ H (.ref a)) (h : H a = some (.dK kvs)) : Ev (tCB rLenD (tCons ta tNil)) σ H (.int (kvs.length : Nat)) := fun H1 e Q q => ha H1 e _ fun H2 e2 => ⟨a, kvs, rfl, (e.trans e2) _ _ h, q H2 e2⟩
/-- a call's value -/
theorem ev_meth {C : Addr} {m : Str} {sp : Sp} {fs : List (Str × V)} {t : TA} {vs : List V} {E : XK} (ho : Ev ta σ H (.ref a)) (hi : Ins H a C fs) (hl : fs.lookup m = none) (h : EvA t σ H vs) (hs : SpP sp (.ref a :: (vs ++ [])) H (isV v)) : Ev (tMeth C m sp [] E ta t) σ H v :=
  (evp_meth ho hi hl h hs).val fun _ _ e => e
theorem ev_f {sp : Sp} {t : TA} {vs : List V} {E : XK} (h : EvA t σ H vs) (hs : SpP sp (vs ++ []) H (isV v)) : Ev (tCall sp [] E t) σ H v := (evp_call h hs).val fun _ _ e => e
end
end TB
namespace TBM
/-! ### fractions -/
/-- the program's loop: the greatest common divisor -/
theorem gcd_step (a b : Nat) : Nat.gcd a b = Nat.gcd b (a % b) := by
  rw [Nat.gcd_comm, Nat.gcd_rec, Nat.gcd_comm]

/-- what fraction(top, bottom) hands back: the lowest terms of top / bottom -/
theorem frac_num (t b : Nat) (hb : b ≠ 0) : (((t : Nat) : Rat) / ((b : Nat) : Rat)).num = ((t / Nat.gcd t b : Nat) : Int) := by
  have e : ((t : Nat) : Rat) / ((b : Nat) : Rat) = mkRat (t : Int) b := by
    rw [Rat.mkRat_eq_div]; rfl
  rw [e, Rat.num_mkRat, if_neg hb]
  rw [Int.natAbs_natCast, Nat.gcd_comm]
  rfl
theorem frac_den (t b : Nat) (hb : b ≠ 0) : (((t : Nat) : Rat) / ((b : Nat) : Rat)).den = b / Nat.gcd t b := by
  have e : ((t : Nat) : Rat) / ((b : Nat) : Rat) = mkRat (t : Int) b := by
    rw [Rat.mkRat_eq_div]; rfl
  rw [e, Rat.den_mkRat, if_neg hb]
  rw [Int.natAbs_natCast, Nat.gcd_comm]
/-- a fraction from 0 on by its parts -/
theorem rat_parts (q : Rat) (h : 0 ≤ q) : q = ((q.num.toNat : Nat) : Rat) / ((q.den : Nat) : Rat) := by
  have h1 : 0 ≤ q.num := Rat.num_nonneg.mpr h
  have e : ((q.num.toNat : Nat) : Int) = q.num := Int.toNat_of_nonneg h1
  have e2 : ((q.num.toNat : Nat) : Rat) = ((q.num : Int) : Rat) := by
    rw [← e]; rfl
  rw [e2, ← Rat.mkRat_eq_div, Rat.mkRat_self]
theorem cast_add (a b : Nat) : (((a + b : Nat)) : Rat) = (a : Rat) + (b : Rat) := by
  grind
theorem cast_mul (a b : Nat) : (((a * b : Nat)) : Rat) = (a : Rat) * (b : Rat) := by
  grind
theorem cast_pos {a : Nat} (h : 0 < a) : (0 : Rat) < (a : Rat) := Rat.natCast_pos.mpr h
theorem cast_ne {a : Nat} (h : 0 < a) : (a : Rat) ≠ 0 := Rat.ne_of_gt (cast_pos h)
theorem plus_eq (a b c d : Nat) (hb : 0 < b) (hd : 0 < d) : ((a : Nat) : Rat) / (b : Rat) + (c : Rat) / (d : Rat) = ((a * d + c * b : Nat) : Rat) / ((b * d : Nat) : Rat) := by
  have h1 := cast_ne hb
  have h2 := cast_ne hd
  rw [cast_add, cast_mul, cast_mul, cast_mul]
  grind
theorem times_eq (a b c d : Nat) (hb : 0 < b) (hd : 0 < d) : ((a : Nat) : Rat) / (b : Rat) * ((c : Rat) / (d : Rat)) = ((a * c : Nat) : Rat) / ((b * d : Nat) : Rat) := by
  have h1 := cast_ne hb
  have h2 := cast_ne hd
  rw [cast_mul, cast_mul]
  grind
theorem lt_eq (p q : Rat) : (p < q) ↔ p.num * q.den < q.num * p.den := Rat.lt_iff p q
/-- rounded -/
theorem round_eq (q : Rat) : Amounts.roundNearest q = (2 * q.num + (q.den : Int)) / (2 * (q.den : Int)) := by
  have hd : (0 : Int) < (q.den : Int) := by have := q.den_pos; omega
  have hd2 : (0 : Int) < 2 * (q.den : Int) := by omega
  have hq0 : ((q.den : Int) : Rat) ≠ 0 := by
    have := q.den_pos
    exact Rat.ne_of_gt (Rat.intCast_pos.mpr hd)
  have e : q + 1 / 2 = ((2 * q.num + (q.den : Int) : Int) : Rat) / ((2 * (q.den : Int) : Int) : Rat) := by
    have e1 : q = ((q.num : Int) : Rat) / ((q.den : Int) : Rat) := by
      have := Rat.mkRat_self q
      rw [Rat.mkRat_eq_div] at this
      exact this.symm
    have e2 : q * ((q.den : Int) : Rat) = ((q.num : Int) : Rat) := by
      conv => lhs; lhs; rw [e1]
      exact Rat.div_mul_cancel hq0
    have e3 : ((2 * q.num + (q.den : Int) : Int) : Rat) = 2 * ((q.num : Int) : Rat) + ((q.den : Int) : Rat) := by
      grind
    have e4 : ((2 * (q.den : Int) : Int) : Rat) = 2 * ((q.den : Int) : Rat) := by grind
    rw [e3, e4, ← e2]
    grind
  unfold Amounts.roundNearest
  rw [e]
  generalize 2 * q.num + (q.den : Int) = n at *
  generalize hm : 2 * (q.den : Int) = m at *
  have hmR : (0 : Rat) < ((m : Int) : Rat) := Rat.intCast_pos.mpr hd2
  have key : ∀ x : Int, x ≤ (((n : Int) : Rat) / ((m : Int) : Rat)).floor ↔ x ≤ n / m := by
    intro x
    rw [Rat.le_floor_iff, Int.le_ediv_iff_mul_le hd2]
    rw [← Rat.not_lt, Rat.div_lt_iff hmR, Rat.not_lt]
    have : ((x : Int) : Rat) * ((m : Int) : Rat) = ((x * m : Int) : Rat) := by grind
    rw [this, Rat.intCast_le_intCast]
  have h1 := (key _).mp (Int.le_refl _)
  have h2 := (key _).mpr (Int.le_refl _)
  omega
/-- a fraction from 0 on whose parts lie below 2 ^ n -/
def Bd (n : Nat) (q : Rat) : Prop := ∃ a b : Nat, q = (a : Rat) / (b : Rat) ∧ q.num = (a : Int) ∧ q.den = b ∧ 0 < b ∧ a < 2 ^ n ∧ b < 2 ^ n
/-- m / D in lowest terms has no greater parts -/
theorem parts_le (m D : Nat) (hD : 0 < D) : ∃ a b : Nat, (m : Rat) / (D : Rat) = (a : Rat) / (b : Rat) ∧ ((m : Rat) / (D : Rat)).num = (a : Int) ∧ ((m : Rat) / (D : Rat)).den = b ∧ 0 < b ∧ a ≤ m ∧ b ≤ D := by
  have hg : 0 < Nat.gcd m D := Nat.gcd_pos_of_pos_right _ hD
  refine ⟨m / Nat.gcd m D, D / Nat.gcd m D, ?_, frac_num m D (by omega), frac_den m D (by omega), Nat.div_pos (Nat.gcd_le_right _ hD) hg, Nat.div_le_self _ _, Nat.div_le_self _ _⟩
  have h0 : 0 ≤ (m : Rat) / (D : Rat) := by
    have : (m : Rat) / (D : Rat) = mkRat (m : Int) D := by rw [Rat.mkRat_eq_div]; rfl
    rw [this, ← Rat.divInt_ofNat]
    exact Rat.divInt_nonneg (by omega) (by omega)
  have e := rat_parts _ h0
  rw [frac_num m D (by omega), frac_den m D (by omega)] at e
  exact e
theorem bd_of (m D n : Nat) (hD : 0 < D) (hm : m < 2 ^ n) (hD2 : D < 2 ^ n) : Bd n ((m : Rat) / (D : Rat)) := by
  obtain ⟨a, b, e, e1, e2, hb, h1, h2⟩ := parts_le m D hD
  exact ⟨a, b, e, e1, e2, hb, Nat.lt_of_le_of_lt h1 hm, Nat.lt_of_le_of_lt h2 hD2⟩
theorem Bd.mono {n k : Nat} {q : Rat} (h : Bd n q) (hk : n ≤ k) : Bd k q := by
  obtain ⟨a, b, e, e1, e2, hb, h1, h2⟩ := h
  have : 2 ^ n ≤ 2 ^ k := Nat.pow_le_pow_right (by decide) hk
  exact ⟨a, b, e, e1, e2, hb, Nat.lt_of_lt_of_le h1 this, Nat.lt_of_lt_of_le h2 this⟩
theorem Bd.nonneg {n : Nat} {q : Rat} (h : Bd n q) : 0 ≤ q := by
  obtain ⟨a, b, e, e1, e2, hb, h1, h2⟩ := h
  rw [← Rat.num_nonneg, e1]
  omega
theorem bd_nat (a n : Nat) (h : a < 2 ^ n) (h1 : 1 < 2 ^ n) : Bd n (a : Rat) := by
  have : (a : Rat) = (a : Rat) / ((1 : Nat) : Rat) := by grind
  rw [this]
  exact bd_of a 1 n (by decide) h h1
end TBM
/-! # Plain laws: sales -/
namespace TBM
open TimberAuction Amounts
/-! ### bounds -/
structure WLot (l : Lot) : Prop where
  res : l.reserve ≤ 1000000000
  len : l.volumes.length = 10
  vol : ∀ x ∈ l.volumes, x ≤ 1000000
structure WBid (n : Nat) (b : Bid) : Prop where
  llen : b.lots.length ≤ 10
  lnd : b.lots.Nodup
  lots : ∀ x ∈ b.lots, x < n
  plen : b.prices.length = 10
  prices : ∀ x ∈ b.prices, x ≤ 1000000
  blen : 1 ≤ b.bidders.length ∧ b.bidders.length ≤ 4
  bid : ∀ x ∈ b.bidders, x.1 ≤ 15 ∧ 1 ≤ x.2 ∧ x.2 ≤ 1000
  bnd : (b.bidders.map (·.1)).Nodup
structure WSale (S : Sale) : Prop where
  cd : S.closingDay ≤ 99999
  ru : S.rule ≤ 1
  ad : S.advance ≤ 1000
  nlots : S.lots.length ≤ 10
  lots : ∀ l ∈ S.lots, WLot l
  nbids : S.bids.length ≤ 12
  bids : ∀ b ∈ S.bids, WBid S.lots.length b
  nlim : S.limits.length = 16
  lim : ∀ x ∈ S.limits, x ≤ 12
/-! ### sums -/
theorem sum_eq : ∀ l : List Nat, sum l = l.sum
  | [] => rfl
  | a :: l => by
    show a + sum l = _
    rw [sum_eq l, List.sum_cons]
theorem sum_int : ∀ l : List Nat, (l.map fun n : Nat => (n : Int)).sum = ((l.sum : Nat) : Int)
  | [] => rfl
  | a :: l => by
    rw [List.map_cons, List.sum_cons, List.sum_cons, sum_int l]
    omega
theorem sumInt_eq : ∀ l : List Int, sumInt l = l.sum
  | [] => rfl
  | a :: l => by
    show a + sumInt l = _
    rw [sumInt_eq l, List.sum_cons]
theorem byGrade_nil : byGrade [] = List.replicate 10 0 := by decide
theorem byGrade_length (l : List Nat) : (byGrade l).length = 10 := by unfold byGrade; simp [gradeCount]
theorem add_zip {a b : List Nat} (ha : a.length = 10) (hb : b.length = 10) : addByGrade a b = List.zipWith (· + ·) a b := by
  refine List.ext_getElem (by simp [addByGrade, gradeCount, ha, hb]) fun i h1 h2 => ?_
  have hi : i < 10 := by simpa [addByGrade, gradeCount] using h1
  simp [addByGrade, List.getD_eq_getElem?_getD, List.getElem?_eq_getElem (show i < a.length by omega), List.getElem?_eq_getElem (show i < b.length by omega)]
theorem zip_length {a b : List Nat} (ha : a.length = 10) (hb : b.length = 10) : (List.zipWith (· + ·) a b).length = 10 := by simp [ha, hb]
theorem zip_zero {a : List Nat} (ha : a.length = 10) : List.zipWith (· + ·) a (List.replicate 10 0) = a := by
  refine List.ext_getElem (by simp [ha]) fun i h1 h2 => ?_
  rw [List.getElem_zipWith, List.getElem_replicate]
  omega
theorem zip_assoc {a b c : List Nat} (ha : a.length = 10) (hb : b.length = 10) (hc : c.length = 10) : List.zipWith (· + ·) (List.zipWith (· + ·) a b) c = List.zipWith (· + ·) a (List.zipWith (· + ·) b c) := by
  refine List.ext_getElem (by simp [ha, hb, hc]) fun i h1 h2 => ?_
  simp [Nat.add_assoc]
def addAll (vs : List (List Nat)) : List Nat := vs.foldr addByGrade (byGrade [])
theorem addAll_length : ∀ (vs : List (List Nat)), (addAll vs).length = 10
  | [] => byGrade_length []
  | v :: vs => by
    show (addByGrade v (addAll vs)).length = 10
    simp [addByGrade, gradeCount]
theorem fold_zip : ∀ (vs : List (List Nat)) (acc : List Nat), acc.length = 10 → (∀ v ∈ vs, v.length = 10) → vs.foldl (fun a v => List.zipWith (· + ·) a v) acc = List.zipWith (· + ·) acc (addAll vs)
  | [], acc, ha, _ => by
    show acc = _
    rw [addAll, List.foldr_nil, byGrade_nil, zip_zero ha]
  | v :: vs, acc, ha, h => by
    have hv := h v List.mem_cons_self
    rw [List.foldl_cons, fold_zip vs _ (zip_length ha hv) fun x hx => h x (List.mem_cons_of_mem _ hx)]
    show _ = List.zipWith (· + ·) acc (addByGrade v (addAll vs))
    rw [add_zip hv (addAll_length vs), zip_assoc ha hv (addAll_length vs)]
theorem zip_zero_left {a : List Nat} (ha : a.length = 10) : List.zipWith (· + ·) (List.replicate 10 0) a = a := by
  refine List.ext_getElem (by simp [ha]) fun i h1 h2 => ?_
  rw [List.getElem_zipWith, List.getElem_replicate]
  omega
/-- the lot of a number -/
def lotOf (lots : List Lot) (n : Nat) : Lot := lots.getD n ⟨0, []⟩
theorem filterMap_lots : ∀ {lots : List Lot} {ns : List Nat}, (∀ n ∈ ns, n < lots.length) → ns.filterMap (fun n => lots[n]?) = ns.map (lotOf lots)
  | _, [], _ => rfl
  | lots, n :: ns, h => by
    have hn := h n List.mem_cons_self
    rw [List.filterMap_cons, List.getElem?_eq_getElem hn, List.map_cons, filterMap_lots fun x hx => h x (List.mem_cons_of_mem _ hx)]
    simp [lotOf, List.getD_eq_getElem?_getD, List.getElem?_eq_getElem hn]
theorem total_eq {lots : List Lot} {ns : List Nat} (h : ∀ n ∈ ns, n < lots.length) : totalVolumes lots ns = addAll (ns.map fun n => (lotOf lots n).volumes) := by
  unfold totalVolumes
  rw [filterMap_lots h, List.foldr_map]
  unfold addAll
  rw [List.foldr_map]
/-- what the program's loop makes of a bid's lots -/
def volFold (lots : List Lot) (ns : List Nat) : List Nat := ns.foldl (fun a n => List.zipWith (· + ·) a (lotOf lots n).volumes) (List.replicate 10 0)
theorem volFold_snoc {lots : List Lot} {ns : List Nat} {n : Nat} : volFold lots (ns ++ [n]) = List.zipWith (· + ·) (volFold lots ns) (lotOf lots n).volumes := by
  unfold volFold
  rw [List.foldl_append, List.foldl_cons, List.foldl_nil]
theorem volFold_eq {lots : List Lot} {ns : List Nat} (h : ∀ n ∈ ns, n < lots.length) (hl : ∀ l ∈ lots, l.volumes.length = 10) : volFold lots ns = totalVolumes lots ns := by
  have hv : ∀ v ∈ ns.map (fun n => (lotOf lots n).volumes), v.length = 10 := fun v hv => by
    obtain ⟨n, hn, rfl⟩ := List.mem_map.mp hv
    have := h n hn
    simp only [lotOf, List.getD_eq_getElem?_getD, List.getElem?_eq_getElem this, Option.getD_some]
    exact hl _ (List.getElem_mem this)
  rw [total_eq h]
  have := fold_zip _ (List.replicate 10 0) (by simp) hv
  rw [zip_zero_left (addAll_length _)] at this
  rw [← this, volFold, List.foldl_map]
theorem volFold_length : ∀ {lots : List Lot} {ns : List Nat}, (∀ n ∈ ns, n < lots.length) → (∀ l ∈ lots, l.volumes.length = 10) → (volFold lots ns).length = 10 := fun {lots ns} h hl => by
  rw [volFold_eq h hl, total_eq h, addAll_length]
theorem total_length {lots : List Lot} {ns : List Nat} : (totalVolumes lots ns).length = 10 := by
  unfold totalVolumes
  cases ns.filterMap (fun n => lots[n]?) with
  | nil => exact byGrade_length []
  | cons a l => simp [addByGrade, gradeCount]
theorem value_sum {vs ps : List Nat} (hv : vs.length = 10) (hp : ps.length = 10) : ((vs.zip ps).map fun y => (y.1 : Int) * (y.2 : Int)).sum = ((valueOf vs ps : Nat) : Int) := by
  unfold valueOf
  rw [sum_eq, ← sum_int]
  congr 1
  rw [List.map_map]
  refine List.ext_getElem (by simp [hv, hp, gradeCount]) fun i h1 h2 => ?_
  have hi : i < 10 := by simpa [gradeCount] using h2
  simp [List.getD_eq_getElem?_getD, List.getElem?_eq_getElem (show i < vs.length by omega), List.getElem?_eq_getElem (show i < ps.length by omega)]
/-! ### how great -/
theorem sum_le {l : List Nat} {B : Nat} (h : ∀ x ∈ l, x ≤ B) : l.sum ≤ l.length * B := by
  induction l with
  | nil => simp
  | cons a l ih =>
    rw [List.sum_cons, List.length_cons, Nat.add_mul, Nat.one_mul]
    have h1 := h a List.mem_cons_self
    have h2 := ih fun x hx => h x (List.mem_cons_of_mem _ hx)
    omega
theorem addAll_le : ∀ {vs : List (List Nat)} {B : Nat}, (∀ v ∈ vs, ∀ x ∈ v, x ≤ B) → ∀ x ∈ addAll vs, x ≤ vs.length * B
  | [], B, _, x, hx => by
    have : x ∈ byGrade [] := hx
    rw [byGrade_nil] at this
    have := (List.mem_replicate.mp this).2
    omega
  | v :: vs, B, h, x, hx => by
    have hx : x ∈ addByGrade v (addAll vs) := hx
    unfold addByGrade at hx
    obtain ⟨g, _, rfl⟩ := List.mem_map.mp hx
    have h1 : v.getD g 0 ≤ B := by
      rw [List.getD_eq_getElem?_getD]
      cases e : v[g]? with
      | none => simp
      | some y => exact h v List.mem_cons_self y (List.mem_of_getElem? e)
    have h2 : (addAll vs).getD g 0 ≤ vs.length * B := by
      rw [List.getD_eq_getElem?_getD]
      cases e : (addAll vs)[g]? with
      | none => simp
      | some y => exact addAll_le (fun v hv => h v (List.mem_cons_of_mem _ hv)) y (List.mem_of_getElem? e)
    rw [List.length_cons, Nat.add_mul, Nat.one_mul]
    omega
theorem total_le {S : Sale} {b : Bid} (hS : WSale S) (hb : WBid S.lots.length b) : ∀ x ∈ totalVolumes S.lots b.lots, x ≤ 10000000 := fun x hx => by
  rw [total_eq hb.lots] at hx
  have := addAll_le (B := 1000000) (fun v hv y hy => by
    obtain ⟨n, hn, rfl⟩ := List.mem_map.mp hv
    have hn := hb.lots n hn
    simp only [lotOf, List.getD_eq_getElem?_getD, List.getElem?_eq_getElem hn, Option.getD_some] at hy
    exact (hS.lots _ (List.getElem_mem hn)).vol y hy) x hx
  rw [List.length_map] at this
  have := hb.llen
  omega
theorem valueOf_le {vs ps : List Nat} {B C : Nat} (hv : ∀ x ∈ vs, x ≤ B) (hp : ∀ x ∈ ps, x ≤ C) : valueOf vs ps ≤ 10 * (B * C) := by
  unfold valueOf
  rw [sum_eq]
  refine Nat.le_trans (sum_le (B := B * C) fun x hx => ?_) (by simp [gradeCount])
  obtain ⟨g, _, rfl⟩ := List.mem_map.mp hx
  refine Nat.mul_le_mul ?_ ?_
  · rw [List.getD_eq_getElem?_getD]
    cases e : vs[g]? with
    | none => simp
    | some y => exact hv y (List.mem_of_getElem? e)
  · rw [List.getD_eq_getElem?_getD]
    cases e : ps[g]? with
    | none => simp
    | some y => exact hp y (List.mem_of_getElem? e)
theorem value_le {S : Sale} {b : Bid} (hS : WSale S) (hb : WBid S.lots.length b) : S.value b ≤ 100000000000000 :=
  Nat.le_trans (valueOf_le (total_le hS hb) hb.prices) (by decide)
theorem reserve_eq {S : Sale} {b : Bid} (hb : WBid S.lots.length b) : S.reserve b = 1000 * (b.lots.map fun n => (lotOf S.lots n).reserve).sum := by
  unfold Sale.reserve
  rw [filterMap_lots hb.lots, sum_eq, List.map_map]
  rfl
end TBM
/-! # Plain laws: selections -/
namespace TBM
open TimberAuction Amounts
/-! ### the program's rows, told by their numbers -/
def lotsOf (S : Sale) (ns : List Nat) : List Nat := ns.flatMap fun n => (S.bid n).lots
def countsOf (S : Sale) (ns : List Nat) : List Nat := (List.range 16).map fun b => S.bidsWithBidder ns b
def fits (S : Sale) (ns : List Nat) (n : Nat) : Bool :=
  ((S.bid n).lots.filter fun l => (lotsOf S ns).contains l).isEmpty && (((S.bid n).bidders.map (·.1)).filter fun b => decide (S.limits.getD b 0 ≤ S.bidsWithBidder ns b)).isEmpty
def cond (S : Sale) (wo : Option Nat) (n : Nat) : Bool := decide (some n ≠ wo) && S.isAdmissible (S.bid n)
def sel (S : Sale) (wo : Option Nat) : Nat → List (List Nat)
  | 0 => [[]]
  | n + 1 => if cond S wo n = true then sel S wo n ++ ((sel S wo n).filter fun ns => fits S ns n).map fun ns => ns ++ [n] else sel S wo n
theorem sel_length (S : Sale) (wo : Option Nat) : ∀ n, (sel S wo n).length ≤ 2 ^ n
  | 0 => Nat.le_refl 1
  | n + 1 => by
    have ih := sel_length S wo n
    rw [sel]
    split
    · rw [List.length_append, List.length_map, Nat.pow_succ]
      have := List.length_filter_le (fun ns => fits S ns n) (sel S wo n)
      omega
    · rw [Nat.pow_succ]; omega
theorem sel_lt (S : Sale) (wo : Option Nat) : ∀ n, ∀ ns ∈ sel S wo n, (∀ m ∈ ns, m < n) ∧ ns.length ≤ n
  | 0, ns, h => by
    have : ns = [] := by simpa [sel] using h
    subst this
    exact ⟨fun m hm => by simp at hm, Nat.le_refl 0⟩
  | n + 1, ns, h => by
    rw [sel] at h
    have old : ns ∈ sel S wo n → (∀ m ∈ ns, m < n + 1) ∧ ns.length ≤ n + 1 := fun h => by
      have := sel_lt S wo n ns h
      exact ⟨fun m hm => Nat.lt_succ_of_lt (this.1 m hm), Nat.le_succ_of_le this.2⟩
    split at h
    · rcases List.mem_append.mp h with h | h
      · exact old h
      · obtain ⟨l, hl, rfl⟩ := List.mem_map.mp h
        have := sel_lt S wo n l (List.mem_filter.mp hl).1
        refine ⟨fun m hm => ?_, by rw [List.length_append]; simp; omega⟩
        rcases List.mem_append.mp hm with hm | hm
        · exact Nat.lt_succ_of_lt (this.1 m hm)
        · have : m = n := by simpa using hm
          omega
    · exact old h
theorem nil_mem (S : Sale) (wo : Option Nat) : ∀ n, [] ∈ sel S wo n
  | 0 => by simp [sel]
  | n + 1 => by
    rw [sel]
    split
    · exact List.mem_append_left _ (nil_mem S wo n)
    · exact nil_mem S wo n
/-! ### one bid more -/
theorem lotsOf_snoc {S : Sale} {ns : List Nat} {n : Nat} : lotsOf S (ns ++ [n]) = lotsOf S ns ++ (S.bid n).lots := by
  unfold lotsOf
  rw [List.flatMap_append]
  simp
theorem bidder_snoc {S : Sale} {ns : List Nat} {n b : Nat} : S.bidsWithBidder (ns ++ [n]) b = S.bidsWithBidder ns b + if hasBidder (S.bid n) b then 1 else 0 := by
  unfold Sale.bidsWithBidder
  rw [List.filter_append, List.length_append, List.filter_cons]
  split <;> simp
theorem lot_snoc {S : Sale} {ns : List Nat} {n l : Nat} : S.bidsWithLot (ns ++ [n]) l = S.bidsWithLot ns l + if (S.bid n).lots.contains l then 1 else 0 := by
  unfold Sale.bidsWithLot
  rw [List.filter_append, List.length_append, List.filter_cons]
  split <;> simp
theorem total_snoc {S : Sale} {ns : List Nat} {n : Nat} : S.totalValue (ns ++ [n]) = S.totalValue ns + S.value (S.bid n) := by
  unfold Sale.totalValue
  rw [sum_eq, sum_eq, List.map_append, List.sum_append]
  simp
theorem hasBidder_iff {b : Bid} {x : Nat} : hasBidder b x = true ↔ x ∈ b.bidders.map (·.1) := by
  unfold hasBidder
  rw [List.any_eq_true, List.mem_map]
  constructor
  · rintro ⟨e, he, h⟩
    exact ⟨e, he, by simpa using h⟩
  · rintro ⟨e, he, h⟩
    exact ⟨e, he, by simpa using h⟩
/-- no violation, said plainly -/
theorem viol_none {S : Sale} {ns : List Nat} : S.violation ns = none ↔ (∀ n ∈ ns, S.isAdmissible (S.bid n) = true) ∧ (∀ l, l < S.lots.length → S.bidsWithLot ns l ≤ 1) ∧ ∀ b, b < 16 → S.bidsWithBidder ns b ≤ S.limits.getD b 0 := by
  unfold Sale.violation
  constructor
  · intro h
    split at h
    · cases h
    · rename_i h1
      split at h
      · cases h
      · rename_i h2
        rw [Option.map_eq_none_iff] at h
        refine ⟨fun n hn => ?_, fun l hl => ?_, fun b hb => ?_⟩
        · have := List.find?_eq_none.mp h1 n hn
          simpa using this
        · have := List.find?_eq_none.mp h2 l (List.mem_range.mpr hl)
          simpa using this
        · have := List.find?_eq_none.mp h b (List.mem_range.mpr hb)
          simpa using this
  · rintro ⟨h1, h2, h3⟩
    have e1 : ns.find? (fun n => !S.isAdmissible (S.bid n)) = none := List.find?_eq_none.mpr fun n hn => by simp [h1 n hn]
    have e2 : (List.range S.lots.length).find? (fun l => decide (1 < S.bidsWithLot ns l)) = none := List.find?_eq_none.mpr fun l hl => by
      have := h2 l (List.mem_range.mp hl)
      simp
      omega
    have e3 : (List.range 16).find? (fun b => decide (S.limits.getD b 0 < S.bidsWithBidder ns b)) = none := List.find?_eq_none.mpr fun b hb => by
      have := h3 b (List.mem_range.mp hb)
      simp only [decide_eq_true_eq]
      omega
    rw [e1]
    simp only
    rw [e2]
    simp only
    rw [e3]
    rfl
theorem viol_nil (S : Sale) : S.violation [] = none := viol_none.mpr ⟨fun n hn => by simp at hn, fun l _ => by simp [Sale.bidsWithLot], fun b _ => by simp [Sale.bidsWithBidder]⟩
theorem lot_pos {S : Sale} {ns : List Nat} {l : Nat} : 0 < S.bidsWithLot ns l ↔ l ∈ lotsOf S ns := by
  unfold Sale.bidsWithLot lotsOf
  rw [List.length_pos_iff_exists_mem, List.mem_flatMap]
  constructor
  · rintro ⟨n, hn⟩
    have := List.mem_filter.mp hn
    exact ⟨n, this.1, by simpa using this.2⟩
  · rintro ⟨n, hn, h⟩
    exact ⟨n, List.mem_filter.mpr ⟨hn, by simpa using h⟩⟩
theorem fits_iff {S : Sale} {ns : List Nat} {n : Nat} : fits S ns n = true ↔ (∀ l ∈ (S.bid n).lots, ¬ l ∈ lotsOf S ns) ∧ ∀ b ∈ (S.bid n).bidders.map (·.1), S.bidsWithBidder ns b < S.limits.getD b 0 := by
  unfold fits
  rw [Bool.and_eq_true, List.isEmpty_iff, List.isEmpty_iff, List.filter_eq_nil_iff, List.filter_eq_nil_iff]
  constructor
  · rintro ⟨h1, h2⟩
    exact ⟨fun l hl => by simpa using h1 l hl, fun b hb => by have := h2 b hb; simpa using this⟩
  · rintro ⟨h1, h2⟩
    exact ⟨fun l hl => by simpa using h1 l hl, fun b hb => by have := h2 b hb; simpa using this⟩
theorem viol_snoc {S : Sale} {ns : List Nat} {n : Nat} (hb : WBid S.lots.length (S.bid n)) (ha : S.isAdmissible (S.bid n) = true) : S.violation (ns ++ [n]) = none ↔ S.violation ns = none ∧ fits S ns n = true := by
  rw [viol_none, viol_none, fits_iff]
  constructor
  · rintro ⟨h1, h2, h3⟩
    refine ⟨⟨fun m hm => h1 m (List.mem_append_left _ hm), fun l hl => ?_, fun b hb => ?_⟩, fun l hl hin => ?_, fun b hbb => ?_⟩
    · have := h2 l hl
      rw [lot_snoc] at this
      omega
    · have := h3 b hb
      rw [bidder_snoc] at this
      omega
    · have h := h2 l (hb.lots l hl)
      rw [lot_snoc, if_pos (by simpa using hl)] at h
      have := lot_pos.mpr hin
      omega
    · have hlt : b < 16 := by
        obtain ⟨e, he, rfl⟩ := List.mem_map.mp hbb
        have := (hb.bid e he).1
        omega
      have h := h3 b hlt
      rw [bidder_snoc, if_pos (hasBidder_iff.mpr hbb)] at h
      omega
  · rintro ⟨⟨h1, h2, h3⟩, h4, h5⟩
    refine ⟨fun m hm => ?_, fun l hl => ?_, fun b hb => ?_⟩
    · rcases List.mem_append.mp hm with hm | hm
      · exact h1 m hm
      · have : m = n := by simpa using hm
        rw [this]; exact ha
    · rw [lot_snoc]
      by_cases h : (S.bid n).lots.contains l = true
      · have h' : l ∈ (S.bid n).lots := by simpa using h
        have : ¬ 0 < S.bidsWithLot ns l := fun z => h4 l h' (lot_pos.mp z)
        rw [if_pos h]
        omega
      · rw [if_neg h]
        exact h2 l hl
    · rw [bidder_snoc]
      by_cases h : hasBidder (S.bid n) b = true
      · have := h5 b (hasBidder_iff.mp h)
        rw [if_pos h]
        omega
      · rw [if_neg h]
        exact h3 b hb
/-! ### subsets -/
theorem mem_subsets_snoc {n : Nat} : ∀ {L l : List Nat}, l ∈ subsets (L ++ [n]) ↔ l ∈ subsets L ∨ ∃ l', l' ∈ subsets L ∧ l = l' ++ [n]
  | [], l => by
    simp [subsets]
    exact Or.comm
  | a :: L, l => by
    show l ∈ (subsets (L ++ [n])).map (fun s => a :: s) ++ subsets (L ++ [n]) ↔ l ∈ (subsets L).map (fun s => a :: s) ++ subsets L ∨ ∃ l', l' ∈ (subsets L).map (fun s => a :: s) ++ subsets L ∧ l = l' ++ [n]
    rw [List.mem_append, List.mem_append, List.mem_map, List.mem_map]
    constructor
    · rintro (⟨s, hs, rfl⟩ | h)
      · rcases mem_subsets_snoc.mp hs with h | ⟨l', h, rfl⟩
        · exact .inl (.inl ⟨s, h, rfl⟩)
        · exact .inr ⟨a :: l', List.mem_append_left _ (List.mem_map.mpr ⟨l', h, rfl⟩), rfl⟩
      · rcases mem_subsets_snoc.mp h with h2 | ⟨l', h2, rfl⟩
        · exact .inl (.inr h2)
        · exact .inr ⟨l', List.mem_append_right _ h2, rfl⟩
    · rintro ((⟨s, hs, rfl⟩ | h) | ⟨l', h, rfl⟩)
      · exact .inl ⟨s, mem_subsets_snoc.mpr (.inl hs), rfl⟩
      · exact .inr (mem_subsets_snoc.mpr (.inl h))
      · rcases List.mem_append.mp h with h | h
        · obtain ⟨s, hs, rfl⟩ := List.mem_map.mp h
          exact .inl ⟨s ++ [n], mem_subsets_snoc.mpr (.inr ⟨s, hs, rfl⟩), rfl⟩
        · exact .inr (mem_subsets_snoc.mpr (.inr ⟨l', h, rfl⟩))
theorem mem_sel {S : Sale} (hW : WSale S) : ∀ {n : Nat}, n ≤ S.bids.length → ∀ {l : List Nat}, l ∈ sel S none n ↔ l ∈ subsets ((List.range n).filter fun m => S.isAdmissible (S.bid m)) ∧ S.violation l = none
  | 0, _, l => by
    show l ∈ [[]] ↔ l ∈ [[]] ∧ _
    constructor
    · intro h
      have : l = [] := by simpa using h
      subst this
      exact ⟨h, viol_nil S⟩
    · exact fun h => h.1
  | n + 1, hn, l => by
    have ih := fun {l} => mem_sel hW (n := n) (by omega) (l := l)
    have hb : WBid S.lots.length (S.bid n) := by
      have hlt : n < S.bids.length := by omega
      have : S.bid n = S.bids[n] := by simp [Sale.bid, List.getD_eq_getElem?_getD, List.getElem?_eq_getElem hlt]
      rw [this]
      exact hW.bids _ (List.getElem_mem hlt)
    rw [sel, List.range_succ, List.filter_append]
    have ec : cond S none n = S.isAdmissible (S.bid n) := by simp [cond]
    by_cases ha : S.isAdmissible (S.bid n) = true
    · rw [if_pos (by rw [ec]; exact ha), List.filter_cons, if_pos ha, List.filter_nil, mem_subsets_snoc, List.mem_append, List.mem_map]
      constructor
      · rintro (h | ⟨l', h, rfl⟩)
        · exact ⟨.inl (ih.mp h).1, (ih.mp h).2⟩
        · obtain ⟨h1, h2⟩ := List.mem_filter.mp h
          exact ⟨.inr ⟨l', (ih.mp h1).1, rfl⟩, (viol_snoc hb ha).mpr ⟨(ih.mp h1).2, h2⟩⟩
      · rintro ⟨h | ⟨l', h, rfl⟩, hv⟩
        · exact .inl (ih.mpr ⟨h, hv⟩)
        · obtain ⟨v1, v2⟩ := (viol_snoc hb ha).mp hv
          exact .inr ⟨l', List.mem_filter.mpr ⟨ih.mpr ⟨h, v1⟩, v2⟩, rfl⟩
    · rw [if_neg (by rw [ec]; exact ha), List.filter_cons, if_neg ha, List.filter_nil, List.append_nil]
      exact ih
theorem mem_selections {S : Sale} (hW : WSale S) {l : List Nat} : l ∈ S.selections ↔ l ∈ sel S none S.bids.length := by
  unfold Sale.selections
  rw [List.mem_filter, mem_sel hW (Nat.le_refl _), Option.isNone_iff_eq_none]
/-! ### the best -/
theorem lex_irrefl : ∀ l : List Nat, lexicographicallyLess l l = false
  | [] => rfl
  | a :: l => by
    simp [lexicographicallyLess, lex_irrefl l]
theorem lex_trans : ∀ {a b c : List Nat}, lexicographicallyLess a b = true → lexicographicallyLess b c = true → lexicographicallyLess a c = true
  | [], _, _, h, _ => by simp [lexicographicallyLess] at h
  | _ :: _, [], _, h, _ => by simp [lexicographicallyLess] at h
  | _ :: _, _ :: _, [], _, h => by simp [lexicographicallyLess] at h
  | x :: a, y :: b, z :: c, h1, h2 => by
    simp only [lexicographicallyLess, Bool.or_eq_true, Bool.and_eq_true, decide_eq_true_eq, beq_iff_eq] at h1 h2 ⊢
    rcases h1 with h1 | ⟨rfl, h1⟩
    · rcases h2 with h2 | ⟨rfl, h2⟩
      · exact .inl (by omega)
      · exact .inl h1
    · rcases h2 with h2 | ⟨rfl, h2⟩
      · exact .inl h2
      · exact .inr ⟨rfl, lex_trans h1 h2⟩
theorem lex_total : ∀ {a b : List Nat}, a.length = b.length → lexicographicallyLess a b = false → lexicographicallyLess b a = false → a = b
  | [], [], _, _, _ => rfl
  | [], _ :: _, h, _, _ => by simp at h
  | _ :: _, [], h, _, _ => by simp at h
  | x :: a, y :: b, h, h1, h2 => by
    simp only [lexicographicallyLess, Bool.or_eq_false_iff, Bool.and_eq_false_iff, decide_eq_false_iff_not, beq_eq_false_iff_ne] at h1 h2
    have e : x = y := by omega
    subst e
    rcases h1.2 with h1' | h1'
    · exact absurd rfl h1'
    · rcases h2.2 with h2' | h2'
      · exact absurd rfl h2'
      · rw [lex_total (by simpa using h) h1' h2']
theorem better_iff {S : Sale} {a b : List Nat} : S.isBetter a b = true ↔ S.totalValue b < S.totalValue a ∨ (S.totalValue a = S.totalValue b ∧ (a.length < b.length ∨ (a.length = b.length ∧ lexicographicallyLess a b = true))) := by
  unfold Sale.isBetter
  simp only [Bool.or_eq_true, Bool.and_eq_true, decide_eq_true_eq, beq_iff_eq]
theorem better_trans {S : Sale} {a b c : List Nat} (h1 : S.isBetter a b = true) (h2 : S.isBetter b c = true) : S.isBetter a c = true := by
  rw [better_iff] at *
  rcases h1 with h1 | ⟨e1, h1⟩
  · rcases h2 with h2 | ⟨e2, h2⟩
    · exact .inl (by omega)
    · exact .inl (by omega)
  · rcases h2 with h2 | ⟨e2, h2⟩
    · exact .inl (by omega)
    · refine .inr ⟨by omega, ?_⟩
      rcases h1 with h1 | ⟨l1, h1⟩
      · rcases h2 with h2 | ⟨l2, h2⟩
        · exact .inl (by omega)
        · exact .inl (by omega)
      · rcases h2 with h2 | ⟨l2, h2⟩
        · exact .inl (by omega)
        · exact .inr ⟨by omega, lex_trans h1 h2⟩
theorem better_total {S : Sale} {a b : List Nat} (h1 : S.isBetter a b = false) (h2 : S.isBetter b a = false) : a = b := by
  have h1 : ¬ (S.isBetter a b = true) := by rw [h1]; decide
  have h2 : ¬ (S.isBetter b a = true) := by rw [h2]; decide
  rw [better_iff] at h1 h2
  have e1 : S.totalValue a = S.totalValue b := by omega
  have e2 : a.length = b.length := by
    refine Nat.le_antisymm (Nat.not_lt.mp fun z => h2 (.inr ⟨e1.symm, .inl z⟩)) (Nat.not_lt.mp fun z => h1 (.inr ⟨e1, .inl z⟩))
  refine lex_total e2 ?_ ?_
  · exact Bool.eq_false_iff.mpr fun z => h1 (.inr ⟨e1, .inr ⟨e2, z⟩⟩)
  · exact Bool.eq_false_iff.mpr fun z => h2 (.inr ⟨e1.symm, .inr ⟨e2.symm, z⟩⟩)
theorem better_irrefl {S : Sale} (x : List Nat) : S.isBetter x x = false := by
  refine Bool.eq_false_iff.mpr fun z => ?_
  rw [better_iff] at z
  have h := lex_irrefl x
  rcases z with z | ⟨_, z | ⟨_, z⟩⟩
  · exact absurd z (Nat.lt_irrefl _)
  · exact absurd z (Nat.lt_irrefl _)
  · rw [h] at z
    cases z
def pick (S : Sale) (l : List (List Nat)) (x : List Nat) : List Nat := l.foldl (fun best c => if S.isBetter c best = true then c else best) x
theorem pick_mem (S : Sale) : ∀ (l : List (List Nat)) (x : List Nat), pick S l x = x ∨ pick S l x ∈ l
  | [], x => .inl rfl
  | c :: l, x => by
    show pick S l (if S.isBetter c x = true then c else x) = x ∨ pick S l (if S.isBetter c x = true then c else x) ∈ c :: l
    rcases pick_mem S l (if S.isBetter c x = true then c else x) with h | h
    · rw [h]
      split
      · exact .inr List.mem_cons_self
      · exact .inl rfl
    · exact .inr (List.mem_cons_of_mem _ h)
theorem pick_best (S : Sale) : ∀ (l : List (List Nat)) (x : List Nat), S.isBetter x (pick S l x) = false ∧ ∀ c ∈ l, S.isBetter c (pick S l x) = false
  | [], x => by
    refine ⟨better_irrefl x, fun c hc => by simp at hc⟩
  | c :: l, x => by
    show S.isBetter x (pick S l (if S.isBetter c x = true then c else x)) = false ∧ ∀ d ∈ c :: l, S.isBetter d (pick S l (if S.isBetter c x = true then c else x)) = false
    obtain ⟨h1, h2⟩ := pick_best S l (if S.isBetter c x = true then c else x)
    have hx : S.isBetter x (pick S l (if S.isBetter c x = true then c else x)) = false := by
      by_cases hc : S.isBetter c x = true
      · rw [if_pos hc] at h1 ⊢
        exact Bool.eq_false_iff.mpr fun z => by rw [better_trans hc z] at h1; cases h1
      · rw [if_neg hc] at h1 ⊢
        exact h1
    have hcc : S.isBetter c (pick S l (if S.isBetter c x = true then c else x)) = false := by
      by_cases hc : S.isBetter c x = true
      · rw [if_pos hc] at h1 ⊢
        exact h1
      · rw [if_neg hc] at h1 ⊢
        refine Bool.eq_false_iff.mpr fun z => ?_
        by_cases hp : pick S l x = x
        · rw [hp] at z; exact hc z
        · -- c is better than the pick, the pick is not worse than x
          cases hq : S.isBetter (pick S l x) x with
          | true => exact hc (better_trans z hq)
          | false => exact hp (better_total hq h1)
    refine ⟨hx, fun d hd => ?_⟩
    rcases List.mem_cons.mp hd with rfl | hd
    · exact hcc
    · exact h2 d hd
/-- the pick hangs on what is in the list alone -/
theorem pick_same {S : Sale} {l m : List (List Nat)} {x y : List Nat} (hx : x ∈ l) (hy : y ∈ m) (h : ∀ c, c ∈ l ↔ c ∈ m) : pick S l x = pick S m y := by
  have a := pick_best S l x
  have b := pick_best S m y
  have ma : pick S l x ∈ l := (pick_mem S l x).elim (fun e => by rw [e]; exact hx) id
  have mb : pick S m y ∈ m := (pick_mem S m y).elim (fun e => by rw [e]; exact hy) id
  exact better_total (b.2 _ ((h _).mp ma)) (a.2 _ ((h _).mpr mb))
/-- what best(without) tells -/
def bestOf (S : Sale) (wo : Option Nat) : List Nat := pick S (sel S wo S.bids.length) []
theorem best_none {S : Sale} (hW : WSale S) : bestOf S none = S.bestSelection :=
  pick_same (nil_mem S none _) ((mem_selections hW).mpr (nil_mem S none _)) fun c => (mem_selections hW).symm
/-! ### a bid withdrawn -/
theorem wd_bid {S : Sale} {k n : Nat} (hk : k < S.bids.length) : (S.withdraw k).bid n = if n = k then { S.bid k with withdrawn := true } else S.bid n := by
  unfold Sale.withdraw Sale.bid
  simp only [List.getD_eq_getElem?_getD, List.getElem?_set]
  by_cases h : k = n
  · subst h
    simp [hk]
  · rw [if_neg h, if_neg (fun z => h z.symm)]
theorem wd_lots {S : Sale} {k n : Nat} (hk : k < S.bids.length) : ((S.withdraw k).bid n).lots = (S.bid n).lots := by
  rw [wd_bid hk]; split
  · rename_i h; rw [h]
  · rfl
theorem wd_prices {S : Sale} {k n : Nat} (hk : k < S.bids.length) : ((S.withdraw k).bid n).prices = (S.bid n).prices := by
  rw [wd_bid hk]; split
  · rename_i h; rw [h]
  · rfl
theorem wd_bidders {S : Sale} {k n : Nat} (hk : k < S.bids.length) : ((S.withdraw k).bid n).bidders = (S.bid n).bidders := by
  rw [wd_bid hk]; split
  · rename_i h; rw [h]
  · rfl
theorem wd_value {S : Sale} {k n : Nat} (hk : k < S.bids.length) : (S.withdraw k).value ((S.withdraw k).bid n) = S.value (S.bid n) := by
  unfold Sale.value
  rw [wd_lots hk, wd_prices hk]
  rfl
theorem wd_total {S : Sale} {k : Nat} (hk : k < S.bids.length) (ns : List Nat) : (S.withdraw k).totalValue ns = S.totalValue ns := by
  unfold Sale.totalValue
  congr 1
  exact List.map_congr_left fun n _ => wd_value hk
theorem wd_adm {S : Sale} {k n : Nat} (hk : k < S.bids.length) : (S.withdraw k).isAdmissible ((S.withdraw k).bid n) = (decide (n ≠ k) && S.isAdmissible (S.bid n)) := by
  have hr : (S.withdraw k).reserve ((S.withdraw k).bid n) = S.reserve (S.bid n) := by
    unfold Sale.reserve
    rw [wd_lots hk]
    rfl
  unfold Sale.isAdmissible
  rw [wd_value hk, hr, wd_bid hk]
  by_cases h : n = k
  · simp [h]
  · simp [h]
theorem wd_hasBidder {S : Sale} {k n b : Nat} (hk : k < S.bids.length) : hasBidder ((S.withdraw k).bid n) b = hasBidder (S.bid n) b := by
  unfold hasBidder
  rw [wd_bidders hk]
theorem wd_count {S : Sale} {k b : Nat} (hk : k < S.bids.length) (ns : List Nat) : (S.withdraw k).bidsWithBidder ns b = S.bidsWithBidder ns b := by
  unfold Sale.bidsWithBidder
  simp only [wd_hasBidder hk]
theorem wd_fits {S : Sale} {k n : Nat} (hk : k < S.bids.length) (ns : List Nat) : fits (S.withdraw k) ns n = fits S ns n := by
  have e : lotsOf (S.withdraw k) ns = lotsOf S ns := by
    unfold lotsOf
    simp only [wd_lots hk]
  unfold fits
  simp only [wd_lots hk, wd_bidders hk, wd_count hk, e]
  rfl
theorem wd_sel {S : Sale} {k : Nat} (hk : k < S.bids.length) : ∀ n, sel (S.withdraw k) none n = sel S (some k) n
  | 0 => rfl
  | n + 1 => by
    have ec : cond (S.withdraw k) none n = cond S (some k) n := by
      unfold cond
      rw [wd_adm hk]
      simp
    rw [sel, sel, wd_sel hk n, ec]
    simp only [wd_fits hk]
theorem wd_better {S : Sale} {k : Nat} (hk : k < S.bids.length) (a b : List Nat) : (S.withdraw k).isBetter a b = S.isBetter a b := by
  unfold Sale.isBetter
  rw [wd_total hk, wd_total hk]
theorem wd_wsale {S : Sale} {k : Nat} (hW : WSale S) (hk : k < S.bids.length) : WSale (S.withdraw k) := by
  refine ⟨hW.cd, hW.ru, hW.ad, hW.nlots, hW.lots, by simpa [Sale.withdraw] using hW.nbids, fun b hb => ?_, hW.nlim, hW.lim⟩
  have hb : b ∈ S.bids.set k { S.bid k with withdrawn := true } := hb
  rcases List.mem_or_eq_of_mem_set hb with h | h
  · exact hW.bids b h
  · have hbk : S.bid k = S.bids[k] := by simp [Sale.bid, List.getD_eq_getElem?_getD, List.getElem?_eq_getElem hk]
    have w := hW.bids _ (List.getElem_mem hk)
    rw [h, hbk]
    exact ⟨w.llen, w.lnd, w.lots, w.plen, w.prices, w.blen, w.bid, w.bnd⟩
theorem best_some {S : Sale} {k : Nat} (hW : WSale S) (hk : k < S.bids.length) : bestOf S (some k) = (S.withdraw k).bestSelection := by
  rw [← best_none (wd_wsale hW hk)]
  unfold bestOf
  have e : (S.withdraw k).bids.length = S.bids.length := by simp [Sale.withdraw]
  rw [e, wd_sel hk]
  unfold pick
  simp only [wd_better hk]
theorem best_lt {S : Sale} {wo : Option Nat} : ∀ n ∈ bestOf S wo, n < S.bids.length := by
  have : bestOf S wo ∈ sel S wo S.bids.length := (pick_mem S _ _).elim (fun e => by unfold bestOf; rw [e]; exact nil_mem S wo _) id
  exact (sel_lt S wo _ _ this).1
theorem best_length {S : Sale} {wo : Option Nat} : (bestOf S wo).length ≤ S.bids.length := by
  have : bestOf S wo ∈ sel S wo S.bids.length := (pick_mem S _ _).elim (fun e => by unfold bestOf; rw [e]; exact nil_mem S wo _) id
  exact (sel_lt S wo _ _ this).2
end TBM
/-! # Plain laws: contracts and bills -/
namespace TBM
open TimberAuction Amounts
structure WCon (c : Contract) : Prop where
  vlen : c.volumes.length = 10
  vol : ∀ x ∈ c.volumes, x ≤ 10000000
  plen : c.prices.length = 10
  prices : ∀ x ∈ c.prices, x ≤ 1000000
  blen : 1 ≤ c.bidders.length ∧ c.bidders.length ≤ 4
  bid : ∀ x ∈ c.bidders, x.1 ≤ 15 ∧ 1 ≤ x.2 ∧ x.2 ≤ 1000
  adv : c.advance ≤ 1000
  fac : Bd 60 c.factor
structure WDel (n : Nat) (d : Delivery) : Prop where
  con : d.contract < n
  grade : d.grade < 10
  vol : d.volume ≤ 1000000
structure WIdx (xs : List (Nat × Nat)) : Prop where
  len : xs.length ≤ 16
  nd : (xs.map (·.1)).Nodup
  val : ∀ e ∈ xs, e.1 ≤ 99999 ∧ 1 ≤ e.2 ∧ e.2 ≤ 10000
/-! ### indexes -/
def latest (day : Nat) (l : Option (Nat × Nat)) (e : Nat × Nat) : Option (Nat × Nat) := if day < e.1 then l else match l with
  | none => some e
  | some o => if o.1 < e.1 then some e else some o
theorem latest_spec (day : Nat) : ∀ (l : List (Nat × Nat)) (acc : Option (Nat × Nat)), (∀ a, acc = some a → a.1 ≤ day) →
    ((∀ e ∈ l, day < e.1) ∧ acc = none ∧ l.foldl (latest day) acc = none) ∨ ∃ e, l.foldl (latest day) acc = some e ∧ e.1 ≤ day ∧ (acc = some e ∨ e ∈ l) ∧ (∀ x ∈ l, x.1 ≤ day → x.1 ≤ e.1) ∧ ∀ a, acc = some a → a.1 ≤ e.1
  | [], none, _ => .inl ⟨fun e he => absurd he (by simp), rfl, rfl⟩
  | [], some a, h => .inr ⟨a, rfl, h a rfl, .inl rfl, fun x hx => absurd hx (by simp), fun b hb => by cases hb; exact Nat.le_refl _⟩
  | x :: l, acc, h => by
    rw [List.foldl_cons]
    by_cases hx : day < x.1
    · have e1 : latest day acc x = acc := by unfold latest; rw [if_pos hx]
      rw [e1]
      rcases latest_spec day l acc h with ⟨h1, h2, h3⟩ | ⟨e, h1, h2, h3, h4, h5⟩
      · refine .inl ⟨fun e he => ?_, h2, h3⟩
        rcases List.mem_cons.mp he with he | he
        · rw [he]; exact hx
        · exact h1 e he
      · refine .inr ⟨e, h1, h2, h3.imp id (List.mem_cons_of_mem _), fun y hy hyd => ?_, h5⟩
        rcases List.mem_cons.mp hy with hy | hy
        · rw [hy] at hyd; omega
        · exact h4 y hy hyd
    · have e1 : ∃ a, latest day acc x = some a ∧ a.1 ≤ day ∧ (acc = some a ∨ a = x) ∧ x.1 ≤ a.1 ∧ ∀ b, acc = some b → b.1 ≤ a.1 := by
        unfold latest
        rw [if_neg hx]
        cases acc with
        | none => exact ⟨x, rfl, by omega, .inr rfl, Nat.le_refl _, fun b hb => by cases hb⟩
        | some o =>
          have ho := h o rfl
          by_cases hlt : o.1 < x.1
          · exact ⟨x, if_pos hlt, by omega, .inr rfl, Nat.le_refl _, fun b hb => by cases hb; omega⟩
          · exact ⟨o, if_neg hlt, ho, .inl rfl, by omega, fun b hb => by cases hb; exact Nat.le_refl _⟩
      obtain ⟨a, ea, had, hac, hxa, hba⟩ := e1
      rw [ea]
      rcases latest_spec day l (some a) (fun b hb => by cases hb; exact had) with ⟨_, h2, _⟩ | ⟨e, h1, h2, h3, h4, h5⟩
      · cases h2
      · refine .inr ⟨e, h1, h2, ?_, fun y hy hyd => ?_, fun b hb => Nat.le_trans (hba b hb) (h5 a rfl)⟩
        · rcases h3 with h3 | h3
          · cases h3
            exact hac.imp id fun e => by rw [e]; exact List.mem_cons_self
          · exact .inr (List.mem_cons_of_mem _ h3)
        · rcases List.mem_cons.mp hy with hy | hy
          · rw [hy]; exact Nat.le_trans hxa (h5 a rfl)
          · exact h4 y hy hyd
theorem indexOn_latest (l : List (Nat × Nat)) (day : Nat) : indexOn l day = ((l.foldl (latest day) none).map fun e => e.2).getD 1000 := rfl
theorem index_none {l : List (Nat × Nat)} {day : Nat} (h : ∀ e ∈ l, day < e.1) : indexOn l day = 1000 := by
  rw [indexOn_latest]
  rcases latest_spec day l none (fun a e => by cases e) with ⟨_, _, h3⟩ | ⟨e, _, h2, h3, _⟩
  · rw [h3]; rfl
  · rcases h3 with h3 | h3
    · cases h3
    · have := h e h3
      omega
theorem nodup_key {l : List (Nat × Nat)} (h : (l.map (·.1)).Nodup) : ∀ {x y : Nat × Nat}, x ∈ l → y ∈ l → x.1 = y.1 → x = y := by
  induction l with
  | nil => intro x y hx; exact absurd hx (by simp)
  | cons a l ih =>
    intro x y hx hy e
    rw [List.map_cons, List.nodup_cons] at h
    rcases List.mem_cons.mp hx with hx | hx <;> rcases List.mem_cons.mp hy with hy | hy
    · rw [hx, hy]
    · exact absurd (by rw [← hx, e]; exact List.mem_map.mpr ⟨y, hy, rfl⟩) h.1
    · exact absurd (by rw [← hy, ← e]; exact List.mem_map.mpr ⟨x, hx, rfl⟩) h.1
    · exact ih h.2 hx hy e
theorem index_some {l : List (Nat × Nat)} {day : Nat} {d v : Nat} (h : (l.map (·.1)).Nodup) (hm : (d, v) ∈ l) (hd : d ≤ day) (hx : ∀ e ∈ l, e.1 ≤ day → e.1 ≤ d) : indexOn l day = v := by
  rw [indexOn_latest]
  rcases latest_spec day l none (fun a e => by cases e) with ⟨h1, _, _⟩ | ⟨e, h1, h2, h3, h4, _⟩
  · have := h1 _ hm
    simp only at this
    omega
  · rw [h1]
    rcases h3 with h3 | h3
    · cases h3
    · have h5 := hx e h3 h2
      have h6 : d ≤ e.1 := h4 _ hm hd
      have : e = (d, v) := nodup_key h h3 hm (show e.1 = d by omega)
      rw [this]
      rfl
theorem index_same {l m : List (Nat × Nat)} (hl : (l.map (·.1)).Nodup) (hm : (m.map (·.1)).Nodup) (h : ∀ e, e ∈ l ↔ e ∈ m) (day : Nat) : indexOn l day = indexOn m day := by
  rw [indexOn_latest m]
  rcases latest_spec day m none (fun a e => by cases e) with ⟨h1, _, h3⟩ | ⟨e, h1, h2, h3, h4, _⟩
  · rw [h3]
    exact index_none fun e he => h1 e ((h e).mp he)
  · rw [h1]
    rcases h3 with h3 | h3
    · cases h3
    · exact index_some (d := e.1) (v := e.2) hl ((h e).mpr h3) h2 fun x hx hxd => h4 x ((h x).mp hx) hxd
theorem index_bounds {l : List (Nat × Nat)} (h : ∀ e ∈ l, e.1 ≤ 99999 ∧ 1 ≤ e.2 ∧ e.2 ≤ 10000) (day : Nat) : 1 ≤ indexOn l day ∧ indexOn l day ≤ 10000 := by
  rw [indexOn_latest]
  rcases latest_spec day l none (fun a e => by cases e) with ⟨_, _, h3⟩ | ⟨e, h1, _, h3, _⟩
  · rw [h3]; exact ⟨by decide, by decide⟩
  · rw [h1]
    rcases h3 with h3 | h3
    · cases h3
    · exact (h e h3).2
/-! ### what is delivered -/
def topOf (idx : List (Nat × Nat)) (c : Contract) (d : Delivery) : Nat := d.volume * c.prices.getD d.grade 0 * indexOn idx d.day
def dsum (a b bot : Nat) (ts : List Nat) : Rat := ((a * ts.sum : Nat) : Rat) / ((b * bot : Nat) : Rat)
theorem dsum_nil {a b bot : Nat} : dsum a b bot [] = 0 := by
  unfold dsum
  rw [List.sum_nil, Nat.mul_zero]
  grind
theorem dsum_cons {a b bot t : Nat} {ts : List Nat} (hb : 0 < b) (hbot : 0 < bot) : dsum a b bot (t :: ts) = (a : Rat) / (b : Rat) * ((t : Rat) / (bot : Rat)) + dsum a b bot ts := by
  unfold dsum
  rw [List.sum_cons, times_eq a b t bot hb hbot, Nat.mul_add, cast_add]
  grind
theorem dsum_snoc {a b bot t : Nat} {ts : List Nat} (hb : 0 < b) (hbot : 0 < bot) : dsum a b bot (ts ++ [t]) = dsum a b bot ts + (a : Rat) / (b : Rat) * ((t : Rat) / (bot : Rat)) := by
  unfold dsum
  rw [List.sum_append, List.sum_singleton, times_eq a b t bot hb hbot, Nat.mul_add, cast_add]
  grind
theorem delivered_eq {idx : List (Nat × Nat)} {ds : List Delivery} {n : Nat} {c : Contract} {a b : Nat} (hf : c.factor = (a : Rat) / (b : Rat)) (hb : 0 < b) (hi : 0 < indexOn idx c.day) :
    deliveredValue idx ds n c = dsum a b (1000 * indexOn idx c.day) ((ds.filter fun d => d.contract == n).map (topOf idx c)) := by
  unfold deliveredValue
  generalize ds.filter (fun d => d.contract == n) = l
  induction l with
  | nil => rw [List.map_nil, List.map_nil, dsum_nil]; rfl
  | cons d l ih =>
    rw [List.map_cons, List.map_cons, dsum_cons hb (by omega), ← ih, ← hf]
    show _ + sumRat _ = _ + _
    congr 1
    unfold topOf
    have h1 := cast_ne hi
    rw [cast_mul (d.volume * c.prices.getD d.grade 0), cast_mul 1000]
    have h2 : ((1000 : Nat) : Rat) = 1000 := rfl
    rw [h2]
    grind
theorem dsum_bd {a b bot : Nat} {ts : List Nat} (ha : a < 2 ^ 60) (hb : 0 < b) (hb2 : b < 2 ^ 60) (hbot : 0 < bot) (hbot2 : bot ≤ 10000000) (hl : ts.length ≤ 64) (ht : ∀ t ∈ ts, t ≤ 10000000000000000) : Bd 200 (dsum a b bot ts) := by
  refine bd_of _ _ _ (Nat.mul_pos hb hbot) ?_ ?_
  · have h1 := sum_le ht
    have h2 : ts.sum ≤ 64 * 10000000000000000 := Nat.le_trans h1 (Nat.mul_le_mul_right _ hl)
    refine Nat.lt_of_le_of_lt (Nat.mul_le_mul (Nat.le_of_lt ha) h2) (by decide)
  · exact Nat.lt_of_le_of_lt (Nat.mul_le_mul (Nat.le_of_lt hb2) hbot2) (by decide)
theorem estimate_eq (c : Contract) : estimate c = c.factor * (((valueOf c.volumes c.prices : Nat) : Rat) / ((1000 : Nat) : Rat)) := by
  unfold estimate
  have h2 : ((1000 : Nat) : Rat) = 1000 := rfl
  rw [h2]
  grind
theorem bd_times {n k m : Nat} {q : Rat} {t u : Nat} (h : Bd n q) (ht : t < 2 ^ k) (hu : 0 < u) (hu2 : u < 2 ^ k) (hm : n + k ≤ m) : Bd m (q * ((t : Rat) / (u : Rat))) := by
  obtain ⟨a, b, e, _, _, hb, h1, h2⟩ := h
  rw [e, times_eq a b t u hb hu]
  have e1 : 2 ^ (n + k) ≤ 2 ^ m := Nat.pow_le_pow_right (by decide) hm
  have e2 : (2 : Nat) ^ (n + k) = 2 ^ n * 2 ^ k := Nat.pow_add _ _ _
  refine bd_of _ _ _ (Nat.mul_pos hb hu) ?_ ?_
  · refine Nat.lt_of_lt_of_le ?_ e1
    rw [e2]
    exact Nat.mul_lt_mul'' h1 ht
  · refine Nat.lt_of_lt_of_le ?_ e1
    rw [e2]
    exact Nat.mul_lt_mul'' h2 hu2
theorem round_nonneg {q : Rat} (h : 0 ≤ q) : 0 ≤ roundNearest q := by
  rw [round_eq]
  have h1 : 0 ≤ q.num := Rat.num_nonneg.mpr h
  exact Int.ediv_nonneg (by omega) (by omega)
theorem round_le {n : Nat} {q : Rat} (h : Bd n q) : roundNearest q ≤ ((2 ^ n : Nat) : Int) := by
  obtain ⟨a, b, _, e1, e2, hb, h1, h2⟩ := h
  rw [round_eq, e1, e2]
  refine Int.le_of_lt_add_one (Int.ediv_lt_of_lt_mul (by omega) ?_)
  generalize hN : 2 ^ n = N at *
  have h3 : (a : Int) * 1 ≤ ((N : Int)) * 1 := by omega
  have h4 : ((N : Int) + 1) * (2 * (b : Int)) = 2 * ((N : Int) * (b : Int)) + 2 * (b : Int) := by
    rw [Int.add_mul, Int.one_mul, Int.mul_left_comm]
  have h5 : (N : Int) * 1 ≤ (N : Int) * (b : Int) := Int.mul_le_mul_of_nonneg_left (by omega) (by omega)
  rw [h4]
  omega
theorem max_bd {n : Nat} {x y : Rat} (hx : Bd n x) (hy : Bd n y) : Bd n (maxRat x y) := by
  unfold maxRat
  split
  · exact hy
  · exact hx
/-! ### the parts -/
def before (x y : Int × Int) : Prop := x.1 < y.1 ∨ x.1 = y.1 ∧ x.2 < y.2
instance (x y : Int × Int) : Decidable (before x y) := by unfold before; exact inferInstance
def bump (f : List Nat) (p : Nat) : List Nat := f.set p (f.getD p 0 + 1)
theorem bump_length {ps f : List Nat} : (ps.foldl bump f).length = f.length := by
  induction ps generalizing f with
  | nil => rfl
  | cons p ps ih =>
    rw [List.foldl_cons, ih]
    simp [bump]
theorem bump_at {ps : List Nat} (hn : ps.Nodup) : ∀ {f : List Nat} {p : Nat}, p < f.length → (ps.foldl bump f).getD p 0 = f.getD p 0 + if p ∈ ps then 1 else 0 := by
  induction ps with
  | nil => intro f p h; simp
  | cons q ps ih =>
    intro f p h
    rw [List.nodup_cons] at hn
    rw [List.foldl_cons, ih hn.2 (by simpa [bump] using h)]
    by_cases e : p = q
    · subst e
      have : p ∉ ps := hn.1
      simp [bump, this, List.getD_eq_getElem?_getD, h]
    · have e1 : (bump f q).getD p 0 = f.getD p 0 := by
        unfold bump
        rw [List.getD_eq_getElem?_getD, List.getElem?_set_ne (fun h => e h.symm), List.getD_eq_getElem?_getD]
      rw [e1]
      simp [e]
theorem rank {zs : List (Int × Int)} (hs : zs.Pairwise fun x y => ¬ before y x) (hn : zs.Nodup) : ∀ {j : Nat} (h : j < zs.length), (zs.filter fun y => decide (before y zs[j])).length = j := by
  induction zs with
  | nil => intro j h; exact absurd h (by simp)
  | cons a l ih =>
    rw [List.pairwise_cons] at hs
    rw [List.nodup_cons] at hn
    intro j h
    cases j with
    | zero =>
      rw [List.getElem_cons_zero, List.filter_eq_nil_iff.mpr]
      · rfl
      · intro y hy
        rcases List.mem_cons.mp hy with hy | hy
        · rw [hy]
          simp [before]
        · simpa using hs.1 y hy
    | succ j =>
      rw [List.getElem_cons_succ]
      have hj : j < l.length := by simpa using h
      have hab : before a l[j] := by
        have h1 := hs.1 _ (List.getElem_mem hj)
        have h2 : a ≠ l[j] := fun e => hn.1 (by rw [e]; exact List.getElem_mem hj)
        unfold before at h1 ⊢
        have h3 : ¬ (a.1 = l[j].1 ∧ a.2 = l[j].2) := fun h => h2 (Prod.ext h.1 h.2)
        omega
      rw [List.filter_cons_of_pos (by simpa using hab), List.length_cons, ih hs.2 hn.2 hj]
theorem mem_take_iff {zs : List (Int × Int)} (hs : zs.Pairwise fun x y => ¬ before y x) (hn : zs.Nodup) {x : Int × Int} (hx : x ∈ zs) (m : Nat) : x ∈ zs.take m ↔ (zs.filter fun y => decide (before y x)).length < m := by
  constructor
  · intro h
    obtain ⟨j, hj, e⟩ := List.mem_iff_getElem.mp h
    rw [List.length_take] at hj
    rw [List.getElem_take] at e
    have hj2 : j < zs.length := by omega
    rw [← e, rank hs hn hj2]
    omega
  · intro h
    obtain ⟨j, hj, e⟩ := List.mem_iff_getElem.mp hx
    rw [← e, rank hs hn hj] at h
    refine List.mem_iff_getElem.mpr ⟨j, by rw [List.length_take]; omega, ?_⟩
    rw [List.getElem_take, e]
def restsOf (amount : Nat) (ws : List Nat) : List (Int × Int) := ws.zipIdx.map fun e => (-((amount * e.1 % ws.sum : Nat) : Int), (e.2 : Int))
def floorsOf (amount : Nat) (ws : List Nat) : List Nat := ws.map fun w => amount * w / ws.sum
theorem nodup_zipIdx {α : Type} (l : List α) : (l.zipIdx.map fun e => (e.2 : Int)).Nodup := by
  have e : l.zipIdx.map (fun e => (e.2 : Int)) = (List.range l.length).map fun n : Nat => (n : Int) := by
    refine List.ext_getElem (by simp) fun i h1 h2 => ?_
    simp
  rw [e, List.nodup_iff_pairwise_ne, List.pairwise_map]
  refine List.Pairwise.imp ?_ (List.nodup_iff_pairwise_ne.mp List.nodup_range)
  intro a b h1 h2
  exact h1 (by omega)
theorem rests_nodup (amount : Nat) (ws : List Nat) : (restsOf amount ws).Nodup := by
  have h := nodup_zipIdx ws
  unfold restsOf
  rw [List.nodup_iff_pairwise_ne, List.pairwise_map] at h ⊢
  exact h.imp fun {a b} h1 h2 => h1 (congrArg Prod.snd h2)
theorem floors_le {amount : Nat} {ws : List Nat} (h : 0 < ws.sum) : (floorsOf amount ws).sum ≤ amount := by
  have key : ∀ (t : Nat), 0 < t → ∀ l : List Nat, (l.map fun w => amount * w / t).sum * t ≤ amount * l.sum := by
    intro t ht l
    induction l with
    | nil => simp
    | cons a l ih =>
      rw [List.map_cons, List.sum_cons, List.sum_cons, Nat.add_mul, Nat.mul_add]
      have := Nat.div_mul_le_self (amount * a) t
      omega
  have := key ws.sum h ws
  exact Nat.le_of_mul_le_mul_right this h
theorem dist_law {amount : Nat} {ws : List Nat} {zs : List (Int × Int)} (hp : zs.Perm (restsOf amount ws)) (hs : zs.Pairwise fun x y => ¬ before y x) :
    ((zs.take (amount - (floorsOf amount ws).sum)).map fun z => z.2.toNat).foldl bump (floorsOf amount ws) = distribute amount ws := by
  have hn : zs.Nodup := hp.nodup_iff.mpr (rests_nodup amount ws)
  have hnd : ((zs.take (amount - (floorsOf amount ws).sum)).map fun z => z.2.toNat).Nodup := by
    have h1 : (zs.map fun z => z.2.toNat).Nodup := by
      refine (hp.map fun z : Int × Int => z.2.toNat).nodup_iff.mpr ?_
      unfold restsOf
      rw [List.map_map]
      have e : ws.zipIdx.map ((fun z : Int × Int => z.2.toNat) ∘ fun e : Nat × Nat => (-((amount * e.1 % ws.sum : Nat) : Int), (e.2 : Int))) = List.range ws.length := by
        refine List.ext_getElem (by simp) fun i h1 h2 => ?_
        simp
      rw [e]
      exact List.nodup_range
    rw [List.map_take]
    exact h1.sublist (List.take_sublist _ _)
  have hl : (floorsOf amount ws).length = ws.length := by simp [floorsOf]
  have hld : (distribute amount ws).length = ws.length := by simp [distribute]
  refine List.ext_getElem (by rw [bump_length, hl, hld]) fun i h1 h2 => ?_
  have hi : i < ws.length := by rw [hld] at h2; exact h2
  have hb := bump_at hnd (f := floorsOf amount ws) (p := i) (by rw [hl]; exact hi)
  rw [List.getD_eq_getElem?_getD, List.getElem?_eq_getElem h1, List.getD_eq_getElem?_getD, List.getElem?_eq_getElem (by rw [hl]; exact hi)] at hb
  simp only [Option.getD_some] at hb
  rw [hb]
  have hx : (-((amount * ws[i] % ws.sum : Nat) : Int), (i : Int)) ∈ zs := by
    refine hp.mem_iff.mpr ?_
    unfold restsOf
    exact List.mem_map.mpr ⟨(ws[i], i), by rw [List.mem_zipIdx_iff_getElem?]; exact List.getElem?_eq_getElem hi, rfl⟩
  have hmem : (i ∈ (zs.take (amount - (floorsOf amount ws).sum)).map fun z => z.2.toNat) ↔ (-((amount * ws[i] % ws.sum : Nat) : Int), (i : Int)) ∈ zs.take (amount - (floorsOf amount ws).sum) := by
    constructor
    · intro h
      obtain ⟨z, hz, e⟩ := List.mem_map.mp h
      have hz2 := hp.mem_iff.mp (List.mem_of_mem_take hz)
      unfold restsOf at hz2
      obtain ⟨⟨w, j⟩, hw, ew⟩ := List.mem_map.mp hz2
      rw [List.mem_zipIdx_iff_getElem?] at hw
      have ej : j = i := by
        rw [← ew] at e
        simpa using e
      subst ej
      have ew2 : w = ws[j] := by
        have hw : ws[j]? = some w := hw
        rw [List.getElem?_eq_getElem hi] at hw
        exact (Option.some.inj hw).symm
      subst ew2
      rw [ew]
      exact hz
    · intro h
      exact List.mem_map.mpr ⟨_, h, by simp⟩
  have hcount : (zs.filter fun y => decide (before y (-((amount * ws[i] % ws.sum : Nat) : Int), (i : Int)))).length = (((ws.map fun w => amount * w % ws.sum).zipIdx.filter fun o => decide (amount * ws[i] % ws.sum < o.1) || (o.1 == amount * ws[i] % ws.sum && decide (o.2 < i)))).length := by
    rw [(hp.filter _).length_eq]
    unfold restsOf
    rw [List.zipIdx_map, ← List.countP_eq_length_filter, ← List.countP_eq_length_filter, List.countP_map, List.countP_map]
    refine List.countP_congr fun e _ => ?_
    simp only [Function.comp, Prod.map, id]
    rw [decide_eq_true_iff]
    unfold before
    simp only [decide_eq_true_eq, Bool.or_eq_true, Bool.and_eq_true, beq_iff_eq]
    generalize amount * e.1 % ws.sum = x
    generalize amount * ws[i] % ws.sum = y
    omega
  have hm2 := mem_take_iff hs hn hx (amount - (floorsOf amount ws).sum)
  rw [hcount] at hm2
  unfold distribute
  simp only [List.getElem_map, List.getElem_zipIdx, Nat.zero_add, sum_eq]
  have key : ∀ (p q : Prop) [Decidable p] [Decidable q], (p ↔ q) → (if p then 1 else 0) = (if q then 1 else 0) := fun p q _ _ h => by
    by_cases hp : p
    · rw [if_pos hp, if_pos (h.mp hp)]
    · rw [if_neg hp, if_neg (fun hq => hp (h.mpr hq))]
  have e1 : (floorsOf amount ws)[i]'(by rw [hl]; exact hi) = amount * ws[i] / ws.sum := by simp [floorsOf]
  rw [e1]
  congr 1
  exact key _ _ (hmem.trans hm2)
/-! ### what is billed -/
def addUp (n : Nat) (as : List (List Int)) : List Int := as.foldl (fun f a => List.zipWith (· + ·) f a) (List.replicate n 0)
theorem addUp_snoc {n : Nat} {as : List (List Int)} {a : List Int} : addUp n (as ++ [a]) = List.zipWith (· + ·) (addUp n as) a := by
  unfold addUp
  rw [List.foldl_append]
  rfl
theorem addUp_at {n : Nat} : ∀ {as : List (List Int)} {f : List Int}, f.length = n → (∀ a ∈ as, a.length = n) → as.foldl (fun f a => List.zipWith (· + ·) f a) f = (List.range n).map fun p => f.getD p 0 + (as.map fun a => a.getD p 0).sum
  | [], f, hf, _ => by
    refine List.ext_getElem (by simp [hf]) fun i h1 h2 => ?_
    simp only [List.foldl_nil] at h1 ⊢
    simp [List.getD_eq_getElem?_getD, List.getElem?_eq_getElem h1]
  | a :: as, f, hf, h => by
    have ha := h a List.mem_cons_self
    rw [List.foldl_cons, addUp_at (f := List.zipWith (· + ·) f a) (by simp [hf, ha]) fun b hb => h b (List.mem_cons_of_mem _ hb)]
    refine List.map_congr_left fun p hp => ?_
    have hp : p < n := List.mem_range.mp hp
    have h1 : p < f.length := by omega
    have h2 : p < a.length := by omega
    have h3 : p < (List.zipWith (fun x1 x2 => x1 + x2) f a).length := by simp [hf, ha, hp]
    rw [List.map_cons, List.sum_cons]
    simp only [List.getD_eq_getElem?_getD, List.getElem?_eq_getElem h1, List.getElem?_eq_getElem h2, List.getElem?_eq_getElem h3, Option.getD_some, List.getElem_zipWith]
    omega
theorem addUp_length {n : Nat} {as : List (List Int)} (h : ∀ a ∈ as, a.length = n) : (addUp n as).length = n := by
  unfold addUp
  rw [addUp_at (by simp) h]
  simp
theorem billed_law {bs : List Bill} {k n : Nat} (h : ∀ b ∈ bs, b.contract = k → b.amounts.length = n) : addUp n ((bs.filter fun b => b.contract == k).map (·.amounts)) = (List.range n).map fun p => billedTotal bs k p := by
  unfold addUp
  rw [addUp_at (n := n) (by simp) fun a ha => by
    obtain ⟨b, hb, rfl⟩ := List.mem_map.mp ha
    have := List.mem_filter.mp hb
    exact h b this.1 (by simpa using this.2)]
  refine List.map_congr_left fun p hp => ?_
  have hp : p < n := List.mem_range.mp hp
  unfold billedTotal
  rw [sumInt_eq, List.map_map, List.getD_eq_getElem?_getD, List.getElem?_replicate_of_lt hp]
  show (0 : Int) + _ = _
  rw [Int.zero_add]
  rfl
theorem next_law {idx : List (Nat × Nat)} {ds : List Delivery} {bs : List Bill} {k : Nat} {c : Contract} (h : ∀ b ∈ bs, b.contract = k → b.amounts.length = c.bidders.length) :
    nextAmounts idx ds bs k c = ((distribute (amountDue idx ds k c) (c.bidders.map (·.2))).zip (addUp c.bidders.length ((bs.filter fun b => b.contract == k).map (·.amounts)))).map fun e => (e.1 : Int) - e.2 := by
  rw [billed_law h]
  unfold nextAmounts
  have hl : (distribute (amountDue idx ds k c) (c.bidders.map (·.2))).length = c.bidders.length := by simp [distribute]
  refine List.ext_getElem (by simp [hl]) fun i h1 h2 => ?_
  simp
theorem next_length {idx : List (Nat × Nat)} {ds : List Delivery} {bs : List Bill} {k : Nat} {c : Contract} : (nextAmounts idx ds bs k c).length = c.bidders.length := by simp [nextAmounts, distribute]
theorem sum_if {α : Type} (p : α → Bool) (f : α → Int) : ∀ l : List α, (l.map fun e => if p e = true then f e else 0).sum = ((l.filter p).map f).sum
  | [] => rfl
  | a :: l => by
    rw [List.map_cons, List.sum_cons, sum_if p f l]
    by_cases h : p a = true
    · rw [if_pos h, List.filter_cons_of_pos h, List.map_cons, List.sum_cons]
    · rw [if_neg h, List.filter_cons_of_neg h]
      omega
theorem balance_law {bids : List (Nat × Nat)} {am : List Int} {k : Nat} (h : am.length = bids.length) :
    sumInt (bids.zipIdx.map fun e => if e.1.1 = k then am.getD e.2 0 else 0) = ((((bids.map (·.1)).zip am).filter fun e => e.1 == k).map (·.2)).sum := by
  rw [sumInt_eq, ← sum_if]
  congr 1
  refine List.ext_getElem (by simp [h]) fun i h1 h2 => ?_
  have hi : i < bids.length := by simpa using h1
  simp [List.getD_eq_getElem?_getD, List.getElem?_eq_getElem (show i < am.length by omega)]
/-! ### what is short -/
def take1 (f : List Int) (d : Delivery) : List Int := f.set d.grade (f.getD d.grade 0 - (d.volume : Int))
theorem take1_length {ds : List Delivery} {f : List Int} : (ds.foldl take1 f).length = f.length := by
  induction ds generalizing f with
  | nil => rfl
  | cons d ds ih => rw [List.foldl_cons, ih]; simp [take1]
theorem take1_at : ∀ {ds : List Delivery} {f : List Int} {g : Nat}, g < f.length → (ds.foldl take1 f).getD g 0 = f.getD g 0 - (((ds.filter fun d => d.grade == g).map fun d => d.volume).sum : Nat)
  | [], f, g, h => by simp
  | d :: ds, f, g, h => by
    rw [List.foldl_cons, take1_at (by simpa [take1] using h)]
    by_cases e : d.grade = g
    · subst e
      rw [List.filter_cons_of_pos (by simp), List.map_cons, List.sum_cons]
      have : (take1 f d).getD d.grade 0 = f.getD d.grade 0 - (d.volume : Int) := by
        simp [take1, List.getD_eq_getElem?_getD, h]
      rw [this]
      omega
    · rw [List.filter_cons_of_neg (by simpa using e)]
      have : (take1 f d).getD g 0 = f.getD g 0 := by
        unfold take1
        rw [List.getD_eq_getElem?_getD, List.getElem?_set_ne e, List.getD_eq_getElem?_getD]
      rw [this]
theorem short_law {c : Contract} {ds : List Delivery} {k : Nat} (hc : c.volumes.length = 10) :
    ((ds.filter fun d => d.contract == k).foldl take1 (c.volumes.map fun n : Nat => (n : Int))) = (List.range gradeCount).map fun g => ((c.volumes.getD g 0 : Nat) : Int) - ((sum ((ds.filter fun d => d.contract == k && d.grade == g).map fun d => d.volume) : Nat) : Int) := by
  refine List.ext_getElem (by rw [take1_length]; simp [hc, gradeCount]) fun i h1 h2 => ?_
  have hi : i < 10 := by simpa [gradeCount] using h2
  have hl : i < (c.volumes.map fun n : Nat => (n : Int)).length := by simp [hc, hi]
  have h := take1_at (ds := ds.filter fun d => d.contract == k) hl
  rw [List.getD_eq_getElem?_getD, List.getElem?_eq_getElem h1, Option.getD_some] at h
  rw [h, List.filter_filter]
  simp only [List.getElem_map, List.getElem_range, sum_eq]
  have e1 : (c.volumes.map fun n : Nat => (n : Int)).getD i 0 = ((c.volumes.getD i 0 : Nat) : Int) := by
    simp [List.getD_eq_getElem?_getD, List.getElem?_eq_getElem (show i < c.volumes.length by omega)]
  rw [e1]
  congr 4
  refine List.filter_congr fun d _ => ?_
  exact Bool.and_comm _ _
end TBM
/-! # The fractions -/
namespace TB
open PySem PySem.Spec PyProof.Rows L2 Evl

section
variable {P : Program} {w : World} {K : PySem.W.Frag} {mg : Str → Option Value} {base : Heap} {A : Adr}
def p_common_of : PreT := fun vs _ R => ∃ a b : Nat, vs = [.int (a : Int), .int (b : Int)] ∧ R = isV (.int ((Nat.gcd a b : Nat) : Int))
theorem sc_common_of : FnScope ["one", "other"] ["one", "other"] (defScope (top 2)) := ⟨rfl, rfl, rfl, by decide +kernel, rfl, by decide +kernel, by decide +kernel⟩
theorem ok_common_of (T : Top K mg A) : FOk P w K mg base 1 "common_of" ["one", "other"] (spP p_common_of) := by
  refine fokP T.f_common_of sc_common_of (fun vs H R ⟨a, b, e, _⟩ => by rw [e]; rfl) (fun _ _ _ _ _ _ us hl => match us, hl with | [_, _], _ => rfl) fun f cdv A outer s H E hr => ⟨_, (pss_cons (ps_while PassesOwn.never (pt_cmpR op_ne (pv 1) pe_int (nomark _)) (pss_one (ps_par (i := 0) (j := 1) (by rfl) sc_common_of.nd rfl rfl (by decide) rfl rfl (pa_cons (pv 1) (pa_cons (pe_op op_modN (pv 0) (pv 1)) pa_nil)) (by rfl))))
      (pss_one (ps_ret (pv 0)))), ?_⟩
  rintro vs H0 R e ⟨a, b, rfl, rfl⟩
  refine sq_while (fun m σ' Hk => ∃ c d : Nat, σ' = [some (.int (c : Int)), some (.int (d : Int))] ∧ m = d ∧ Nat.gcd c d = Nat.gcd a b) b ⟨a, b, rfl, rfl, rfl⟩ ?_
  rintro m σ' Hk ⟨c, d, rfl, rfl, hg⟩
  refine ⟨!decide (V.int (m : Int) = .int 0), et_test (ev_neS (ev_var rfl) ev_c rfl), fun hb => ?_, fun hb => ?_⟩
  · have hd : m ≠ 0 := fun z => by subst z; simp at hb
    refine Sj.last (sq_par (ev_var rfl) (ev_I (ev_var rfl) (ev_var rfl) (by omega)) (sj_next ⟨c % m, Nat.mod_lt _ (by omega), m, c % m, ?_, rfl, ?_⟩))
    · have : ((c : Int).fmod (m : Int)) = ((c % m : Nat) : Int) := by
        rw [Int.fmod_eq_emod_of_nonneg _ (by omega)]
        rfl
      show [some (V.int (m : Int)), some (V.int ((c : Int).fmod (m : Int)))] = _
      rw [this]
    · rw [← hg, TBM.gcd_step c m]
  · have hd : m = 0 := by
      by_cases z : m = 0
      · exact z
      · have : ¬ V.int (m : Int) = .int 0 := fun q => z (by injection q with q; omega)
        rw [decide_eq_false this] at hb
        simp at hb
    subst hd
    rw [Nat.gcd_zero_right] at hg
    exact sj_ret (ev_var rfl) (by rw [← hg]; rfl)
/-- the fraction at a tuple -/
def isF (K : PySem.W.Frag) (q : Rat) : V → Hp → Prop := isT K [.int q.num, .int ((q.den : Nat) : Int)]
theorem isF_up {q : Rat} {v : V} {H H' : Hp} (e : Ex H H') (h : isF K q v H) : isF K q v H' := isT_up e h
theorem spF_go {Pre : PreT} {vs : List V} {H : Hp} {q : Rat} (h : Pre vs H (isF K q)) : SpP (spP Pre) vs H (isF K q) := spT_go h
/-- sizes -/
def Sm (n : Nat) : Prop := n < 2 ^ 400
def p_fraction (K : PySem.W.Frag) : PreT := fun vs _ R => ∃ t b : Nat, vs = [.int (t : Int), .int (b : Int)] ∧ 0 < b ∧ t < 2 ^ 2000 ∧ b < 2 ^ 2000 ∧ R = isF K ((t : Rat) / (b : Rat))
theorem sc_fraction : FnScope ["top", "bottom", "by"] ["top", "bottom"] (defScope (top 3)) := ⟨rfl, rfl, rfl, by decide +kernel, rfl, by decide +kernel, by decide +kernel⟩
theorem div_ok {n g : Nat} (hg : 0 < g) (h : g < 2 ^ 2000) : CDivW (n : Int) (g : Int) := wide_div (by omega) (by rw [Int.natAbs_natCast]; exact h) (by decide) (by decide)
theorem ok_fraction (T : Top K mg A) : FOk P w K mg base 2 "fraction" ["top", "bottom"] (spP (p_fraction K)) := by
  refine fokP T.f_fraction sc_fraction (fun vs H R ⟨a, b, e, _⟩ => by rw [e]; rfl) (fun _ _ _ _ _ _ us hl => match us, hl with | [_, _], _ => rfl) fun f cdv A outer s H E hr => ⟨_, (pss_cons (ps_set (i := 2) sc_fraction.nd rfl (by first | exact Or.inl rfl | exact Or.inr rfl) (pe_f (ok_common_of T) (hr.mono (by decide)) rfl (pa_cons (pv 0) (pa_cons (pv 1) pa_nil))))
      (pss_one (ps_ret (pe_tup (pa_cons (pe_op op_fdivW (pv 0) (pv 2)) (pa_cons (pe_op op_fdivW (pv 1) (pv 2)) pa_nil)))))), ?_⟩
  rintro vs H0 R e ⟨t, b, rfl, hb, ht, hb2, rfl⟩
  have hg : 0 < Nat.gcd t b := Nat.gcd_pos_of_pos_right _ hb
  have hg2 : Nat.gcd t b < 2 ^ 2000 := Nat.lt_of_le_of_lt (Nat.gcd_le_right _ hb) hb2
  refine sq_asg (ev_f (ea_cons (ev_var rfl) (ea_cons (ev_var rfl) ea_nil)) (spV_go ⟨t, b, rfl, rfl⟩)) ?_
  refine sj_retU (eu_tup (ea_cons (ev_I (ev_var rfl) (ev_var rfl) (div_ok hg hg2)) (ea_cons (ev_I (ev_var rfl) (ev_var rfl) (div_ok hg hg2)) ea_nil)) (by show 2 ≤ 100000; decide)) fun p H1 _ _ e1 hp => ⟨p, rfl, ?_⟩
  rw [TBM.frac_num t b (by omega), TBM.frac_den t b (by omega)]
  exact st_of hp
open TBM (Bd)
theorem mul_ok {a b : Nat} {i j : Int} (hi : i = (a : Int)) (hj : j = (b : Int)) (ha : a < 2 ^ 900) (hb : b < 2 ^ 900) : CMulW i j := by
  subst hi hj
  exact wide_mul (by rw [Int.natAbs_natCast]; exact ha) (by rw [Int.natAbs_natCast]; exact hb) (by decide) (by decide) (by decide)
theorem lt_mul {a b m n k : Nat} (ha : a < 2 ^ m) (hb : b < 2 ^ n) (h : m + n ≤ k) : a * b < 2 ^ k := by
  refine Nat.lt_of_lt_of_le (Nat.mul_lt_mul'' ha hb) ?_
  rw [← Nat.pow_add]
  exact Nat.pow_le_pow_right (by decide) h
def p_plus (K : PySem.W.Frag) : PreT := fun vs H R => ∃ (p q : Addr) (x y : Rat), vs = [.ref p, .ref q] ∧ SqT K H p [.int x.num, .int ((x.den : Nat) : Int)] ∧ SqT K H q [.int y.num, .int ((y.den : Nat) : Int)] ∧ Bd 900 x ∧ Bd 900 y ∧ R = isF K (x + y)
theorem sc_plus : FnScope ["one", "other"] ["one", "other"] (defScope (top 4)) := ⟨rfl, rfl, rfl, by decide +kernel, rfl, by decide +kernel, by decide +kernel⟩
theorem ok_plus (T : Top K mg A) : FOk P w K mg base 3 "plus" ["one", "other"] (spP (p_plus K)) := by
  refine fokP T.f_plus sc_plus (fun vs H R ⟨a, b, _, _, e, _⟩ => by rw [e]; rfl) (fun _ _ _ _ _ _ us hl => match us, hl with | [_, _], _ => rfl) fun f cdv A outer s H E hr => ⟨_, (pss_one (ps_ret (pe_f (ok_fraction T) (hr.mono (by decide)) rfl (pa_cons (pe_op op_add (pe_op op_mulW (pe_ix ix_tup (pv 0) pe_int (fun _ _ => rfl)) (pe_ix ix_tup (pv 1) pe_int (fun _ _ => rfl))) (pe_op op_mulW (pe_ix ix_tup (pv 1) pe_int (fun _ _ => rfl)) (pe_ix ix_tup (pv 0) pe_int (fun _ _ => rfl)))) (pa_cons (pe_op op_mulW (pe_ix ix_tup (pv 0) pe_int (fun _ _ => rfl)) (pe_ix ix_tup (pv 1) pe_int (fun _ _ => rfl))) pa_nil))))), ?_⟩
  rintro vs H0 R e ⟨p, q, x, y, rfl, hp, hq, ⟨a, b, ex, exn, exd, hb, ha9, hb9⟩, ⟨c, d, ey, eyn, eyd, hd, hc9, hd9⟩, rfl⟩
  rw [exn, exd] at hp
  rw [eyn, eyd] at hq
  have h1 : Ev (tOp (rIxT K) (tVar 0) (tC (.int 0))) [some (.ref p), some (.ref q)] H0 (.int (a : Int)) := ev_ixT (n := 0) (ev_var rfl) ev_c hp rfl
  have h2 : Ev (tOp (rIxT K) (tVar 0) (tC (.int 1))) [some (.ref p), some (.ref q)] H0 (.int (b : Int)) := ev_ixT (n := 1) (ev_var rfl) ev_c hp rfl
  have h3 : Ev (tOp (rIxT K) (tVar 1) (tC (.int 0))) [some (.ref p), some (.ref q)] H0 (.int (c : Int)) := ev_ixT (n := 0) (ev_var rfl) ev_c hq rfl
  have h4 : Ev (tOp (rIxT K) (tVar 1) (tC (.int 1))) [some (.ref p), some (.ref q)] H0 (.int (d : Int)) := ev_ixT (n := 1) (ev_var rfl) ev_c hq rfl
  refine sj_retP (evp_call (vs := [.int ((a * d + c * b : Nat) : Int), .int ((b * d : Nat) : Int)]) (ea_cons ((ev_I0 (ev_I h1 h4 (mul_ok rfl rfl ha9 hd9)) (ev_I h3 h2 (mul_ok rfl rfl hc9 hb9))).to ?_) (ea_cons ((ev_I h2 h4 (mul_ok rfl rfl hb9 hd9)).to ?_) ea_nil))
    (spF_go (q := x + y) ⟨_, _, rfl, Nat.mul_pos hb hd, ?_, ?_, ?_⟩)) fun v H1 _ h => h
  · show V.int ((a : Int) * (d : Int) + (c : Int) * (b : Int)) = _
    congr 1
  · show V.int ((b : Int) * (d : Int)) = _
    congr 1
  · have e1 : a * d < 2 ^ 1800 := lt_mul ha9 hd9 (by decide)
    have e2 : c * b < 2 ^ 1800 := lt_mul hc9 hb9 (by decide)
    have e3 : (2 : Nat) ^ 2000 = 2 ^ 1800 * 2 ^ 200 := by rw [← Nat.pow_add]
    have e4 : 2 ≤ 2 ^ 200 := by decide
    rw [e3]
    have e5 : 2 ^ 1800 * 2 ≤ 2 ^ 1800 * 2 ^ 200 := Nat.mul_le_mul_left _ e4
    omega
  · exact lt_mul hb9 hd9 (by decide)
  · rw [ex, ey, TBM.plus_eq a b c d hb hd]
    rfl
def p_times (K : PySem.W.Frag) : PreT := fun vs H R => ∃ (p : Addr) (x : Rat) (t u : Nat), vs = [.ref p, .int (t : Int), .int (u : Int)] ∧ SqT K H p [.int x.num, .int ((x.den : Nat) : Int)] ∧ Bd 900 x ∧ t < 2 ^ 900 ∧ 0 < u ∧ u < 2 ^ 900 ∧ R = isF K (x * ((t : Rat) / (u : Rat)))
theorem sc_times : FnScope ["one", "top", "bottom"] ["one", "top", "bottom"] (defScope (top 5)) := ⟨rfl, rfl, rfl, by decide +kernel, rfl, by decide +kernel, by decide +kernel⟩
theorem ok_times (T : Top K mg A) : FOk P w K mg base 3 "times" ["one", "top", "bottom"] (spP (p_times K)) := by
  refine fokP T.f_times sc_times (fun vs H R ⟨a, b, _, _, e, _⟩ => by rw [e]; rfl) (fun _ _ _ _ _ _ us hl => match us, hl with | [_, _, _], _ => rfl) fun f cdv A outer s H E hr => ⟨_, (pss_one (ps_ret (pe_f (ok_fraction T) (hr.mono (by decide)) rfl (pa_cons (pe_op op_mulW (pe_ix ix_tup (pv 0) pe_int (fun _ _ => rfl)) (pv 1)) (pa_cons (pe_op op_mulW (pe_ix ix_tup (pv 0) pe_int (fun _ _ => rfl)) (pv 2)) pa_nil))))), ?_⟩
  rintro vs H0 R e ⟨p, x, c, d, rfl, hp, ⟨a, b, ex, exn, exd, hb, ha9, hb9⟩, hc9, hd, hd9, rfl⟩
  rw [exn, exd] at hp
  have h1 : Ev (tOp (rIxT K) (tVar 0) (tC (.int 0))) [some (.ref p), some (.int (c : Int)), some (.int (d : Int))] H0 (.int (a : Int)) := ev_ixT (n := 0) (ev_var rfl) ev_c hp rfl
  have h2 : Ev (tOp (rIxT K) (tVar 0) (tC (.int 1))) [some (.ref p), some (.int (c : Int)), some (.int (d : Int))] H0 (.int (b : Int)) := ev_ixT (n := 1) (ev_var rfl) ev_c hp rfl
  refine sj_retP (evp_call (vs := [.int ((a * c : Nat) : Int), .int ((b * d : Nat) : Int)]) (ea_cons ((ev_I h1 (ev_var rfl) (mul_ok rfl rfl ha9 hc9)).to ?_) (ea_cons ((ev_I h2 (ev_var rfl) (mul_ok rfl rfl hb9 hd9)).to ?_) ea_nil))
    (spF_go (q := x * ((c : Rat) / (d : Rat))) ⟨_, _, rfl, Nat.mul_pos hb hd, ?_, ?_, ?_⟩)) fun v H1 _ h => h
  · show V.int ((a : Int) * (c : Int)) = _
    congr 1
  · show V.int ((b : Int) * (d : Int)) = _
    congr 1
  · exact lt_mul ha9 hc9 (by decide)
  · exact lt_mul hb9 hd9 (by decide)
  · rw [ex, TBM.times_eq a b c d hb hd]
    rfl
def p_greater_of (K : PySem.W.Frag) : PreT := fun vs H R => ∃ (p q : Addr) (x y : Rat), vs = [.ref p, .ref q] ∧ SqT K H p [.int x.num, .int ((x.den : Nat) : Int)] ∧ SqT K H q [.int y.num, .int ((y.den : Nat) : Int)] ∧ Bd 900 x ∧ Bd 900 y ∧ R = isF K (Amounts.maxRat x y)
theorem sc_greater_of : FnScope ["one", "other"] ["one", "other"] (defScope (top 6)) := ⟨rfl, rfl, rfl, by decide +kernel, rfl, by decide +kernel, by decide +kernel⟩
theorem ok_greater_of (T : Top K mg A) : FOk P w K mg base 1 "greater_of" ["one", "other"] (spP (p_greater_of K)) := by
  refine fokP T.f_greater_of sc_greater_of (fun vs H R ⟨a, b, _, _, e, _⟩ => by rw [e]; rfl) (fun _ _ _ _ _ _ us hl => match us, hl with | [_, _], _ => rfl) fun f cdv A outer s H E hr => ⟨_, (pss_one (ps_ret (pe_ifExp (pt_cmpR op_lt (pe_op op_mulW (pe_ix ix_tup (pv 0) pe_int (fun _ _ => rfl)) (pe_ix ix_tup (pv 1) pe_int (fun _ _ => rfl))) (pe_op op_mulW (pe_ix ix_tup (pv 1) pe_int (fun _ _ => rfl)) (pe_ix ix_tup (pv 0) pe_int (fun _ _ => rfl))) (nomark _)) (pv 1) (pv 0)))), ?_⟩
  rintro vs H0 R e ⟨p, q, x, y, rfl, hp, hq, ⟨a, b, ex, exn, exd, hb, ha9, hb9⟩, ⟨c, d, ey, eyn, eyd, hd, hc9, hd9⟩, rfl⟩
  have hp' := hp
  have hq' := hq
  rw [exn, exd] at hp
  rw [eyn, eyd] at hq
  have h1 : Ev (tOp (rIxT K) (tVar 0) (tC (.int 0))) [some (.ref p), some (.ref q)] H0 (.int (a : Int)) := ev_ixT (n := 0) (ev_var rfl) ev_c hp rfl
  have h2 : Ev (tOp (rIxT K) (tVar 0) (tC (.int 1))) [some (.ref p), some (.ref q)] H0 (.int (b : Int)) := ev_ixT (n := 1) (ev_var rfl) ev_c hp rfl
  have h3 : Ev (tOp (rIxT K) (tVar 1) (tC (.int 0))) [some (.ref p), some (.ref q)] H0 (.int (c : Int)) := ev_ixT (n := 0) (ev_var rfl) ev_c hq rfl
  have h4 : Ev (tOp (rIxT K) (tVar 1) (tC (.int 1))) [some (.ref p), some (.ref q)] H0 (.int (d : Int)) := ev_ixT (n := 1) (ev_var rfl) ev_c hq rfl
  have hlt : (x < y) ↔ ((a : Int) * (d : Int) < (c : Int) * (b : Int)) := by rw [Rat.lt_iff, exn, exd, eyn, eyd]
  refine sj_ret (v := if x < y then .ref q else .ref p) (ev_if (et_test (ev_I0 (ev_I h1 h4 (mul_ok rfl rfl ha9 hd9)) (ev_I h3 h2 (mul_ok rfl rfl hc9 hb9)))) (fun hc => ?_) fun hc => ?_) ?_
  · rw [if_pos (hlt.mpr (of_decide_eq_true hc))]
    exact ev_var rfl
  · rw [if_neg (fun z => of_decide_eq_false hc (hlt.mp z))]
    exact ev_var rfl
  · unfold Amounts.maxRat
    split
    · exact ⟨q, rfl, hq'⟩
    · exact ⟨p, rfl, hp'⟩
def p_rounded (K : PySem.W.Frag) : PreT := fun vs H R => ∃ (p : Addr) (x : Rat), vs = [.ref p] ∧ SqT K H p [.int x.num, .int ((x.den : Nat) : Int)] ∧ Bd 900 x ∧ R = isV (.int (Amounts.roundNearest x))
theorem sc_rounded : FnScope ["one"] ["one"] (defScope (top 7)) := ⟨rfl, rfl, rfl, by decide +kernel, rfl, by decide +kernel, by decide +kernel⟩
theorem ok_rounded (T : Top K mg A) : FOk P w K mg base 1 "rounded" ["one"] (spP (p_rounded K)) := by
  refine fokP T.f_rounded sc_rounded (fun vs H R ⟨a, b, e, _⟩ => by rw [e]; rfl) (fun _ _ _ _ _ _ us hl => match us, hl with | [_], _ => rfl) fun f cdv A outer s H E hr => ⟨_, (pss_one (ps_ret (pe_op op_fdivW (pe_op op_add (pe_op op_mulW pe_int (pe_ix ix_tup (pv 0) pe_int (fun _ _ => rfl))) (pe_ix ix_tup (pv 0) pe_int (fun _ _ => rfl))) (pe_op op_mulW pe_int (pe_ix ix_tup (pv 0) pe_int (fun _ _ => rfl)))))), ?_⟩
  rintro vs H0 R e ⟨p, x, rfl, hp, ⟨a, b, ex, exn, exd, hb, ha9, hb9⟩, rfl⟩
  have er := TBM.round_eq x
  rw [exn, exd] at hp er
  have h1 : Ev (tOp (rIxT K) (tVar 0) (tC (.int 0))) [some (.ref p)] H0 (.int (a : Int)) := ev_ixT (n := 0) (ev_var rfl) ev_c hp rfl
  have h2 : Ev (tOp (rIxT K) (tVar 0) (tC (.int 1))) [some (.ref p)] H0 (.int (b : Int)) := ev_ixT (n := 1) (ev_var rfl) ev_c hp rfl
  have h2b : (2 : Nat) < 2 ^ 900 := by
    have : (2 : Nat) ^ 2 ≤ 2 ^ 900 := Nat.pow_le_pow_right (by decide) (by decide)
    omega
  refine sj_ret (ev_I (ev_I0 (ev_I ev_c h1 (mul_ok (a := 2) rfl rfl h2b ha9)) h2) (ev_I ev_c h2 (mul_ok (a := 2) rfl rfl h2b hb9)) ?_) ?_
  · have e1 : (2 : Int) * (b : Int) = ((2 * b : Nat) : Int) := by omega
    rw [e1]
    refine wide_div (b := 2000) (by omega) ?_ (by decide) (by decide)
    rw [Int.natAbs_natCast]
    exact lt_mul (m := 2) (by decide) hb9 (by decide)
  · show V.int _ = V.int _
    rw [er]
end
end TB
/-! # Sales: values -/
namespace TB
open PySem PySem.Spec PyProof.Rows L2 Evl
open TimberAuction (Lot Bid Sale Contract Delivery Bill)
open TBM

section
variable {P : Program} {w : World} {K : PySem.W.Frag} {mg : Str → Option Value} {base : Heap} {A : Adr}
theorem filter_true {α : Type} (l : List α) : l.filter (fun _ => true) = l := List.filter_eq_self.mpr fun _ _ => rfl
theorem get_ref {α : Type} {l : List α} {f : α → Addr} {n : Nat} (h : n < l.length) : (l.map fun y => V.ref (f y))[n]? = some (.ref (f l[n])) := by
  rw [List.getElem?_map, List.getElem?_eq_getElem h]
  rfl
theorem zip_nV (as bs : List Nat) : ((as.zip bs).filter fun _ => true).map (fun y => V.int ((y.1 : Int) + (y.2 : Int))) = (List.zipWith (· + ·) as bs).map nV := by
  rw [filter_true, ← List.zipWith_map_left (f := fun a => a), List.map_zipWith] <;> simp [List.zip, List.map_zipWith, nV]
theorem SaleG.lot_of (G : SaleG) {n : Nat} (h : n < G.ls.length) : lotOf G.sale.lots n = G.ls[n].l := by
  unfold lotOf SaleG.sale
  simp [List.getD_eq_getElem?_getD, List.getElem?_eq_getElem h]
def p_volumes_of (A : Adr) : PreN := fun vs H R => ∃ (g : Tg) (s : Addr) (G : SaleG) (y : BidG), vs = [.ref s, .ref y.p] ∧ SaleAt A g H s G ∧ BidAt A g H y ∧ WBid G.sale.lots.length y.b ∧ WSale G.sale ∧ R = isLF ((TimberAuction.totalVolumes G.sale.lots y.b.lots).map nV)
abbrev sp_Sale_volumes_of (_ : PySem.W.Frag) (A : Adr) : Sp := spN (p_volumes_of A)
theorem sc_Sale_volumes_of : FnScope ["self", "bid", "found", "lot", "one", "other"] ["self", "bid"] (defScope (inClass (top 22) 1)) := ⟨rfl, rfl, rfl, by decide +kernel, rfl, by decide +kernel, by decide +kernel⟩
theorem ok_Sale_volumes_of (T : Top K mg A) : MOk P w K mg base 1 A.Sale "volumes_of" ["self", "bid"] (sp_Sale_volumes_of K A) := by
  refine mokN T.mSale_volumes_of sc_Sale_volumes_of (fun vs H R ⟨_, _, _, _, e, _⟩ => by rw [e]; rfl) (fun _ _ _ _ _ _ us hl => match us, hl with | [_, _], _ => rfl) fun f cdv A' outer s' H E hr => ⟨_, (pss_cons (ps_set (i := 2) sc_Sale_volumes_of.nd rfl (by first | exact Or.inl rfl | exact Or.inr rfl) (pe_op op_rep (pe_lst (pa_cons pe_int pa_nil)) (pe_k rfl T.k_GRADES)))
      (pss_cons (ps_for PassesOwn.never rfl (pi_list (pe_fld (pv 1) rfl)) (pg_name (i := 3) sc_Sale_volumes_of.nd rfl (by first | exact Or.inl rfl | exact Or.inr rfl)) (pss_one (ps_setLc (i := 2) (own := [("one", 4), ("other", 5)]) (g := (gTup K 2 (gCons (gName 4) (gCons (gName 5) gNil)))) (tt := tYes) (te := (tOp (rI0 fun i j => .int (i + j)) (tVar 4) (tVar 5))) (by rfl) sc_Sale_volumes_of.nd rfl rfl (sw_true rfl rfl rfl (by decide +kernel)) (pi_zip (by rfl) T.b_zip (pa_cons (pv 2) (pa_cons (pe_fld (pe_ix ix_list (pe_fld (pv 0) rfl) (pv 3) (fun _ _ => rfl)) rfl) pa_nil))) (blkOk_by (own := [("one", 4), ("other", 5)]) (N := ["self", "bid", "found", "lot", "one", "other"]) (sc := defScope (inClass (top 22) 1)) (by decide +kernel)) (fun _ _ _ _ _ => (pg_tup rfl (pgs_cons (pg_name (i := 4) sc_Sale_volumes_of.nd rfl (by first | exact Or.inl rfl | exact Or.inr rfl)) (pgs_cons (pg_name (i := 5) sc_Sale_volumes_of.nd rfl (by first | exact Or.inl rfl | exact Or.inr rfl)) pgs_nil)))) (fun _ _ _ _ _ => pts_nil) (fun _ _ _ _ _ => (pe_op op_add (pv 4) (pv 5))))))
      (pss_one (ps_ret (pv 2))))), ?_⟩
  rintro vs H0 R e ⟨g, s, G, y, rfl, hS, hB, hb, hW, rfl⟩
  have hlen : ∀ l ∈ G.sale.lots, l.volumes.length = 10 := fun l hl => (hW.lots l hl).len
  have hnl : G.sale.lots.length = G.ls.length := by simp [SaleG.sale]
  refine sq_asgL (el_rep (el_lst (ea_cons ev_c ea_nil) (by show 1 ≤ 100000; decide)) ev_c (by decide)) fun p H1 hbp _ e1 hp => ?_
  refine sq_for (evi_list y.b.lots nV (fld_Bid_lots T (ev_var rfl) (hB.ins.up e1)) (sq_of (hB.lots.up e1)))
    (fun i σ' Hk => ∃ (p : Addr) (o : Option V), σ' = [some (.ref s), some (.ref y.p), some (.ref p), o, none, none] ∧ Ex H0 Hk ∧ NL Hk p (volFold G.sale.lots (y.b.lots.take i)) ∧ H p = none) ⟨p, none, rfl, e1, hp, hbp⟩ up_l (fun i σ' Hk _ ⟨_, _, _, e2, _⟩ => sq_of (hB.lots.up e2)) ?_ ?_
  · rintro i n x σ' Hk H2 hn ⟨p2, o, rfl, e2, hp2, _⟩ e3 rfl
    have e23 := e2.trans e3
    have hnl2 : n < G.ls.length := by rw [← hnl]; exact hb.lots n (List.mem_of_getElem? hn)
    have hL := (hS.lot _ (List.getElem_mem hnl2)).up e23
    refine ⟨_, evg_name, Sj.last (sq_asgL (evl_lc (fun _ => true) (fun y => V.int ((y.1 : Int) + (y.2 : Int))) (evi_zip (volFold G.sale.lots (y.b.lots.take i)) G.ls[n].l.volumes nV nV (ev_var rfl)
      (fld_Lot_volumes T (ev_ixL (fld_Sale_lots T (ev_var rfl) (hS.ins.up e23)) (ev_var rfl) (e23 _ _ hS.lots) (get_ref hnl2)) hL.ins) (sq_of (hp2.up e3)) (sq_of hL.vol))
      (fun _ _ ex h => ⟨ex_l ex h.1, ex_l ex h.2⟩) ⟨sq_of (hp2.up e3), sq_of hL.vol⟩ ?_ ?_) fun p3 H3 hb3 _ e4 h3 => sj_next ⟨p3, _, rfl, e23.trans e4, ?_, hb3⟩)⟩
    · rw [List.length_zip, hlen _ (by simp [SaleG.sale]; exact ⟨_, List.getElem_mem hnl2, rfl⟩)]
      omega
    · rintro z x H4 hz e5 ⟨t, rfl, ht⟩
      exact ⟨_, evg_tup (gset_cons (gset_cons gset_nil)) (st_of ht) rfl rfl, rfl, et_yes, fun _ => ev_I0 (ev_var rfl) (ev_var rfl)⟩
    · rw [zip_nV] at h3
      show H3 p3 = _
      rw [h3, take_succ hn, volFold_snoc, SaleG.lot_of G hnl2]
  · rintro σ' Hk ⟨p2, o, rfl, e2, hp2, hf2⟩
    rw [List.take_length, volFold_eq hb.lots hlen] at hp2
    exact sj_ret (ev_var rfl) ⟨p2, rfl, hp2, hf2⟩
/-! ### value_of, reserve_of, is_admissible, total -/
def p_value_of (A : Adr) : PreT := fun vs H R => ∃ (g : Tg) (s : Addr) (G : SaleG) (y : BidG), vs = [.ref s, .ref y.p] ∧ SaleAt A g H s G ∧ BidAt A g H y ∧ WBid G.sale.lots.length y.b ∧ WSale G.sale ∧ R = isV (.int ((G.sale.value y.b : Nat) : Int))
abbrev sp_Sale_value_of (_ : PySem.W.Frag) (A : Adr) : Sp := spP (p_value_of A)
theorem sc_Sale_value_of : FnScope ["self", "bid", "volume", "price"] ["self", "bid"] (defScope (inClass (top 22) 2)) := ⟨rfl, rfl, rfl, by decide +kernel, rfl, by decide +kernel, by decide +kernel⟩
theorem mul_small {a b : Nat} (ha : a ≤ 2 ^ 60) (hb : b ≤ 2 ^ 60) : CMulW (a : Int) (b : Int) :=
  wide_mul (a := 61) (b := 61) (by rw [Int.natAbs_natCast]; omega) (by rw [Int.natAbs_natCast]; omega) (by decide) (by decide) (by decide)
theorem mul_smallI {i j : Int} (h1 : 0 ≤ i) (h2 : i ≤ 2 ^ 60) (h3 : 0 ≤ j) (h4 : j ≤ 2 ^ 60) : CMulW i j := wide_mul (a := 61) (b := 61) (by omega) (by omega) (by decide) (by decide) (by decide)
theorem ok_Sale_value_of (T : Top K mg A) : MOk P w K mg base 2 A.Sale "value_of" ["self", "bid"] (sp_Sale_value_of K A) := by
  refine mokP T.mSale_value_of sc_Sale_value_of (fun vs H R ⟨_, _, _, _, e, _⟩ => by rw [e]; rfl) (fun _ _ _ _ _ _ us hl => match us, hl with | [_, _], _ => rfl) fun f cdv A' outer s' H E hr => ⟨_, (pss_one (ps_ret (pe_callB (cr_sum rfl) (by rfl) T.b_sum (by decide +kernel) (pa_cons (pe_lc (own := [("volume", 2), ("price", 3)]) (g := (gTup K 2 (gCons (gName 2) (gCons (gName 3) gNil)))) (tt := tYes) (te := (tOp (rI CMulW fun i j => .int (i * j)) (tVar 2) (tVar 3))) (by rfl) sc_Sale_value_of.nd (pi_zip (by rfl) T.b_zip (pa_cons (pe_m (ok_Sale_volumes_of T) (pv 0) T.cSale.cl (hr.mono (by decide)) (pa_cons (pv 1) pa_nil)) (pa_cons (pe_fld (pv 1) rfl) pa_nil))) (blkOk_by (own := [("volume", 2), ("price", 3)]) (N := ["self", "bid", "volume", "price"]) (sc := defScope (inClass (top 22) 2)) (by decide +kernel)) (fun _ _ _ _ _ => (pg_tup rfl (pgs_cons (pg_name (i := 2) sc_Sale_value_of.nd rfl (by first | exact Or.inl rfl | exact Or.inr rfl)) (pgs_cons (pg_name (i := 3) sc_Sale_value_of.nd rfl (by first | exact Or.inl rfl | exact Or.inr rfl)) pgs_nil)))) (fun _ _ _ _ _ => pts_nil) (fun _ _ _ _ _ => (pe_op op_mulW (pv 2) (pv 3)))) pa_nil)))), ?_⟩
  rintro vs H0 R e ⟨g, s, G, y, rfl, hS, hB, hb, hW, rfl⟩
  generalize hvs : TimberAuction.totalVolumes G.sale.lots y.b.lots = vols
  have hvl : vols.length = 10 := by rw [← hvs]; exact total_length
  have hvb : ∀ x ∈ vols, x ≤ 10000000 := by rw [← hvs]; exact total_le hW hb
  refine sj_ret (v := .int (((vols.zip y.b.prices).map fun y => (y.1 : Int) * (y.2 : Int)).sum)) (ev_sumN (EvLP.l (bindLcZ (R := isL (vols.map nV)) (R' := fun x z H1 => isL (vols.map nV) x H1 ∧ z = .ref y.pa) ?_ (fun x H1 e1 hx => (fld_Bid_prices T (ev_var rfl) (hB.ins.up e1)).pp fun H2 e2 => ⟨isL_up e2 hx, rfl⟩) ?_) (fun ys H1 (h : ys = _) => h))) ?_
  · exact (evn_meth (R := isLF (vols.map nV)) (ev_var rfl) hS.ins no_Sale_volumes_of (ea_cons (ev_var rfl) ea_nil) ⟨g, s, G, y, rfl, hS, hB, hb, hW, by rw [hvs]⟩ fun _ _ _ _ _ ea ek h => isLF_up ea ek h).lp.p
  · rintro x z H1 e1 ⟨⟨p, rfl, hp⟩, rfl⟩
    refine EvL.lp (EvL.to (evl_lc (fun _ => true) (fun y => V.int ((y.1 : Int) * (y.2 : Int))) (evi_zip vols y.b.prices nV nV ev_c ev_c (sq_of hp) (sq_of (hB.prices.up e1))) (fun _ _ ex h => ⟨ex_l ex h.1, ex_l ex h.2⟩) ⟨sq_of hp, sq_of (hB.prices.up e1)⟩ ?_ ?_) ?_)
    · rw [List.length_zip]
      omega
    · rintro q x H4 hz e5 ⟨t, rfl, ht⟩
      refine ⟨_, evg_tup (gset_cons (gset_cons gset_nil)) (st_of ht) rfl rfl, rfl, et_yes, fun _ => ev_I (ev_var rfl) (ev_var rfl) (mul_small ?_ ?_)⟩
      · have := hvb q.1 (List.of_mem_zip hz).1
        omega
      · have := hb.prices q.2 (List.of_mem_zip hz).2
        omega
    · rw [filter_true, List.map_map]
      rfl
  · show V.int _ = V.int _
    rw [value_sum hvl hb.plen, ← hvs]
    rfl
def p_reserve_of (A : Adr) : PreT := fun vs H R => ∃ (g : Tg) (s : Addr) (G : SaleG) (y : BidG), vs = [.ref s, .ref y.p] ∧ SaleAt A g H s G ∧ BidAt A g H y ∧ WBid G.sale.lots.length y.b ∧ WSale G.sale ∧ R = isV (.int ((G.sale.reserve y.b : Nat) : Int))
abbrev sp_Sale_reserve_of (_ : PySem.W.Frag) (A : Adr) : Sp := spP (p_reserve_of A)
theorem sc_Sale_reserve_of : FnScope ["self", "bid", "lot"] ["self", "bid"] (defScope (inClass (top 22) 3)) := ⟨rfl, rfl, rfl, by decide +kernel, rfl, by decide +kernel, by decide +kernel⟩
theorem ok_Sale_reserve_of (T : Top K mg A) : MOk P w K mg base 1 A.Sale "reserve_of" ["self", "bid"] (sp_Sale_reserve_of K A) := by
  refine mokP T.mSale_reserve_of sc_Sale_reserve_of (fun vs H R ⟨_, _, _, _, e, _⟩ => by rw [e]; rfl) (fun _ _ _ _ _ _ us hl => match us, hl with | [_, _], _ => rfl) fun f cdv A' outer s' H E hr => ⟨_, (pss_one (ps_ret (pe_op op_mulW pe_int (pe_callB (cr_sum rfl) (by rfl) T.b_sum (by decide +kernel) (pa_cons (pe_lc (own := [("lot", 2)]) (g := (gName 2)) (tt := tYes) (te := (tFld K (tOp (rIxL K) (tFld K (tVar 0) "lots") (tVar 2)) "reserve")) (by rfl) sc_Sale_reserve_of.nd (pi_list (pe_fld (pv 1) rfl)) (blkOk_by (own := [("lot", 2)]) (N := ["self", "bid", "lot"]) (sc := defScope (inClass (top 22) 3)) (by decide +kernel)) (fun _ _ _ _ _ => (pg_name (i := 2) sc_Sale_reserve_of.nd rfl (by first | exact Or.inl rfl | exact Or.inr rfl))) (fun _ _ _ _ _ => pts_nil) (fun _ _ _ _ _ => (pe_fld (pe_ix ix_list (pe_fld (pv 0) rfl) (pv 2) (fun _ _ => rfl)) rfl))) pa_nil))))), ?_⟩
  rintro vs H0 R e ⟨g, s, G, y, rfl, hS, hB, hb, hW, rfl⟩
  have hle : ∀ n ∈ y.b.lots, (lotOf G.sale.lots n).reserve ≤ 1000000000 := fun n hn => by
    have hn := hb.lots n hn
    simp only [lotOf, List.getD_eq_getElem?_getD, List.getElem?_eq_getElem hn, Option.getD_some]
    exact (hW.lots _ (List.getElem_mem hn)).res
  have hsum : (y.b.lots.map fun n => (lotOf G.sale.lots n).reserve).sum ≤ 10 * 1000000000 := by
    have h1 := sum_le (l := y.b.lots.map fun n => (lotOf G.sale.lots n).reserve) (B := 1000000000) (fun x hx => by
      obtain ⟨n, hn, rfl⟩ := List.mem_map.mp hx
      exact hle n hn)
    rw [List.length_map] at h1
    exact Nat.le_trans h1 (Nat.mul_le_mul_right _ hb.llen)
  have hs : ((y.b.lots.map fun n => (((lotOf G.sale.lots n).reserve : Nat) : Int))).sum = (((y.b.lots.map fun n => (lotOf G.sale.lots n).reserve).sum : Nat) : Int) := by
    rw [← sum_int, List.map_map]
    rfl
  refine sj_ret (ev_I ev_c (ev_sumN (ns := y.b.lots.map fun n => (((lotOf G.sale.lots n).reserve : Nat) : Int)) (EvL.to (evl_lc (fun _ => true) (fun n => V.int (((lotOf G.sale.lots n).reserve : Nat) : Int)) (evi_list y.b.lots nV (fld_Bid_lots T (ev_var rfl) hB.ins) (sq_of hB.lots)) up_l (sq_of hB.lots) (by have := hb.llen; omega) ?_) ?_)) ?_) ?_
  · rintro n x H1 hn e1 rfl
    have hnl2 : n < G.ls.length := by
      have := hb.lots n hn
      simpa [SaleG.sale] using this
    have hL := (hS.lot _ (List.getElem_mem hnl2)).up e1
    refine ⟨_, evg_name, rfl, et_yes, fun _ => ?_⟩
    rw [SaleG.lot_of G hnl2]
    exact fld_Lot_reserve T (ev_ixL (fld_Sale_lots T (ev_var rfl) (hS.ins.up e1)) (ev_var rfl) (e1 _ _ hS.lots) (get_ref hnl2)) hL.ins
  · rw [filter_true, List.map_map]
    rfl
  · rw [hs]
    exact mul_smallI (by decide) (by decide) (by omega) (by omega)
  · show V.int _ = V.int _
    rw [hs, reserve_eq hb]
    rfl
def p_is_admissible (A : Adr) : PreT := fun vs H R => ∃ (g : Tg) (s : Addr) (G : SaleG) (y : BidG), vs = [.ref s, .ref y.p] ∧ SaleAt A g H s G ∧ BidAt A g H y ∧ WBid G.sale.lots.length y.b ∧ WSale G.sale ∧ R = isV (.bl (G.sale.isAdmissible y.b))
abbrev sp_Sale_is_admissible (_ : PySem.W.Frag) (A : Adr) : Sp := spP (p_is_admissible A)
theorem sc_Sale_is_admissible : FnScope ["self", "bid"] ["self", "bid"] (defScope (inClass (top 22) 4)) := ⟨rfl, rfl, rfl, by decide +kernel, rfl, by decide +kernel, by decide +kernel⟩
theorem ok_Sale_is_admissible (T : Top K mg A) : MOk P w K mg base 3 A.Sale "is_admissible" ["self", "bid"] (sp_Sale_is_admissible K A) := by
  refine mokP T.mSale_is_admissible sc_Sale_is_admissible (fun vs H R ⟨_, _, _, _, e, _⟩ => by rw [e]; rfl) (fun _ _ _ _ _ _ us hl => match us, hl with | [_, _], _ => rfl) fun f cdv A' outer s' H E hr => ⟨_, (pss_one (ps_ret (pe_and (pe_not (pe_fld (pv 1) rfl)) (pe_one (pe_cmpR op_ge (pe_m (ok_Sale_value_of T) (pv 0) T.cSale.cl (hr.mono (by decide)) (pa_cons (pv 1) pa_nil)) (pe_m (ok_Sale_reserve_of T) (pv 0) T.cSale.cl (hr.mono (by decide)) (pa_cons (pv 1) pa_nil)) (nomark _)))))), ?_⟩
  rintro vs H0 R e ⟨g, s, G, y, rfl, hS, hB, hb, hW, rfl⟩
  refine sj_ret (ev_andV (ev_notV (fld_Bid_is_withdrawn T (ev_var rfl) hB.ins)) fun _ => ev_I0 (ev_meth (ev_var rfl) hS.ins no_Sale_value_of (ea_cons (ev_var rfl) ea_nil) (spV_go ⟨g, s, G, y, rfl, hS, hB, hb, hW, rfl⟩))
    (ev_meth (ev_var rfl) hS.ins no_Sale_reserve_of (ea_cons (ev_var rfl) ea_nil) (spV_go ⟨g, s, G, y, rfl, hS, hB, hb, hW, rfl⟩))) ?_
  show V.bl (!y.b.withdrawn && decide (((G.sale.reserve y.b : Nat) : Int) ≤ ((G.sale.value y.b : Nat) : Int))) = V.bl (!y.b.withdrawn && decide (G.sale.reserve y.b ≤ G.sale.value y.b))
  congr 2
  exact decide_eq_decide.mpr (by omega)
theorem SaleG.bid_of (G : SaleG) {n : Nat} (h : n < G.bs.length) : G.sale.bid n = G.bs[n].b := by
  unfold TimberAuction.Sale.bid SaleG.sale
  simp [List.getD_eq_getElem?_getD, List.getElem?_eq_getElem h]
theorem SaleG.wbid {G : SaleG} (hW : WSale G.sale) {n : Nat} (h : n < G.bs.length) : WBid G.sale.lots.length G.bs[n].b := hW.bids _ (by simp [SaleG.sale]; exact ⟨_, List.getElem_mem h, rfl⟩)
/-- a bid by its number -/
theorem ev_bid (T : Top K mg A) {g : Tg} {H : Hp} {s : Addr} {G : SaleG} {n : Nat} {σ : L2.St} {ta tb : TE} (hS : SaleAt A g H s G) (ha : Ev ta σ H (.ref s)) (hb : Ev tb σ H (.int (n : Nat))) (hn : n < G.bs.length) : Ev (tOp (rIxL K) (tFld K ta "bids") tb) σ H (.ref G.bs[n].p) :=
  ev_ixL (fld_Sale_bids T ha hS.ins) hb hS.bids (get_ref hn)
def p_total (A : Adr) : PreT := fun vs H R => ∃ (g : Tg) (s a : Addr) (G : SaleG) (ns : List Nat), vs = [.ref s, .ref a] ∧ SaleAt A g H s G ∧ NL H a ns ∧ ns.length ≤ 1000 ∧ (∀ n ∈ ns, n < G.bs.length) ∧ WSale G.sale ∧ R = isV (.int ((G.sale.totalValue ns : Nat) : Int))
abbrev sp_Sale_total (_ : PySem.W.Frag) (A : Adr) : Sp := spP (p_total A)
theorem sc_Sale_total : FnScope ["self", "numbers", "number"] ["self", "numbers"] (defScope (inClass (top 22) 5)) := ⟨rfl, rfl, rfl, by decide +kernel, rfl, by decide +kernel, by decide +kernel⟩
theorem ok_Sale_total (T : Top K mg A) : MOk P w K mg base 3 A.Sale "total" ["self", "numbers"] (sp_Sale_total K A) := by
  refine mokP T.mSale_total sc_Sale_total (fun vs H R ⟨_, _, _, _, _, e, _⟩ => by rw [e]; rfl) (fun _ _ _ _ _ _ us hl => match us, hl with | [_, _], _ => rfl) fun f cdv A' outer s' H E hr => ⟨_, (pss_one (ps_ret (pe_callB (cr_sum rfl) (by rfl) T.b_sum (by decide +kernel) (pa_cons (pe_lc (own := [("number", 2)]) (g := (gName 2)) (tt := tYes) (te := (tMeth A.Sale "value_of" (sp_Sale_value_of K A) [] E0 (tVar 0) (tCons (tOp (rIxL K) (tFld K (tVar 0) "bids") (tVar 2)) tNil))) (by rfl) sc_Sale_total.nd (pi_list (pv 1)) (blkOk_by (own := [("number", 2)]) (N := ["self", "numbers", "number"]) (sc := defScope (inClass (top 22) 5)) (by decide +kernel)) (fun _ _ _ _ _ => (pg_name (i := 2) sc_Sale_total.nd rfl (by first | exact Or.inl rfl | exact Or.inr rfl))) (fun _ _ _ _ _ => pts_nil) (fun _ _ _ _ _ => (pe_m (ok_Sale_value_of T) (pv 0) T.cSale.cl (hr.mono (by decide)) (pa_cons (pe_ix ix_list (pe_fld (pv 0) rfl) (pv 2) (fun _ _ => rfl)) pa_nil)))) pa_nil)))), ?_⟩
  rintro vs H0 R e ⟨g, s, a, G, ns, rfl, hS, hN, hlen, hns, hW, rfl⟩
  refine sj_ret (ev_sumN (ns := ns.map fun n => ((G.sale.value (G.sale.bid n) : Nat) : Int)) (EvL.to (evl_lc (fun _ => true) (fun n => V.int ((G.sale.value (G.sale.bid n) : Nat) : Int)) (evi_list ns nV (ev_var rfl) (sq_of hN)) up_l (sq_of hN) (by omega) ?_) ?_)) ?_
  · rintro n x H1 hn e1 rfl
    have hn := hns n hn
    refine ⟨_, evg_name, rfl, et_yes, fun _ => ?_⟩
    rw [G.bid_of hn]
    exact ev_meth (ev_var rfl) (hS.ins.up e1) no_Sale_value_of (ea_cons (ev_bid T (hS.up e1) (ev_var rfl) (ev_var rfl) hn) ea_nil) (spV_go ⟨g, s, G, _, rfl, hS.up e1, (hS.bid _ (List.getElem_mem hn)).up e1, SaleG.wbid hW hn, hW, rfl⟩)
  · rw [filter_true, List.map_map]
    rfl
  · show V.int _ = V.int _
    congr 1
    unfold TimberAuction.Sale.totalValue
    rw [sum_eq, ← sum_int, List.map_map]
    rfl
end
end TB
/-! # Sales: whether some bids form a selection -/
namespace TB
open PySem PySem.Spec PyProof.Rows L2 Evl
open TimberAuction (Lot Bid Sale Contract Delivery Bill)
open TBM

theorem inV_nat (x : Nat) (l : List Nat) : inV (nV x) (l.map nV) = l.contains x := by
  unfold inV
  induction l with
  | nil => rfl
  | cons a l ih =>
    rw [List.map_cons, List.any_cons, ih, List.contains_cons]
    congr 1
    show ((a : Int) == (x : Int)) = (x == a)
    rw [Bool.eq_iff_iff]
    simp
    omega
theorem flat_nat (l : List Nat) : (l.map nV).all flatV = true := by
  rw [List.all_eq_true]
  intro v hv
  obtain ⟨n, _, rfl⟩ := List.mem_map.mp hv
  rfl
theorem find_range {p : Nat → Bool} {n i : Nat} (hi : i < n) (hp : p i = true) (hn : ∀ j, j < i → p j = false) : (List.range n).find? p = some i := by
  rw [List.find?_range_eq_some]
  exact ⟨hp, List.mem_range.mpr hi, fun j hj => by rw [hn j hj]; rfl⟩
theorem find_none {p : Nat → Bool} {n : Nat} (h : ∀ j, j < n → p j = false) : (List.range n).find? p = none := by
  rw [List.find?_eq_none]
  intro x hx
  rw [h x (List.mem_range.mp hx)]
  decide
section
variable {P : Program} {w : World} {K : PySem.W.Frag} {mg : Str → Option Value} {base : Heap} {A : Adr}
theorem ev_inP {neg : Bool} {x : V} {xs : List V} {σ : L2.St} {H : Hp} {ta tb : TE} (ha : Ev ta σ H x) (hb : EvP tb σ H (isL xs)) (hx : flatV x = true) (hf : xs.all flatV = true) : Ev (tOp (rIn K neg) ta tb) σ H (.bl (if neg then !inV x xs else inV x xs)) :=
  (bindOp2 (S := isV _) ha hb fun v H1 e1 ⟨p, ev, hp⟩ => by subst ev; exact (ev_inA ev_c ev_c hp hx hf).p).val fun _ _ h => h
/-! ### bidders_of, double_lot, busy_bidder -/
def p_bidders_of (A : Adr) : PreT := fun vs H R => ∃ (g : Tg) (s : Addr) (G : SaleG) (n : Nat), vs = [.ref s, nV n] ∧ SaleAt A g H s G ∧ n < G.bs.length ∧ WSale G.sale ∧ R = isL (((G.sale.bid n).bidders.map (·.1)).map nV)
abbrev sp_Sale_bidders_of (_ : PySem.W.Frag) (A : Adr) : Sp := spP (p_bidders_of A)
theorem sc_Sale_bidders_of : FnScope ["self", "number", "bidder", "weight"] ["self", "number"] (defScope (inClass (top 22) 8)) := ⟨rfl, rfl, rfl, by decide +kernel, rfl, by decide +kernel, by decide +kernel⟩
theorem ok_Sale_bidders_of (T : Top K mg A) : MOk P w K mg base 1 A.Sale "bidders_of" ["self", "number"] (sp_Sale_bidders_of K A) := by
  refine mokP T.mSale_bidders_of sc_Sale_bidders_of (fun vs H R ⟨_, _, _, _, e, _⟩ => by rw [e]; rfl) (fun _ _ _ _ _ _ us hl => match us, hl with | [_, _], _ => rfl) fun f cdv A' outer s' H E hr => ⟨_, (pss_one (ps_ret (pe_lc (own := [("bidder", 2), ("weight", 3)]) (g := (gTup K 2 (gCons (gName 2) (gCons (gName 3) gNil)))) (tt := tYes) (te := (tVar 2)) (by rfl) sc_Sale_bidders_of.nd (pi_list (pe_fld (pe_ix ix_list (pe_fld (pv 0) rfl) (pv 1) (fun _ _ => rfl)) rfl)) (blkOk_by (own := [("bidder", 2), ("weight", 3)]) (N := ["self", "number", "bidder", "weight"]) (sc := defScope (inClass (top 22) 8)) (by decide +kernel)) (fun _ _ _ _ _ => (pg_tup rfl (pgs_cons (pg_name (i := 2) sc_Sale_bidders_of.nd rfl (by first | exact Or.inl rfl | exact Or.inr rfl)) (pgs_cons (pg_name (i := 3) sc_Sale_bidders_of.nd rfl (by first | exact Or.inl rfl | exact Or.inr rfl)) pgs_nil)))) (fun _ _ _ _ _ => pts_nil) (fun _ _ _ _ _ => (pv 2))))), ?_⟩
  rintro vs H0 R e ⟨g, s, G, n, rfl, hS, hn, hW, rfl⟩
  have hB := hS.bid _ (List.getElem_mem hn)
  have hb := SaleG.wbid hW hn
  have hzl : G.bs[n].ts.length ≤ 4 := by
    have := congrArg List.length hB.bidders.eq
    rw [List.length_map] at this
    have := hb.blen.2
    omega
  refine sj_retL (EvL.to (evl_lc (fun _ => true) (fun z => nV z.2.1) (evi_list G.bs[n].ts (fun z => V.ref z.1) (fld_Bid_bidders T (ev_bid T hS (ev_var rfl) (ev_var rfl) hn) hB.ins) (sq_of hB.bidders.lst)) up_l (sq_of hB.bidders.lst) (by omega) ?_) ?_) fun p H1 _ _ _ hp => ⟨p, rfl, hp⟩
  · rintro z x H1 hz e1 rfl
    exact ⟨_, evg_tup (ws := pV z.2) (gset_cons (gset_cons gset_nil)) (st_of (e1 _ _ (hB.bidders.tup z hz))) rfl rfl, rfl, et_yes, fun _ => ev_var rfl⟩
  · rw [filter_true, G.bid_of hn, ← hB.bidders.eq, List.map_map, List.map_map]
    rfl
def p_double_lot (A : Adr) : PreT := fun vs H R => ∃ (g : Tg) (s a : Addr) (G : SaleG) (ns : List Nat), vs = [.ref s, .ref a] ∧ SaleAt A g H s G ∧ NL H a ns ∧ ns.length ≤ 1000 ∧ (∀ n ∈ ns, n < G.bs.length) ∧ WSale G.sale ∧
  R = isV (match (List.range G.sale.lots.length).find? (fun lot => decide (1 < G.sale.bidsWithLot ns lot)) with | some l => nV l | none => .non)
abbrev sp_Sale_double_lot (_ : PySem.W.Frag) (A : Adr) : Sp := spP (p_double_lot A)
theorem sc_Sale_double_lot : FnScope ["self", "numbers", "lot", "number"] ["self", "numbers"] (defScope (inClass (top 22) 6)) := ⟨rfl, rfl, rfl, by decide +kernel, rfl, by decide +kernel, by decide +kernel⟩
theorem ok_Sale_double_lot (T : Top K mg A) : MOk P w K mg base 1 A.Sale "double_lot" ["self", "numbers"] (sp_Sale_double_lot K A) := by
  refine mokP T.mSale_double_lot sc_Sale_double_lot (fun vs H R ⟨_, _, _, _, _, e, _⟩ => by rw [e]; rfl) (fun _ _ _ _ _ _ us hl => match us, hl with | [_, _], _ => rfl) fun f cdv A' outer s' H E hr => ⟨_, (pss_cons (ps_for PassesOwn.never rfl (pi_range1 (by rfl) T.b_range (pa_cons (pe_callB cr_lenS (by rfl) T.b_len boot_len (pa_cons (pe_fld (pv 0) rfl) pa_nil)) pa_nil)) (pg_name (i := 2) sc_Sale_double_lot.nd rfl (by first | exact Or.inl rfl | exact Or.inr rfl)) (pss_one (ps_if (pt_cmpR op_gt (pe_callB cr_lenS (by rfl) T.b_len boot_len (pa_cons (pe_lc (own := [("number", 3)]) (g := (gName 3)) (tt := (tTest (tOp (rIn K false) (tVar 2) (tFld K (tOp (rIxL K) (tFld K (tVar 0) "bids") (tVar 3)) "lots")))) (te := (tVar 3)) (by rfl) sc_Sale_double_lot.nd (pi_list (pv 1)) (blkOk_by (own := [("number", 3)]) (N := ["self", "numbers", "lot", "number"]) (sc := defScope (inClass (top 22) 6)) (by decide +kernel)) (fun _ _ _ _ _ => (pg_name (i := 3) sc_Sale_double_lot.nd rfl (by first | exact Or.inl rfl | exact Or.inr rfl))) (fun _ _ _ _ _ => (pts_one (pt_cmpR op_in_seq (pv 2) (pe_fld (pe_ix ix_list (pe_fld (pv 0) rfl) (pv 3) (fun _ _ => rfl)) rfl) (by with_unfolding_all rfl)))) (fun _ _ _ _ _ => (pv 3))) pa_nil)) pe_int (nomark _)) (pss_one (ps_ret (pv 2))) pss_nil)))
      (pss_one (ps_ret pe_non))), ?_⟩
  rintro vs H0 R e ⟨g, s, a, G, ns, rfl, hS, hN, hlen, hns, hW, rfl⟩
  have hnl : G.sale.lots.length = G.ls.length := by simp [SaleG.sale]
  refine sq_for (l := List.range G.ls.length) (evi_range (n := G.ls.length) ((ev_lenL (fld_Sale_lots T (ev_var rfl) hS.ins) hS.lots).to (by rw [List.length_map])) (by have := hW.nlots; omega))
    (fun i σ' Hk => ∃ o : Option V, σ' = [some (.ref s), some (.ref a), o, none] ∧ Ex H0 Hk ∧ ∀ j, j < i → decide (1 < G.sale.bidsWithLot ns j) = false) ⟨none, rfl, Ex.refl _, fun j hj => absurd hj (Nat.not_lt_zero j)⟩ (fun _ _ _ h => h) (fun _ _ _ _ _ => trivial) ?_ ?_
  · rintro i l x σ' Hk H1 hil ⟨o, rfl, e1, hno⟩ e2 rfl
    have hlt : i < G.ls.length := by have := (List.getElem?_eq_some_iff.mp hil).1; simpa using this
    have eil : i = l := by rw [List.getElem?_range hlt] at hil; exact Option.some.inj hil
    subst eil
    have e12 := e1.trans e2
    have hS1 := hS.up e12
    refine ⟨_, evg_name, Sj.last (sq_ifRet (et_test (ev_I0 (ev_lenN (EvL.to (evl_lc (fun n => (G.sale.bid n).lots.contains i) nV (evi_list ns nV (ev_var rfl) (sq_of (hN.up e12))) up_l (sq_of (hN.up e12)) (by omega) ?_) rfl)) ev_c)) (fun hc => ?_) (fun hc => ?_))⟩
    · rintro n x H2 hn e3 rfl
      have hn := hns n hn
      have hB := (hS1.bid _ (List.getElem_mem hn)).up e3
      refine ⟨_, evg_name, rfl, et_test ((ev_inA (xs := G.bs[n].b.lots.map nV) (ev_var rfl) (fld_Bid_lots T (ev_bid T (hS1.up e3) (ev_var rfl) (ev_var rfl) hn) hB.ins) hB.lots rfl (flat_nat _)).to ?_), fun _ => ev_var rfl⟩
      show V.bl (inV (nV i) (G.bs[n].b.lots.map nV)) = _
      rw [inV_nat, G.bid_of hn]
    · have hlt2 : 1 < G.sale.bidsWithLot ns i := by
        have := of_decide_eq_true hc
        rw [List.length_map] at this
        exact Int.ofNat_lt.mp this
      refine sj_ret (ev_var rfl) ?_
      show nV i = _
      rw [find_range (p := fun lot => decide (1 < G.sale.bidsWithLot ns lot)) (by rw [hnl]; exact hlt) (decide_eq_true hlt2) hno]
    · refine sj_next ⟨_, rfl, e12, fun j hj => ?_⟩
      by_cases hji : j < i
      · exact hno j hji
      · have : j = i := by omega
        subst this
        refine decide_eq_false fun h => ?_
        have := of_decide_eq_false hc
        rw [List.length_map] at this
        exact this (Int.ofNat_lt.mpr h)
  · rintro σ' Hk ⟨o, rfl, e1, hno⟩
    refine sj_ret ev_c ?_
    show V.non = _
    rw [List.length_range] at hno
    rw [find_none (p := fun lot => decide (1 < G.sale.bidsWithLot ns lot)) (fun j hj => hno j (by omega))]
def p_busy_bidder (A : Adr) : PreT := fun vs H R => ∃ (g : Tg) (s a : Addr) (G : SaleG) (ns : List Nat), vs = [.ref s, .ref a] ∧ SaleAt A g H s G ∧ NL H a ns ∧ ns.length ≤ 1000 ∧ (∀ n ∈ ns, n < G.bs.length) ∧ WSale G.sale ∧
  R = isV (match (List.range 16).find? (fun b => decide (G.sale.limits.getD b 0 < G.sale.bidsWithBidder ns b)) with | some l => nV l | none => .non)
abbrev sp_Sale_busy_bidder (_ : PySem.W.Frag) (A : Adr) : Sp := spP (p_busy_bidder A)
theorem has_bidder (b : Bid) (x : Nat) : TimberAuction.hasBidder b x = (b.bidders.map (·.1)).contains x := by
  unfold TimberAuction.hasBidder
  induction b.bidders with
  | nil => rfl
  | cons a l ih =>
    rw [List.any_cons, ih, List.map_cons, List.contains_cons]
    congr 1
    rw [Bool.eq_iff_iff]
    simp
    exact eq_comm
theorem ev_limit (T : Top K mg A) {g : Tg} {H : Hp} {s : Addr} {G : SaleG} {n : Nat} {σ : L2.St} {ta tb : TE} (hS : SaleAt A g H s G) (hW : WSale G.sale) (ha : Ev ta σ H (.ref s)) (hb : Ev tb σ H (.int (n : Nat))) (hn : n < 16) : Ev (tOp (rIxL K) (tFld K ta "limits") tb) σ H (nV (G.sale.limits.getD n 0)) := by
  have hl : n < G.lim.length := by have := hW.nlim; show n < G.sale.limits.length; omega
  refine ev_ixL (fld_Sale_limits T ha hS.ins) hb hS.lims ?_
  rw [List.getElem?_map, List.getElem?_eq_getElem hl]
  show _ = some (nV (G.lim.getD n 0))
  rw [List.getD_eq_getElem?_getD, List.getElem?_eq_getElem hl]
  rfl
theorem sc_Sale_busy_bidder : FnScope ["self", "numbers", "bidder", "some", "number"] ["self", "numbers"] (defScope (inClass (top 22) 7)) := ⟨rfl, rfl, rfl, by decide +kernel, rfl, by decide +kernel, by decide +kernel⟩
theorem ok_Sale_busy_bidder (T : Top K mg A) : MOk P w K mg base 2 A.Sale "busy_bidder" ["self", "numbers"] (sp_Sale_busy_bidder K A) := by
  refine mokP T.mSale_busy_bidder sc_Sale_busy_bidder (fun vs H R ⟨_, _, _, _, _, e, _⟩ => by rw [e]; rfl) (fun _ _ _ _ _ _ us hl => match us, hl with | [_, _], _ => rfl) fun f cdv A' outer s' H E hr => ⟨_, (pss_cons (ps_for PassesOwn.never rfl (pi_range1 (by rfl) T.b_range (pa_cons (pe_k rfl T.k_BIDDERS) pa_nil)) (pg_name (i := 2) sc_Sale_busy_bidder.nd rfl (by first | exact Or.inl rfl | exact Or.inr rfl)) (pss_cons (ps_setLc (i := 3) (own := [("number", 4)]) (g := (gName 4)) (tt := (tTest (tOp (rIn K false) (tVar 2) (tMeth A.Sale "bidders_of" (sp_Sale_bidders_of K A) [] E0 (tVar 0) (tCons (tVar 4) tNil))))) (te := (tVar 4)) (by rfl) sc_Sale_busy_bidder.nd rfl rfl (sw_true rfl rfl rfl (by decide +kernel)) (pi_list (pv 1)) (blkOk_by (own := [("number", 4)]) (N := ["self", "numbers", "bidder", "some", "number"]) (sc := defScope (inClass (top 22) 7)) (by decide +kernel)) (fun _ _ _ _ _ => (pg_name (i := 4) sc_Sale_busy_bidder.nd rfl (by first | exact Or.inl rfl | exact Or.inr rfl))) (fun _ _ _ _ _ => (pts_one (pt_cmpR op_in_seq (pv 2) (pe_m (ok_Sale_bidders_of T) (pv 0) T.cSale.cl (hr.mono (by decide)) (pa_cons (pv 4) pa_nil)) (by with_unfolding_all rfl)))) (fun _ _ _ _ _ => (pv 4)))
      (pss_one (ps_if (pt_cmpR op_gt (pe_callB cr_lenS (by rfl) T.b_len boot_len (pa_cons (pv 3) pa_nil)) (pe_ix ix_list (pe_fld (pv 0) rfl) (pv 2) (fun _ _ => rfl)) (nomark _)) (pss_one (ps_ret (pv 2))) pss_nil))))
      (pss_one (ps_ret pe_non))), ?_⟩
  rintro vs H0 R e ⟨g, s, a, G, ns, rfl, hS, hN, hlen, hns, hW, rfl⟩
  refine sq_for (l := List.range 16) (evi_range (n := 16) ev_c (by decide))
    (fun i σ' Hk => ∃ o q : Option V, σ' = [some (.ref s), some (.ref a), o, q, none] ∧ Ex H0 Hk ∧ ∀ j, j < i → decide (G.sale.limits.getD j 0 < G.sale.bidsWithBidder ns j) = false) ⟨none, none, rfl, Ex.refl _, fun j hj => absurd hj (Nat.not_lt_zero j)⟩ (fun _ _ _ h => h) (fun _ _ _ _ _ => trivial) ?_ ?_
  · rintro i l x σ' Hk H1 hil ⟨o, q, rfl, e1, hno⟩ e2 rfl
    have hlt : i < 16 := by have := (List.getElem?_eq_some_iff.mp hil).1; simpa using this
    have eil : i = l := by rw [List.getElem?_range hlt] at hil; exact Option.some.inj hil
    subst eil
    have e12 := e1.trans e2
    have hS1 := hS.up e12
    refine ⟨_, evg_name, sq_asgL (xs := (ns.filter fun n => TimberAuction.hasBidder (G.sale.bid n) i).map nV) (evl_lc (fun n => TimberAuction.hasBidder (G.sale.bid n) i) nV (evi_list ns nV (ev_var rfl) (sq_of (hN.up e12))) up_l (sq_of (hN.up e12)) (by omega) ?_) fun p H2 _ _ e3 hp => ?_⟩
    · rintro n x H2 hn e3 rfl
      have hn := hns n hn
      refine ⟨_, evg_name, rfl, et_test ((ev_inP (xs := ((G.sale.bid n).bidders.map (·.1)).map nV) (ev_var rfl) (evp_meth (ev_var rfl) (hS1.ins.up e3) no_Sale_bidders_of (ea_cons (ev_var rfl) ea_nil) (spL_go ⟨g, s, G, n, rfl, hS1.up e3, hn, hW, rfl⟩)) rfl (flat_nat _)).to ?_), fun _ => ev_var rfl⟩
      show V.bl (inV (nV i) (((G.sale.bid n).bidders.map (·.1)).map nV)) = _
      rw [inV_nat, has_bidder]
    · refine Sj.last (sq_ifRet (et_test (ev_I0 (ev_lenL (ev_var rfl) hp) (ev_limit T (hS1.up e3) hW (ev_var rfl) (ev_var rfl) hlt))) (fun hc => ?_) (fun hc => ?_))
      · have hlt2 : G.sale.limits.getD i 0 < G.sale.bidsWithBidder ns i := by
          have := of_decide_eq_true hc
          rw [List.length_map] at this
          exact Int.ofNat_lt.mp this
        refine sj_ret (ev_var rfl) ?_
        show nV i = _
        rw [find_range (p := fun b => decide (G.sale.limits.getD b 0 < G.sale.bidsWithBidder ns b)) hlt (decide_eq_true hlt2) hno]
      · refine sj_next ⟨_, _, rfl, e12.trans e3, fun j hj => ?_⟩
        by_cases hji : j < i
        · exact hno j hji
        · have : j = i := by omega
          subst this
          refine decide_eq_false fun h => ?_
          have := of_decide_eq_false hc
          rw [List.length_map] at this
          exact this (Int.ofNat_lt.mpr h)
  · rintro σ' Hk ⟨o, q, rfl, e1, hno⟩
    refine sj_ret ev_c ?_
    show V.non = _
    rw [List.length_range] at hno
    rw [find_none (p := fun b => decide (G.sale.limits.getD b 0 < G.sale.bidsWithBidder ns b)) (fun j hj => hno j (by omega))]
/-- what is told of some bids -/
def told (S : Sale) (ns : List Nat) : List V := match S.violation ns with
  | none => [.int 0, .int ((S.totalValue ns : Nat) : Int)]
  | some v => [nV v.1, nV v.2]
def p_judged (A : Adr) : PreT := fun vs H R => ∃ (g : Tg) (s a : Addr) (G : SaleG) (ns : List Nat), vs = [.ref s, .ref a] ∧ SaleAt A g H s G ∧ NL H a ns ∧ ns.length ≤ 1000 ∧ (∀ n ∈ ns, n < G.bs.length) ∧ WSale G.sale ∧ R = isL (told G.sale ns)
abbrev sp_Sale_judged (_ : PySem.W.Frag) (A : Adr) : Sp := spP (p_judged A)
theorem sc_Sale_judged : FnScope ["self", "numbers", "odd", "number"] ["self", "numbers"] (defScope (inClass (top 22) 9)) := ⟨rfl, rfl, rfl, by decide +kernel, rfl, by decide +kernel, by decide +kernel⟩
theorem ok_Sale_judged (T : Top K mg A) : MOk P w K mg base 4 A.Sale "judged" ["self", "numbers"] (sp_Sale_judged K A) := by
  refine mokP T.mSale_judged sc_Sale_judged (fun vs H R ⟨_, _, _, _, _, e, _⟩ => by rw [e]; rfl) (fun _ _ _ _ _ _ us hl => match us, hl with | [_, _], _ => rfl) fun f cdv A' outer s' H E hr => ⟨_, (pss_cons (ps_setLc (i := 2) (own := [("number", 3)]) (g := (gName 3)) (tt := (tNot (tB (tMeth A.Sale "is_admissible" (sp_Sale_is_admissible K A) [] E0 (tVar 0) (tCons (tOp (rIxL K) (tFld K (tVar 0) "bids") (tVar 3)) tNil))))) (te := (tVar 3)) (by rfl) sc_Sale_judged.nd rfl rfl (sw_true rfl rfl rfl (by decide +kernel)) (pi_list (pv 1)) (blkOk_by (own := [("number", 3)]) (N := ["self", "numbers", "odd", "number"]) (sc := defScope (inClass (top 22) 9)) (by decide +kernel)) (fun _ _ _ _ _ => (pg_name (i := 3) sc_Sale_judged.nd rfl (by first | exact Or.inl rfl | exact Or.inr rfl))) (fun _ _ _ _ _ => (pts_one (pt_not (pt_val (pe_m (ok_Sale_is_admissible T) (pv 0) T.cSale.cl (hr.mono (by decide)) (pa_cons (pe_ix ix_list (pe_fld (pv 0) rfl) (pv 3) (fun _ _ => rfl)) pa_nil)))))) (fun _ _ _ _ _ => (pv 3)))
      (pss_cons (ps_if (pt_cmpR (op_neN (hu1 hr)) (pv 2) (pe_lst pa_nil) (nomark _)) (pss_one (ps_ret (pe_lst (pa_cons pe_int (pa_cons (pe_ix ix_list (pv 2) pe_int (fun _ _ => rfl)) pa_nil))))) pss_nil)
      (pss_cons (ps_if (pt_cmpR op_notN1 (pe_m (ok_Sale_double_lot T) (pv 0) T.cSale.cl (hr.mono (by decide)) (pa_cons (pv 1) pa_nil)) pe_non (nomark _)) (pss_one (ps_ret (pe_lst (pa_cons pe_int (pa_cons (pe_m (ok_Sale_double_lot T) (pv 0) T.cSale.cl (hr.mono (by decide)) (pa_cons (pv 1) pa_nil)) pa_nil))))) pss_nil)
      (pss_cons (ps_if (pt_cmpR op_notN1 (pe_m (ok_Sale_busy_bidder T) (pv 0) T.cSale.cl (hr.mono (by decide)) (pa_cons (pv 1) pa_nil)) pe_non (nomark _)) (pss_one (ps_ret (pe_lst (pa_cons pe_int (pa_cons (pe_m (ok_Sale_busy_bidder T) (pv 0) T.cSale.cl (hr.mono (by decide)) (pa_cons (pv 1) pa_nil)) pa_nil))))) pss_nil)
      (pss_one (ps_ret (pe_lst (pa_cons pe_int (pa_cons (pe_m (ok_Sale_total T) (pv 0) T.cSale.cl (hr.mono (by decide)) (pa_cons (pv 1) pa_nil)) pa_nil))))))))), ?_⟩
  rintro vs H0 R e ⟨g, s, a, G, ns, rfl, hS, hN, hlen, hns, hW, rfl⟩
  refine sq_asgL (xs := (ns.filter fun n => !G.sale.isAdmissible (G.sale.bid n)).map nV) (evl_lc (fun n => !G.sale.isAdmissible (G.sale.bid n)) nV (evi_list ns nV (ev_var rfl) (sq_of hN)) up_l (sq_of hN) (by omega) ?_) fun p H1 _ _ e1 hp => ?_
  · rintro n x H1 hn e1 rfl
    have hn := hns n hn
    refine ⟨_, evg_name, rfl, et_not (et_B ?_), fun _ => ev_var rfl⟩
    rw [G.bid_of hn]
    exact ev_meth (ev_var rfl) (hS.ins.up e1) no_Sale_is_admissible (ea_cons (ev_bid T (hS.up e1) (ev_var rfl) (ev_var rfl) hn) ea_nil) (spV_go ⟨g, s, G, _, rfl, hS.up e1, (hS.bid _ (List.getElem_mem hn)).up e1, SaleG.wbid hW hn, hW, rfl⟩)
  have hS1 := hS.up e1
  have hf := List.head?_filter (p := fun n => !G.sale.isAdmissible (G.sale.bid n)) (l := ns)
  refine sq_ifRet (et_test (ev_neA (ev_var rfl) hp)) (fun hc => ?_) (fun hc => ?_)
  · cases ho : ns.filter (fun n => !G.sale.isAdmissible (G.sale.bid n)) with
    | nil => rw [ho] at hc; exact absurd hc (by decide)
    | cons o r =>
      rw [ho] at hp hf
      refine sj_retL (el_lst (ea_cons ev_c (ea_cons (ev_ixL (n := 0) (v := nV o) (ev_var rfl) ev_c hp rfl) ea_nil)) (by show 2 ≤ 100000; decide)) fun p2 H2 _ _ e2 h2 => ⟨p2, rfl, ?_⟩
      rw [h2, told, TimberAuction.Sale.violation, ← hf]
      rfl
  · have ho : ns.filter (fun n => !G.sale.isAdmissible (G.sale.bid n)) = [] := by
      cases h : ns.filter (fun n => !G.sale.isAdmissible (G.sale.bid n)) with
      | nil => rfl
      | cons o r => rw [h] at hc; exact absurd hc (by simp)
    rw [ho] at hf
    have hd : ∀ (H2 : Hp), Ex H1 H2 → Ev (tMeth A.Sale "double_lot" (sp_Sale_double_lot K A) [] E0 (tVar 0) (tCons (tVar 1) tNil)) [some (.ref s), some (.ref a), some (.ref p), none] H2 (match (List.range G.sale.lots.length).find? (fun lot => decide (1 < G.sale.bidsWithLot ns lot)) with | some l => nV l | none => .non) := fun H2 e2 =>
      ev_meth (ev_var rfl) (hS1.ins.up e2) no_Sale_double_lot (ea_cons (ev_var rfl) ea_nil) (spV_go ⟨g, s, a, G, ns, rfl, hS1.up e2, hN.up (e1.trans e2), hlen, hns, hW, rfl⟩)
    have hbz : ∀ (H2 : Hp), Ex H1 H2 → Ev (tMeth A.Sale "busy_bidder" (sp_Sale_busy_bidder K A) [] E0 (tVar 0) (tCons (tVar 1) tNil)) [some (.ref s), some (.ref a), some (.ref p), none] H2 (match (List.range 16).find? (fun b => decide (G.sale.limits.getD b 0 < G.sale.bidsWithBidder ns b)) with | some l => nV l | none => .non) := fun H2 e2 =>
      ev_meth (ev_var rfl) (hS1.ins.up e2) no_Sale_busy_bidder (ea_cons (ev_var rfl) ea_nil) (spV_go ⟨g, s, a, G, ns, rfl, hS1.up e2, hN.up (e1.trans e2), hlen, hns, hW, rfl⟩)
    refine sq_ifRet (et_test (ev_notN (hd H1 (Ex.refl _)))) (fun hc => ?_) (fun hc => ?_)
    · cases hl : (List.range G.sale.lots.length).find? (fun lot => decide (1 < G.sale.bidsWithLot ns lot)) with
      | none => rw [hl] at hc; exact absurd hc (by decide)
      | some l =>
        have hd := hd H1 (Ex.refl _)
        rw [hl] at hd
        refine sj_retL (el_lst (ea_cons ev_c (ea_cons hd ea_nil)) (by show 2 ≤ 100000; decide)) fun p2 H2 _ _ e2 h2 => ⟨p2, rfl, ?_⟩
        rw [h2, told, TimberAuction.Sale.violation, ← hf]
        simp only [List.head?_nil]
        rw [hl]
        rfl
    · have hl : (List.range G.sale.lots.length).find? (fun lot => decide (1 < G.sale.bidsWithLot ns lot)) = none := by
        cases hl : (List.range G.sale.lots.length).find? (fun lot => decide (1 < G.sale.bidsWithLot ns lot)) with
        | none => rfl
        | some l => rw [hl] at hc; exact absurd hc (by simp [nV])
      refine sq_ifRet (et_test (ev_notN (hbz H1 (Ex.refl _)))) (fun hc => ?_) (fun hc => ?_)
      · cases hb : (List.range 16).find? (fun b => decide (G.sale.limits.getD b 0 < G.sale.bidsWithBidder ns b)) with
        | none => rw [hb] at hc; exact absurd hc (by decide)
        | some l =>
          have hd := hbz H1 (Ex.refl _)
          rw [hb] at hd
          refine sj_retL (el_lst (ea_cons ev_c (ea_cons hd ea_nil)) (by show 2 ≤ 100000; decide)) fun p2 H2 _ _ e2 h2 => ⟨p2, rfl, ?_⟩
          rw [h2, told, TimberAuction.Sale.violation, ← hf]
          simp only [List.head?_nil]
          rw [hl]
          simp only
          rw [hb]
          rfl
      · have hb : (List.range 16).find? (fun b => decide (G.sale.limits.getD b 0 < G.sale.bidsWithBidder ns b)) = none := by
          cases hb : (List.range 16).find? (fun b => decide (G.sale.limits.getD b 0 < G.sale.bidsWithBidder ns b)) with
          | none => rfl
          | some l => rw [hb] at hc; exact absurd hc (by simp [nV])
        refine sj_retL (el_lst (ea_cons ev_c (ea_cons (ev_meth (ev_var rfl) hS1.ins no_Sale_total (ea_cons (ev_var rfl) ea_nil) (spV_go ⟨g, s, a, G, ns, rfl, hS1, hN.up e1, hlen, hns, hW, rfl⟩)) ea_nil)) (by show 2 ≤ 100000; decide)) fun p2 H2 _ _ e2 h2 => ⟨p2, rfl, ?_⟩
        rw [h2, told, TimberAuction.Sale.violation, ← hf]
        simp only [List.head?_nil]
        rw [hl]
        simp only
        rw [hb]
        rfl
end
end TB
/-! # Sales: rows -/
namespace TB
open PySem PySem.Spec PyProof.Rows L2 Evl
open TimberAuction (Lot Bid Sale Contract Delivery Bill)
open TBM

/-- a row of the program: value, numbers, lots, how many bids each bidder has -/
structure RowIs (S : Sale) (H : Hp) (t na la ca : Addr) (ns : List Nat) : Prop where
  tup : H t = some (.tup [nV (S.totalValue ns), .ref na, .ref la, .ref ca])
  nums : NL H na ns
  lots : NL H la (lotsOf S ns)
  cnt : NL H ca (countsOf S ns)
def RowAt (S : Sale) (H : Hp) (t : Addr) (ns : List Nat) : Prop := ∃ na la ca, RowIs S H t na la ca ns
theorem RowIs.up {S : Sale} {H H' : Hp} {t na la ca : Addr} {ns : List Nat} (e : Ex H H') (h : RowIs S H t na la ca ns) : RowIs S H' t na la ca ns := ⟨e _ _ h.tup, h.nums.up e, h.lots.up e, h.cnt.up e⟩
theorem RowAt.up {S : Sale} {H H' : Hp} {t : Addr} {ns : List Nat} (e : Ex H H') (h : RowAt S H t ns) : RowAt S H' t ns := let ⟨a, b, c, h⟩ := h; ⟨a, b, c, h.up e⟩
theorem empty_map {α β : Type} (l : List α) (f : α → β) : (l.map f).isEmpty = l.isEmpty := by cases l <;> rfl
section
variable {P : Program} {w : World} {K : PySem.W.Frag} {mg : Str → Option Value} {base : Heap} {A : Adr}
theorem ev_count {S : Sale} {ns : List Nat} {n : Nat} {H : Hp} {ca : Addr} {σ : L2.St} {ta tb : TE} (ha : Ev ta σ H (.ref ca)) (hb : Ev tb σ H (.int (n : Nat))) (h : NL H ca (countsOf S ns)) (hn : n < 16) : Ev (tOp (rIxL K) ta tb) σ H (nV (S.bidsWithBidder ns n)) := by
  refine ev_ixL ha hb h ?_
  rw [countsOf, List.map_map, List.getElem?_map, List.getElem?_range hn]
  rfl
def p_fits (A : Adr) : PreT := fun vs H R => ∃ (g : Tg) (s t : Addr) (G : SaleG) (n : Nat) (ns : List Nat), vs = [.ref s, .ref t, nV n] ∧ SaleAt A g H s G ∧ RowAt G.sale H t ns ∧ n < G.bs.length ∧ WSale G.sale ∧ R = isV (.bl (fits G.sale ns n))
abbrev sp_Sale_fits (_ : PySem.W.Frag) (A : Adr) : Sp := spP (p_fits A)
theorem sc_Sale_fits : FnScope ["self", "row", "number", "value", "numbers", "lots", "counts", "lot", "bidder"] ["self", "row", "number"] (defScope (inClass (top 22) 10)) := ⟨rfl, rfl, rfl, by decide +kernel, rfl, by decide +kernel, by decide +kernel⟩
theorem ok_Sale_fits (T : Top K mg A) : MOk P w K mg base 2 A.Sale "fits" ["self", "row", "number"] (sp_Sale_fits K A) := by
  refine mokP T.mSale_fits sc_Sale_fits (fun vs H R ⟨_, _, _, _, _, _, e, _⟩ => by rw [e]; rfl) (fun _ _ _ _ _ _ us hl => match us, hl with | [_, _, _], _ => rfl) fun f cdv A' outer s' H E hr => ⟨_, (pss_cons (ps_asg (pv 1) (pg_tup rfl (pgs_cons (pg_name (i := 3) sc_Sale_fits.nd rfl (by first | exact Or.inl rfl | exact Or.inr rfl)) (pgs_cons (pg_name (i := 4) sc_Sale_fits.nd rfl (by first | exact Or.inl rfl | exact Or.inr rfl)) (pgs_cons (pg_name (i := 5) sc_Sale_fits.nd rfl (by first | exact Or.inl rfl | exact Or.inr rfl)) (pgs_cons (pg_name (i := 6) sc_Sale_fits.nd rfl (by first | exact Or.inl rfl | exact Or.inr rfl)) pgs_nil))))))
      (pss_cons (ps_if (pt_cmpR (op_neN (hu1 hr)) (pe_lc (own := [("lot", 7)]) (g := (gName 7)) (tt := (tTest (tOp (rIn K false) (tVar 7) (tVar 5)))) (te := (tVar 7)) (by rfl) sc_Sale_fits.nd (pi_list (pe_fld (pe_ix ix_list (pe_fld (pv 0) rfl) (pv 2) (fun _ _ => rfl)) rfl)) (blkOk_by (own := [("lot", 7)]) (N := ["self", "row", "number", "value", "numbers", "lots", "counts", "lot", "bidder"]) (sc := defScope (inClass (top 22) 10)) (by decide +kernel)) (fun _ _ _ _ _ => (pg_name (i := 7) sc_Sale_fits.nd rfl (by first | exact Or.inl rfl | exact Or.inr rfl))) (fun _ _ _ _ _ => (pts_one (pt_cmpR op_in_seq (pv 7) (pv 5) (by with_unfolding_all rfl)))) (fun _ _ _ _ _ => (pv 7))) (pe_lst pa_nil) (nomark _)) (pss_one (ps_ret pe_bl)) pss_nil)
      (pss_one (ps_ret (pe_cmpR (op_eqN (hu1 hr)) (pe_lc (own := [("bidder", 8)]) (g := (gName 8)) (tt := (tTest (tOp (rI0 fun i j => .bl (decide (j ≤ i))) (tOp (rIxL K) (tVar 6) (tVar 8)) (tOp (rIxL K) (tFld K (tVar 0) "limits") (tVar 8))))) (te := (tVar 8)) (by rfl) sc_Sale_fits.nd (pi_list (pe_m (ok_Sale_bidders_of T) (pv 0) T.cSale.cl (hr.mono (by decide)) (pa_cons (pv 2) pa_nil))) (blkOk_by (own := [("bidder", 8)]) (N := ["self", "row", "number", "value", "numbers", "lots", "counts", "lot", "bidder"]) (sc := defScope (inClass (top 22) 10)) (by decide +kernel)) (fun _ _ _ _ _ => (pg_name (i := 8) sc_Sale_fits.nd rfl (by first | exact Or.inl rfl | exact Or.inr rfl))) (fun _ _ _ _ _ => (pts_one (pt_cmpR op_ge (pe_ix ix_list (pv 6) (pv 8) (fun _ _ => rfl)) (pe_ix ix_list (pe_fld (pv 0) rfl) (pv 8) (fun _ _ => rfl)) (nomark _)))) (fun _ _ _ _ _ => (pv 8))) (pe_lst pa_nil) (nomark _)))))), ?_⟩
  rintro vs H0 R e ⟨g, s, t, G, n, ns, rfl, hS, ⟨na, la, ca, hR⟩, hn, hW, rfl⟩
  have hB := hS.bid _ (List.getElem_mem hn)
  have hb := SaleG.wbid hW hn
  refine sq_tup (K := K) (is := [3, 4, 5, 6]) (R := fun xs _ => xs = [nV (G.sale.totalValue ns), .ref na, .ref la, .ref ca]) ((ev_var rfl).pp (v := .ref t) fun H1 e1 => ⟨t, _, rfl, st_of (e1 _ _ hR.tup), rfl⟩) (gset_cons (gset_cons (gset_cons (gset_cons gset_nil)))) rfl (fun xs _ h => by rw [h]; rfl) fun xs H1 e1 h => ?_
  subst h
  have hR := hR.up e1
  have hS := hS.up e1
  have hB := hB.up e1
  refine sq_ifRet (et_test (ev_neN (evl_lc (fun l => (lotsOf G.sale ns).contains l) nV (evi_list G.bs[n].b.lots nV (fld_Bid_lots T (ev_bid T hS (ev_var rfl) (ev_var rfl) hn) hB.ins) (sq_of hB.lots)) up_l (sq_of hB.lots) (by have := hb.llen; omega) ?_))) (fun hc => ?_) (fun hc => ?_)
  · rintro l x H2 hl e2 rfl
    refine ⟨_, evg_name, rfl, et_test ((ev_inA (xs := (lotsOf G.sale ns).map nV) (ev_var rfl) (ev_var rfl) (hR.lots.up e2) rfl (flat_nat _)).to ?_), fun _ => ev_var rfl⟩
    show V.bl (inV (nV l) _) = _
    rw [inV_nat]
  · refine sj_ret ev_c ?_
    rw [empty_map, ← G.bid_of hn] at hc
    show V.bl false = _
    rw [fits]
    rw [show ((G.sale.bid n).lots.filter fun l => (lotsOf G.sale ns).contains l).isEmpty = false by simpa using hc]
    rfl
  · rw [empty_map, ← G.bid_of hn] at hc
    refine sj_ret (ev_eqN (EvLP.l (bindLc (evp_meth (ev_var rfl) hS.ins no_Sale_bidders_of (ea_cons (ev_var rfl) ea_nil) (spL_go ⟨g, s, G, n, rfl, hS, hn, hW, rfl⟩)) (fun x H2 e2 ⟨p, ex, hp⟩ => by
      subst ex
      refine EvL.lp (evl_lc (fun b => decide (G.sale.limits.getD b 0 ≤ G.sale.bidsWithBidder ns b)) nV (evi_list ((G.sale.bid n).bidders.map (·.1)) nV ev_c (sq_of hp)) up_l (sq_of hp) (by have := hb.blen.2; rw [List.length_map, G.bid_of hn]; omega) ?_)
      rintro b x H3 hbm e3 rfl
      have hlt : b < 16 := by
        rw [G.bid_of hn] at hbm
        obtain ⟨z, hz, rfl⟩ := List.mem_map.mp hbm
        have := (hb.bid z hz).1
        omega
      refine ⟨_, evg_name, rfl, et_test ((ev_I0 (ev_count (ev_var rfl) (ev_var rfl) (hR.cnt.up (e2.trans e3)) hlt) (ev_limit T (hS.up (e2.trans e3)) hW (ev_var rfl) (ev_var rfl) hlt)).to ?_), fun _ => ev_var rfl⟩
      show V.bl (decide ((((G.sale.limits.getD b 0 : Nat) : Int)) ≤ ((G.sale.bidsWithBidder ns b : Nat) : Int))) = _
      congr 1
      exact decide_eq_decide.mpr (by omega))) (fun ys H1 (h : ys = _) => h))) ?_
    show V.bl _ = V.bl _
    rw [empty_map, fits, show ((G.sale.bid n).lots.filter fun l => (lotsOf G.sale ns).contains l).isEmpty = true by simpa using hc, Bool.true_and]
/-! ### longer -/
/-- a list's item plus something -/
theorem sq_augL {B H : Hp} {σ : L2.St} {N : L2.St → Hp → Prop} {Pq : V → Hp → Prop} {to ti te : TE} {u : TS} {f : Int → Int → Int} {l : Addr} {xs : List V} {n : Nat} {i j : Int} (hl : H l = some (.lst xs)) (hb : B l = none) (ho : Ev to σ H (.ref l)) (hi : Ev ti σ H (.int (n : Nat))) (hx : xs[n]? = some (.int i)) (h : Ev te σ H (.int j))
    (k : Sj B u σ (upd H l (.lst (xs.set n (.int (f i j))))) N Pq) : Sj B (tSeq (tAugS to ti te (rGetN K) (ipI f) rSetL) u) σ H N Pq := fun H1 e eb D kn kr => ho H1 e _ fun H2 e2 => hi H2 (e.trans e2) _ fun H3 e3 => by
  have e13 := (e.trans e2).trans e3
  refine ⟨l, xs, n, .int i, rfl, rfl, sq_of (e13 _ _ hl), hx, h H3 e13 _ fun H4 e4 => ⟨i, j, rfl, rfl, l, xs, (n : Nat), n, rfl, rfl, (e13.trans e4) _ _ hl, ixN_nat (List.getElem?_eq_some_iff.mp hx).1, ?_⟩⟩
  exact k _ (e13.trans e4).upd (Ex.mut (((eb.trans e2).trans e3).trans e4) hb) D kn kr
def addOne (c : List Nat) (bs : List Nat) : List Nat := bs.foldl (fun c b => c.set b (c.getD b 0 + 1)) c
theorem addOne_snoc {c bs : List Nat} {b : Nat} : addOne c (bs ++ [b]) = (addOne c bs).set b ((addOne c bs).getD b 0 + 1) := by
  unfold addOne
  rw [List.foldl_append, List.foldl_cons, List.foldl_nil]
theorem addOne_length : ∀ {bs c : List Nat}, (addOne c bs).length = c.length
  | [], _ => rfl
  | b :: bs, c => by
    show (addOne (c.set b (c.getD b 0 + 1)) bs).length = _
    rw [addOne_length, List.length_set]
theorem addOne_get : ∀ {bs c : List Nat} {i : Nat}, bs.Nodup → (∀ b ∈ bs, b < c.length) → i < c.length → (addOne c bs).getD i 0 = c.getD i 0 + if i ∈ bs then 1 else 0
  | [], c, i, _, _, _ => by simp [addOne]
  | b :: bs, c, i, hn, hb, hi => by
    have hn' := List.nodup_cons.mp hn
    show (addOne (c.set b (c.getD b 0 + 1)) bs).getD i 0 = _
    rw [addOne_get hn'.2 (fun x hx => by rw [List.length_set]; exact hb x (List.mem_cons_of_mem _ hx)) (by rw [List.length_set]; exact hi)]
    by_cases h : i = b
    · subst h
      rw [if_neg hn'.1, if_pos List.mem_cons_self, List.getD_eq_getElem?_getD, List.getElem?_set_self hi]
      simp
    · have e1 : (c.set b (c.getD b 0 + 1)).getD i 0 = c.getD i 0 := by
        rw [List.getD_eq_getElem?_getD, List.getElem?_set_ne (fun z => h z.symm), ← List.getD_eq_getElem?_getD]
      rw [e1]
      congr 1
      simp [h]
theorem counts_snoc {S : Sale} {ns : List Nat} {n : Nat} (hb : WBid S.lots.length (S.bid n)) : addOne (countsOf S ns) ((S.bid n).bidders.map (·.1)) = countsOf S (ns ++ [n]) := by
  have hl : ∀ ms : List Nat, (countsOf S ms).length = 16 := fun ms => by simp [countsOf]
  refine List.ext_getElem (by rw [addOne_length, hl, hl]) fun i h1 h2 => ?_
  have hi : i < 16 := by rw [hl] at h2; exact h2
  have g : ∀ ms : List Nat, (countsOf S ms).getD i 0 = S.bidsWithBidder ms i := fun ms => by
    simp [countsOf, List.getD_eq_getElem?_getD, List.getElem?_range hi]
  have e1 := addOne_get (c := countsOf S ns) (i := i) hb.bnd (fun b hbm => by
    obtain ⟨z, hz, rfl⟩ := List.mem_map.mp hbm
    have := (hb.bid z hz).1
    rw [hl]; omega) (by rw [hl]; exact hi)
  have e2 := g (ns ++ [n])
  rw [g ns] at e1
  rw [bidder_snoc] at e2
  have h3 : (addOne (countsOf S ns) ((S.bid n).bidders.map (·.1)))[i] = (addOne (countsOf S ns) ((S.bid n).bidders.map (·.1))).getD i 0 := by
    rw [List.getD_eq_getElem?_getD, List.getElem?_eq_getElem h1]; rfl
  have h4 : (countsOf S (ns ++ [n]))[i] = (countsOf S (ns ++ [n])).getD i 0 := by
    rw [List.getD_eq_getElem?_getD, List.getElem?_eq_getElem h2]; rfl
  refine h3.trans ((e1.trans ?_).trans (e2.symm.trans h4.symm))
  congr 1
  by_cases hm : i ∈ (S.bid n).bidders.map (·.1)
  · rw [if_pos hm, if_pos (hasBidder_iff.mpr hm)]
  · rw [if_neg hm, if_neg fun z => hm (hasBidder_iff.mp z)]
/-- a new row, all its objects new against H -/
def NewRow (S : Sale) (H : Hp) (ns : List Nat) (v : V) (Hk : Hp) : Prop := ∃ t na la ca, v = .ref t ∧ H t = none ∧ H na = none ∧ H la = none ∧ H ca = none ∧ RowIs S Hk t na la ca ns
def sp_Sale_longer (_ : PySem.W.Frag) (A : Adr) : Sp := fun vs H Q _ => ∃ (H0 : Hp) (g : Tg) (s t : Addr) (G : SaleG) (n : Nat) (ns : List Nat), Ex H0 H ∧ vs = [.ref s, .ref t, nV n, nV (G.sale.value (G.sale.bid n))] ∧ SaleAt A g H0 s G ∧ RowAt G.sale H0 t ns ∧ ns.length ≤ 12 ∧ (∀ m ∈ ns, m < G.bs.length) ∧ n < G.bs.length ∧ WSale G.sale ∧
  ∀ v Hk H2, Ex H H2 → Ex Hk H2 → NewRow G.sale H (ns ++ [n]) v Hk → Q v H2
theorem lotsOf_length {S : Sale} : ∀ {ns : List Nat}, (∀ m ∈ ns, (S.bid m).lots.length ≤ 10) → (lotsOf S ns).length ≤ ns.length * 10
  | [], _ => by simp [lotsOf]
  | m :: ns, h => by
    have ih := lotsOf_length (S := S) (ns := ns) fun x hx => h x (List.mem_cons_of_mem _ hx)
    have := h m List.mem_cons_self
    unfold lotsOf at ih ⊢
    rw [List.flatMap_cons, List.length_append, List.length_cons]
    omega
theorem sc_Sale_longer : FnScope ["self", "row", "number", "worth", "value", "numbers", "lots", "counts", "more", "bidder"] ["self", "row", "number", "worth"] (defScope (inClass (top 22) 11)) := ⟨rfl, rfl, rfl, by decide +kernel, rfl, by decide +kernel, by decide +kernel⟩
theorem ok_Sale_longer (T : Top K mg A) : MOk P w K mg base 2 A.Sale "longer" ["self", "row", "number", "worth"] (sp_Sale_longer K A) := by
  refine mok T.mSale_longer sc_Sale_longer (fun vs H Q E ⟨_, _, _, _, _, _, _, _, e, _⟩ => by rw [e]; rfl) (fun _ _ _ _ _ _ us hl => match us, hl with | [_, _, _, _], _ => rfl) fun f cdv A' outer s' H vs Q E hr h => ⟨_, (pss_cons (ps_asg (pv 1) (pg_tup rfl (pgs_cons (pg_name (i := 4) sc_Sale_longer.nd rfl (by first | exact Or.inl rfl | exact Or.inr rfl)) (pgs_cons (pg_name (i := 5) sc_Sale_longer.nd rfl (by first | exact Or.inl rfl | exact Or.inr rfl)) (pgs_cons (pg_name (i := 6) sc_Sale_longer.nd rfl (by first | exact Or.inl rfl | exact Or.inr rfl)) (pgs_cons (pg_name (i := 7) sc_Sale_longer.nd rfl (by first | exact Or.inl rfl | exact Or.inr rfl)) pgs_nil))))))
      (pss_cons (ps_set (i := 8) sc_Sale_longer.nd rfl (by first | exact Or.inl rfl | exact Or.inr rfl) (pe_callTy cr_listS (by rfl) T.b_list (by decide +kernel) (pa_cons (pv 7) pa_nil)))
      (pss_cons (ps_for PassesOwn.never rfl (pi_list (pe_m (ok_Sale_bidders_of T) (pv 0) T.cSale.cl (hr.mono (by decide)) (pa_cons (pv 2) pa_nil))) (pg_name (i := 9) sc_Sale_longer.nd rfl (by first | exact Or.inl rfl | exact Or.inr rfl)) (pss_one (ps_augL ip_add (pv 8) (pv 9) pe_int)))
      (pss_one (ps_ret (pe_tup (pa_cons (pe_op op_add (pv 4) (pv 3)) (pa_cons (pe_op op_cat (pv 5) (pe_lst (pa_cons (pv 2) pa_nil))) (pa_cons (pe_op op_cat (pv 6) (pe_fld (pe_ix ix_list (pe_fld (pv 0) rfl) (pv 2) (fun _ _ => rfl)) rfl)) (pa_cons (pv 8) pa_nil)))))))))), ?_⟩
  obtain ⟨H0, g, s, t, G, n, ns, e, rfl, hS, ⟨na, la, ca, hR⟩, hlen, hns, hn, hW, q⟩ := h
  suffices hsj : Sj H _ (L2.start _ _) H0 (fun _ _ => False) (NewRow G.sale H (ns ++ [n])) from hsj H e (Ex.refl H) _ (fun _ _ _ _ _ z => z.elim) fun v Hk H2 ek eb hv => q v Hk H2 eb ek hv
  have hb := SaleG.wbid hW hn
  have hbn : WBid G.sale.lots.length (G.sale.bid n) := by rw [G.bid_of hn]; exact hb
  refine sq_tup (K := K) (is := [4, 5, 6, 7]) (R := fun xs _ => xs = [nV (G.sale.totalValue ns), .ref na, .ref la, .ref ca]) ((ev_var rfl).pp (v := .ref t) fun H1 e1 => ⟨t, _, rfl, st_of (e1 _ _ hR.tup), rfl⟩) (gset_cons (gset_cons (gset_cons (gset_cons gset_nil)))) rfl (fun xs _ h => by rw [h]; rfl) fun xs H1 e1 h => ?_
  subst h
  have hR := hR.up e1
  have hS := hS.up e1
  have hR1 := hR
  have hS1 := hS
  refine sq_asgL (el_listA (ev_var rfl) hR.cnt) fun m H2 hm0 hm1 e2 hm => ?_
  have hR := hR.up e2
  have hS := hS.up e2
  refine bindFor (evp_meth (ev_var rfl) hS.ins no_Sale_bidders_of (ea_cons (ev_var rfl) ea_nil) (spL_go ⟨g, s, G, n, rfl, hS, hn, hW, rfl⟩)) ?_
  rintro x H3 e3 ⟨p, rfl, hp⟩
  have hlc : ∀ ms : List Nat, (countsOf G.sale ms).length = 16 := fun ms => by simp [countsOf]
  have hpm : p ≠ m := by
    intro z
    subst z
    have h1 := e3 _ _ hm
    rw [hp] at h1
    have h2 := congrArg (fun o => match o with | some (HO.lst xs) => xs.length | _ => 0) h1
    simp only [List.length_map, hlc] at h2
    have := hbn.blen.2
    omega
  have hR := hR.up e3
  have hS := hS.up e3
  have hlt : ∀ b ∈ (G.sale.bid n).bidders.map (·.1), b < 16 := fun b hbm => by
    obtain ⟨z, hz, rfl⟩ := List.mem_map.mp hbm
    have := (hbn.bid z hz).1
    omega
  -- what stays known besides the list under way
  have hne : ∀ {b : Addr} {o : HO}, H1 b = some o → b ≠ m := fun hbo => ne_of_none hbo hm1
  refine sq_for (evi_list ((G.sale.bid n).bidders.map (·.1)) nV ev_c (sq_of hp))
    (fun i σ' Hk => ∃ o : Option V, σ' = [some (.ref s), some (.ref t), some (nV n), some (nV (G.sale.value (G.sale.bid n))), some (nV (G.sale.totalValue ns)), some (.ref na), some (.ref la), some (.ref ca), some (.ref m), o] ∧ Ex (less H3 m) Hk ∧ NL Hk m (addOne (countsOf G.sale ns) (((G.sale.bid n).bidders.map (·.1)).take i)))
    ⟨none, rfl, less_ex, e3 _ _ hm⟩ up_l (fun i σ' Hk _ ⟨_, _, e4, _⟩ => sq_of (e4 _ _ (by rw [less_ne hpm]; exact hp))) ?_ ?_
  · rintro i b x σ' Hk H4 hib ⟨o, rfl, e4, hk⟩ e5 rfl
    have hbl := hlt b (List.mem_of_getElem? hib)
    have hcl : (addOne (countsOf G.sale ns) (((G.sale.bid n).bidders.map (·.1)).take i)).length = 16 := by rw [addOne_length, hlc]
    refine ⟨_, evg_name, Sj.last (sq_augL (n := b) (i := (((addOne (countsOf G.sale ns) (((G.sale.bid n).bidders.map (·.1)).take i)).getD b 0 : Nat) : Int)) (hk.up e5) hm0 (ev_var rfl) (ev_var rfl) ?_ ev_c (sj_next ⟨_, rfl, ?_, ?_⟩))⟩
    · rw [List.getElem?_map, List.getD_eq_getElem?_getD, List.getElem?_eq_getElem (by omega)]
      rfl
    · exact fun c o hc => by
        by_cases hcm : c = m
        · subst hcm; unfold less at hc; rw [if_pos rfl] at hc; cases hc
        · rw [upd_ne hcm]; exact (e4.trans e5) c o hc
    · show upd H4 m _ m = _
      rw [upd_same, take_succ hib, addOne_snoc, List.map_set]
      rfl
  · rintro σ' Hk ⟨o, rfl, e4, hk⟩
    rw [List.take_length, counts_snoc hbn] at hk
    have stay : ∀ {b : Addr} {o : HO}, H1 b = some o → Hk b = some o := fun hbo => e4 _ _ (by rw [less_ne (hne hbo)]; exact (e2.trans e3) _ _ hbo)
    -- what H1 knows of the row and the sale stands
    have e6 : Ex H1 Hk := fun b o hbo => stay hbo
    have hR := hR1.up e6
    have hS := hS1.up e6
    have hB := hS.bid _ (List.getElem_mem hn)
    have hll : (lotsOf G.sale ns).length ≤ 120 := by
      refine Nat.le_trans (lotsOf_length fun x hx => ?_) (show ns.length * 10 ≤ 120 by omega)
      rw [G.bid_of (hns x hx)]
      exact (SaleG.wbid hW (hns x hx)).llen
    intro H5 e7 eb D kn kr
    refine (ev_I0 (σ := [some (.ref s), some (.ref t), some (nV n), some (nV (G.sale.value (G.sale.bid n))), some (nV (G.sale.totalValue ns)), some (.ref na), some (.ref la), some (.ref ca), some (.ref m), o]) (i := ((G.sale.totalValue ns : Nat) : Int)) (j := ((G.sale.value (G.sale.bid n) : Nat) : Int)) (ev_var (i := 4) rfl) (ev_var (i := 3) rfl)) H5 e7 _ fun H6 e8 => ?_
    refine (el_catAL (xs := ns.map nV) (ys := [nV n]) (ev_var (i := 5) (v := .ref na) rfl) hR.nums (el_lst (ea_cons (ev_var rfl) ea_nil) (by show 1 ≤ 100000; decide)) (by rw [List.length_map]; show ns.length + 1 ≤ _; omega)) H6 (e7.trans e8) _ fun q1 H7 hq1 e9 h7 => ?_
    have e67 := (e7.trans e8).trans e9
    refine (el_catAA (xs := (lotsOf G.sale ns).map nV) (ys := G.bs[n].b.lots.map nV) (ev_var (i := 6) (v := .ref la) rfl) hR.lots (fld_Bid_lots T (ev_bid T hS (ev_var rfl) (ev_var rfl) hn) hB.ins) hB.lots (by rw [List.length_map, List.length_map]; have := hb.llen; omega)) H7 e67 _ fun q2 H8 hq2 e10 h8 => ?_
    refine ⟨_, rfl, (show 4 ≤ sizeLine by decide), fun r hr => ?_⟩
    have e5r : Ex H5 H8 := (e8.trans e9).trans e10
    refine kr (.ref r) (upd H8 r _) (upd H8 r _) (Ex.refl _) ((eb.trans e5r).trans (Ex.new hr)) ⟨r, q1, q2, m, rfl, fresh_back (eb.trans e5r) hr, fresh_back (eb.trans e8) hq1, fresh_back ((eb.trans e8).trans e9) hq2, hm0, ⟨?_, ?_, ?_, ?_⟩⟩
    · rw [upd_same, total_snoc]
      rfl
    · show upd H8 r _ q1 = _
      rw [upd_ne (ne_of_none (e10 _ _ h7) hr), e10 _ _ h7, List.map_append]
      rfl
    · show upd H8 r _ q2 = _
      rw [upd_ne (ne_of_none h8 hr), h8, lotsOf_snoc, List.map_append, G.bid_of hn]
    · exact (Ex.new hr) _ _ ((e67.trans e10) _ _ hk)
end
end TB
/-! # Sales: all selections -/
namespace TB
open PySem PySem.Spec PyProof.Rows L2 Evl
open TimberAuction (Lot Bid Sale Contract Delivery Bill)
open TBM

def woV : Option Nat → V
  | none => .non
  | some k => nV k
theorem woV_scal (n : Nat) (wo : Option Nat) : scal (nV n) (woV wo) = true := by cases wo <;> rfl
theorem woV_ne (n : Nat) (wo : Option Nat) : (!decide (nV n = woV wo)) = decide (some n ≠ wo) := by
  cases wo with
  | none =>
    have h : ¬ nV n = woV none := fun z => by cases z
    rw [decide_eq_false h]
    simp
  | some k =>
    by_cases h : n = k
    · subst h
      simp [woV]
    · have h2 : ¬ nV n = woV (some k) := fun z => h (by
        have : (n : Int) = (k : Int) := V.int.inj z
        omega)
      rw [decide_eq_false h2]
      simp [h]
abbrev RowL := List (List Nat × Addr)
def rowV (r : List Nat × Addr) : V := .ref r.2
theorem rows_of {S : Sale} {H : Hp} {l : RowL} {n : Nat} : ∀ {m : RowL} {zs : List V}, Paired (fun y z => ∃ t, z = V.ref t ∧ RowAt S H t (y.1 ++ [n])) m zs → ∃ rows : RowL, zs = rows.map rowV ∧ rows.map (·.1) = m.map (fun y => y.1 ++ [n]) ∧ ∀ r ∈ rows, RowAt S H r.2 r.1
  | _, _, .nil => ⟨[], rfl, rfl, fun r hr => by simp at hr⟩
  | _, _, .cons (a := y) ⟨t, e, ht⟩ rest => by
    obtain ⟨rows, e1, e2, h⟩ := rows_of (l := l) rest
    refine ⟨(y.1 ++ [n], t) :: rows, by rw [e, e1]; rfl, by rw [List.map_cons, List.map_cons, e2], fun r hr => ?_⟩
    rcases List.mem_cons.mp hr with rfl | hr
    · exact ht
    · exact h r hr
section
variable {P : Program} {w : World} {K : PySem.W.Frag} {mg : Str → Option Value} {base : Heap} {A : Adr}
/-- the selections at a new list -/
def isSel (S : Sale) (wo : Option Nat) : V → Hp → Prop := fun v H => ∃ (p : Addr) (rows : RowL), v = .ref p ∧ H p = some (.lst (rows.map rowV)) ∧ rows.map (·.1) = sel S wo S.bids.length ∧ ∀ r ∈ rows, RowAt S H r.2 r.1
theorem isSel_up {S : Sale} {wo : Option Nat} {v : V} {H H' : Hp} (e : Ex H H') (h : isSel S wo v H) : isSel S wo v H' := let ⟨p, rows, a, b, c, d⟩ := h; ⟨p, rows, a, e _ _ b, c, fun r hr => (d r hr).up e⟩
def p_selections (A : Adr) : PreT := fun vs H R => ∃ (g : Tg) (s : Addr) (G : SaleG) (wo : Option Nat), vs = [.ref s, woV wo] ∧ SaleAt A g H s G ∧ WSale G.sale ∧ R = isSel G.sale wo
abbrev sp_Sale_selections (_ : PySem.W.Frag) (A : Adr) : Sp := spP (p_selections A)
theorem sj_assoc {B H : Hp} {σ : L2.St} {N : L2.St → Hp → Prop} {Pq : V → Hp → Prop} {a b c : TS} (h : Sj B (tSeq a (tSeq b c)) σ H N Pq) : Sj B (tSeq (tSeq a b) c) σ H N Pq := h
/-- [e], e described: the list is told apart from what e told -/
theorem sq_asgL1 {B H : Hp} {σ : L2.St} {N : L2.St → Hp → Prop} {Pq : V → Hp → Prop} {te : TE} {u : TS} {i : Nat} {R : V → Hp → Prop} (h : EvP te σ H R) (k : ∀ v p Hr H1, R v Hr → Ex H Hr → Hr p = none → B p = none → Ex Hr H1 → H1 p = some (.lst [v]) → Sj B u (σ.set i (some (.ref p))) H1 N Pq) :
    Sj B (tSeq (tAsg (tLst (tCons te tNil)) (gName i)) u) σ H N Pq := fun H1 e eb D kn kr => h H1 e _ fun v H2 e2 hv => ⟨(show 1 ≤ sizeLine by decide), fun p hp => k v p H2 _ hv (e.trans e2) hp (fresh_back (eb.trans e2) hp) (Ex.new hp) upd_same _ (Ex.refl _) ((eb.trans e2).trans (Ex.new hp)) D kn kr⟩
theorem evp_row0 {S : Sale} {σ : L2.St} {H : Hp} : EvP (tTup (tCons (tC (.int 0)) (tCons (tLst tNil) (tCons (tLst tNil) (tCons (tOp rRep (tLst (tCons (tC (.int 0)) tNil)) (tC (.int 16))) tNil))))) σ H fun v H1 => ∃ t, v = .ref t ∧ RowAt S H1 t [] := by
  intro H1 e Q q
  show tLst tNil σ H1 fun a H2 => tLst tNil σ H2 fun b H3 => tOp rRep (tLst (tCons (tC (.int 0)) tNil)) (tC (.int 16)) σ H3 fun c H4 => 4 ≤ sizeLine ∧ ∀ p, H4 p = none → Q (.ref p) (upd H4 p (.tup [.int 0, a, b, c]))
  refine (el_nil (σ := σ) (H := H)) H1 e _ fun a H2 ha e2 h2 => ?_
  refine (el_nil (σ := σ) (H := H)) H2 (e.trans e2) _ fun b H3 hb e3 h3 => ?_
  refine (el_rep (σ := σ) (H := H) (x := .int 0) (n := 16) (el_lst (ea_cons ev_c ea_nil) (by show 1 ≤ 100000; decide)) ev_c (by decide)) H3 ((e.trans e2).trans e3) _ fun c H4 hc e4 h4 => ?_
  refine ⟨(show 4 ≤ sizeLine by decide), fun t ht => ?_⟩
  have e5 : Ex H4 (upd H4 t (.tup [.int 0, .ref a, .ref b, .ref c])) := Ex.new ht
  refine q _ _ (((e2.trans e3).trans e4).trans e5) ⟨t, rfl, a, b, c, ⟨upd_same, e5 _ _ (e4 _ _ (e3 _ _ h2)), e5 _ _ (e4 _ _ h3), ?_⟩⟩
  have : H4 c = some (.lst ((countsOf S []).map nV)) := by
    rw [h4]
    congr 2
  exact e5 _ _ this
theorem sc_Sale_selections : FnScope ["self", "without", "found", "number", "worth", "row"] ["self", "without"] (defScope (inClass (top 22) 12)) := ⟨rfl, rfl, rfl, by decide +kernel, rfl, by decide +kernel, by decide +kernel⟩
theorem ok_Sale_selections (T : Top K mg A) : MOk P w K mg base 4 A.Sale "selections" ["self", "without"] (sp_Sale_selections K A) := by
  refine mokP T.mSale_selections sc_Sale_selections (fun vs H R ⟨_, _, _, _, e, _⟩ => by rw [e]; rfl) (fun _ _ _ _ _ _ us hl => match us, hl with | [_, _], _ => rfl) fun f cdv A' outer s' H E hr => ⟨_, (pss_cons (ps_set (i := 2) sc_Sale_selections.nd rfl (by first | exact Or.inl rfl | exact Or.inr rfl) (pe_lst (pa_cons (pe_tup (pa_cons pe_int (pa_cons (pe_lst pa_nil) (pa_cons (pe_lst pa_nil) (pa_cons (pe_op op_rep (pe_lst (pa_cons pe_int pa_nil)) (pe_k rfl T.k_BIDDERS)) pa_nil))))) pa_nil)))
      (pss_cons (ps_for PassesOwn.never rfl (pi_range1 (by rfl) T.b_range (pa_cons (pe_callB cr_lenS (by rfl) T.b_len boot_len (pa_cons (pe_fld (pv 0) rfl) pa_nil)) pa_nil)) (pg_name (i := 3) sc_Sale_selections.nd rfl (by first | exact Or.inl rfl | exact Or.inr rfl)) (pss_one (ps_if (PW.pt (pw_and (pt_cmpR op_ne (pv 3) (pv 1) (nomark _)) (pw_and1 (pt_val (pe_m (ok_Sale_is_admissible T) (pv 0) T.cSale.cl (hr.mono (by decide)) (pa_cons (pe_ix ix_list (pe_fld (pv 0) rfl) (pv 3) (fun _ _ => rfl)) pa_nil)))))) (pss_cons (ps_set (i := 4) sc_Sale_selections.nd rfl (by first | exact Or.inl rfl | exact Or.inr rfl) (pe_m (ok_Sale_value_of T) (pv 0) T.cSale.cl (hr.mono (by decide)) (pa_cons (pe_ix ix_list (pe_fld (pv 0) rfl) (pv 3) (fun _ _ => rfl)) pa_nil)))
      (pss_one (ps_expr (pe_bm PySem.F.plainAttrs_list PySem.F.slot_list_extend PySem.F.type_list_extend mt_extend (pv 2) (pa_cons (pe_lc (own := [("row", 5)]) (g := (gName 5)) (tt := (tB (tMeth A.Sale "fits" (sp_Sale_fits K A) [] E0 (tVar 0) (tCons (tVar 5) (tCons (tVar 3) tNil))))) (te := (tMeth A.Sale "longer" (sp_Sale_longer K A) [] E0 (tVar 0) (tCons (tVar 5) (tCons (tVar 3) (tCons (tVar 4) tNil))))) (by rfl) sc_Sale_selections.nd (pi_list (pv 2)) (blkOk_by (own := [("row", 5)]) (N := ["self", "without", "found", "number", "worth", "row"]) (sc := defScope (inClass (top 22) 12)) (by decide +kernel)) (fun _ _ _ _ _ => (pg_name (i := 5) sc_Sale_selections.nd rfl (by first | exact Or.inl rfl | exact Or.inr rfl))) (fun _ _ _ _ _ => (pts_one (pt_val (pe_m (ok_Sale_fits T) (pv 0) T.cSale.cl (hr.mono (by decide)) (pa_cons (pv 5) (pa_cons (pv 3) pa_nil)))))) (fun _ _ _ _ _ => (pe_m (ok_Sale_longer T) (pv 0) T.cSale.cl (hr.mono (by decide)) (pa_cons (pv 5) (pa_cons (pv 3) (pa_cons (pv 4) pa_nil)))))) pa_nil))))) pss_nil)))
      (pss_one (ps_ret (pv 2))))), ?_⟩
  rintro vs H0 R e ⟨g, s, G, wo, rfl, hS, hW, rfl⟩
  have hnb : G.bs.length ≤ 12 := by have := hW.nbids; simpa [SaleG.sale] using this
  refine sq_asgL1 (evp_row0 (S := G.sale)) ?_
  rintro v p Hr H1 ⟨t0, rfl, hrow0⟩ er hp hbp e1 h1
  refine sq_for (l := List.range G.bs.length) (evi_range (n := G.bs.length) ((ev_lenL (fld_Sale_bids T (ev_var rfl) (hS.ins.up (er.trans e1))) ((er.trans e1) _ _ hS.bids)).to (by rw [List.length_map])) (by omega))
    (fun i σ' Hk => ∃ (Hr : Hp) (rows : RowL) (o1 o2 : Option V), σ' = [some (.ref s), some (woV wo), some (.ref p), o1, o2, none] ∧ Ex H0 Hr ∧ Hr p = none ∧ Ex Hr Hk ∧ Hk p = some (.lst (rows.map rowV)) ∧ rows.map (·.1) = sel G.sale wo i ∧ ∀ r ∈ rows, RowAt G.sale Hr r.2 r.1)
    ⟨Hr, [([], t0)], none, none, rfl, er, hp, e1, h1, rfl, fun r hr => (List.mem_singleton.mp hr) ▸ hrow0⟩ (fun _ _ _ h => h) (fun _ _ _ _ _ => trivial) ?_ ?_
  · rintro i n x σ' Hk H2 hin ⟨Hr, rows, o1, o2, rfl, e2, hrp, e3, hk, hsel, hrows⟩ e4 rfl
    have hlt : i < G.bs.length := by have := (List.getElem?_eq_some_iff.mp hin).1; simpa using this
    have ein : i = n := by rw [List.getElem?_range hlt] at hin; exact Option.some.inj hin
    subst ein
    have e02 : Ex H0 H2 := (e2.trans e3).trans e4
    have hS2 := hS.up e02
    have hrl : rows.length ≤ 4096 := by
      have h := congrArg List.length hsel
      rw [List.length_map] at h
      have h2 := sel_length G.sale wo i
      have h3 : 2 ^ i ≤ 2 ^ 12 := Nat.pow_le_pow_right (by decide) (by omega)
      omega
    refine ⟨_, evg_name, Sj.last (sq_when (b := cond G.sale wo i) (EvT.to (et_and (a := decide (some i ≠ wo)) (b := G.sale.isAdmissible (G.sale.bid i)) (et_test ((ev_neS (ev_var rfl) (ev_var rfl) (woV_scal i wo)).to (congrArg V.bl (woV_ne i wo)))) fun _ => et_B ?_) rfl) (fun hc => sj_assoc ?_) (fun hc => ?_))⟩
    · rw [G.bid_of hlt]
      exact ev_meth (ev_var rfl) hS2.ins no_Sale_is_admissible (ea_cons (ev_bid T hS2 (ev_var rfl) (ev_var rfl) hlt) ea_nil) (spV_go ⟨g, s, G, _, rfl, hS2, hS2.bid _ (List.getElem_mem hlt), SaleG.wbid hW hlt, hW, rfl⟩)
    · refine sq_asg (v := nV (G.sale.value (G.sale.bid i))) ?_ ?_
      · rw [G.bid_of hlt]
        exact ev_meth (ev_var rfl) hS2.ins no_Sale_value_of (ea_cons (ev_bid T hS2 (ev_var rfl) (ev_var rfl) hlt) ea_nil) (spV_go ⟨g, s, G, _, rfl, hS2, hS2.bid _ (List.getElem_mem hlt), SaleG.wbid hW hlt, hW, rfl⟩)
      · have hk2 := e4 _ _ hk
        have hlen : ∀ r ∈ rows, (∀ m ∈ r.1, m < G.bs.length) ∧ r.1.length ≤ 12 := fun r hr => by
          have : r.1 ∈ sel G.sale wo i := by rw [← hsel]; exact List.mem_map.mpr ⟨r, hr, rfl⟩
          have := sel_lt G.sale wo i _ this
          exact ⟨fun m hm => by have := this.1 m hm; omega, by omega⟩
        refine sq_extP (R := fun zs H3 => Ex Hr (less H3 p) ∧ Paired (fun y z => ∃ t, z = V.ref t ∧ RowAt G.sale (less H3 p) t (y.1 ++ [i])) (rows.filter fun r => fits G.sale r.1 i) zs) hk2 hbp (ev_var rfl)
          ((evlp_lcS (fun r => fits G.sale r.1 i) (fun y z H3 => ∃ t, z = V.ref t ∧ RowAt G.sale (less H3 p) t (y.1 ++ [i])) (fun y H5 v H6 => NewRow G.sale H5 (y.1 ++ [i]) v H6) (evi_list rows rowV (ev_var rfl) (sq_of hk2)) up_l (sq_of hk2) (by omega) ?_ ?_ ?_).p.imp ?_) ?_ ?_
        · rintro y v Ha Hb eab ⟨t, rfl, ht⟩
          exact ⟨t, rfl, ht.up (less_up eab)⟩
        · rintro y v H5 H6 D zs hD e25 e56 hD5 ⟨t, na, la, ca, rfl, ht, hna, hla, hca, hrow⟩
          have hp5 := e25 _ _ hk2
          have hpD : p ≠ D := ne_of_none hk2 hD
          have neD : ∀ {q : Addr}, H5 q = none → q ≠ D := fun hq z => by rw [z, hD5] at hq; cases hq
          have neP : ∀ {q : Addr}, H5 q = none → q ≠ p := fun hq z => by rw [z, hp5] at hq; cases hq
          have go : ∀ {q : Addr} {o : HO}, H5 q = none → H6 q = some o → less (less H6 D) p q = some o := fun hq ho => by
            rw [less_ne (neP hq), less_ne (neD hq)]; exact ho
          exact ⟨t, rfl, na, la, ca, ⟨go ht hrow.tup, go hna hrow.nums, go hla hrow.lots, go hca hrow.cnt⟩⟩
        · rintro y x H3 hy e3' rfl
          have hS3 := hS2.up e3'
          have hry : RowAt G.sale H3 y.2 y.1 := (hrows y hy).up ((e3.trans e4).trans e3')
          refine ⟨_, evg_name, rfl, et_B (ev_meth (ev_var rfl) hS3.ins no_Sale_fits (ea_cons (ev_var rfl) (ea_cons (ev_var rfl) ea_nil)) (spV_go ⟨g, s, y.2, G, i, y.1, rfl, hS3, hry, hlt, hW, rfl⟩)), fun hf H5 e5 Q q => ?_⟩
          obtain ⟨dx, hdx⟩ := hS3.ins.up e5
          exact ⟨_, rfl, s, dx, _, rfl, hdx, no_Sale_longer, _, rfl, _, rfl, _, rfl, H5, g, s, y.2, G, i, y.1, Ex.refl _, rfl, hS3.up e5, hry.up e5, (hlen y hy).2, (hlen y hy).1, hlt, hW, fun v Hk6 H6 e56 ek6 hnew => by
            obtain ⟨t, na, la, ca, ev, a1, a2, a3, a4, hrow⟩ := hnew
            exact q v H6 e56 ⟨t, na, la, ca, ev, a1, a2, a3, a4, hrow.up ek6⟩⟩
        · rintro x H3 e23 ⟨b, zs, ex, hb, hz⟩
          exact ⟨b, zs, ex, hb, ex_less hrp ((e3.trans e4).trans e23), hz⟩
        · rintro zs H3 ⟨_, hz⟩
          have := Paired.length hz
          have h2 := List.length_filter_le (fun r => fits G.sale r.1 i) rows
          rw [List.length_map]
          omega
        · rintro zs H3 e23 ⟨hrl3, hz⟩
          obtain ⟨rows2, rfl, hr2, hrow2⟩ := rows_of (l := rows) hz
          refine sj_next ⟨less H3 p, rows ++ rows2, _, _, rfl, e2.trans hrl3, by unfold less; rw [if_pos rfl], less_upd (Ex.refl _) |>.trans less_ex, ?_, ?_, ?_⟩
          · rw [upd_same, List.map_append]
          · rw [List.map_append, hsel, hr2, sel, if_pos hc]
            congr 1
            rw [← hsel, List.filter_map, List.map_map]
            rfl
          · intro r hr
            rcases List.mem_append.mp hr with hr | hr
            · exact (hrows r hr).up hrl3
            · exact hrow2 r hr
    · refine sj_next ⟨Hr, rows, _, _, rfl, e2, hrp, e3.trans e4, e4 _ _ hk, ?_, hrows⟩
      rw [hsel, sel, if_neg (by rw [hc]; decide)]
  · rintro σ' Hk ⟨Hr, rows, o1, o2, rfl, e2, hrp, e3, hk, hsel, hrows⟩
    rw [List.length_range] at hsel
    refine sj_ret (ev_var rfl) ⟨p, rows, rfl, hk, ?_, fun r hr => (hrows r hr).up e3⟩
    rw [hsel]
    simp [SaleG.sale]
end
end TB
/-! # Sales: the best selection, thresholds -/
namespace TB
open PySem PySem.Spec PyProof.Rows L2 Evl
open TimberAuction (Lot Bid Sale Contract Delivery Bill)
open TBM

/-! ### the order of rows -/
def intD (ns : List Nat) : List PyData := (ns.map fun n : Nat => (n : Int)).map .int
def rowD (S : Sale) (ns : List Nat) : PyData := .tuple [.int (-((S.totalValue ns : Nat) : Int)), .int ((ns.length : Nat) : Int), .list (intD ns)]
theorem alike_ints : ∀ a b : List Int, PySem.W.alikeAll (a.map .int) (b.map .int) = true
  | [], _ => by simp [PySem.W.alikeAll]
  | _ :: _, [] => by simp [PySem.W.alikeAll]
  | x :: a, y :: b => by
    rw [List.map_cons, List.map_cons, PySem.W.alikeAll, alike_ints a b]
    simp [PySem.W.alike]
theorem alike_row (S : Sale) (a b : List Nat) : PySem.W.alike (rowD S a) (rowD S b) = true := by
  have h := alike_ints (a.map fun n : Nat => (n : Int)) (b.map fun n : Nat => (n : Int))
  simp [rowD, intD, PySem.W.alike, PySem.W.alikeAll] at h ⊢
  exact h
theorem eqv_ints : ∀ a b : List Int, PyData.eqvAll (a.map .int) (b.map .int) = decide (a = b)
  | [], [] => by simp [PyData.eqvAll]
  | [], _ :: _ => by simp [PyData.eqvAll]
  | _ :: _, [] => by simp [PyData.eqvAll]
  | x :: a, y :: b => by
    rw [List.map_cons, List.map_cons, PyData.eqvAll, eqv_ints a b, PyData.eqv]
    by_cases h : x = y <;> by_cases h2 : a = b <;> simp [h, h2]
theorem lt_ints : ∀ {a b : List Nat}, a.length = b.length → decide ((a.map fun n : Nat => (n : Int)) < (b.map fun n : Nat => (n : Int))) = TimberAuction.lexicographicallyLess a b
  | [], [], _ => by simp [TimberAuction.lexicographicallyLess]
  | [], _ :: _, h => by simp at h
  | _ :: _, [], h => by simp at h
  | x :: a, y :: b, h => by
    have ih := lt_ints (a := a) (b := b) (by simpa using h)
    rw [List.map_cons, List.map_cons, TimberAuction.lexicographicallyLess, ← ih]
    by_cases h1 : x < y
    · simp [h1, List.cons_lt_cons_iff]
    · by_cases h2 : x = y
      · subst h2
        simp [List.cons_lt_cons_iff]
      · have h3 : ¬ (x : Int) < (y : Int) := by omega
        have h4 : ¬ (x : Int) = (y : Int) := by omega
        simp only [List.cons_lt_cons_iff, h1, h2, h3, h4, false_or, false_and, decide_false, Bool.false_or]
        rw [beq_eq_false_iff_ne.mpr h2, Bool.false_and]
theorem row_lt (S : Sale) (a b : List Nat) : PySem.W.dataLt (rowD S a) (rowD S b) = S.isBetter a b := by
  have al : ∀ x y : Int, PySem.W.alike (.int x) (.int y) = true := fun x y => by simp [PySem.W.alike]
  have al3 : PySem.W.alike (.list (intD a)) (.list (intD b)) = true := by rw [PySem.W.alike]; exact alike_ints _ _
  unfold rowD
  rw [PySem.W.dataLt_tuple, PySem.W.dataLt_cons (al _ _), PySem.W.dataLt_cons (al _ _), PySem.W.dataLt_cons al3, PySem.W.dataLt_int, PySem.W.dataLt_int, PySem.W.dataLt_list]
  have e0 : PyProof.Rows.lexLt itemOrd (PySem.W.keyToksAll []) (PySem.W.keyToksAll []) = false := PyProof.Rows.lex_irrefl _
  have e1 : PyProof.Rows.lexLt itemOrd (PySem.W.keyToksAll (intD a)) (PySem.W.keyToksAll (intD b)) = decide ((a.map fun n : Nat => (n : Int)) < (b.map fun n : Nat => (n : Int))) := PySem.W.dataLt_ints _ _
  rw [e0, e1]
  have e2 : PyData.eqv (.list (intD a)) (.list (intD b)) = decide ((a.map fun n : Nat => (n : Int)) = (b.map fun n : Nat => (n : Int))) := by
    rw [PyData.eqv]
    exact eqv_ints _ _
  rw [e2]
  unfold TimberAuction.Sale.isBetter
  simp only [PyData.eqv]
  by_cases h1 : S.totalValue a = S.totalValue b
  · by_cases h2 : a.length = b.length
    · rw [← lt_ints h2]
      by_cases h3 : (a.map fun n : Nat => (n : Int)) = (b.map fun n : Nat => (n : Int))
      · simp [h1, h2, h3]
      · simp [h1, h2, h3]
    · have h2' : ¬ ((a.length : Nat) : Int) = ((b.length : Nat) : Int) := by omega
      simp [h1, h2, h2']
  · have h1' : ¬ -((S.totalValue a : Nat) : Int) = -((S.totalValue b : Nat) : Int) := by omega
    have h1'' : (-((S.totalValue a : Nat) : Int) < -((S.totalValue b : Nat) : Int)) ↔ S.totalValue b < S.totalValue a := by omega
    have h5 : ¬ ((S.totalValue a : Nat) : Int) = ((S.totalValue b : Nat) : Int) := by omega
    have h6 : (S.totalValue a == S.totalValue b) = false := beq_eq_false_iff_ne.mpr h1
    rw [h6, Bool.false_and, Bool.or_false]
    simp [h5]
theorem min_rows (S : Sale) : ∀ (l : List (List Nat)) (x : List Nat), PySem.W.minD (rowD S x) (l.map (rowD S)) = rowD S (pick S l x)
  | [], x => rfl
  | c :: l, x => by
    show PySem.W.minD (if PySem.W.dataLt (rowD S c) (rowD S x) = true then rowD S c else rowD S x) (l.map (rowD S)) = rowD S (pick S l (if S.isBetter c x = true then c else x))
    rw [row_lt]
    by_cases h : S.isBetter c x = true
    · rw [if_pos h, if_pos h]
      exact min_rows S l c
    · rw [if_neg h, if_neg h]
      exact min_rows S l x
theorem map_inj {α β : Type} {f : α → β} (hf : ∀ x y, f x = f y → x = y) : ∀ {a b : List α}, a.map f = b.map f → a = b
  | [], [], _ => rfl
  | [], _ :: _, h => by simp at h
  | _ :: _, [], h => by simp at h
  | x :: a, y :: b, h => by
    rw [List.map_cons, List.map_cons] at h
    injection h with h1 h2
    rw [hf _ _ h1, map_inj hf h2]
theorem rowD_inj {S : Sale} {a b : List Nat} (h : rowD S a = rowD S b) : a = b := by
  unfold rowD at h
  have h1 : (PyData.list (intD a)) = .list (intD b) := by
    injection h with h
    injection h with _ h
    injection h with _ h
    injection h with h _
  injection h1 with h1
  unfold intD at h1
  rw [List.map_map, List.map_map] at h1
  exact map_inj (f := PyData.int ∘ fun n : Nat => (n : Int)) (fun x y hxy => by
    have h : (x : Int) = (y : Int) := PyData.int.inj hxy
    omega) h1
theorem depth_ints : ∀ l : List Int, PyData.depthAll (l.map .int) ≤ 1
  | [] => by simp [PyData.depthAll]
  | x :: l => by
    rw [List.map_cons, PyData.depthAll]
    have := depth_ints l
    have h : (PyData.int x).depth ≤ 1 := by simp [PyData.depth]
    omega
theorem depth_rows (S : Sale) : ∀ l : List (List Nat), PyData.depthAll (l.map (rowD S)) ≤ 10
  | [] => by simp [PyData.depthAll]
  | x :: l => by
    rw [List.map_cons, PyData.depthAll]
    have := depth_rows S l
    have h : (rowD S x).depth ≤ 10 := by
      have := depth_ints (x.map fun n : Nat => (n : Int))
      simp [rowD, PyData.depth, PyData.depthAll, intD] at this ⊢
      omega
    omega
theorem dp_ints {K : PySem.W.Frag} {H : Hp} : ∀ ns : List Nat, DpAll K H (ns.map nV) (intD ns)
  | [] => .nil
  | n :: ns => .cons (.int _) (dp_ints ns)
section
variable {P : Program} {w : World} {K : PySem.W.Frag} {mg : Str → Option Value} {base : Heap} {A : Adr}
/-- the best selection's value and numbers, at a tuple -/
def isBest (S : Sale) (wo : Option Nat) : V → Hp → Prop := fun v H => ∃ (p na : Addr), v = .ref p ∧ H p = some (.tup [nV (S.totalValue (bestOf S wo)), .ref na]) ∧ NL H na (bestOf S wo)
theorem isBest_up {S : Sale} {wo : Option Nat} {v : V} {H H' : Hp} (e : Ex H H') (h : isBest S wo v H) : isBest S wo v H' := let ⟨p, na, a, b, c⟩ := h; ⟨p, na, a, e _ _ b, c.up e⟩
def p_best (A : Adr) : PreT := fun vs H R => ∃ (g : Tg) (s : Addr) (G : SaleG) (wo : Option Nat), vs = [.ref s, woV wo] ∧ SaleAt A g H s G ∧ WSale G.sale ∧ R = isBest G.sale wo
abbrev sp_Sale_best (_ : PySem.W.Frag) (A : Adr) : Sp := spP (p_best A)
theorem sc_Sale_best : FnScope ["self", "without", "rows", "value", "many", "numbers", "lots", "counts"] ["self", "without"] (defScope (inClass (top 22) 13)) := ⟨rfl, rfl, rfl, by decide +kernel, rfl, by decide +kernel, by decide +kernel⟩
theorem ok_Sale_best (T : Top K mg A) : MOk P w K mg base 5 A.Sale "best" ["self", "without"] (sp_Sale_best K A) := by
  refine mokP T.mSale_best sc_Sale_best (fun vs H R ⟨_, _, _, _, e, _⟩ => by rw [e]; rfl) (fun _ _ _ _ _ _ us hl => match us, hl with | [_, _], _ => rfl) fun f cdv A' outer s' H E hr => ⟨_, (pss_cons (ps_setLc (i := 2) (own := [("value", 3), ("numbers", 5), ("lots", 6), ("counts", 7)]) (g := (gTup K 4 (gCons (gName 3) (gCons (gName 5) (gCons (gName 6) (gCons (gName 7) gNil)))))) (tt := tYes) (te := (tTup (tCons (tUn (rU fun i => .int (-i)) (tVar 3)) (tCons (tCB (rLenS K) (tCons (tVar 5) tNil)) (tCons (tVar 5) tNil))))) (by rfl) sc_Sale_best.nd rfl rfl (sw_true rfl rfl rfl (by decide +kernel)) (pi_list (pe_m (ok_Sale_selections T) (pv 0) T.cSale.cl (hr.mono (by decide)) (pa_cons (pv 1) pa_nil))) (blkOk_by (own := [("value", 3), ("numbers", 5), ("lots", 6), ("counts", 7)]) (N := ["self", "without", "rows", "value", "many", "numbers", "lots", "counts"]) (sc := defScope (inClass (top 22) 13)) (by decide +kernel)) (fun _ _ _ _ _ => (pg_tup rfl (pgs_cons (pg_name (i := 3) sc_Sale_best.nd rfl (by first | exact Or.inl rfl | exact Or.inr rfl)) (pgs_cons (pg_name (i := 5) sc_Sale_best.nd rfl (by first | exact Or.inl rfl | exact Or.inr rfl)) (pgs_cons (pg_name (i := 6) sc_Sale_best.nd rfl (by first | exact Or.inl rfl | exact Or.inr rfl)) (pgs_cons (pg_name (i := 7) sc_Sale_best.nd rfl (by first | exact Or.inl rfl | exact Or.inr rfl)) pgs_nil)))))) (fun _ _ _ _ _ => pts_nil) (fun _ _ _ _ _ => (pe_tup (pa_cons (pe_un un_neg (pv 3)) (pa_cons (pe_callB cr_lenS (by rfl) T.b_len boot_len (pa_cons (pv 5) pa_nil)) (pa_cons (pv 5) pa_nil))))))
      (pss_cons (ps_asg (pe_callB (cr_minR rfl (hu64 hr)) (by rfl) T.b_min (by decide +kernel) (pa_cons (pv 2) pa_nil)) (pg_tup rfl (pgs_cons (pg_name (i := 3) sc_Sale_best.nd rfl (by first | exact Or.inl rfl | exact Or.inr rfl)) (pgs_cons (pg_name (i := 4) sc_Sale_best.nd rfl (by first | exact Or.inl rfl | exact Or.inr rfl)) (pgs_cons (pg_name (i := 5) sc_Sale_best.nd rfl (by first | exact Or.inl rfl | exact Or.inr rfl)) pgs_nil)))))
      (pss_one (ps_ret (pe_tup (pa_cons (pe_un un_neg (pv 3)) (pa_cons (pv 5) pa_nil))))))), ?_⟩
  rintro vs H0 R e ⟨g, s, G, wo, rfl, hS, hW, rfl⟩
  have hnb : G.sale.bids.length ≤ 12 := hW.nbids
  refine sq_asgLP (R := fun zs H1 => ∃ rows : RowL, rows.map (·.1) = sel G.sale wo G.sale.bids.length ∧ Paired (fun (r : List Nat × Addr) z => ∃ T na, z = V.ref T ∧ H1 T = some (.tup [.int (-((G.sale.totalValue r.1 : Nat) : Int)), .int ((r.1.length : Nat) : Int), .ref na]) ∧ NL H1 na r.1) rows zs)
    (bindLc (evp_meth (ev_var rfl) hS.ins no_Sale_selections (ea_cons (ev_var rfl) ea_nil) (spP_go (R' := isSel G.sale wo) ⟨g, s, G, wo, rfl, hS, hW, rfl⟩ fun v Hk H2 ek h => isSel_up ek h)) ?_) ?_
  · rintro x H1 e1 ⟨p, rows, rfl, hp, hsel, hrows⟩
    have hrl : rows.length ≤ 4096 := by
      have h := congrArg List.length hsel
      rw [List.length_map] at h
      have h2 := sel_length G.sale wo G.sale.bids.length
      have h3 : 2 ^ G.sale.bids.length ≤ 2 ^ 12 := Nat.pow_le_pow_right (by decide) hnb
      omega
    have hz := evlp_lcS (te := tTup (tCons (tUn (rU fun i => .int (-i)) (tVar 3)) (tCons (tCB (rLenS K) (tCons (tVar 5) tNil)) (tCons (tVar 5) tNil)))) (tt := tYes) (g := gTup K 4 (gCons (gName 3) (gCons (gName 5) (gCons (gName 6) (gCons (gName 7) gNil))))) (vs := [3, 5, 6, 7])
      (σ := [some (.ref s), some (woV wo), none, none, none, none, none, none]) (fun _ => true)
      (fun r z H2 => ∃ T na, z = V.ref T ∧ H2 T = some (.tup [.int (-((G.sale.totalValue r.1 : Nat) : Int)), .int ((r.1.length : Nat) : Int), .ref na]) ∧ NL H2 na r.1)
      (fun r H5 z H6 => ∃ T na, z = V.ref T ∧ H6 T = some (.tup [.int (-((G.sale.totalValue r.1 : Nat) : Int)), .int ((r.1.length : Nat) : Int), .ref na]) ∧ NL H1 na r.1)
      (evi_list (K := K) rows rowV (ev_c (v := .ref p)) (sq_of (K := K) hp)) (up_l (K := K)) (sq_of (K := K) hp) (by omega) ?_ ?_ ?_
    · refine fun H2 e2 Q q => hz H2 e2 Q fun p2 zs H3 hp2 e3 h3 hpair => q p2 zs H3 hp2 e3 h3 ⟨rows, hsel, ?_⟩
      rw [filter_true] at hpair
      exact hpair
    · rintro r z Ha Hb eab ⟨T, na, rfl, h1, h2⟩
      exact ⟨T, na, rfl, eab _ _ h1, h2.up eab⟩
    · rintro r z H5 H6 D zs hD e15 e56 hD5 ⟨T, na, rfl, h1, h2⟩
      have hD6 := e56 _ _ hD5
      refine ⟨T, na, rfl, ?_, ?_⟩
      · rw [less_ne (ne_of h1 hD6 (by intro z; cases z))]; exact h1
      · show less H6 D na = _
        rw [less_ne (ne_of_none h2 hD)]
        exact (e15.trans e56) _ _ h2
    · rintro r x H3 hr e3 rfl
      obtain ⟨na, la, ca, hrow⟩ := hrows r hr
      have hrow3 := hrow.up e3
      refine ⟨_, evg_tup (gset_cons (gset_cons (gset_cons (gset_cons gset_nil)))) (st_of hrow3.tup) rfl rfl, rfl, et_yes, fun _ H5 e5 Q q => ?_⟩
      have hrow5 := hrow3.up e5
      exact (eu_tup (ea_cons (ev_neg (i := ((G.sale.totalValue r.1 : Nat) : Int)) (ev_var rfl)) (ea_cons ((ev_lenL (ev_var rfl) hrow5.nums).to (by rw [List.length_map])) (ea_cons (ev_var (v := .ref na) rfl) ea_nil))) (by show 3 ≤ 100000; decide)) H5 (Ex.refl _) Q fun t H6 ht e6 h6 => q _ H6 e6 ⟨t, na, rfl, h6, hrow.nums⟩
  · rintro p zs H1 _ _ e1 hp ⟨rows, hsel, hpair⟩
    -- the rows as data
    cases hs : sel G.sale wo G.sale.bids.length with
    | nil => exact absurd (nil_mem G.sale wo G.sale.bids.length) (by rw [hs]; simp)
    | cons s0 srest =>
      have hdp : ∀ {rows : RowL} {zs : List V}, Paired (fun (r : List Nat × Addr) z => ∃ T na, z = V.ref T ∧ H1 T = some (.tup [.int (-((G.sale.totalValue r.1 : Nat) : Int)), .int ((r.1.length : Nat) : Int), .ref na]) ∧ NL H1 na r.1) rows zs → DpAll K H1 zs ((rows.map (·.1)).map (rowD G.sale)) := fun {rows zs} h => by
        induction h with
        | nil => exact .nil
        | cons h _ ih =>
          obtain ⟨T, na, rfl, h1, h2⟩ := h
          exact .cons (.tup (st_of h1) (.cons (.int _) (.cons (.int _) (.cons (.lst (sq_of h2) (dp_ints _)) .nil)))) ih
      have hd := hdp hpair
      rw [hsel, hs, List.map_cons] at hd
      have hat : ∀ {rows : RowL} {zs : List V}, Paired (fun (r : List Nat × Addr) z => ∃ T na, z = V.ref T ∧ H1 T = some (.tup [.int (-((G.sale.totalValue r.1 : Nat) : Int)), .int ((r.1.length : Nat) : Int), .ref na]) ∧ NL H1 na r.1) rows zs → ∀ (i : Nat) z, zs[i]? = some z →
          ∃ T na ns, (rows.map (·.1))[i]? = some ns ∧ z = V.ref T ∧ H1 T = some (.tup [.int (-((G.sale.totalValue ns : Nat) : Int)), .int ((ns.length : Nat) : Int), .ref na]) ∧ NL H1 na ns := fun {rows zs} h => by
        induction h with
        | nil => intro i z hz; simp at hz
        | cons h _ ih =>
          intro i z hz
          cases i with
          | zero =>
            obtain ⟨T, na, e2, h1, h2⟩ := h
            have e3 : _ = z := Option.some.inj hz
            exact ⟨T, na, _, rfl, by rw [← e3, e2], h1, h2⟩
          | succ i => exact ih i z (by simpa using hz)
      have hmin : EvP (tCB (rMinR K) (tCons (tVar 2) tNil)) [some (.ref s), some (woV wo), some (.ref p), none, none, none, none, none] H1 (fun v H2 => ∃ a xs, v = V.ref a ∧ SqT K H2 a xs ∧ ∃ na, xs = [.int (-((G.sale.totalValue (bestOf G.sale wo) : Nat) : Int)), .int (((bestOf G.sale wo).length : Nat) : Int), .ref na] ∧ NL H2 na (bestOf G.sale wo)) := by
        intro H2 e2 Q q
        refine ⟨.ref p, rfl, p, zs, rowD G.sale s0, srest.map (rowD G.sale), rfl, sq_of (e2 _ _ hp), ?_, ⟨?_, ?_⟩, ?_, ?_⟩
        · -- data stay
          have hdp2 : ∀ {rows : RowL} {zs : List V}, Paired (fun (r : List Nat × Addr) z => ∃ T na, z = V.ref T ∧ H1 T = some (.tup [.int (-((G.sale.totalValue r.1 : Nat) : Int)), .int ((r.1.length : Nat) : Int), .ref na]) ∧ NL H1 na r.1) rows zs → DpAll K H2 zs ((rows.map (·.1)).map (rowD G.sale)) := fun {rows zs} h => by
            induction h with
            | nil => exact .nil
            | cons h _ ih =>
              obtain ⟨T, na, rfl, h1, h2⟩ := h
              exact .cons (.tup (st_of (e2 _ _ h1)) (.cons (.int _) (.cons (.int _) (.cons (.lst (sq_of (e2 _ _ h2)) (dp_ints _)) .nil)))) ih
          have hd2 := hdp2 hpair
          rw [hsel, hs, List.map_cons] at hd2
          exact hd2
        · intro x hx y hy
          rw [← List.map_cons] at hx hy
          obtain ⟨a, _, rfl⟩ := List.mem_map.mp hx
          obtain ⟨b, _, rfl⟩ := List.mem_map.mp hy
          exact alike_row _ a b
        · intro x hx
          rw [← List.map_cons] at hx
          obtain ⟨a, _, rfl⟩ := List.mem_map.mp hx
          intro z
          cases z
        · rw [← List.map_cons]
          exact depth_rows _ _
        · intro i z hz hi
          obtain ⟨T, na, ns, hns, rfl, h1, h2⟩ := hat hpair i z hz
          rw [hsel, hs] at hns
          rw [min_rows, ← List.map_cons, List.getD_eq_getElem?_getD, List.getElem?_map, hns] at hi
          have hb : ns = pick G.sale srest s0 := rowD_inj hi
          have hbest : pick G.sale srest s0 = bestOf G.sale wo := by
            have e3 : pick G.sale (s0 :: srest) s0 = pick G.sale srest s0 := by
              show pick G.sale srest (if G.sale.isBetter s0 s0 = true then s0 else s0) = _
              rw [if_neg (by rw [better_irrefl]; decide)]
            rw [← e3, ← hs]
            exact pick_same (by rw [hs]; exact List.mem_cons_self) (nil_mem _ _ _) fun c => Iff.rfl
          rw [hbest] at hb
          subst hb
          exact q _ H2 (Ex.refl _) ⟨T, _, rfl, st_of (e2 _ _ h1), na, rfl, h2.up e2⟩
      refine sq_tup (K := K) (is := [3, 4, 5]) (R := fun xs H2 => ∃ na, xs = [.int (-((G.sale.totalValue (bestOf G.sale wo) : Nat) : Int)), .int (((bestOf G.sale wo).length : Nat) : Int), .ref na] ∧ NL H2 na (bestOf G.sale wo)) hmin (gset_cons (gset_cons (gset_cons gset_nil))) rfl (fun xs _ ⟨na, h, _⟩ => by rw [h]; rfl) ?_
      rintro xs H2 e2 ⟨na, rfl, hna⟩
      refine sj_retU (eu_tup (ea_cons ((ev_neg (i := -((G.sale.totalValue (bestOf G.sale wo) : Nat) : Int)) (ev_var rfl)).to (congrArg V.int (Int.neg_neg _))) (ea_cons (ev_var (v := .ref na) rfl) ea_nil)) (by show 2 ≤ 100000; decide)) fun q H3 _ _ e3 hq => ⟨q, na, rfl, hq, hna.up e3⟩
end
end TB
/-! # Sales: thresholds -/
namespace TB
open PySem PySem.Spec PyProof.Rows L2 Evl
open TimberAuction (Lot Bid Sale Contract Delivery Bill)
open TBM

theorem le_totalValue {S : Sale} : ∀ {ns : List Nat} {n : Nat}, n ∈ ns → S.value (S.bid n) ≤ S.totalValue ns
  | m :: ns, n, h => by
    show _ ≤ S.value (S.bid m) + S.totalValue ns
    rcases List.mem_cons.mp h with h | h
    · subst h
      omega
    · have := le_totalValue (S := S) h
      omega
section
variable {P : Program} {w : World} {K : PySem.W.Frag} {mg : Str → Option Value} {base : Heap} {A : Adr}
theorem ev_best (T : Top K mg A) {g : Tg} {H : Hp} {s : Addr} {G : SaleG} {wo : Option Nat} {σ : L2.St} {ta tb : TE} (hS : SaleAt A g H s G) (hW : WSale G.sale) (ha : Ev ta σ H (.ref s)) (hb : Ev tb σ H (woV wo)) :
    EvP (tMeth A.Sale "best" (sp_Sale_best K A) [] E0 ta (tCons tb tNil)) σ H (isBest G.sale wo) :=
  evp_meth ha hS.ins no_Sale_best (ea_cons hb ea_nil) (spP_go (R' := isBest G.sale wo) ⟨g, s, G, wo, rfl, hS, hW, rfl⟩ fun v Hk H2 ek h => isBest_up ek h)
theorem ev_best0 (T : Top K mg A) {g : Tg} {H : Hp} {s : Addr} {G : SaleG} {wo : Option Nat} {σ : L2.St} {ta tb : TE} (hS : SaleAt A g H s G) (hW : WSale G.sale) (ha : Ev ta σ H (.ref s)) (hb : Ev tb σ H (woV wo)) :
    Ev (tOp (rIxT K) (tMeth A.Sale "best" (sp_Sale_best K A) [] E0 ta (tCons tb tNil)) (tC (.int 0))) σ H (nV (G.sale.totalValue (bestOf G.sale wo))) :=
  EvP.val (R := isV _) (bindOp1 (ev_best T hS hW ha hb) fun v H1 e1 ⟨p, na, ev, hp, hna⟩ => by
    subst ev
    exact (ev_ixT (n := 0) ev_c ev_c (st_of hp) rfl).p) fun _ _ h => h
def p_threshold (A : Adr) : PreT := fun vs H R => ∃ (g : Tg) (s : Addr) (G : SaleG) (n : Nat), vs = [.ref s, nV n] ∧ SaleAt A g H s G ∧ WSale G.sale ∧ n ∈ G.sale.bestSelection ∧ R = isV (nV (G.sale.threshold n))
abbrev sp_Sale_threshold (_ : PySem.W.Frag) (A : Adr) : Sp := spP (p_threshold A)
theorem sc_Sale_threshold : FnScope ["self", "number", "bid", "left"] ["self", "number"] (defScope (inClass (top 22) 14)) := ⟨rfl, rfl, rfl, by decide +kernel, rfl, by decide +kernel, by decide +kernel⟩
theorem ok_Sale_threshold (T : Top K mg A) : MOk P w K mg base 6 A.Sale "threshold" ["self", "number"] (sp_Sale_threshold K A) := by
  refine mokP T.mSale_threshold sc_Sale_threshold (fun vs H R ⟨_, _, _, _, e, _⟩ => by rw [e]; rfl) (fun _ _ _ _ _ _ us hl => match us, hl with | [_, _], _ => rfl) fun f cdv A' outer s' H E hr => ⟨_, (pss_cons (ps_set (i := 2) sc_Sale_threshold.nd rfl (by first | exact Or.inl rfl | exact Or.inr rfl) (pe_ix ix_list (pe_fld (pv 0) rfl) (pv 1) (fun _ _ => rfl)))
      (pss_cons (ps_set (i := 3) sc_Sale_threshold.nd rfl (by first | exact Or.inl rfl | exact Or.inr rfl) (pe_op op_sub (pe_ix ix_tup (pe_m (ok_Sale_best T) (pv 0) T.cSale.cl (hr.mono (by decide)) (pa_cons (pv 1) pa_nil)) pe_int (fun _ _ => rfl)) (pe_op op_sub (pe_ix ix_tup (pe_m (ok_Sale_best T) (pv 0) T.cSale.cl (hr.mono (by decide)) (pa_cons pe_non pa_nil)) pe_int (fun _ _ => rfl)) (pe_m (ok_Sale_value_of T) (pv 0) T.cSale.cl (hr.mono (by decide)) (pa_cons (pv 2) pa_nil)))))
      (pss_one (ps_ret (pe_callB (cr_max2 rfl) (by rfl) T.b_max (by decide +kernel) (pa_cons (pe_m (ok_Sale_reserve_of T) (pv 0) T.cSale.cl (hr.mono (by decide)) (pa_cons (pv 2) pa_nil)) (pa_cons (pv 3) pa_nil))))))), ?_⟩
  rintro vs H0 R e ⟨g, s, G, n, rfl, hS, hW, hn, rfl⟩
  have hb1 := best_none hW
  have hn' : n < G.sale.bids.length := best_lt n (by rw [hb1]; exact hn)
  have hnG : n < G.bs.length := by simpa [SaleG.sale] using hn'
  have hB := hS.bid _ (List.getElem_mem hnG)
  refine sq_asg (ev_bid T hS (ev_var rfl) (ev_var rfl) hnG) ?_
  have hval : Ev (tMeth A.Sale "value_of" (sp_Sale_value_of K A) [] E0 (tVar 0) (tCons (tVar 2) tNil)) [some (.ref s), some (nV n), some (.ref G.bs[n].p), none] H0 (nV (G.sale.value G.bs[n].b)) :=
    ev_meth (ev_var rfl) hS.ins no_Sale_value_of (ea_cons (ev_var rfl) ea_nil) (spV_go ⟨g, s, G, _, rfl, hS, hB, SaleG.wbid hW hnG, hW, rfl⟩)
  refine sq_asg (ev_I0 (i := ((G.sale.totalValue (bestOf G.sale (some n)) : Nat) : Int)) (j := ((G.sale.totalValue (bestOf G.sale none) : Nat) : Int) - ((G.sale.value G.bs[n].b : Nat) : Int)) (ev_best0 T (wo := some n) hS hW (ev_var rfl) (ev_var rfl)) (ev_I0 (ev_best0 T (wo := none) hS hW (ev_var rfl) ev_c) hval)) ?_
  refine sj_ret (ev_max2 (ev_meth (ev_var rfl) hS.ins no_Sale_reserve_of (ea_cons (ev_var rfl) ea_nil) (spV_go ⟨g, s, G, _, rfl, hS, hB, SaleG.wbid hW hnG, hW, rfl⟩)) (ev_var rfl)) ?_
  show V.int _ = V.int _
  congr 1
  unfold TimberAuction.Sale.threshold
  simp only
  rw [← best_some hW hn', ← hb1, wd_total hn', G.bid_of hnG]
  have hle : G.sale.value G.bs[n].b ≤ G.sale.totalValue (bestOf G.sale none) := by
    rw [← G.bid_of hnG, hb1]
    exact le_totalValue hn
  generalize G.sale.totalValue (bestOf G.sale none) = x at hle ⊢
  generalize G.sale.totalValue (bestOf G.sale (some n)) = y
  generalize G.sale.value G.bs[n].b = z at hle ⊢
  generalize G.sale.reserve G.bs[n].b = r
  split <;> omega
end
end TB
/-! # New objects -/
namespace TB
open PySem PySem.Spec PyProof.Rows L2 Evl
open TimberAuction (Lot Bid Sale Contract Delivery Bill)
open TBM
/-! ### attributes one after another -/
theorem putF_past {f g : Str} {v x : V} {r : List (Str × V)} (h : (g == f) = false) : putF f v ((g, x) :: r) = (g, x) :: putF f v r := by
  refine if_neg fun e => ?_
  rw [e] at h
  simp at h
theorem putF_here {f : Str} {v x : V} {r : List (Str × V)} : putF f v ((f, x) :: r) = (f, v) :: r := by
  exact if_pos rfl
theorem putN {f : Str} {v : V} : ∀ {r : List (Str × V)} (ns : List Str), r.map (·.1) = ns → ns.all (fun g => !(g == f)) = true → putF f v r = r ++ [(f, v)]
  | [], _, _, _ => rfl
  | (g, x) :: r, _, h1, h => by
    subst h1
    rw [List.map_cons, List.all_cons, Bool.and_eq_true] at h
    rw [putF_past (by simpa using h.1), putN _ rfl h.2]
    rfl
section
variable {K : PySem.W.Frag} {σ : L2.St} {H H' B : Hp} {te to : TE} {u : TS} {v : V} {N : L2.St → Hp → Prop} {P : V → Hp → Prop}
theorem sq_fldE {a C dx : Addr} {fs fs' : List (Str × V)} {fn : Str} (c : Cls K C) (n : NoAttr K C fn) (hi : H a = some (.ins C dx fs)) (hb : B a = none) (hf : fs.length < 1000) (h : Ev te σ H v) (ho : Ev to σ H (.ref a)) (hput : putF fn v fs = fs')
    (k : Sj B u σ (upd H a (.ins C dx fs')) N P) : Sj B (tSeq (sFld K to te fn) u) σ H N P := sq_fld c n hi hb hf h ho (by rw [hput]; exact k)
theorem sq_fldNE {a C dx : Addr} {fs : List (Str × V)} {fs' : V → List (Str × V)} {fn : Str} {R : V → Hp → Hp → Prop} (c : Cls K C) (n : NoAttr K C fn) (hi : H a = some (.ins C dx fs)) (hb : B a = none) (hf : fs.length < 1000) (h : EvN te σ H R) (ho : Ev to σ H (.ref a)) (hput : ∀ v, putF fn v fs = fs' v)
    (k : ∀ v H1 H2, Ex H H1 → Ex B H1 → Ex H1 H2 → R v H1 H2 → Sj B u σ (upd H2 a (.ins C dx (fs' v))) N P) : Sj B (tSeq (sFld K to te fn) u) σ H N P := sq_fldN c n hi hb hf h ho fun v H1 H2 e eb e2 hv => by rw [hput]; exact k v H1 H2 e eb e2 hv
end
/-! ### the defs -/
section
variable {P : Program} {w : World} {K : PySem.W.Frag} {mg : Str → Option Value} {base : Heap} {A : Adr}
abbrev PreJ := List V → Hp → (Addr → Hp → Hp → Prop) → Prop
/-- a new instance with these attributes -/
def NewF (C : Addr) (fs : List (Str × V)) : Addr → Hp → Hp → Prop := fun p _ H => Ins H p C fs
def p_Lot_init (A : Adr) : PreJ := fun ws H R => ∃ (r : Int) (va : Addr), ws = [.int r, .ref va] ∧ R = NewF A.Lot (lotF r va)
abbrev sp_Lot_init (_ : PySem.W.Frag) (A : Adr) : Sp := spJ A.Lot (p_Lot_init A)
theorem sc_Lot_init : FnScope ["self", "reserve", "volumes"] ["self", "reserve", "volumes"] (defScope (inClass (top 20) 0)) := ⟨rfl, rfl, rfl, by decide +kernel, rfl, by decide +kernel, by decide +kernel⟩
theorem ok_Lot_init (T : Top K mg A) : MOk P w K mg base 1 A.Lot "__init__" ["self", "reserve", "volumes"] (sp_Lot_init K A) := by
  refine mokJ T.mLot_init sc_Lot_init (fun ws H R ⟨_, _, e, _⟩ => by rw [e]; rfl) (fun _ _ _ _ _ _ us hl => match us, hl with | [_, _, _], _ => rfl) fun f cdv A' outer s' H E hr => ⟨_, (pss_cons (ps_fld (pv 0) (pv 1) rfl)
      (pss_one (ps_fld (pv 0) (pv 2) rfl))), ?_⟩
  rintro p ws dx H0 R hp e h0 ⟨a, b, rfl, rfl⟩
  refine sq_fldE T.cLot.cl T.nLot_reserve hp less_self (by show 0 < 1000; decide) (ev_var rfl) (ev_var rfl) (putN [] rfl rfl) ?_
  exact Sj.last (sq_fldE T.cLot.cl T.nLot_volumes upd_same less_self (by show 1 < 1000; decide) (ev_var rfl) (ev_var rfl) (putN ["reserve"] rfl (by decide +kernel)) (sj_next ⟨dx, upd_same⟩))
def p_Delivery_init (A : Adr) : PreJ := fun ws H R => ∃ a b c d : Int, ws = [.int a, .int b, .int c, .int d] ∧ R = NewF A.Delivery (delF a b c d)
abbrev sp_Delivery_init (_ : PySem.W.Frag) (A : Adr) : Sp := spJ A.Delivery (p_Delivery_init A)
theorem sc_Delivery_init : FnScope ["self", "contract", "day", "grade", "volume"] ["self", "contract", "day", "grade", "volume"] (defScope (inClass (top 11) 0)) := ⟨rfl, rfl, rfl, by decide +kernel, rfl, by decide +kernel, by decide +kernel⟩
theorem ok_Delivery_init (T : Top K mg A) : MOk P w K mg base 1 A.Delivery "__init__" ["self", "contract", "day", "grade", "volume"] (sp_Delivery_init K A) := by
  refine mokJ T.mDelivery_init sc_Delivery_init (fun ws H R ⟨_, _, _, _, e, _⟩ => by rw [e]; rfl) (fun _ _ _ _ _ _ us hl => match us, hl with | [_, _, _, _, _], _ => rfl) fun f cdv A' outer s' H E hr => ⟨_, (pss_cons (ps_fld (pv 0) (pv 1) rfl)
      (pss_cons (ps_fld (pv 0) (pv 2) rfl)
      (pss_cons (ps_fld (pv 0) (pv 3) rfl)
      (pss_one (ps_fld (pv 0) (pv 4) rfl))))), ?_⟩
  rintro p ws dx H0 R hp e h0 ⟨a, b, c, d, rfl, rfl⟩
  refine sq_fldE T.cDelivery.cl T.nDelivery_contract hp less_self (by show 0 < 1000; decide) (ev_var rfl) (ev_var rfl) (putN [] rfl rfl) ?_
  refine sq_fldE T.cDelivery.cl T.nDelivery_day upd_same less_self (by show 1 < 1000; decide) (ev_var rfl) (ev_var rfl) (putN ["contract"] rfl (by decide +kernel)) ?_
  refine sq_fldE T.cDelivery.cl T.nDelivery_grade upd_same less_self (by show 2 < 1000; decide) (ev_var rfl) (ev_var rfl) (putN ["contract", "day"] rfl (by decide +kernel)) ?_
  exact Sj.last (sq_fldE T.cDelivery.cl T.nDelivery_volume upd_same less_self (by show 3 < 1000; decide) (ev_var rfl) (ev_var rfl) (putN ["contract", "day", "grade"] rfl (by decide +kernel)) (sj_next ⟨dx, upd_same⟩))
def p_Bill_init (A : Adr) : PreJ := fun ws H R => ∃ (a b : Int) (c : Addr), ws = [.int a, .int b, .ref c] ∧ R = NewF A.Bill (bilF a b c)
abbrev sp_Bill_init (_ : PySem.W.Frag) (A : Adr) : Sp := spJ A.Bill (p_Bill_init A)
theorem sc_Bill_init : FnScope ["self", "contract", "day", "amounts"] ["self", "contract", "day", "amounts"] (defScope (inClass (top 12) 0)) := ⟨rfl, rfl, rfl, by decide +kernel, rfl, by decide +kernel, by decide +kernel⟩
theorem ok_Bill_init (T : Top K mg A) : MOk P w K mg base 1 A.Bill "__init__" ["self", "contract", "day", "amounts"] (sp_Bill_init K A) := by
  refine mokJ T.mBill_init sc_Bill_init (fun ws H R ⟨_, _, _, e, _⟩ => by rw [e]; rfl) (fun _ _ _ _ _ _ us hl => match us, hl with | [_, _, _, _], _ => rfl) fun f cdv A' outer s' H E hr => ⟨_, (pss_cons (ps_fld (pv 0) (pv 1) rfl)
      (pss_cons (ps_fld (pv 0) (pv 2) rfl)
      (pss_one (ps_fld (pv 0) (pv 3) rfl)))), ?_⟩
  rintro p ws dx H0 R hp e h0 ⟨a, b, c, rfl, rfl⟩
  refine sq_fldE T.cBill.cl T.nBill_contract hp less_self (by show 0 < 1000; decide) (ev_var rfl) (ev_var rfl) (putN [] rfl rfl) ?_
  refine sq_fldE T.cBill.cl T.nBill_day upd_same less_self (by show 1 < 1000; decide) (ev_var rfl) (ev_var rfl) (putN ["contract"] rfl (by decide +kernel)) ?_
  exact Sj.last (sq_fldE T.cBill.cl T.nBill_amounts upd_same less_self (by show 2 < 1000; decide) (ev_var rfl) (ev_var rfl) (putN ["contract", "day"] rfl (by decide +kernel)) (sj_next ⟨dx, upd_same⟩))
def p_Bid_init (A : Adr) : PreJ := fun ws H R => ∃ a b c : Addr, ws = [.ref a, .ref b, .ref c] ∧ R = NewF A.Bid (bidF a b c false)
abbrev sp_Bid_init (_ : PySem.W.Frag) (A : Adr) : Sp := spJ A.Bid (p_Bid_init A)
theorem sc_Bid_init : FnScope ["self", "lots", "prices", "bidders"] ["self", "lots", "prices", "bidders"] (defScope (inClass (top 21) 0)) := ⟨rfl, rfl, rfl, by decide +kernel, rfl, by decide +kernel, by decide +kernel⟩
theorem ok_Bid_init (T : Top K mg A) : MOk P w K mg base 1 A.Bid "__init__" ["self", "lots", "prices", "bidders"] (sp_Bid_init K A) := by
  refine mokJ T.mBid_init sc_Bid_init (fun ws H R ⟨_, _, _, e, _⟩ => by rw [e]; rfl) (fun _ _ _ _ _ _ us hl => match us, hl with | [_, _, _, _], _ => rfl) fun f cdv A' outer s' H E hr => ⟨_, (pss_cons (ps_fld (pv 0) (pv 1) rfl)
      (pss_cons (ps_fld (pv 0) (pv 2) rfl)
      (pss_cons (ps_fld (pv 0) (pv 3) rfl)
      (pss_one (ps_fld (pv 0) pe_bl rfl))))), ?_⟩
  rintro p ws dx H0 R hp e h0 ⟨a, b, c, rfl, rfl⟩
  refine sq_fldE T.cBid.cl T.nBid_lots hp less_self (by show 0 < 1000; decide) (ev_var rfl) (ev_var rfl) (putN [] rfl rfl) ?_
  refine sq_fldE T.cBid.cl T.nBid_prices upd_same less_self (by show 1 < 1000; decide) (ev_var rfl) (ev_var rfl) (putN ["lots"] rfl (by decide +kernel)) ?_
  refine sq_fldE T.cBid.cl T.nBid_bidders upd_same less_self (by show 2 < 1000; decide) (ev_var rfl) (ev_var rfl) (putN ["lots", "prices"] rfl (by decide +kernel)) ?_
  exact Sj.last (sq_fldE T.cBid.cl T.nBid_is_withdrawn upd_same less_self (by show 3 < 1000; decide) ev_c (ev_var rfl) (putN ["lots", "prices", "bidders"] rfl (by decide +kernel)) (sj_next ⟨dx, upd_same⟩))
/-- a new sale -/
def NewSale (A : Adr) (cd ru ad : Nat) : Addr → Hp → Hp → Prop := fun p H H' => ∃ la ba ma : Addr, Ins H' p A.Sale (saleF (cd : Int) (ru : Int) (ad : Int) la ba ma) ∧ H' la = some (.lst []) ∧ H' ba = some (.lst []) ∧ H' ma = some (.lst ((List.replicate 16 12).map nV)) ∧
  H la = none ∧ H ba = none ∧ H ma = none ∧ la ≠ p ∧ ba ≠ p ∧ ma ≠ p ∧ la ≠ ba ∧ la ≠ ma ∧ ba ≠ ma
def p_Sale_init (A : Adr) : PreJ := fun ws H R => ∃ a b c : Nat, ws = [nV a, nV b, nV c] ∧ R = NewSale A a b c
abbrev sp_Sale_init (_ : PySem.W.Frag) (A : Adr) : Sp := spJ A.Sale (p_Sale_init A)
theorem sc_Sale_init : FnScope ["self", "closing_day", "rule", "advance"] ["self", "closing_day", "rule", "advance"] (defScope (inClass (top 22) 0)) := ⟨rfl, rfl, rfl, by decide +kernel, rfl, by decide +kernel, by decide +kernel⟩
theorem ok_Sale_init (T : Top K mg A) : MOk P w K mg base 1 A.Sale "__init__" ["self", "closing_day", "rule", "advance"] (sp_Sale_init K A) := by
  refine mokJ T.mSale_init sc_Sale_init (fun ws H R ⟨_, _, _, e, _⟩ => by rw [e]; rfl) (fun _ _ _ _ _ _ us hl => match us, hl with | [_, _, _, _], _ => rfl) fun f cdv A' outer s' H E hr => ⟨_, (pss_cons (ps_fld (pv 0) (pv 1) rfl)
      (pss_cons (ps_fld (pv 0) (pv 2) rfl)
      (pss_cons (ps_fld (pv 0) (pv 3) rfl)
      (pss_cons (ps_fld (pv 0) (pe_lst pa_nil) rfl)
      (pss_cons (ps_fld (pv 0) (pe_lst pa_nil) rfl)
      (pss_one (ps_fld (pv 0) (pe_op op_rep (pe_lst (pa_cons (pe_k rfl T.k_MOST_LIMIT_sales) pa_nil)) (pe_k rfl T.k_BIDDERS)) rfl))))))), ?_⟩
  rintro p ws dx H0 R hp e h0 ⟨a, b, c, rfl, rfl⟩
  have hless : Ex H0 (less H p) := fun x o hx => by rw [less_ne (ne_of_none hx h0)]; exact e x o hx
  refine sq_fldE T.cSale.cl T.nSale_closing_day hp less_self (by show 0 < 1000; decide) (ev_var rfl) (ev_var rfl) (putN [] rfl rfl) ?_
  refine sq_fldE T.cSale.cl T.nSale_rule upd_same less_self (by show 1 < 1000; decide) (ev_var rfl) (ev_var rfl) (putN ["closing_day"] rfl (by decide +kernel)) ?_
  refine sq_fldE T.cSale.cl T.nSale_advance upd_same less_self (by show 2 < 1000; decide) (ev_var rfl) (ev_var rfl) (putN ["closing_day", "rule"] rfl (by decide +kernel)) ?_
  refine sq_fldNE T.cSale.cl T.nSale_lots upd_same less_self (by show 3 < 1000; decide) el_nil.n (ev_var rfl) (fun v => putN ["closing_day", "rule", "advance"] rfl (by decide +kernel)) fun v H1 H2 e1 eb1 e12 ⟨la, ev, hla, nla⟩ => ?_
  subst ev
  have lap : la ≠ p := fun h => by rw [h, e1 _ _ upd_same] at nla; cases nla
  have nla0 : H0 la = none := fresh_back (hless.trans eb1) nla
  refine sq_fldNE T.cSale.cl T.nSale_bids upd_same less_self (by show 4 < 1000; decide) el_nil.n (ev_var rfl) (fun v => putN ["closing_day", "rule", "advance", "lots"] rfl (by decide +kernel)) fun v H3 H4 e3 eb3 e34 ⟨ba, ev, hba, nba⟩ => ?_
  subst ev
  have bap : ba ≠ p := fun h => by rw [h, e3 _ _ upd_same] at nba; cases nba
  have nba0 : H0 ba = none := fresh_back (hless.trans eb3) nba
  have hla3 : H3 la = some (.lst []) := e3 _ _ (by rw [upd_ne lap]; exact hla)
  have lab : la ≠ ba := ne_of_none hla3 nba
  refine Sj.last (sq_fldNE (R := isLF ((List.replicate 16 12).map nV)) T.cSale.cl T.nSale_limits upd_same less_self (by show 5 < 1000; decide) (EvL.n (el_rep (el_lst (ea_cons ev_c ea_nil) (by show 1 ≤ 100000; decide)) ev_c (by decide))) (ev_var rfl)
    (fun v => putN ["closing_day", "rule", "advance", "lots", "bids"] rfl (by decide +kernel)) fun v H5 H6 e5 eb5 e56 ⟨ma, ev, hma, nma⟩ => ?_)
  subst ev
  have map : ma ≠ p := fun h => by rw [h, e5 _ _ upd_same] at nma; cases nma
  have nma0 : H0 ma = none := fresh_back (hless.trans eb5) nma
  have hla5 : H5 la = some (.lst []) := e5 _ _ (by rw [upd_ne lap]; exact e34 _ _ hla3)
  have hba5 : H5 ba = some (.lst []) := e5 _ _ (by rw [upd_ne bap]; exact hba)
  exact sj_next ⟨la, ba, ma, ⟨dx, upd_same⟩, by rw [upd_ne lap]; exact e56 _ _ hla5, by rw [upd_ne bap]; exact e56 _ _ hba5, by rw [upd_ne map]; exact hma, nla0, nba0, nma0, lap, bap, map, lab, ne_of_none hla5 nma, ne_of_none hba5 nma⟩
def isDF : V → Hp → Hp → Prop := fun v H H' => ∃ p, v = .ref p ∧ H' p = some (.dK []) ∧ H p = none
theorem evn_dnew {σ : L2.St} {H : Hp} : EvN tDNewK σ H isDF := fun H1 e Q q p hp => q _ _ (Ex.new hp) ⟨p, rfl, upd_same, hp⟩
/-- new books -/
def NewBooks (A : Adr) : Addr → Hp → Hp → Prop := fun p H H' => ∃ ca da ba xa pa : Addr, Ins H' p A.Books (bookF ca da ba xa pa) ∧ H' ca = some (.lst []) ∧ H' da = some (.lst []) ∧ H' ba = some (.lst []) ∧ H' xa = some (.dK []) ∧ H' pa = some (.lst ((List.replicate 16 (0 : Int)).map V.int)) ∧
  H ca = none ∧ H da = none ∧ H ba = none ∧ H xa = none ∧ H pa = none ∧ ca ≠ p ∧ da ≠ p ∧ ba ≠ p ∧ xa ≠ p ∧ pa ≠ p ∧ ca ≠ da ∧ ca ≠ ba ∧ ca ≠ xa ∧ ca ≠ pa ∧ da ≠ ba ∧ da ≠ xa ∧ da ≠ pa ∧ ba ≠ xa ∧ ba ≠ pa ∧ xa ≠ pa
def p_Books_init (A : Adr) : PreJ := fun ws H R => ws = [.int 16] ∧ R = NewBooks A
abbrev sp_Books_init (_ : PySem.W.Frag) (A : Adr) : Sp := spJ A.Books (p_Books_init A)
theorem sc_Books_init : FnScope ["self", "bidders"] ["self", "bidders"] (defScope (inClass (top 13) 0)) := ⟨rfl, rfl, rfl, by decide +kernel, rfl, by decide +kernel, by decide +kernel⟩
theorem ok_Books_init (T : Top K mg A) : MOk P w K mg base 1 A.Books "__init__" ["self", "bidders"] (sp_Books_init K A) := by
  refine mokJ T.mBooks_init sc_Books_init (fun ws H R ⟨e, _⟩ => by rw [e]; rfl) (fun _ _ _ _ _ _ us hl => match us, hl with | [_, _], _ => rfl) fun f cdv A' outer s' H E hr => ⟨_, (pss_cons (ps_fld (pv 0) (pe_lst pa_nil) rfl)
      (pss_cons (ps_fld (pv 0) (pe_lst pa_nil) rfl)
      (pss_cons (ps_fld (pv 0) (pe_lst pa_nil) rfl)
      (pss_cons (ps_fld (pv 0) pe_dnewK rfl)
      (pss_one (ps_fld (pv 0) (pe_op op_rep (pe_lst (pa_cons pe_int pa_nil)) (pv 1)) rfl)))))), ?_⟩
  rintro p ws dx H0 R hp e h0 ⟨rfl, rfl⟩
  have hless : Ex H0 (less H p) := fun x o hx => by rw [less_ne (ne_of_none hx h0)]; exact e x o hx
  refine sq_fldNE (R := isLF []) T.cBooks.cl T.nBooks_contracts hp less_self (by show 0 < 1000; decide) el_nil.n (ev_var rfl) (fun v => putN [] rfl rfl) fun v Ha0 Hb0 ea0 eb0 eab0 ⟨ca, ev0, hca, nca⟩ => ?_
  subst ev0
  have cap : ca ≠ p := fun h => by rw [h, ea0 _ _ hp] at nca; cases nca
  have nca0 : H0 ca = none := fresh_back (hless.trans eb0) nca
  refine sq_fldNE (R := isLF []) T.cBooks.cl T.nBooks_deliveries upd_same less_self (by show 1 < 1000; decide) el_nil.n (ev_var rfl) (fun v => putN ["contracts"] rfl (by decide +kernel)) fun v Ha1 Hb1 ea1 eb1 eab1 ⟨da, ev1, hda, nda⟩ => ?_
  subst ev1
  have dap : da ≠ p := fun h => by rw [h, ea1 _ _ upd_same] at nda; cases nda
  have nda0 : H0 da = none := fresh_back (hless.trans eb1) nda
  have hca := ea1 _ _ (show upd _ _ _ ca = some (.lst []) by rw [upd_ne cap]; exact hca)
  have dcada : ca ≠ da := ne_of_none hca nda
  have hca := eab1 _ _ hca
  refine sq_fldNE (R := isLF []) T.cBooks.cl T.nBooks_bills upd_same less_self (by show 2 < 1000; decide) el_nil.n (ev_var rfl) (fun v => putN ["contracts", "deliveries"] rfl (by decide +kernel)) fun v Ha2 Hb2 ea2 eb2 eab2 ⟨ba, ev2, hba, nba⟩ => ?_
  subst ev2
  have bap : ba ≠ p := fun h => by rw [h, ea2 _ _ upd_same] at nba; cases nba
  have nba0 : H0 ba = none := fresh_back (hless.trans eb2) nba
  have hca := ea2 _ _ (show upd _ _ _ ca = some (.lst []) by rw [upd_ne cap]; exact hca)
  have dcaba : ca ≠ ba := ne_of_none hca nba
  have hca := eab2 _ _ hca
  have hda := ea2 _ _ (show upd _ _ _ da = some (.lst []) by rw [upd_ne dap]; exact hda)
  have ddaba : da ≠ ba := ne_of_none hda nba
  have hda := eab2 _ _ hda
  refine sq_fldNE (R := isDF) T.cBooks.cl T.nBooks_indexes upd_same less_self (by show 3 < 1000; decide) evn_dnew (ev_var rfl) (fun v => putN ["contracts", "deliveries", "bills"] rfl (by decide +kernel)) fun v Ha3 Hb3 ea3 eb3 eab3 ⟨xa, ev3, hxa, nxa⟩ => ?_
  subst ev3
  have xap : xa ≠ p := fun h => by rw [h, ea3 _ _ upd_same] at nxa; cases nxa
  have nxa0 : H0 xa = none := fresh_back (hless.trans eb3) nxa
  have hca := ea3 _ _ (show upd _ _ _ ca = some (.lst []) by rw [upd_ne cap]; exact hca)
  have dcaxa : ca ≠ xa := ne_of_none hca nxa
  have hca := eab3 _ _ hca
  have hda := ea3 _ _ (show upd _ _ _ da = some (.lst []) by rw [upd_ne dap]; exact hda)
  have ddaxa : da ≠ xa := ne_of_none hda nxa
  have hda := eab3 _ _ hda
  have hba := ea3 _ _ (show upd _ _ _ ba = some (.lst []) by rw [upd_ne bap]; exact hba)
  have dbaxa : ba ≠ xa := ne_of_none hba nxa
  have hba := eab3 _ _ hba
  refine Sj.last (sq_fldNE (R := isLF ((List.replicate 16 (0 : Int)).map V.int)) T.cBooks.cl T.nBooks_paid upd_same less_self (by show 4 < 1000; decide) (EvL.n (el_rep (el_lst (ea_cons ev_c ea_nil) (by show 1 ≤ 100000; decide)) (ev_var (v := .int 16) rfl) (by decide))) (ev_var rfl) (fun v => putN ["contracts", "deliveries", "bills", "indexes"] rfl (by decide +kernel)) fun v Ha4 Hb4 ea4 eb4 eab4 ⟨pa, ev4, hpa, npa⟩ => ?_)
  subst ev4
  have pap : pa ≠ p := fun h => by rw [h, ea4 _ _ upd_same] at npa; cases npa
  have npa0 : H0 pa = none := fresh_back (hless.trans eb4) npa
  have hca := ea4 _ _ (show upd _ _ _ ca = some (.lst []) by rw [upd_ne cap]; exact hca)
  have dcapa : ca ≠ pa := ne_of_none hca npa
  have hca := eab4 _ _ hca
  have hda := ea4 _ _ (show upd _ _ _ da = some (.lst []) by rw [upd_ne dap]; exact hda)
  have ddapa : da ≠ pa := ne_of_none hda npa
  have hda := eab4 _ _ hda
  have hba := ea4 _ _ (show upd _ _ _ ba = some (.lst []) by rw [upd_ne bap]; exact hba)
  have dbapa : ba ≠ pa := ne_of_none hba npa
  have hba := eab4 _ _ hba
  have hxa := ea4 _ _ (show upd _ _ _ xa = some (.dK []) by rw [upd_ne xap]; exact hxa)
  have dxapa : xa ≠ pa := ne_of_none hxa npa
  have hxa := eab4 _ _ hxa
  exact sj_next ⟨ca, da, ba, xa, pa, ⟨dx, upd_same⟩, by rw [upd_ne cap]; exact hca, by rw [upd_ne dap]; exact hda, by rw [upd_ne bap]; exact hba, by rw [upd_ne xap]; exact hxa, by rw [upd_ne pap]; exact hpa, nca0, nda0, nba0, nxa0, npa0, cap, dap, bap, xap, pap, dcada, dcaba, dcaxa, dcapa, ddaba, ddaxa, ddapa, dbaxa, dbapa, dxapa⟩
def p_Contract_init (K : PySem.W.Frag) (A : Adr) : PreJ := fun ws H R => ∃ (b la pa ba va fa t : Addr) (wd : Bool) (value day adv : Int), ws = [.ref b, .ref va, .int value, .ref t] ∧ Ins H b A.Bid (bidF la pa ba wd) ∧ SqT K H t [.int day, .int adv, .ref fa] ∧ R = NewF A.Contract (conF va pa ba value day adv fa false)
abbrev sp_Contract_init (K : PySem.W.Frag) (A : Adr) : Sp := spJ A.Contract (p_Contract_init K A)
theorem sc_Contract_init : FnScope ["self", "bid", "volumes", "value", "terms"] ["self", "bid", "volumes", "value", "terms"] (defScope (inClass (top 10) 0)) := ⟨rfl, rfl, rfl, by decide +kernel, rfl, by decide +kernel, by decide +kernel⟩
theorem ok_Contract_init (T : Top K mg A) : MOk P w K mg base 1 A.Contract "__init__" ["self", "bid", "volumes", "value", "terms"] (sp_Contract_init K A) := by
  refine mokJ T.mContract_init sc_Contract_init (fun ws H R ⟨_, _, _, _, _, _, _, _, _, _, _, e, _⟩ => by rw [e]; rfl) (fun _ _ _ _ _ _ us hl => match us, hl with | [_, _, _, _, _], _ => rfl) fun f cdv A' outer s' H E hr => ⟨_, (pss_cons (ps_fld (pv 0) (pv 2) rfl)
      (pss_cons (ps_fld (pv 0) (pe_fld (pv 1) rfl) rfl)
      (pss_cons (ps_fld (pv 0) (pe_fld (pv 1) rfl) rfl)
      (pss_cons (ps_fld (pv 0) (pv 3) rfl)
      (pss_cons (ps_asg (pv 4) (pg_tup rfl (pgs_cons (pg_fld (pv 0)) (pgs_cons (pg_fld (pv 0)) (pgs_cons (pg_fld (pv 0)) pgs_nil)))))
      (pss_one (ps_fld (pv 0) pe_bl rfl))))))), ?_⟩
  rintro p ws dx H0 R hp e h0 ⟨b, la, pa, ba, va, fa, t, wd, value, day, adv, rfl, hi, ht, rfl⟩
  refine sq_fldE T.cContract.cl T.nContract_volumes hp less_self (by show 0 < 1000; decide) (ev_var rfl) (ev_var rfl) (putN [] rfl rfl) ?_
  have e1 : ∀ o, Ex H0 (upd H p o) := fun o => e.mut h0
  refine sq_fldE T.cContract.cl T.nContract_prices upd_same less_self (by show 1 < 1000; decide) (fld_Bid_prices T (ev_var rfl) (hi.up (e1 _))) (ev_var rfl) (putN ["volumes"] rfl (by decide +kernel)) ?_
  have e2 : ∀ o1 o2, Ex H0 (upd (upd H p o1) p o2) := fun o1 o2 => (e1 o1).mut h0
  refine sq_fldE T.cContract.cl T.nContract_bidders upd_same less_self (by show 2 < 1000; decide) (fld_Bid_bidders T (ev_var rfl) (hi.up (e2 _ _))) (ev_var rfl) (putN ["volumes", "prices"] rfl (by decide +kernel)) ?_
  have e3 : ∀ o1 o2 o3, Ex H0 (upd (upd (upd H p o1) p o2) p o3) := fun o1 o2 o3 => (e2 o1 o2).mut h0
  refine sq_fldE T.cContract.cl T.nContract_value upd_same less_self (by show 3 < 1000; decide) (ev_var rfl) (ev_var rfl) (putN ["volumes", "prices", "bidders"] rfl (by decide +kernel)) ?_
  have e4 : ∀ o1 o2 o3 o4, Ex H0 (upd (upd (upd (upd H p o1) p o2) p o3) p o4) := fun o1 o2 o3 o4 => (e3 o1 o2 o3).mut h0
  refine sq_fld3 T.cContract.cl T.nContract_day T.nContract_advance T.nContract_factor upd_same less_self (by show 4 < 1000; decide) ?_ ?_ (ev_var rfl) (ex_t (e4 _ _ _ _) ht) rfl ?_
  · rw [putN ["volumes", "prices", "bidders", "value"] rfl (by decide +kernel)]; show 5 < 1000; decide
  · rw [putN (f := "day") ["volumes", "prices", "bidders", "value"] rfl (by decide +kernel), putN (f := "advance") ["volumes", "prices", "bidders", "value", "day"] rfl (by decide +kernel)]; show 6 < 1000; decide
  rw [putN (f := "day") ["volumes", "prices", "bidders", "value"] rfl (by decide +kernel), putN (f := "advance") ["volumes", "prices", "bidders", "value", "day"] rfl (by decide +kernel), putN (f := "factor") ["volumes", "prices", "bidders", "value", "day", "advance"] rfl (by decide +kernel)]
  exact Sj.last (sq_fldE T.cContract.cl T.nContract_is_closed upd_same less_self (by show 7 < 1000; decide) ev_c (ev_var rfl) (putN ["volumes", "prices", "bidders", "value", "day", "advance", "factor"] rfl (by decide +kernel)) (sj_next ⟨dx, upd_same⟩))
/-! ### filled -/
def p_filled : PreN := fun vs H R => ∃ (a : Addr) (ns : List Nat), vs = [.ref a] ∧ NL H a ns ∧ ns.length ≤ 10 ∧ R = isLF ((TimberAuction.byGrade ns).map nV)
theorem byGrade_eq {ns : List Nat} (h : ns.length ≤ 10) : TimberAuction.byGrade ns = ns ++ List.replicate (10 - ns.length) 0 := by
  refine List.ext_getElem (by rw [byGrade_length, List.length_append, List.length_replicate]; omega) fun i h1 h2 => ?_
  simp only [TimberAuction.byGrade, List.getElem_map, List.getElem_range]
  rw [List.getD_eq_getElem?_getD]
  by_cases hi : i < ns.length
  · rw [List.getElem_append_left hi, List.getElem?_eq_getElem hi]
    rfl
  · rw [List.getElem_append_right (by omega), List.getElem_replicate, List.getElem?_eq_none (by omega)]
    rfl
theorem sc_filled : FnScope ["numbers"] ["numbers"] (defScope (top 19)) := ⟨rfl, rfl, rfl, by decide +kernel, rfl, by decide +kernel, by decide +kernel⟩
theorem ok_filled (T : Top K mg A) : FOk P w K mg base 1 "filled" ["numbers"] (spN p_filled) := by
  refine fokN T.f_filled sc_filled (fun vs H R ⟨_, _, e, _⟩ => by rw [e]; rfl) (fun _ _ _ _ _ _ us hl => match us, hl with | [_], _ => rfl) fun f cdv A' outer s' H E hr => ⟨_, (pss_one (ps_ret (pe_op op_cat (pe_callTy cr_listS (by rfl) T.b_list (by decide +kernel) (pa_cons (pv 0) pa_nil)) (pe_op op_rep (pe_lst (pa_cons pe_int pa_nil)) (pe_op op_sub (pe_k rfl T.k_GRADES) (pe_callB cr_lenS (by rfl) T.b_len boot_len (pa_cons (pv 0) pa_nil))))))), ?_⟩
  rintro vs H0 R e ⟨a, ns, rfl, hN, hl, rfl⟩
  refine sj_retN (R := isLF ((TimberAuction.byGrade ns).map nV)) (EvL.n (EvL.to (el_cat (el_listA (ev_var rfl) hN) (el_rep (el_lst (ea_cons ev_c ea_nil) (by show 1 ≤ 100000; decide)) (ev_I0 (i := 10) ev_c (ev_lenL (ev_var rfl) hN)) ?_) ?_) ?_)) fun v H1 H2 _ eb e12 h => isLF_up eb (Ex.refl _) h
  · rw [List.length_map]; omega
  · rw [List.length_map, List.length_replicate]; omega
  · rw [byGrade_eq hl, List.map_append, List.map_replicate, List.length_map]
    congr 2
    omega
end
end TB
/-! # Contracts: what is due -/
namespace TB
open PySem PySem.Spec PyProof.Rows L2 Evl
open TimberAuction (Lot Bid Sale Contract Delivery Bill)
open TBM

/-! ### the dict of indexes -/
def kvN (e : Nat × Nat) : Key × V := (Sum.inl (e.1 : Int), V.int (e.2 : Int))
theorem valV_in {xs : List (Nat × Nat)} (h : (xs.map (·.1)).Nodup) {e : Nat × Nat} (he : e ∈ xs) : valV (xs.map kvN) (Sum.inl (e.1 : Int)) = some (V.int (e.2 : Int)) := by
  induction xs with
  | nil => exact absurd he (by simp)
  | cons a l ih =>
    rw [List.map_cons, List.nodup_cons] at h
    rw [List.map_cons]
    rcases List.mem_cons.mp he with he | he
    · subst he
      exact (valV_pos (p := kvN e) rfl).trans rfl
    · have hne : a.1 ≠ e.1 := fun z => h.1 (by rw [z]; exact List.mem_map.mpr ⟨e, he, rfl⟩)
      rw [valV_neg (show ¬ (kvN a).1 = Sum.inl (e.1 : Int) from fun z => hne (by
        have z : (Sum.inl (a.1 : Int) : Key) = Sum.inl (e.1 : Int) := z
        have := Sum.inl.inj z
        omega))]
      exact ih h.2 he
theorem evi_keys {σ : L2.St} {H : Hp} {td : TE} {d : Addr} {o : Obj} {xs : List (Nat × Nat)} (h : Ev td σ H (.ref d)) (hd : H d = some (.frz o (.dK (xs.map kvN)))) : EvI (iKeys td) σ H xs (fun H => H d = some (.frz o (.dK (xs.map kvN)))) (fun y x _ => x = nV y.1) := fun H1 e R k =>
  h H1 e _ fun H2 e2 => ⟨d, o, rfl, .inl ⟨_, e2 _ _ (e _ _ hd), k _ H2 e2 (by
    have w := walk_keys (d := d) (o := o) (kvs := xs.map kvN)
    rw [List.length_map] at w
    exact w.mono (fun _ g => g) fun i H x H' hi _ ⟨e1, kk, v, h1, h2⟩ => ⟨by rw [e1]; exact Ex.refl _, by
      rw [List.getElem?_map] at h1
      cases e3 : xs[i]? with
      | none => rw [e3] at h1; simp at h1
      | some y =>
        rw [e3] at h1
        have h1 : kvN y = (kk, v) := Option.some.inj h1
        refine ⟨y, rfl, ?_⟩
        have h3 : (kvN y).1 = kk := congrArg Prod.fst h1
        show x = nV y.1
        rw [h2, ← h3]
        rfl⟩)⟩⟩
section
variable {K : PySem.W.Frag} {B H : Hp} {σ : L2.St} {N : L2.St → Hp → Prop} {P : V → Hp → Prop} {td te : TE} {tt : TT} {u : TS}
theorem sq_lockKeys {d : Addr} {xs : List (Nat × Nat)} {i j : Nat} (p : Nat × Nat → Bool) (hz : xs.length ≤ 1000) (hd : H d = some (.dK (xs.map kvN))) (ho : ∀ o, Ev td σ (upd H d (.frz o (.dK (xs.map kvN)))) (.ref d))
    (hw : ∀ y ∈ xs, wipe ((wipe σ [j]).set j (some (nV y.1))) [j] = wipe σ [j]) (ht : ∀ y H1, y ∈ xs → EvT tt ((wipe σ [j]).set j (some (nV y.1))) H1 (p y)) (he : ∀ y H1, y ∈ xs → Ev te ((wipe σ [j]).set j (some (nV y.1))) H1 (nV y.1))
    (k : ∀ q H1, B q = none → H q = none → Ex H H1 → H1 q = some (.lst ((xs.filter p).map fun y => nV y.1)) → Sj B u (σ.set i (some (.ref q))) H1 N P) :
    Sj B (tSeq (tLock (tAsg (tLc (iKeys td) (gName j) tt te [j]) (gName i))) u) σ H N P := fun H1 e eb D kn kr => by
  refine ⟨d, .dK (xs.map kvN), e d _ hd, trivial, fun od => ?_⟩
  have hlc : EvL (tLc (iKeys td) (gName j) tt te [j]) σ (upd H d (.frz od (.dK (xs.map kvN)))) ((xs.filter p).map fun y => nV y.1) :=
    evl_lc p (fun y => nV y.1) (evi_keys (ho od) upd_same) (fun _ _ ex h => ex _ _ h) upd_same (by omega) fun y x H2 hy e2 hx => by
      subst hx
      exact ⟨_, evg_name, hw y hy, ht y H2 hy, fun _ => he y H2 hy⟩
  refine hlc (upd H1 d (.frz od (.dK (xs.map kvN)))) e.upd _ fun q H2 hq e2 h2 => ⟨e2 d _ upd_same, ?_⟩
  have hqd : q ≠ d := fun z => by rw [z, upd_same] at hq; cases hq
  rw [upd_ne hqd] at hq
  have e12 : Ex H1 (upd H2 d (.dK (xs.map kvN))) := fun b o hb => by
    by_cases hbd : b = d
    · subst hbd
      rw [e b _ hd] at hb
      rw [upd_same, ← hb]
    · rw [upd_ne hbd]
      exact e2 b o (by rw [upd_ne hbd]; exact hb)
  exact k q _ (fresh_back eb hq) (fresh_back e hq) (e.trans e12) (by rw [upd_ne hqd]; exact h2) _ (Ex.refl _) (eb.trans e12) D kn kr
end
structure WBooks (G : BooksG) : Prop where
  ncs : G.cs.length ≤ 24
  con : ∀ y ∈ G.cs, WCon y.c
  nds : G.ds.length ≤ 64
  del : ∀ y ∈ G.ds, WDel G.cs.length y.d
  nbs : G.bs.length ≤ 48
  bil : ∀ y ∈ G.bs, y.b.contract < G.cs.length ∧ ∀ z, G.cs[y.b.contract]? = some z → y.b.amounts.length = z.c.bidders.length
  idx : WIdx G.xs
  npd : G.paid.length = 16
section
variable {P : Program} {w : World} {K : PySem.W.Frag} {mg : Str → Option Value} {base : Heap} {A : Adr}
/-! ### index_of -/
def p_index_of (K : PySem.W.Frag) (A : Adr) : PreT := fun vs H R => ∃ (g : Tg) (b : Addr) (G : BooksG) (day : Nat), vs = [.ref b, nV day] ∧ BooksAt K A g H b G ∧ WIdx G.xs ∧ R = isV (nV (TimberAuction.indexOn G.xs day))
abbrev sp_Books_index_of (K : PySem.W.Frag) (A : Adr) : Sp := spP (p_index_of K A)
theorem sc_Books_index_of : FnScope ["self", "day", "days", "one"] ["self", "day"] (defScope (inClass (top 13) 1)) := ⟨rfl, rfl, rfl, by decide +kernel, rfl, by decide +kernel, by decide +kernel⟩
theorem ok_Books_index_of (T : Top K mg A) : MOk P w K mg base 1 A.Books "index_of" ["self", "day"] (sp_Books_index_of K A) := by
  refine mokP T.mBooks_index_of sc_Books_index_of (fun vs H R ⟨_, _, _, _, e, _⟩ => by rw [e]; rfl) (fun _ _ _ _ _ _ us hl => match us, hl with | [_, _], _ => rfl) fun f cdv A' outer s' H E hr => ⟨_, (pss_cons (ps_lock (ps_setLc (i := 2) (own := [("one", 3)]) (g := (gName 3)) (tt := (tTest (tOp (rI0 fun i j => .bl (decide (i ≤ j))) (tVar 3) (tVar 1)))) (te := (tVar 3)) (by rfl) sc_Books_index_of.nd rfl rfl (sw_true rfl rfl rfl (by decide +kernel)) (pi_keys (pe_fld (pv 0) rfl)) (blkOk_by (own := [("one", 3)]) (N := ["self", "day", "days", "one"]) (sc := defScope (inClass (top 13) 1)) (by decide +kernel)) (fun _ _ _ _ _ => (pg_name (i := 3) sc_Books_index_of.nd rfl (by first | exact Or.inl rfl | exact Or.inr rfl))) (fun _ _ _ _ _ => (pts_one (pt_cmpR op_le (pv 3) (pv 1) (nomark _)))) (fun _ _ _ _ _ => (pv 3))))
      (pss_one (ps_ret (pe_ifExp (pt_cmpR (op_neN (hu1 hr)) (pv 2) (pe_lst pa_nil) (nomark _)) (pe_dget (hu_of hr) (pe_fld (pv 0) rfl) (pe_callB (cr_max rfl) (by rfl) T.b_max (by decide +kernel) (pa_cons (pv 2) pa_nil)) (fun _ _ => rfl)) (pe_k rfl T.k_PLAIN_INDEX))))), ?_⟩
  rintro vs H0 R e ⟨g, b, G, day, rfl, hG, hW, rfl⟩
  have hbx : b ≠ G.xa := fun z => by
    have h1 := hG.gb
    rw [z, hG.gx] at h1
    cases h1
  refine sq_lockKeys (xs := G.xs) (fun y => decide (y.1 ≤ day)) (by have := hW.len; omega) hG.idx (fun o => fld_Books_indexes T (ev_var rfl) (hG.ins.elim fun dx h => ⟨dx, by rw [upd_ne hbx]; exact h⟩)) (fun y hy => rfl)
    (fun y H1 hy => et_test ((ev_I0 (i := (y.1 : Int)) (j := (day : Int)) (ev_var rfl) (ev_var rfl)).to (congrArg V.bl (decide_eq_decide.mpr (by omega))))) (fun y H1 hy => ev_var rfl) fun q H1 _ _ e1 hq => ?_
  refine sj_ret (v := nV (TimberAuction.indexOn G.xs day)) (ev_if (et_test (ev_neA (ev_var rfl) hq)) (fun hc => ?_) (fun hc => ?_)) rfl
  · refine fun H2 e2 Q qq => (fld_Books_indexes T (ev_var rfl) (hG.ins.up e1)) H2 e2 _ fun H3 e3 => ?_
    refine (ev_var (v := .ref q) (i := 2) rfl) H3 (e2.trans e3) _ fun H4 e4 => ?_
    have h04 := (e2.trans e3).trans e4
    refine ⟨q, (G.xs.filter fun y => decide (y.1 ≤ day)).map fun y => (y.1 : Int), rfl, sq_of (h04 _ _ (by rw [hq, List.map_map]; rfl)), ?_, fun m hm hmax => ?_⟩
    · rw [List.length_map]
      cases hf : G.xs.filter fun y => decide (y.1 ≤ day) with
      | nil => rw [hf] at hc; exact absurd hc (by decide)
      | cons _ _ => exact Nat.succ_pos _
    · obtain ⟨y, hy, rfl⟩ := List.mem_map.mp hm
      have hy2 := List.mem_filter.mp hy
      have hyd : y.1 ≤ day := by simpa using hy2.2
      have hidx : TimberAuction.indexOn G.xs day = y.2 := index_some (d := y.1) (v := y.2) hW.nd hy2.1 hyd fun x hx hxd => by
        have := hmax (x.1 : Int) (List.mem_map.mpr ⟨x, List.mem_filter.mpr ⟨hx, by simpa using hxd⟩, rfl⟩)
        omega
      refine ⟨G.xa, nV y.2, rfl, ?_, by rw [hidx] at qq; exact qq H4 (e3.trans e4)⟩
      have := DGet.k (k := Sum.inl (y.1 : Int)) (h04 _ _ (e1 _ _ hG.idx))
      rw [show valV (G.xs.map fun e => (Sum.inl (e.1 : Int), V.int (e.2 : Int))) (Sum.inl (y.1 : Int)) = some (nV y.2) from valV_in hW.nd hy2.1] at this
      exact this
  · rw [index_none fun x hx => ?_]
    · exact ev_c
    · have hf : G.xs.filter (fun y => decide (y.1 ≤ day)) = [] := by
        cases hf : G.xs.filter fun y => decide (y.1 ≤ day) with
        | nil => rfl
        | cons _ _ => rw [hf] at hc; exact absurd hc (by simp)
      have := List.filter_eq_nil_iff.mp hf x hx
      simp at this
      omega
theorem BooksG.con_lt {G : BooksG} {n : Nat} (h : n < G.cs.length) : G.cs[n] ∈ G.cs := List.getElem_mem h
/-- a contract by its number -/
theorem ev_con (T : Top K mg A) {g : Tg} {H : Hp} {b : Addr} {G : BooksG} {n : Nat} {σ : L2.St} {ta tb : TE} (hG : BooksAt K A g H b G) (ha : Ev ta σ H (.ref b)) (hb : Ev tb σ H (.int (n : Nat))) (hn : n < G.cs.length) : Ev (tOp (rIxL K) (tFld K ta "contracts") tb) σ H (.ref G.cs[n].p) :=
  ev_ixL (fld_Books_contracts T ha hG.ins) hb hG.cons (get_ref hn)
/-! ### estimate -/
def p_estimate (K : PySem.W.Frag) (A : Adr) : PreT := fun vs H R => ∃ (g : Tg) (y : ConG), vs = [.ref y.p] ∧ ConAt K A g H y ∧ WCon y.c ∧ R = isF K (TimberAuction.estimate y.c)
abbrev sp_Contract_estimate (K : PySem.W.Frag) (A : Adr) : Sp := spP (p_estimate K A)
theorem value_lt {c : Contract} (h : WCon c) : TimberAuction.valueOf c.volumes c.prices < 2 ^ 60 :=
  Nat.lt_of_le_of_lt (valueOf_le h.vol h.prices) (by decide)
theorem pow_60 {n : Nat} (h : n < 2 ^ 60) : n < 2 ^ 900 := Nat.lt_of_lt_of_le h (Nat.pow_le_pow_right (by decide) (by decide))
theorem sc_Contract_estimate : FnScope ["self"] ["self"] (defScope (inClass (top 10) 1)) := ⟨rfl, rfl, rfl, by decide +kernel, rfl, by decide +kernel, by decide +kernel⟩
theorem ok_Contract_estimate (T : Top K mg A) : MOk P w K mg base 4 A.Contract "estimate" ["self"] (sp_Contract_estimate K A) := by
  refine mokP T.mContract_estimate sc_Contract_estimate (fun vs H R ⟨_, _, e, _⟩ => by rw [e]; rfl) (fun _ _ _ _ _ _ us hl => match us, hl with | [_], _ => rfl) fun f cdv A' outer s' H E hr => ⟨_, (pss_one (ps_ret (pe_f (ok_times T) (hr.mono (by decide)) rfl (pa_cons (pe_fld (pv 0) rfl) (pa_cons (pe_fld (pv 0) rfl) (pa_cons pe_int pa_nil)))))), ?_⟩
  rintro vs H0 R e ⟨g, y, rfl, hC, hW, rfl⟩
  refine sj_retP (evp_call (vs := [.ref y.fa, .int ((TimberAuction.valueOf y.c.volumes y.c.prices : Nat) : Int), .int ((1000 : Nat) : Int)]) (ea_cons (fld_Contract_factor T (ev_var rfl) hC.ins) (ea_cons (fld_Contract_value T (ev_var rfl) hC.ins) (ea_cons ev_c ea_nil)))
    (spF_go (q := TimberAuction.estimate y.c) ⟨_, y.c.factor, _, _, rfl, hC.factor, hW.fac.mono (by decide), pow_60 (value_lt hW), by decide, pow_60 (by decide), congrArg (isF K) (estimate_eq y.c)⟩)) fun v H1 _ h => h
/-! ### deliveries_of, delivered -/
def p_deliveries_of (K : PySem.W.Frag) (A : Adr) : PreT := fun vs H R => ∃ (g : Tg) (b : Addr) (G : BooksG) (n : Nat), vs = [.ref b, nV n] ∧ BooksAt K A g H b G ∧ G.ds.length ≤ 1000 ∧ R = isL ((G.ds.filter fun y => y.d.contract == n).map fun y => V.ref y.p)
abbrev sp_Books_deliveries_of (K : PySem.W.Frag) (A : Adr) : Sp := spP (p_deliveries_of K A)
theorem dec_nat {m n : Nat} : decide (V.int (m : Int) = V.int (n : Int)) = (m == n) := by
  rw [dec_int, Bool.eq_iff_iff]
  simp
  omega
theorem sc_Books_deliveries_of : FnScope ["self", "number", "delivery"] ["self", "number"] (defScope (inClass (top 13) 2)) := ⟨rfl, rfl, rfl, by decide +kernel, rfl, by decide +kernel, by decide +kernel⟩
theorem ok_Books_deliveries_of (T : Top K mg A) : MOk P w K mg base 1 A.Books "deliveries_of" ["self", "number"] (sp_Books_deliveries_of K A) := by
  refine mokP T.mBooks_deliveries_of sc_Books_deliveries_of (fun vs H R ⟨_, _, _, _, e, _⟩ => by rw [e]; rfl) (fun _ _ _ _ _ _ us hl => match us, hl with | [_, _], _ => rfl) fun f cdv A' outer s' H E hr => ⟨_, (pss_one (ps_ret (pe_lc (own := [("delivery", 2)]) (g := (gName 2)) (tt := (tTest (tOp (rEq) (tFld K (tVar 2) "contract") (tVar 1)))) (te := (tVar 2)) (by rfl) sc_Books_deliveries_of.nd (pi_list (pe_fld (pv 0) rfl)) (blkOk_by (own := [("delivery", 2)]) (N := ["self", "number", "delivery"]) (sc := defScope (inClass (top 13) 2)) (by decide +kernel)) (fun _ _ _ _ _ => (pg_name (i := 2) sc_Books_deliveries_of.nd rfl (by first | exact Or.inl rfl | exact Or.inr rfl))) (fun _ _ _ _ _ => (pts_one (pt_cmpR op_eq (pe_fld (pv 2) rfl) (pv 1) (nomark _)))) (fun _ _ _ _ _ => (pv 2))))), ?_⟩
  rintro vs H0 R e ⟨g, b, G, n, rfl, hG, hl, rfl⟩
  refine sj_retL (evl_lc (fun y => y.d.contract == n) (fun y : DelG => V.ref y.p) (evi_list G.ds (fun y => V.ref y.p) (fld_Books_deliveries T (ev_var rfl) hG.ins) (sq_of hG.dels)) up_l (sq_of hG.dels) (by omega) ?_) fun p H1 _ _ _ hp => ⟨p, rfl, hp⟩
  rintro y x H1 hy e1 rfl
  exact ⟨_, evg_name, rfl, et_test ((ev_eqS (fld_Delivery_contract T (ev_var rfl) ((hG.del y hy).ins.up e1)) (ev_var (v := nV n) rfl) rfl).to (congrArg V.bl dec_nat)), fun _ => ev_var rfl⟩
def p_delivered (K : PySem.W.Frag) (A : Adr) : PreT := fun vs H R => ∃ (g : Tg) (b : Addr) (G : BooksG) (n : Nat) (hn : n < G.cs.length), vs = [.ref b, nV n] ∧ BooksAt K A g H b G ∧ WBooks G ∧ R = isF K (TimberAuction.deliveredValue G.xs (G.ds.map (·.d)) n G.cs[n].c)
abbrev sp_Books_delivered (K : PySem.W.Frag) (A : Adr) : Sp := spP (p_delivered K A)
theorem top_le {G : BooksG} (hW : WBooks G) {y : DelG} (hy : y ∈ G.ds) {c : Contract} (hc : WCon c) : topOf G.xs c y.d ≤ 10000000000000000 := by
  unfold topOf
  have h1 := (hW.del y hy).vol
  have h2 : c.prices.getD y.d.grade 0 ≤ 1000000 := by
    rw [List.getD_eq_getElem?_getD]
    cases e : c.prices[y.d.grade]? with
    | none => simp
    | some z => exact hc.prices z (List.mem_of_getElem? e)
  have h3 := (index_bounds hW.idx.val y.d.day).2
  exact Nat.le_trans (Nat.mul_le_mul (Nat.mul_le_mul h1 h2) h3) (by decide)
theorem map_filter_d {G : BooksG} {n : Nat} : (G.ds.map (·.d)).filter (fun d => d.contract == n) = (G.ds.filter fun y => y.d.contract == n).map (·.d) := by
  rw [List.filter_map]
  rfl
theorem sc_Books_delivered : FnScope ["self", "number", "contract", "found", "bottom", "delivery", "top"] ["self", "number"] (defScope (inClass (top 13) 3)) := ⟨rfl, rfl, rfl, by decide +kernel, rfl, by decide +kernel, by decide +kernel⟩
theorem ok_Books_delivered (T : Top K mg A) : MOk P w K mg base 4 A.Books "delivered" ["self", "number"] (sp_Books_delivered K A) := by
  refine mokP T.mBooks_delivered sc_Books_delivered (fun vs H R ⟨_, _, _, _, _, e, _⟩ => by rw [e]; rfl) (fun _ _ _ _ _ _ us hl => match us, hl with | [_, _], _ => rfl) fun f cdv A' outer s' H E hr => ⟨_, (pss_cons (ps_par (i := 2) (j := 3) (by rfl) sc_Books_delivered.nd rfl rfl (by decide) rfl rfl (pa_cons (pe_ix ix_list (pe_fld (pv 0) rfl) (pv 1) (fun _ _ => rfl)) (pa_cons (pe_t rfl T.t_NOUGHT) pa_nil)) (by rfl))
      (pss_cons (ps_set (i := 4) sc_Books_delivered.nd rfl (by first | exact Or.inl rfl | exact Or.inr rfl) (pe_op op_mulW pe_int (pe_m (ok_Books_index_of T) (pv 0) T.cBooks.cl (hr.mono (by decide)) (pa_cons (pe_fld (pv 2) rfl) pa_nil))))
      (pss_cons (ps_for PassesOwn.never rfl (pi_list (pe_m (ok_Books_deliveries_of T) (pv 0) T.cBooks.cl (hr.mono (by decide)) (pa_cons (pv 1) pa_nil))) (pg_name (i := 5) sc_Books_delivered.nd rfl (by first | exact Or.inl rfl | exact Or.inr rfl)) (pss_cons (ps_set (i := 6) sc_Books_delivered.nd rfl (by first | exact Or.inl rfl | exact Or.inr rfl) (pe_op op_mulW (pe_op op_mulW (pe_fld (pv 5) rfl) (pe_ix ix_list (pe_fld (pv 2) rfl) (pe_fld (pv 5) rfl) (fun _ _ => rfl))) (pe_m (ok_Books_index_of T) (pv 0) T.cBooks.cl (hr.mono (by decide)) (pa_cons (pe_fld (pv 5) rfl) pa_nil))))
      (pss_one (ps_set (i := 3) sc_Books_delivered.nd rfl (by first | exact Or.inl rfl | exact Or.inr rfl) (pe_f (ok_plus T) (hr.mono (by decide)) rfl (pa_cons (pv 3) (pa_cons (pe_f (ok_times T) (hr.mono (by decide)) rfl (pa_cons (pe_fld (pv 2) rfl) (pa_cons (pv 6) (pa_cons (pv 4) pa_nil)))) pa_nil)))))))
      (pss_one (ps_ret (pv 3)))))), ?_⟩
  rintro vs H0 R e ⟨g, b, G, n, hn, rfl, hG, hW, rfl⟩
  have hC := hG.con _ (List.getElem_mem hn)
  have hc := hW.con _ (List.getElem_mem hn)
  generalize hy : G.cs[n] = y at hC hc
  obtain ⟨fa, fb, ef, efn, efd, hb0, ha9, hb9⟩ := hc.fac
  have hi := index_bounds hW.idx.val y.c.day
  generalize hix : TimberAuction.indexOn G.xs y.c.day = ix at hi
  have hbot : 0 < 1000 * ix := by omega
  refine sq_parP (R := isV (.ref y.p)) (R' := fun x z H1 => isV (.ref y.p) x H1 ∧ isF K 0 z H1) (Ev.pp (v := .ref y.p) (by have := ev_con T hG (σ := [some (.ref b), some (nV n), none, none, none, none, none]) (ta := tVar 0) (tb := tVar 1) (ev_var rfl) (ev_var rfl) hn; rw [hy] at this; exact this) fun H1 _ => rfl)
    (fun x H1 e1 hx => evp_tTop.imp fun z H2 e2 ⟨a, ea, ha⟩ => ⟨hx, a, ea, ha⟩) fun x z H1 e1 ⟨hx, hz⟩ => ?_
  have hx : x = V.ref y.p := hx
  subst hx
  obtain ⟨z0, rfl, hz0⟩ := hz
  have hday := fld_Contract_day T (σ := [some (.ref b), some (nV n), some (.ref y.p), some (.ref z0), none, none, none]) (te := tVar 2) (ev_var rfl) (hC.ins.up e1)
  refine sq_asg (v := nV (1000 * ix)) ((ev_I (i := 1000) (j := (ix : Int)) ev_c (ev_meth (ev_var rfl) (hG.ins.up e1) no_Books_index_of (ea_cons hday ea_nil) (spV_go ⟨g, b, G, y.c.day, rfl, hG.up e1, hW.idx, by rw [hix]; rfl⟩)) (mul_small (a := 1000) (by decide) (by omega))).to ?_) ?_
  · show V.int (1000 * (ix : Int)) = V.int ((1000 * ix : Nat) : Int)
    congr 1
  have hds : (G.ds.filter fun y => y.d.contract == n).length ≤ 64 := Nat.le_trans (List.length_filter_le _ _) hW.nds
  have htop : ∀ i, ∀ t ∈ ((G.ds.filter fun y => y.d.contract == n).take i).map (fun z => topOf G.xs y.c z.d), t ≤ 10000000000000000 := fun i t ht => by
    obtain ⟨z, hz, rfl⟩ := List.mem_map.mp ht
    exact top_le hW (List.mem_filter.mp (List.mem_of_mem_take hz)).1 hc
  have hbd : ∀ i, Bd 200 (dsum fa fb (1000 * ix) (((G.ds.filter fun y => y.d.contract == n).take i).map fun z => topOf G.xs y.c z.d)) := fun i =>
    dsum_bd ha9 hb0 hb9 hbot (by omega) (by rw [List.length_map, List.length_take]; omega) (htop i)
  refine bindFor (evp_meth (ev_var rfl) (hG.ins.up e1) no_Books_deliveries_of (ea_cons (ev_var rfl) ea_nil) (spL_go ⟨g, b, G, n, rfl, hG.up e1, by have := hW.nds; omega, rfl⟩)) fun x H2 e2 ⟨q, ex, hq⟩ => ?_
  subst ex
  have e12 := e1.trans e2
  refine sq_for (evi_list (K := K) (G.ds.filter fun y => y.d.contract == n) (fun y => V.ref y.p) ev_c (sq_of hq))
    (fun i σ' Hk => ∃ (z : Addr) (o t : Option V), σ' = [some (.ref b), some (nV n), some (.ref y.p), some (.ref z), some (nV (1000 * ix)), o, t] ∧ Ex H2 Hk ∧ isF K (dsum fa fb (1000 * ix) (((G.ds.filter fun y => y.d.contract == n).take i).map fun z => topOf G.xs y.c z.d)) (.ref z) Hk)
    ⟨z0, none, none, rfl, Ex.refl _, by rw [List.take_zero, List.map_nil, dsum_nil]; exact ⟨z0, rfl, ex_t e2 hz0⟩⟩ up_l (fun i σ' Hk _ ⟨_, _, _, _, e3, _⟩ => sq_of (e3 _ _ hq)) ?_ ?_
  · rintro i d x σ' Hk H3 hd ⟨z, o, t, rfl, e3, hz⟩ e4 rfl
    have e13 := (e12.trans e3).trans e4
    have hdm := List.mem_filter.mp (List.mem_of_getElem? hd)
    have hD := (hG.del d hdm.1).up e13
    have hWd := hW.del d hdm.1
    have hg : d.d.grade < y.c.prices.length := by rw [hc.plen]; exact hWd.grade
    have hpr : y.c.prices.getD d.d.grade 0 ≤ 1000000 := by
      rw [List.getD_eq_getElem?_getD, List.getElem?_eq_getElem hg]
      exact hc.prices _ (List.getElem_mem hg)
    have hdi := index_bounds hW.idx.val d.d.day
    have hC3 := hC.up e13
    have hv1 := fld_Delivery_volume T (σ := [some (.ref b), some (nV n), some (.ref y.p), some (.ref z), some (nV (1000 * ix)), some (.ref d.p), t]) (te := tVar 5) (ev_var rfl) hD.ins
    have hv2 := fld_Delivery_grade T (σ := [some (.ref b), some (nV n), some (.ref y.p), some (.ref z), some (nV (1000 * ix)), some (.ref d.p), t]) (te := tVar 5) (ev_var rfl) hD.ins
    have hv3 := fld_Delivery_day T (σ := [some (.ref b), some (nV n), some (.ref y.p), some (.ref z), some (nV (1000 * ix)), some (.ref d.p), t]) (te := tVar 5) (ev_var rfl) hD.ins
    have hv4 := ev_ixL (K := K) (n := d.d.grade) (v := nV (y.c.prices.getD d.d.grade 0)) (fld_Contract_prices T (σ := [some (.ref b), some (nV n), some (.ref y.p), some (.ref z), some (nV (1000 * ix)), some (.ref d.p), t]) (te := tVar 2) (ev_var rfl) hC3.ins) hv2 hC3.prices (by
        rw [List.getElem?_map, List.getD_eq_getElem?_getD, List.getElem?_eq_getElem hg]
        rfl)
    have hm1 : CMulW ((d.d.volume : Nat) : Int) ((y.c.prices.getD d.d.grade 0 : Nat) : Int) := mul_small (Nat.le_trans hWd.vol (by decide)) (Nat.le_trans hpr (by decide))
    have hm2 : CMulW ((d.d.volume * y.c.prices.getD d.d.grade 0 : Nat) : Int) ((TimberAuction.indexOn G.xs d.d.day : Nat) : Int) := mul_small (Nat.le_trans (Nat.mul_le_mul hWd.vol hpr) (by decide)) (Nat.le_trans hdi.2 (by decide))
    have hv5 := (ev_I (g := fun i j => V.int (i * j)) hv1 hv4 hm1).to (show _ = V.int ((d.d.volume * y.c.prices.getD d.d.grade 0 : Nat) : Int) from rfl)
    have hv6 : Ev (tMeth A.Books "index_of" (sp_Books_index_of K A) [] E0 (tVar 0) (tCons (tFld K (tVar 5) "day") tNil)) [some (.ref b), some (nV n), some (.ref y.p), some (.ref z), some (nV (1000 * ix)), some (.ref d.p), t] H3 (nV (TimberAuction.indexOn G.xs d.d.day)) :=
      ev_meth (ev_var rfl) (hG.ins.up e13) no_Books_index_of (ea_cons hv3 ea_nil) (spV_go ⟨g, b, G, d.d.day, rfl, hG.up e13, hW.idx, rfl⟩)
    have hv7 := (ev_I (g := fun i j => V.int (i * j)) hv5 hv6 hm2).to (show _ = nV (topOf G.xs y.c d.d) from rfl)
    refine ⟨_, evg_name, sq_asg (v := nV (topOf G.xs y.c d.d)) hv7 ?_⟩
    · obtain ⟨z2, ez, hz2⟩ := hz
      cases ez
      have hmul : Bd 200 (y.c.factor * (((topOf G.xs y.c d.d : Nat) : Rat) / ((1000 * ix : Nat) : Rat))) := bd_times (k := 60) (hc.fac) (Nat.lt_of_le_of_lt (top_le hW hdm.1 hc) (by decide)) hbot (Nat.lt_of_le_of_lt (show 1000 * ix ≤ 10000000 by omega) (by decide)) (by decide)
      have htl : topOf G.xs y.c d.d < 2 ^ 900 := pow_60 (Nat.lt_of_le_of_lt (top_le hW hdm.1 hc) (by decide))
      have hbl : 1000 * ix < 2 ^ 900 := pow_60 (Nat.lt_of_le_of_lt (show 1000 * ix ≤ 10000000 by omega) (by decide))
      generalize htt : topOf G.xs y.c d.d = tt at hmul htl
      generalize hbb : 1000 * ix = bb at hmul hbl hbot hbd hz2
      have hts : ∀ H5, Ex H3 H5 → SpP (spP (p_times K)) ([.ref y.fa, nV tt, nV bb] ++ []) H5 (isF K (y.c.factor * ((tt : Rat) / (bb : Rat)))) := fun H5 e5 =>
        spF_go (Pre := p_times K) ⟨y.fa, y.c.factor, tt, bb, rfl, ex_t e5 hC3.factor, hc.fac.mono (by decide), htl, hbot, hbl, rfl⟩
      refine Sj.last (sq_asgP (R := isF K (dsum fa fb bb (((G.ds.filter fun y => y.d.contract == n).take (i + 1)).map fun z => topOf G.xs y.c z.d))) ?_ fun v H5 e5 hv => sj_next ?_)
      · refine evp_callP (R := fun vs H5 => ∃ m, vs = [.ref z, .ref m] ∧ SqT K H5 m [.int (y.c.factor * ((tt : Rat) / (bb : Rat))).num, .int (((y.c.factor * ((tt : Rat) / (bb : Rat))).den : Nat) : Int)]) ?_ ?_
        · intro H5 e5 Q qq
          refine (ev_var (v := .ref z) (i := 3) rfl) H5 e5 _ fun H6 e6 => ?_
          refine (evp_call (vs := [.ref y.fa, nV tt, nV bb]) (ea_cons (fld_Contract_factor T (ev_var rfl) hC3.ins) (ea_cons (ev_var rfl) (ea_cons (ev_var rfl) ea_nil))) (hts H3 (Ex.refl _))) H6 (e5.trans e6) _ fun v H7 e7 hv => ?_
          obtain ⟨m, ev, hm⟩ := hv
          exact qq _ H7 (e6.trans e7) ⟨m, by rw [ev], hm⟩
        · rintro vs H5 e5 ⟨m2, rfl, hm2⟩
          have hx9 : Bd 900 (dsum fa fb bb (((G.ds.filter fun y => y.d.contract == n).take i).map fun z => topOf G.xs y.c z.d)) := (hbd i).mono (by decide)
          have hy9 : Bd 900 (y.c.factor * ((tt : Rat) / (bb : Rat))) := hmul.mono (by decide)
          have hsum : dsum fa fb bb (((G.ds.filter fun y => y.d.contract == n).take (i + 1)).map fun z => topOf G.xs y.c z.d) = dsum fa fb bb (((G.ds.filter fun y => y.d.contract == n).take i).map fun z => topOf G.xs y.c z.d) + y.c.factor * ((tt : Rat) / (bb : Rat)) := by
            rw [take_succ hd, List.map_append, List.map_singleton, dsum_snoc hb0 hbot, ef, htt]
          have hz5 := ex_t (e4.trans e5) hz2
          rw [hsum]
          generalize dsum fa fb bb (((G.ds.filter fun y => y.d.contract == n).take i).map fun z => topOf G.xs y.c z.d) = s1 at hx9 hz5
          generalize y.c.factor * ((tt : Rat) / (bb : Rat)) = s2 at hy9 hm2
          have hpre : p_plus K [.ref z, .ref m2] H5 (isF K (s1 + s2)) := ⟨z, m2, s1, s2, rfl, hz5, hm2, hx9, hy9, rfl⟩
          exact spF_go hpre
      · obtain ⟨z3, rfl, hz3⟩ := hv
        exact ⟨z3, _, _, rfl, (e3.trans e4).trans e5, z3, rfl, hz3⟩
  · rintro σ' Hk ⟨z, o, t, rfl, e3, hz⟩
    refine sj_ret (ev_var rfl) ?_
    rw [List.take_length] at hz
    rw [delivered_eq (c := y.c) ef hb0 (by rw [hix]; omega), hix, map_filter_d, List.map_map]
    exact hz
end
end TB
/-! # Contracts: what is due, parts, bills -/
namespace TB
open PySem PySem.Spec PyProof.Rows L2 Evl
open TimberAuction (Lot Bid Sale Contract Delivery Bill)
open TBM

section
variable {P : Program} {w : World} {K : PySem.W.Frag} {mg : Str → Option Value} {base : Heap} {A : Adr}
def dueOf (G : BooksG) (n : Nat) (c : Contract) : Nat := TimberAuction.amountDue G.xs (G.ds.map (·.d)) n c
def p_due (K : PySem.W.Frag) (A : Adr) : PreT := fun vs H R => ∃ (g : Tg) (b : Addr) (G : BooksG) (n : Nat) (hn : n < G.cs.length), vs = [.ref b, nV n] ∧ BooksAt K A g H b G ∧ WBooks G ∧ R = isV (nV (dueOf G n G.cs[n].c))
abbrev sp_Books_due (K : PySem.W.Frag) (A : Adr) : Sp := spP (p_due K A)
theorem delivered_bd {G : BooksG} (hW : WBooks G) {n : Nat} {c : Contract} (hc : WCon c) : Bd 200 (TimberAuction.deliveredValue G.xs (G.ds.map (·.d)) n c) := by
  obtain ⟨fa, fb, ef, efn, efd, hb0, ha9, hb9⟩ := hc.fac
  have hi := index_bounds hW.idx.val c.day
  rw [delivered_eq (c := c) ef hb0 hi.1, map_filter_d, List.map_map]
  refine dsum_bd ha9 hb0 hb9 (by omega) (by omega) ?_ fun t ht => ?_
  · rw [List.length_map]
    exact Nat.le_trans (List.length_filter_le _ _) hW.nds
  · obtain ⟨z, hz, rfl⟩ := List.mem_map.mp ht
    exact top_le hW (List.mem_filter.mp hz).1 hc
theorem estimate_bd {c : Contract} (hc : WCon c) : Bd 120 (TimberAuction.estimate c) := by
  rw [estimate_eq]
  exact bd_times hc.fac (value_lt hc) (by decide) (by decide) (by decide)
theorem advance_eq (c : Contract) : TimberAuction.estimate c * ((c.advance : Nat) : Rat) / 1000 = TimberAuction.estimate c * (((c.advance : Nat) : Rat) / ((1000 : Nat) : Rat)) := by
  have h2 : ((1000 : Nat) : Rat) = 1000 := rfl
  rw [h2]
  grind
theorem advance_bd {c : Contract} (hc : WCon c) : Bd 200 (TimberAuction.estimate c * (((c.advance : Nat) : Rat) / ((1000 : Nat) : Rat))) :=
  bd_times (k := 60) (estimate_bd hc) (Nat.lt_of_le_of_lt hc.adv (by decide)) (by decide) (by decide) (by decide)
theorem due_cast {q : Rat} (h : Bd 200 q) : (((Amounts.roundNearest q).toNat : Nat) : Int) = Amounts.roundNearest q := Int.toNat_of_nonneg (round_nonneg h.nonneg)
theorem due_le {G : BooksG} (hW : WBooks G) {n : Nat} {c : Contract} (hc : WCon c) : dueOf G n c ≤ 2 ^ 200 := by
  have key : ∀ q, Bd 200 q → (Amounts.roundNearest q).toNat ≤ 2 ^ 200 := fun q h => by
    have h1 := round_le h
    generalize 2 ^ 200 = N at h1 ⊢
    omega
  unfold dueOf TimberAuction.amountDue
  split
  · exact key _ (delivered_bd hW hc)
  · rw [advance_eq]
    exact key _ (max_bd (delivered_bd hW hc) (advance_bd hc))
theorem sc_Books_due : FnScope ["self", "number", "contract", "found"] ["self", "number"] (defScope (inClass (top 13) 4)) := ⟨rfl, rfl, rfl, by decide +kernel, rfl, by decide +kernel, by decide +kernel⟩
theorem ok_Books_due (T : Top K mg A) : MOk P w K mg base 5 A.Books "due" ["self", "number"] (sp_Books_due K A) := by
  refine mokP T.mBooks_due sc_Books_due (fun vs H R ⟨_, _, _, _, _, e, _⟩ => by rw [e]; rfl) (fun _ _ _ _ _ _ us hl => match us, hl with | [_, _], _ => rfl) fun f cdv A' outer s' H E hr => ⟨_, (pss_cons (ps_par (i := 2) (j := 3) (by rfl) sc_Books_due.nd rfl rfl (by decide) rfl rfl (pa_cons (pe_ix ix_list (pe_fld (pv 0) rfl) (pv 1) (fun _ _ => rfl)) (pa_cons (pe_m (ok_Books_delivered T) (pv 0) T.cBooks.cl (hr.mono (by decide)) (pa_cons (pv 1) pa_nil)) pa_nil)) (by rfl))
      (pss_cons (ps_if (pt_val (pe_fld (pv 2) rfl)) (pss_one (ps_ret (pe_f (ok_rounded T) (hr.mono (by decide)) rfl (pa_cons (pv 3) pa_nil)))) pss_nil)
      (pss_one (ps_ret (pe_f (ok_rounded T) (hr.mono (by decide)) rfl (pa_cons (pe_f (ok_greater_of T) (hr.mono (by decide)) rfl (pa_cons (pv 3) (pa_cons (pe_f (ok_times T) (hr.mono (by decide)) rfl (pa_cons (pe_m0 (ok_Contract_estimate T) (pv 2) T.cContract.cl (hr.mono (by decide))) (pa_cons (pe_fld (pv 2) rfl) (pa_cons pe_int pa_nil)))) pa_nil))) pa_nil)))))), ?_⟩
  rintro vs H0 R e ⟨g, b, G, n, hn, rfl, hG, hW, rfl⟩
  have hC := hG.con _ (List.getElem_mem hn)
  have hc := hW.con _ (List.getElem_mem hn)
  have hcon := ev_con T hG (σ := [some (.ref b), some (nV n), none, none]) (ta := tVar 0) (tb := tVar 1) (ev_var rfl) (ev_var rfl) hn
  have hdel : ∀ H1, Ex H0 H1 → SpP (sp_Books_delivered K A) ([.ref b, nV n] ++ []) H1 (isF K (TimberAuction.deliveredValue G.xs (G.ds.map (·.d)) n G.cs[n].c)) := fun H1 e1 => spF_go ⟨g, b, G, n, hn, rfl, hG.up e1, hW, rfl⟩
  have hdb := delivered_bd hW (n := n) hc
  have hdue : dueOf G n G.cs[n].c = (Amounts.roundNearest (if G.cs[n].c.closed = true then TimberAuction.deliveredValue G.xs (G.ds.map (·.d)) n G.cs[n].c else Amounts.maxRat (TimberAuction.deliveredValue G.xs (G.ds.map (·.d)) n G.cs[n].c) (TimberAuction.estimate G.cs[n].c * (((G.cs[n].c.advance : Nat) : Rat) / ((1000 : Nat) : Rat))))).toNat := by
    unfold dueOf TimberAuction.amountDue
    rw [advance_eq]
  have heb := estimate_bd hc
  have hab := advance_bd hc
  have hest : ∀ H1, Ex H0 H1 → SpP (sp_Contract_estimate K A) ([.ref G.cs[n].p] ++ []) H1 (isF K (TimberAuction.estimate G.cs[n].c)) := fun H1 e1 => spF_go ⟨g, G.cs[n], rfl, hC.up e1, hc, rfl⟩
  rw [hdue]
  generalize hy : G.cs[n] = y at *
  generalize TimberAuction.deliveredValue G.xs (G.ds.map (·.d)) n y.c = dv at *
  generalize TimberAuction.estimate y.c = es at *
  have h900 : Bd 900 dv := hdb.mono (by decide)
  have he900 : Bd 900 es := heb.mono (by decide)
  refine sq_parP (R := isV (.ref y.p)) (R' := fun x z H1 => isV (.ref y.p) x H1 ∧ isF K dv z H1) (Ev.pp (v := .ref y.p) hcon fun H1 _ => rfl) (fun x H1 e1 hx => (evp_meth (ev_var rfl) (hG.ins.up e1) no_Books_delivered (ea_cons (ev_var rfl) ea_nil) (hdel H1 e1)).imp fun z H2 _ hz => ⟨hx, hz⟩) fun x z H1 e1 ⟨hx, hz⟩ => ?_
  have hx : x = V.ref y.p := hx
  subst hx
  obtain ⟨z0, rfl, hz0⟩ := hz
  have hrnd : ∀ (q : Rat) (p : Addr) H2, Bd 200 q → SqT K H2 p [.int q.num, .int ((q.den : Nat) : Int)] → SpP (spP (p_rounded K)) ([.ref p] ++ []) H2 (isV (nV (Amounts.roundNearest q).toNat)) := fun q p H2 hq hp => spV_go ⟨p, q, rfl, hp, hq.mono (by decide), by rw [nV, due_cast hq]⟩
  have hC1 := hC.up e1
  refine sq_ifRet (et_B (fld_Contract_is_closed T (ev_var rfl) hC1.ins)) (fun hcl => ?_) (fun hcl => ?_)
  · rw [if_pos hcl]
    exact sj_ret (ev_f (ea_cons (ev_var rfl) ea_nil) (hrnd dv z0 H1 hdb hz0)) rfl
  · rw [if_neg (by rw [hcl]; decide)]
    have htim : ∀ (p : Addr) H2, SqT K H2 p [.int es.num, .int ((es.den : Nat) : Int)] → SpP (spP (p_times K)) ([.ref p, nV y.c.advance, nV 1000] ++ []) H2 (isF K (es * (((y.c.advance : Nat) : Rat) / ((1000 : Nat) : Rat)))) := fun p H2 hp =>
      spF_go (Pre := p_times K) ⟨p, es, y.c.advance, 1000, rfl, hp, he900, pow_60 (Nat.lt_of_le_of_lt hc.adv (by decide)), by decide, pow_60 (by decide), rfl⟩
    have hab9 : Bd 900 (es * (((y.c.advance : Nat) : Rat) / ((1000 : Nat) : Rat))) := hab.mono (by decide)
    generalize es * (((y.c.advance : Nat) : Rat) / ((1000 : Nat) : Rat)) = av at *
    have hmx : Bd 200 (Amounts.maxRat dv av) := max_bd hdb hab
    have hgr : ∀ (p q : Addr) H2, SqT K H2 p [.int dv.num, .int ((dv.den : Nat) : Int)] → SqT K H2 q [.int av.num, .int ((av.den : Nat) : Int)] → SpP (spP (p_greater_of K)) ([.ref p, .ref q] ++ []) H2 (isF K (Amounts.maxRat dv av)) := fun p q H2 hp hq =>
      spF_go (Pre := p_greater_of K) ⟨p, q, dv, av, rfl, hp, hq, h900, hab9, rfl⟩
    refine sj_ret (v := nV (Amounts.roundNearest (Amounts.maxRat dv av)).toNat) (EvP.val (R := isV _) (evp_callP (R := fun vs H5 => ∃ m, vs = [.ref m] ∧ SqT K H5 m [.int (Amounts.maxRat dv av).num, .int (((Amounts.maxRat dv av).den : Nat) : Int)]) ?_ ?_) fun _ _ h => h) rfl
    · intro H5 e5 Q qq
      refine (evp_callP (S := isF K (Amounts.maxRat dv av)) (R := fun vs H5 => ∃ m, vs = [.ref z0, .ref m] ∧ SqT K H5 m [.int av.num, .int ((av.den : Nat) : Int)]) ?_ ?_) H5 e5 _ fun v H6 e6 ⟨m, ev, hm⟩ => qq _ H6 e6 ⟨m, by rw [ev], hm⟩
      · intro H6 e6 Q2 qq2
        refine (ev_var (v := .ref z0) (i := 3) rfl) H6 e6 _ fun H7 e7 => ?_
        refine (evp_callP (S := isF K av) (R := fun vs H5 => ∃ m, vs = [.ref m, nV y.c.advance, nV 1000] ∧ SqT K H5 m [.int es.num, .int ((es.den : Nat) : Int)]) ?_ ?_) H7 (e6.trans e7) _ fun v H8 e8 ⟨m, ev, hm⟩ => qq2 _ H8 (e7.trans e8) ⟨m, by rw [ev], hm⟩
        · intro H8 e8 Q3 qq3
          refine (evp_meth (m := "estimate") (ev_var (v := .ref y.p) (i := 2) rfl) hC1.ins no_Contract_estimate ea_nil (hest H1 e1)) H8 e8 _ fun v H9 e9 ⟨m, ev, hm⟩ => ?_
          refine (fld_Contract_advance T (ev_var rfl) hC1.ins) H9 (e8.trans e9) _ fun H10 e10 => ?_
          exact qq3 _ H10 (e9.trans e10) ⟨m, by rw [ev]; rfl, ex_t e10 hm⟩
        · rintro vs H8 e8 ⟨m, rfl, hm⟩
          exact htim m H8 hm
      · rintro vs H8 e8 ⟨m, rfl, hm⟩
        exact hgr z0 m H8 (ex_t e8 hz0) hm
    · rintro vs H8 e8 ⟨m, rfl, hm⟩
      exact hrnd _ m H8 hmx hm
end
end TB
/-! # Contracts: the parts of the bidders -/
namespace TB
open PySem PySem.Spec PyProof.Rows L2 Evl
open TimberAuction (Lot Bid Sale Contract Delivery Bill)
open TBM

def wsOf (c : Contract) : List Nat := c.bidders.map (·.2)
/-- the pair of whole numbers that a value stands for -/
def kOf (H : Hp) : V → Int × Int
  | .ref t => match H t with
    | some (.tup [.int i, .int j]) => (i, j)
    | _ => (0, 0)
  | _ => (0, 0)
theorem kOf_at {H : Hp} {t : Addr} {i j : Int} (h : H t = some (.tup [.int i, .int j])) : kOf H (.ref t) = (i, j) := by
  simp only [kOf, h]
section
variable {P : Program} {w : World} {K : PySem.W.Frag} {mg : Str → Option Value} {base : Heap} {A : Adr}
def p_parts (K : PySem.W.Frag) (A : Adr) : PreT := fun vs H R => ∃ (g : Tg) (b : Addr) (G : BooksG) (n : Nat) (hn : n < G.cs.length), vs = [.ref b, nV n] ∧ BooksAt K A g H b G ∧ WBooks G ∧ R = isL ((Amounts.distribute (dueOf G n G.cs[n].c) (wsOf G.cs[n].c)).map nV)
abbrev sp_Books_parts (K : PySem.W.Frag) (A : Adr) : Sp := spP (p_parts K A)
theorem sum_nV (ws : List Nat) : ws.map nV = (ws.map fun n : Nat => (n : Int)).map V.int := by
  rw [List.map_map]
  rfl
theorem fmod_nat (a b : Nat) : ((a : Int)).fmod (b : Int) = ((a % b : Nat) : Int) := by
  rw [Int.fmod_eq_emod_of_nonneg _ (by omega)]
  rfl
theorem sc_Books_parts : FnScope ["self", "number", "due", "weights", "whole", "found", "rests", "rest", "at", "bidder", "weight"] ["self", "number"] (defScope (inClass (top 13) 5)) := ⟨rfl, rfl, rfl, by decide +kernel, rfl, by decide +kernel, by decide +kernel⟩
theorem ok_Books_parts (T : Top K mg A) : MOk P w K mg base 6 A.Books "parts" ["self", "number"] (sp_Books_parts K A) := by
  refine mokP T.mBooks_parts sc_Books_parts (fun vs H R ⟨_, _, _, _, _, e, _⟩ => by rw [e]; rfl) (fun _ _ _ _ _ _ us hl => match us, hl with | [_, _], _ => rfl) fun f cdv A' outer s' H E hr => ⟨_, (pss_cons (ps_set (i := 2) sc_Books_parts.nd rfl (by first | exact Or.inl rfl | exact Or.inr rfl) (pe_m (ok_Books_due T) (pv 0) T.cBooks.cl (hr.mono (by decide)) (pa_cons (pv 1) pa_nil)))
      (pss_cons (ps_setLc (i := 3) (own := [("bidder", 9), ("weight", 10)]) (g := (gTup K 2 (gCons (gName 9) (gCons (gName 10) gNil)))) (tt := tYes) (te := (tVar 10)) (by rfl) sc_Books_parts.nd rfl rfl (sw_true rfl rfl rfl (by decide +kernel)) (pi_list (pe_fld (pe_ix ix_list (pe_fld (pv 0) rfl) (pv 1) (fun _ _ => rfl)) rfl)) (blkOk_by (own := [("bidder", 9), ("weight", 10)]) (N := ["self", "number", "due", "weights", "whole", "found", "rests", "rest", "at", "bidder", "weight"]) (sc := defScope (inClass (top 13) 5)) (by decide +kernel)) (fun _ _ _ _ _ => (pg_tup rfl (pgs_cons (pg_name (i := 9) sc_Books_parts.nd rfl (by first | exact Or.inl rfl | exact Or.inr rfl)) (pgs_cons (pg_name (i := 10) sc_Books_parts.nd rfl (by first | exact Or.inl rfl | exact Or.inr rfl)) pgs_nil)))) (fun _ _ _ _ _ => pts_nil) (fun _ _ _ _ _ => (pv 10)))
      (pss_cons (ps_set (i := 4) sc_Books_parts.nd rfl (by first | exact Or.inl rfl | exact Or.inr rfl) (pe_callB (cr_sum rfl) (by rfl) T.b_sum (by decide +kernel) (pa_cons (pv 3) pa_nil)))
      (pss_cons (ps_setLc (i := 5) (own := [("weight", 10)]) (g := (gName 10)) (tt := tYes) (te := (tOp (rI CDivW fun i j => .int (i / j)) (tOp (rI CMulW fun i j => .int (i * j)) (tVar 2) (tVar 10)) (tVar 4))) (by rfl) sc_Books_parts.nd rfl rfl (sw_true rfl rfl rfl (by decide +kernel)) (pi_list (pv 3)) (blkOk_by (own := [("weight", 10)]) (N := ["self", "number", "due", "weights", "whole", "found", "rests", "rest", "at", "bidder", "weight"]) (sc := defScope (inClass (top 13) 5)) (by decide +kernel)) (fun _ _ _ _ _ => (pg_name (i := 10) sc_Books_parts.nd rfl (by first | exact Or.inl rfl | exact Or.inr rfl))) (fun _ _ _ _ _ => pts_nil) (fun _ _ _ _ _ => (pe_op op_fdivW (pe_op op_mulW (pv 2) (pv 10)) (pv 4))))
      (pss_cons (ps_setLc (i := 6) (own := [("at", 8), ("weight", 10)]) (g := (gTup K 2 (gCons (gName 8) (gCons (gName 10) gNil)))) (tt := tYes) (te := (tTup (tCons (tUn (rU fun i => .int (-i)) (tOp (rI (fun _ j => j ≠ 0) fun i j => .int (i.fmod j)) (tOp (rI CMulW fun i j => .int (i * j)) (tVar 2) (tVar 10)) (tVar 4))) (tCons (tVar 8) tNil)))) (by rfl) sc_Books_parts.nd rfl rfl (sw_true rfl rfl rfl (by decide +kernel)) (pi_enum (by rfl) T.b_enumerate (pa_cons (pv 3) pa_nil)) (blkOk_by (own := [("at", 8), ("weight", 10)]) (N := ["self", "number", "due", "weights", "whole", "found", "rests", "rest", "at", "bidder", "weight"]) (sc := defScope (inClass (top 13) 5)) (by decide +kernel)) (fun _ _ _ _ _ => (pg_tup rfl (pgs_cons (pg_name (i := 8) sc_Books_parts.nd rfl (by first | exact Or.inl rfl | exact Or.inr rfl)) (pgs_cons (pg_name (i := 10) sc_Books_parts.nd rfl (by first | exact Or.inl rfl | exact Or.inr rfl)) pgs_nil)))) (fun _ _ _ _ _ => pts_nil) (fun _ _ _ _ _ => (pe_tup (pa_cons (pe_un un_neg (pe_op op_modN (pe_op op_mulW (pv 2) (pv 10)) (pv 4))) (pa_cons (pv 8) pa_nil)))))
      (pss_cons (ps_for PassesOwn.never rfl (pi_list (pe_slice sl_list (pe_callB cr_sortedPO (by rfl) T.b_sorted (by decide +kernel) (pa_cons (pv 6) pa_nil)) po_none (po_some (pe_op op_sub (pv 2) (pe_callB (cr_sum rfl) (by rfl) T.b_sum (by decide +kernel) (pa_cons (pv 5) pa_nil)))))) (pg_tup rfl (pgs_cons (pg_name (i := 7) sc_Books_parts.nd rfl (by first | exact Or.inl rfl | exact Or.inr rfl)) (pgs_cons (pg_name (i := 8) sc_Books_parts.nd rfl (by first | exact Or.inl rfl | exact Or.inr rfl)) pgs_nil))) (pss_one (ps_augL ip_add (pv 5) (pv 8) pe_int)))
      (pss_one (ps_ret (pv 5))))))))), ?_⟩
  rintro vs H0 R e ⟨g, b, G, n, hn, rfl, hG, hW, rfl⟩
  have hC := hG.con _ (List.getElem_mem hn)
  have hc := hW.con _ (List.getElem_mem hn)
  have hD := due_le hW (n := n) hc
  generalize hDd : dueOf G n G.cs[n].c = D at hD
  refine sq_asg (v := nV D) (ev_meth (ev_var rfl) hG.ins no_Books_due (ea_cons (ev_var rfl) ea_nil) (spV_go ⟨g, b, G, n, hn, rfl, hG, hW, by rw [hDd]⟩)) ?_
  have hcon : ∀ σ : L2.St, σ[0]? = some (some (.ref b)) → σ[1]? = some (some (nV n)) → Ev (tOp (rIxL K) (tFld K (tVar 0) "contracts") (tVar 1)) σ H0 (.ref G.cs[n].p) := fun σ h1 h2 => ev_con T hG (ev_var h1) (ev_var h2) hn
  generalize hy : G.cs[n] = y at *
  have hzl : y.ts.length = y.c.bidders.length := by rw [← hC.bidders.eq, List.length_map]
  have hzl4 : y.ts.length ≤ 4 := by have := hc.blen.2; omega
  have hwe : y.ts.map (fun z => nV z.2.2) = (wsOf y.c).map nV := by
    unfold wsOf
    rw [← hC.bidders.eq, List.map_map, List.map_map]
    rfl
  refine sq_asgL (xs := (wsOf y.c).map nV) (EvL.to (evl_lc (fun _ => true) (fun z => nV z.2.2) (evi_list (K := K) y.ts (fun z => V.ref z.1) (fld_Contract_bidders T (hcon _ rfl rfl) hC.ins) (sq_of hC.bidders.lst)) up_l (sq_of hC.bidders.lst) (by omega) ?_) (by rw [filter_true, hwe])) fun pw H1 _ _ e1 hpw => ?_
  · rintro z x H1 hz e1 rfl
    exact ⟨_, evg_tup (ws := pV z.2) (gset_cons (gset_cons gset_nil)) (st_of (e1 _ _ (hC.bidders.tup z hz))) rfl rfl, rfl, et_yes, fun _ => ev_var rfl⟩
  have hws : ∀ x ∈ wsOf y.c, 1 ≤ x ∧ x ≤ 1000 := fun x hx => by
    obtain ⟨z, hz, rfl⟩ := List.mem_map.mp hx
    exact (hc.bid z hz).2
  have hwl : (wsOf y.c).length = y.c.bidders.length := by simp [wsOf]
  have hwl4 : 1 ≤ (wsOf y.c).length ∧ (wsOf y.c).length ≤ 4 := by have := hc.blen; omega
  generalize hwd : wsOf y.c = ws at *
  have hsum : 0 < ws.sum := by
    cases ws with
    | nil => simp at hwl4
    | cons a l => have := (hws a List.mem_cons_self).1; rw [List.sum_cons]; omega
  have hsum2 : ws.sum ≤ 4 * 1000 := by
    have h1 := sum_le (l := ws) (B := 1000) fun x hx => (hws x hx).2
    omega
  have hsumE : (ws.map fun n : Nat => (n : Int)).sum = ((ws.sum : Nat) : Int) := sum_int ws
  generalize hsd : ws.sum = S at *
  refine sq_asg (v := nV S) ((ev_sumA (ns := ws.map fun n : Nat => (n : Int)) (ev_var rfl) (by rw [hpw, sum_nV])).to (by rw [hsumE]; rfl)) ?_
  have hmul : ∀ x ∈ ws, CMulW ((D : Nat) : Int) ((x : Nat) : Int) := fun x hx => wide_mul (a := 201) (b := 20) (by
    rw [Int.natAbs_natCast]
    refine Nat.lt_of_le_of_lt hD ?_
    exact Nat.pow_lt_pow_right (by decide) (by decide)) (by
    rw [Int.natAbs_natCast]
    exact Nat.lt_of_le_of_lt (hws x hx).2 (by decide)) (by decide) (by decide) (by decide)
  have hdiv : ∀ i : Int, CDivW i ((S : Nat) : Int) := fun i => wide_div (b := 20) (by omega) (by rw [Int.natAbs_natCast]; exact Nat.lt_of_le_of_lt hsum2 (by decide)) (by decide) (by decide)
  have hfl : floorsOf D ws = ws.map fun w => D * w / S := by unfold floorsOf; rw [hsd]
  refine sq_asgL (xs := (floorsOf D ws).map nV) (EvL.to (evl_lc (fun _ => true) (fun w => nV (D * w / S)) (evi_list (K := K) ws nV (ev_var rfl) (sq_of hpw)) up_l (sq_of hpw) (by omega) ?_) (by rw [filter_true, hfl, List.map_map]; rfl)) fun pf H2 bpf npf e2 hpf => ?_
  · rintro z x H3 hz e3 rfl
    exact ⟨_, evg_name, rfl, et_yes, fun _ => (ev_I (ev_I (i := (D : Int)) (j := (z : Int)) (ev_var rfl) (ev_var rfl) (hmul z hz)) (ev_var (v := nV S) rfl) (hdiv _)).to rfl⟩
  have hpw2 := e2 _ _ hpw
  refine sq_asgLP (evlp_lcU (fun _ => true) (fun z : Nat × Nat => [V.int (-((D * z.1 % S : Nat) : Int)), V.int (z.2 : Int)]) (evi_enum (K := K) ws nV (ev_var rfl) (sq_of hpw2)) up_l (sq_of hpw2) (by rw [List.length_zipIdx]; omega) ?_) fun pr rs H3 _ npr e3 hpr hpair => ?_
  · rintro z x H3 hz e3 ⟨t, rfl, ht⟩
    have hz1 : z.1 ∈ ws := (List.mem_zipIdx_iff_getElem?.mp hz) |> List.mem_of_getElem?
    refine ⟨_, evg_tup (gset_cons (gset_cons gset_nil)) (st_of ht) rfl rfl, rfl, et_yes, fun _ => eu_tup (ea_cons ((ev_neg (i := ((D * z.1 % S : Nat) : Int)) ((ev_I (ev_I (i := (D : Int)) (j := (z.1 : Int)) (ev_var rfl) (ev_var rfl) (hmul z.1 hz1)) (ev_var (v := nV S) rfl) ?_).to ?_))) (ea_cons (ev_var (v := .int (z.2 : Int)) rfl) ea_nil)) (by show 2 ≤ 100000; decide)⟩
    · show ((S : Nat) : Int) ≠ 0
      omega
    · exact congrArg V.int (fmod_nat (D * z.1) S)
  rw [filter_true] at hpair
  have hk : ∀ {l : List (Nat × Nat)} {zs : List V}, Paired (fun (z : Nat × Nat) v => ∃ t, v = V.ref t ∧ H3 t = some (.tup [V.int (-((D * z.1 % S : Nat) : Int)), V.int (z.2 : Int)])) l zs →
      zs.map (kOf H3) = (l.map fun z => (-((D * z.1 % S : Nat) : Int), (z.2 : Int))) ∧ ∀ x ∈ zs, ∃ t, x = V.ref t ∧ H3 t = some (.tup [.int (kOf H3 x).1, .int (kOf H3 x).2]) := fun {l zs} h => by
    induction h with
    | nil => exact ⟨rfl, fun x hx => absurd hx (by simp)⟩
    | cons h _ ih =>
      obtain ⟨t, rfl, ht⟩ := h
      have hkt := kOf_at ht
      refine ⟨by rw [List.map_cons, List.map_cons, ih.1, hkt], fun x hx => ?_⟩
      rcases List.mem_cons.mp hx with hx | hx
      · subst hx
        exact ⟨t, rfl, by rw [hkt]; exact ht⟩
      · exact ih.2 x hx
  obtain ⟨hk1, hk2⟩ := hk hpair
  have hrests : rs.map (kOf H3) = restsOf D ws := by rw [hk1]; unfold restsOf; rw [hsd]
  have hpf3 := e3 _ _ hpf
  have hle : (floorsOf D ws).sum ≤ D := floors_le (by omega)
  refine bindFor (R := fun v H4 => ∃ (q : Addr) (ys : List V), v = .ref q ∧ q ≠ pf ∧ H4 q = some (.lst (ys.take (D - (floorsOf D ws).sum))) ∧ (ys.map (kOf H3)).Perm (restsOf D ws) ∧ (ys.map (kOf H3)).Pairwise (fun x y => ¬ before y x) ∧ ∀ x ∈ ys, ∃ t, x = V.ref t ∧ H3 t = some (.tup [.int (kOf H3 x).1, .int (kOf H3 x).2])) ?_ ?_
  · refine fun H4 e4 Q qq => (ev_var (v := .ref pr) (i := 6) rfl) H4 e4 _ fun H5 e5 => ?_
    have e45 := e4.trans e5
    refine ⟨pr, rs, kOf H3, rfl, sq_of (e45 _ _ hpr), fun x hx => ?_, fun ys p hsrt hstb hp => ?_⟩
    · obtain ⟨t, h1, h2⟩ := hk2 x hx
      exact ⟨t, h1, e45 _ _ h2⟩
    · have e5p : Ex H3 (upd H5 p (.lst ys)) := e45.trans (Ex.new hp)
      have hm : Ev (tOp (rI0 fun i j => .int (i - j)) (tVar 2) (tCB (rSum K) (tCons (tVar 5) tNil))) [some (.ref b), some (nV n), some (nV D), some (.ref pw), some (nV S), some (.ref pf), some (.ref pr), none, none, none, none] H3 (.int ((D - (floorsOf D ws).sum : Nat) : Int)) := by
        refine (ev_I0 (i := (D : Int)) (j := ((floorsOf D ws).map fun n : Nat => (n : Int)).sum) (ev_var rfl) (ev_sumA (ev_var rfl) (by rw [hpf3, sum_nV]))).to ?_
        rw [sum_int]
        exact congrArg V.int (by omega)
      refine (eo_none (H := H3)) _ e5p _ fun H6 e6 => (eo_some hm) H6 (e5p.trans e6) _ fun H7 e7 => ⟨p, ys, rfl, sq_of ((e6.trans e7) _ _ upd_same), fun p2 hp2 => qq _ _ ((e5.trans (Ex.new hp)).trans ((e6.trans e7).trans (Ex.new hp2))) ⟨p2, ys, rfl, (ne_of_none (((e5p.trans e6).trans e7) _ _ hpf3) hp2).symm, ?_, ?_, ?_, ?_⟩⟩
      · rw [upd_same]
        unfold cutV
        rw [HT.sIx_none, HT.sIx_nat]
        simp
      · rw [← hrests]
        exact hstb.perm.map _
      · rw [List.pairwise_map]
        refine hsrt.imp fun {x y} h => ?_
        have h := SrtO.lexB_no.mp h
        exact h
      · intro x hx
        exact hk2 x (hstb.perm.mem_iff.mp hx)
  · rintro x H4 e4 ⟨q, ys, rfl, hqf, hq, hperm, hsrt, hys⟩
    have hdl := dist_law hperm hsrt
    have hpf4 := e4 _ _ hpf3
    have hfll : (floorsOf D ws).length = ws.length := by simp [floorsOf]
    have hpos : ∀ x ∈ ys, ∃ i : Nat, i < ws.length ∧ (kOf H3 x).2 = (i : Int) := fun x hx => by
      have h1 := hperm.mem_iff.mp (List.mem_map.mpr ⟨x, hx, rfl⟩)
      unfold restsOf at h1
      obtain ⟨z, hz, ez⟩ := List.mem_map.mp h1
      rw [List.mem_zipIdx_iff_getElem?] at hz
      exact ⟨z.2, (List.getElem?_eq_some_iff.mp hz).1, by rw [← ez]⟩
    have htn : ∀ {t : Addr} {xs : List V}, H3 t = some (.tup xs) → t ≠ pf := fun h => ne_of h hpf3 (by intro z; cases z)
    refine sq_for (evi_list (K := K) (ys.take (D - (floorsOf D ws).sum)) (fun y => y) ev_c (sq_of (by rw [hq]; simp)))
      (fun i σ' Hk => ∃ o1 o2 : Option V, σ' = [some (.ref b), some (nV n), some (nV D), some (.ref pw), some (nV S), some (.ref pf), some (.ref pr), o1, o2, none, none] ∧ Ex (less H4 pf) Hk ∧ NL Hk pf ((((ys.take (D - (floorsOf D ws).sum)).take i).map fun x => (kOf H3 x).2.toNat).foldl TBM.bump (floorsOf D ws)))
      ⟨none, none, rfl, less_ex, hpf4⟩ up_l (fun i σ' Hk _ ⟨_, _, _, e5, _⟩ => sq_of (e5 _ _ (by rw [less_ne hqf, hq]; simp))) ?_ ?_
    · rintro i y2 x σ' Hk H5 hi ⟨o1, o2, rfl, e5, hk⟩ e6 rfl
      have hym := List.mem_of_mem_take (List.mem_of_getElem? hi)
      obtain ⟨t, ht1, ht2⟩ := hys _ hym
      obtain ⟨pos, hpos1, hpos2⟩ := hpos _ hym
      subst ht1
      have ht5 : H5 t = some (.tup [.int (kOf H3 (.ref t)).1, .int (kOf H3 (.ref t)).2]) := e6 _ _ (e5 _ _ (by rw [less_ne (htn ht2)]; exact e4 _ _ ht2))
      rw [hpos2] at ht5
      refine ⟨_, evg_tup (gset_cons (gset_cons gset_nil)) (st_of ht5) rfl rfl, Sj.last ?_⟩
      generalize hcur : (((ys.take (D - (floorsOf D ws).sum)).take i).map fun x => (kOf H3 x).2.toNat).foldl TBM.bump (floorsOf D ws) = cur at hk
      have hcl : cur.length = ws.length := by rw [← hcur, bump_length, hfll]
      have hget : (cur.map nV)[pos]? = some (.int ((cur.getD pos 0 : Nat) : Int)) := by
        rw [List.getElem?_map, List.getD_eq_getElem?_getD, List.getElem?_eq_getElem (by omega)]
        rfl
      refine sq_augL (n := pos) (i := ((cur.getD pos 0 : Nat) : Int)) (j := 1) (e6 _ _ hk) bpf (ev_var rfl) (ev_var rfl) hget ev_c (sj_next ⟨_, _, rfl, ?_, ?_⟩)
      · exact (e5.trans e6).mut less_self
      · rw [take_succ hi, List.map_append, List.foldl_append, hcur]
        show upd H5 pf _ pf = _
        rw [upd_same]
        show some (HO.lst _) = some (HO.lst ((TBM.bump cur (kOf H3 (.ref t)).2.toNat).map nV))
        rw [hpos2, Int.toNat_natCast]
        unfold TBM.bump
        rw [List.map_set]
        rfl
    · rintro σ' Hk ⟨o1, o2, rfl, e5, hk⟩
      rw [List.take_length] at hk
      refine sj_ret (ev_var rfl) ⟨pf, rfl, ?_⟩
      rw [hk, ← hdl, List.map_take, List.map_take, List.map_map]
      rfl
end
end TB
/-! # Contracts: bills, balances, shortfalls -/
namespace TB
open PySem PySem.Spec PyProof.Rows L2 Evl
open TimberAuction (Lot Bid Sale Contract Delivery Bill)
open TBM

section
variable {K : PySem.W.Frag} {B H : Hp} {σ : L2.St} {N : L2.St → Hp → Prop} {P : V → Hp → Prop} {te : TE} {u : TS}
/-- x op= e of whole numbers -/
theorem sq_augI {i : Nat} {f : Int → Int → Int} {a b : Int} (hx : σ[i]? = some (some (.int a))) (h : Ev te σ H (.int b)) (k : Sj B u (σ.set i (some (.int (f a b)))) H N P) : Sj B (tSeq (tAug i te (ipI f)) u) σ H N P := fun H1 e eb D kn kr =>
  ⟨_, hx, h H1 e _ fun H2 e2 => ⟨a, b, rfl, rfl, k H2 (e.trans e2) (eb.trans e2) D kn kr⟩⟩
end
section
variable {P : Program} {w : World} {K : PySem.W.Frag} {mg : Str → Option Value} {base : Heap} {A : Adr}
def billNos (G : BooksG) (n : Nat) : List (BilG × Nat) := G.bs.zipIdx.filter fun z => z.1.b.contract == n
def p_bills_of (K : PySem.W.Frag) (A : Adr) : PreT := fun vs H R => ∃ (g : Tg) (b : Addr) (G : BooksG) (n : Nat), vs = [.ref b, nV n] ∧ BooksAt K A g H b G ∧ WBooks G ∧ R = isL ((billNos G n).map fun z => nV z.2)
abbrev sp_Books_bills_of (K : PySem.W.Frag) (A : Adr) : Sp := spP (p_bills_of K A)
theorem sc_Books_bills_of : FnScope ["self", "number", "at", "bill"] ["self", "number"] (defScope (inClass (top 13) 6)) := ⟨rfl, rfl, rfl, by decide +kernel, rfl, by decide +kernel, by decide +kernel⟩
theorem ok_Books_bills_of (T : Top K mg A) : MOk P w K mg base 1 A.Books "bills_of" ["self", "number"] (sp_Books_bills_of K A) := by
  refine mokP T.mBooks_bills_of sc_Books_bills_of (fun vs H R ⟨_, _, _, _, e, _⟩ => by rw [e]; rfl) (fun _ _ _ _ _ _ us hl => match us, hl with | [_, _], _ => rfl) fun f cdv A' outer s' H E hr => ⟨_, (pss_one (ps_ret (pe_lc (own := [("at", 2), ("bill", 3)]) (g := (gTup K 2 (gCons (gName 2) (gCons (gName 3) gNil)))) (tt := (tTest (tOp (rEq) (tFld K (tVar 3) "contract") (tVar 1)))) (te := (tVar 2)) (by rfl) sc_Books_bills_of.nd (pi_enum (by rfl) T.b_enumerate (pa_cons (pe_fld (pv 0) rfl) pa_nil)) (blkOk_by (own := [("at", 2), ("bill", 3)]) (N := ["self", "number", "at", "bill"]) (sc := defScope (inClass (top 13) 6)) (by decide +kernel)) (fun _ _ _ _ _ => (pg_tup rfl (pgs_cons (pg_name (i := 2) sc_Books_bills_of.nd rfl (by first | exact Or.inl rfl | exact Or.inr rfl)) (pgs_cons (pg_name (i := 3) sc_Books_bills_of.nd rfl (by first | exact Or.inl rfl | exact Or.inr rfl)) pgs_nil)))) (fun _ _ _ _ _ => (pts_one (pt_cmpR op_eq (pe_fld (pv 3) rfl) (pv 1) (nomark _)))) (fun _ _ _ _ _ => (pv 2))))), ?_⟩
  rintro vs H0 R e ⟨g, b, G, n, rfl, hG, hW, rfl⟩
  refine sj_retL (evl_lc (fun z : BilG × Nat => z.1.b.contract == n) (fun z : BilG × Nat => nV z.2) (evi_enum (K := K) G.bs (fun y => V.ref y.p) (fld_Books_bills T (ev_var rfl) hG.ins) (sq_of hG.bills)) up_l (sq_of hG.bills) (by rw [List.length_zipIdx]; have := hW.nbs; omega) ?_) fun p H1 _ _ _ hp => ⟨p, rfl, hp⟩
  rintro z x H1 hz e1 ⟨t, rfl, ht⟩
  have hz1 : z.1 ∈ G.bs := List.mem_of_getElem? (List.mem_zipIdx_iff_getElem?.mp hz)
  exact ⟨_, evg_tup (gset_cons (gset_cons gset_nil)) (st_of ht) rfl rfl, rfl, et_test ((ev_eqS (fld_Bill_contract T (ev_var rfl) ((hG.bill z.1 hz1).ins.up e1)) (ev_var (v := nV n) rfl) rfl).to (congrArg V.bl dec_nat)), fun _ => ev_var rfl⟩
theorem billNos_mem {G : BooksG} {n : Nat} {z : BilG × Nat} (h : z ∈ billNos G n) : ∃ hz : z.2 < G.bs.length, G.bs[z.2] = z.1 ∧ z.1 ∈ G.bs ∧ z.1.b.contract = n := by
  have h1 := List.mem_filter.mp h
  have h2 := List.mem_zipIdx_iff_getElem?.mp h1.1
  obtain ⟨h3, h4⟩ := List.getElem?_eq_some_iff.mp h2
  exact ⟨h3, h4, List.mem_of_getElem? h2, by simpa using h1.2⟩
theorem billNos_map {G : BooksG} {n : Nat} : (billNos G n).map (fun z => z.1.b.amounts) = ((G.bs.map (·.b)).filter fun b => b.contract == n).map (·.amounts) := by
  unfold billNos
  rw [List.filter_map, List.map_map]
  have key : ∀ (l : List BilG) (k : Nat), ((l.zipIdx k).filter fun z => z.1.b.contract == n).map (fun z => z.1.b.amounts) = (l.filter fun y => y.b.contract == n).map fun y => y.b.amounts := by
    intro l
    induction l with
    | nil => intro k; rfl
    | cons a l ih =>
      intro k
      rw [List.zipIdx_cons]
      by_cases h : (a.b.contract == n) = true
      · rw [List.filter_cons_of_pos (by simpa using h), List.filter_cons_of_pos (p := fun y : BilG => y.b.contract == n) h, List.map_cons, List.map_cons, ih]
      · rw [List.filter_cons_of_neg (by simpa using h), List.filter_cons_of_neg (p := fun y : BilG => y.b.contract == n) h, ih]
  exact key G.bs 0
def billedOf (G : BooksG) (n : Nat) (c : Contract) : List Int := addUp c.bidders.length (((G.bs.map (·.b)).filter fun b => b.contract == n).map (·.amounts))
def p_billed (K : PySem.W.Frag) (A : Adr) : PreT := fun vs H R => ∃ (g : Tg) (b : Addr) (G : BooksG) (n : Nat) (hn : n < G.cs.length), vs = [.ref b, nV n] ∧ BooksAt K A g H b G ∧ WBooks G ∧ R = isL ((billedOf G n G.cs[n].c).map V.int)
abbrev sp_Books_billed (K : PySem.W.Frag) (A : Adr) : Sp := spP (p_billed K A)
theorem zip_int (as bs : List Int) : ((as.zip bs).filter fun _ => true).map (fun y => V.int (y.1 + y.2)) = (List.zipWith (· + ·) as bs).map V.int := by
  rw [filter_true, List.zip, List.map_zipWith, List.map_zipWith]
theorem sc_Books_billed : FnScope ["self", "number", "found", "at", "one", "other"] ["self", "number"] (defScope (inClass (top 13) 7)) := ⟨rfl, rfl, rfl, by decide +kernel, rfl, by decide +kernel, by decide +kernel⟩
theorem ok_Books_billed (T : Top K mg A) : MOk P w K mg base 2 A.Books "billed" ["self", "number"] (sp_Books_billed K A) := by
  refine mokP T.mBooks_billed sc_Books_billed (fun vs H R ⟨_, _, _, _, _, e, _⟩ => by rw [e]; rfl) (fun _ _ _ _ _ _ us hl => match us, hl with | [_, _], _ => rfl) fun f cdv A' outer s' H E hr => ⟨_, (pss_cons (ps_set (i := 2) sc_Books_billed.nd rfl (by first | exact Or.inl rfl | exact Or.inr rfl) (pe_op op_rep (pe_lst (pa_cons pe_int pa_nil)) (pe_callB cr_lenS (by rfl) T.b_len boot_len (pa_cons (pe_fld (pe_ix ix_list (pe_fld (pv 0) rfl) (pv 1) (fun _ _ => rfl)) rfl) pa_nil))))
      (pss_cons (ps_for PassesOwn.never rfl (pi_list (pe_m (ok_Books_bills_of T) (pv 0) T.cBooks.cl (hr.mono (by decide)) (pa_cons (pv 1) pa_nil))) (pg_name (i := 3) sc_Books_billed.nd rfl (by first | exact Or.inl rfl | exact Or.inr rfl)) (pss_one (ps_setLc (i := 2) (own := [("one", 4), ("other", 5)]) (g := (gTup K 2 (gCons (gName 4) (gCons (gName 5) gNil)))) (tt := tYes) (te := (tOp (rI0 fun i j => .int (i + j)) (tVar 4) (tVar 5))) (by rfl) sc_Books_billed.nd rfl rfl (sw_true rfl rfl rfl (by decide +kernel)) (pi_zip (by rfl) T.b_zip (pa_cons (pv 2) (pa_cons (pe_fld (pe_ix ix_list (pe_fld (pv 0) rfl) (pv 3) (fun _ _ => rfl)) rfl) pa_nil))) (blkOk_by (own := [("one", 4), ("other", 5)]) (N := ["self", "number", "found", "at", "one", "other"]) (sc := defScope (inClass (top 13) 7)) (by decide +kernel)) (fun _ _ _ _ _ => (pg_tup rfl (pgs_cons (pg_name (i := 4) sc_Books_billed.nd rfl (by first | exact Or.inl rfl | exact Or.inr rfl)) (pgs_cons (pg_name (i := 5) sc_Books_billed.nd rfl (by first | exact Or.inl rfl | exact Or.inr rfl)) pgs_nil)))) (fun _ _ _ _ _ => pts_nil) (fun _ _ _ _ _ => (pe_op op_add (pv 4) (pv 5))))))
      (pss_one (ps_ret (pv 2))))), ?_⟩
  rintro vs H0 R e ⟨g, b, G, n, hn, rfl, hG, hW, rfl⟩
  have hC := hG.con _ (List.getElem_mem hn)
  have hc := hW.con _ (List.getElem_mem hn)
  have hlen : G.cs[n].ts.length = G.cs[n].c.bidders.length := by rw [← hC.bidders.eq, List.length_map]
  have hcl := hc.blen
  refine sq_asgL (xs := (addUp G.cs[n].c.bidders.length []).map V.int) (EvL.to (el_rep (x := .int 0) (n := ((G.cs[n].ts.length : Nat) : Int)) (el_lst (ea_cons ev_c ea_nil) (by show 1 ≤ 100000; decide)) ((ev_lenL (fld_Contract_bidders T (ev_con T hG (ev_var rfl) (ev_var rfl) hn) hC.ins) hC.bidders.lst).to (by rw [List.length_map])) (by omega)) (by
    unfold addUp
    rw [List.foldl_nil, List.map_replicate, Int.toNat_natCast, hlen])) fun p H1 _ _ e1 hp => ?_
  refine bindFor (evp_meth (ev_var rfl) (hG.ins.up e1) no_Books_bills_of (ea_cons (ev_var rfl) ea_nil) (spL_go ⟨g, b, G, n, rfl, hG.up e1, hW, rfl⟩)) fun x H2 e2 ⟨q, ex, hq⟩ => ?_
  subst ex
  have e12 := e1.trans e2
  refine sq_for (evi_list (K := K) (billNos G n) (fun z => nV z.2) ev_c (sq_of hq))
    (fun i σ' Hk => ∃ (p : Addr) (o : Option V), σ' = [some (.ref b), some (nV n), some (.ref p), o, none, none] ∧ Ex H2 Hk ∧ Hk p = some (.lst ((addUp G.cs[n].c.bidders.length (((billNos G n).take i).map fun z => z.1.b.amounts)).map V.int)))
    ⟨p, none, rfl, Ex.refl _, e2 _ _ hp⟩ up_l (fun i σ' Hk _ ⟨_, _, _, e3, _⟩ => sq_of (e3 _ _ hq)) ?_ ?_
  · rintro i z x σ' Hk H3 hz ⟨p2, o, rfl, e3, hp2⟩ e4 rfl
    have e13 := (e12.trans e3).trans e4
    obtain ⟨hz1, hz2, hz3, hz4⟩ := billNos_mem (List.mem_of_getElem? hz)
    have hB := (hG.bill _ hz3).up e13
    have hbl := hW.bil _ hz3
    have hal : z.1.b.amounts.length = G.cs[n].c.bidders.length := hbl.2 _ (by rw [hz4]; exact List.getElem?_eq_getElem hn)
    have hbv : Ev (tOp (rIxL K) (tFld K (tVar 0) "bills") (tVar 3)) [some (.ref b), some (nV n), some (.ref p2), some (nV z.2), none, none] H3 (.ref z.1.p) := by
      have := ev_ixL (K := K) (n := z.2) (fld_Books_bills T (σ := [some (.ref b), some (nV n), some (.ref p2), some (nV z.2), none, none]) (te := tVar 0) (ev_var rfl) (hG.ins.up e13)) (tb := tVar 3) (ev_var rfl) (e13 _ _ hG.bills) (get_ref (f := fun y : BilG => y.p) hz1)
      rw [hz2] at this
      exact this
    have hp3 := e4 _ _ hp2
    have hau : (addUp G.cs[n].c.bidders.length (((billNos G n).take i).map fun z => z.1.b.amounts)).length = G.cs[n].c.bidders.length := addUp_length fun a ha => by
      obtain ⟨z', hz', rfl⟩ := List.mem_map.mp ha
      obtain ⟨_, _, h3, h4⟩ := billNos_mem (List.mem_of_mem_take hz')
      exact (hW.bil _ h3).2 _ (by rw [h4]; exact List.getElem?_eq_getElem hn)
    refine ⟨_, evg_name, Sj.last (sq_asgL (xs := (List.zipWith (· + ·) (addUp G.cs[n].c.bidders.length (((billNos G n).take i).map fun z => z.1.b.amounts)) z.1.b.amounts).map V.int) (EvL.to (evl_lc (fun _ => true) (fun y : Int × Int => V.int (y.1 + y.2)) (evi_zip (K := K) (addUp G.cs[n].c.bidders.length (((billNos G n).take i).map fun z => z.1.b.amounts)) z.1.b.amounts V.int V.int (ev_var rfl) (fld_Bill_amounts T hbv hB.ins) (sq_of hp3) (sq_of hB.am))
      (fun _ _ ex h => ⟨ex_l ex h.1, ex_l ex h.2⟩) ⟨sq_of hp3, sq_of hB.am⟩ ?_ ?_) (zip_int _ _)) fun p4 H4 _ _ e5 hp4 => sj_next ⟨p4, _, rfl, (e3.trans e4).trans e5, ?_⟩)⟩
    · rw [List.length_zip, hau, hal]
      omega
    · rintro y x H4 hy e5 ⟨t, rfl, ht⟩
      exact ⟨_, evg_tup (gset_cons (gset_cons gset_nil)) (st_of ht) rfl rfl, rfl, et_yes, fun _ => ev_I0 (ev_var rfl) (ev_var rfl)⟩
    · rw [hp4, take_succ hz, List.map_append, List.map_singleton, addUp_snoc]
  · rintro σ' Hk ⟨p2, o, rfl, e3, hp2⟩
    rw [List.take_length, billNos_map] at hp2
    exact sj_ret (ev_var rfl) ⟨p2, rfl, hp2⟩
/-! ### new_amounts -/
def amountsOf (G : BooksG) (n : Nat) (c : Contract) : List Int := TimberAuction.nextAmounts G.xs (G.ds.map (·.d)) (G.bs.map (·.b)) n c
def p_new_amounts (K : PySem.W.Frag) (A : Adr) : PreN := fun vs H R => ∃ (g : Tg) (b : Addr) (G : BooksG) (n : Nat) (hn : n < G.cs.length), vs = [.ref b, nV n] ∧ BooksAt K A g H b G ∧ WBooks G ∧ R = isLF ((amountsOf G n G.cs[n].c).map V.int)
abbrev sp_Books_new_amounts (K : PySem.W.Frag) (A : Adr) : Sp := spN (p_new_amounts K A)
theorem sc_Books_new_amounts : FnScope ["self", "number", "part", "before"] ["self", "number"] (defScope (inClass (top 13) 8)) := ⟨rfl, rfl, rfl, by decide +kernel, rfl, by decide +kernel, by decide +kernel⟩
theorem ok_Books_new_amounts (T : Top K mg A) : MOk P w K mg base 7 A.Books "new_amounts" ["self", "number"] (sp_Books_new_amounts K A) := by
  refine mokN T.mBooks_new_amounts sc_Books_new_amounts (fun vs H R ⟨_, _, _, _, _, e, _⟩ => by rw [e]; rfl) (fun _ _ _ _ _ _ us hl => match us, hl with | [_, _], _ => rfl) fun f cdv A' outer s' H E hr => ⟨_, (pss_one (ps_ret (pe_lc (own := [("part", 2), ("before", 3)]) (g := (gTup K 2 (gCons (gName 2) (gCons (gName 3) gNil)))) (tt := tYes) (te := (tOp (rI0 fun i j => .int (i - j)) (tVar 2) (tVar 3))) (by rfl) sc_Books_new_amounts.nd (pi_zip (by rfl) T.b_zip (pa_cons (pe_m (ok_Books_parts T) (pv 0) T.cBooks.cl (hr.mono (by decide)) (pa_cons (pv 1) pa_nil)) (pa_cons (pe_m (ok_Books_billed T) (pv 0) T.cBooks.cl (hr.mono (by decide)) (pa_cons (pv 1) pa_nil)) pa_nil))) (blkOk_by (own := [("part", 2), ("before", 3)]) (N := ["self", "number", "part", "before"]) (sc := defScope (inClass (top 13) 8)) (by decide +kernel)) (fun _ _ _ _ _ => (pg_tup rfl (pgs_cons (pg_name (i := 2) sc_Books_new_amounts.nd rfl (by first | exact Or.inl rfl | exact Or.inr rfl)) (pgs_cons (pg_name (i := 3) sc_Books_new_amounts.nd rfl (by first | exact Or.inl rfl | exact Or.inr rfl)) pgs_nil)))) (fun _ _ _ _ _ => pts_nil) (fun _ _ _ _ _ => (pe_op op_sub (pv 2) (pv 3)))))), ?_⟩
  rintro vs H0 R e ⟨g, b, G, n, hn, rfl, hG, hW, rfl⟩
  have hc := hW.con _ (List.getElem_mem hn)
  have hlaw : amountsOf G n G.cs[n].c = ((Amounts.distribute (dueOf G n G.cs[n].c) (wsOf G.cs[n].c)).zip (billedOf G n G.cs[n].c)).map fun e => (e.1 : Int) - e.2 := next_law fun bb hb hk => by
    obtain ⟨y, hy, rfl⟩ := List.mem_map.mp hb
    exact (hW.bil y hy).2 _ (by rw [hk]; exact List.getElem?_eq_getElem hn)
  refine sj_retN (R := isLF ((amountsOf G n G.cs[n].c).map V.int)) (EvL.n (EvLP.l (bindLcZ (R := isL ((Amounts.distribute (dueOf G n G.cs[n].c) (wsOf G.cs[n].c)).map nV)) (R' := fun x z H1 => isL ((Amounts.distribute (dueOf G n G.cs[n].c) (wsOf G.cs[n].c)).map nV) x H1 ∧ isL ((billedOf G n G.cs[n].c).map V.int) z H1) ?_ (fun x H1 e1 hx => ?_) ?_) (fun ys H1 (h : ys = _) => h))) fun v H1 H2 _ eb e12 h => isLF_up eb (Ex.refl _) h
  · exact evp_meth (ev_var rfl) hG.ins no_Books_parts (ea_cons (ev_var rfl) ea_nil) (spL_go ⟨g, b, G, n, hn, rfl, hG, hW, rfl⟩)
  · exact fun H2 e2 Q qq => (evp_meth (ev_var rfl) (hG.ins.up e1) no_Books_billed (ea_cons (ev_var rfl) ea_nil) (spL_go ⟨g, b, G, n, hn, rfl, hG.up e1, hW, rfl⟩)) H2 e2 _ fun z H3 e3 hz => qq z H3 e3 ⟨isL_up (e2.trans e3) hx, hz⟩
  · rintro x z H1 e1 ⟨⟨p, rfl, hp⟩, ⟨q, rfl, hq⟩⟩
    refine EvL.lp (EvL.to (evl_lc (fun _ => true) (fun y : Nat × Int => V.int ((y.1 : Int) - y.2)) (evi_zip (K := K) (Amounts.distribute (dueOf G n G.cs[n].c) (wsOf G.cs[n].c)) (billedOf G n G.cs[n].c) nV V.int ev_c ev_c (sq_of hp) (sq_of hq)) (fun _ _ ex h => ⟨ex_l ex h.1, ex_l ex h.2⟩) ⟨sq_of hp, sq_of hq⟩ ?_ ?_) ?_)
    · have h1 : (Amounts.distribute (dueOf G n G.cs[n].c) (wsOf G.cs[n].c)).length = G.cs[n].c.bidders.length := by simp [Amounts.distribute, wsOf]
      rw [List.length_zip, h1]
      have := hc.blen
      omega
    · rintro y x H4 hy e5 ⟨t, rfl, ht⟩
      exact ⟨_, evg_tup (gset_cons (gset_cons gset_nil)) (st_of ht) rfl rfl, rfl, et_yes, fun _ => ev_I0 (ev_var rfl) (ev_var rfl)⟩
    · rw [filter_true, hlaw, List.map_map]
      rfl
/-! ### balance -/
def bilTo (G : BooksG) (k : Nat) (y : BilG) : Int := match G.cs[y.b.contract]? with
  | none => 0
  | some z => Amounts.sumInt (z.c.bidders.zipIdx.map fun e => if e.1.1 = k then y.b.amounts.getD e.2 0 else 0)
def balOf (G : BooksG) (k : Nat) : Int := -(G.paid.getD k 0) + (G.bs.map (bilTo G k)).sum
def p_balance (K : PySem.W.Frag) (A : Adr) : PreT := fun vs H R => ∃ (g : Tg) (b : Addr) (G : BooksG) (k : Nat), vs = [.ref b, nV k] ∧ BooksAt K A g H b G ∧ WBooks G ∧ k < 16 ∧ R = isV (.int (balOf G k))
abbrev sp_Books_balance (K : PySem.W.Frag) (A : Adr) : Sp := spP (p_balance K A)
theorem sc_Books_balance : FnScope ["self", "bidder", "found", "bill", "bidders", "one", "weight", "amount"] ["self", "bidder"] (defScope (inClass (top 13) 9)) := ⟨rfl, rfl, rfl, by decide +kernel, rfl, by decide +kernel, by decide +kernel⟩
theorem ok_Books_balance (T : Top K mg A) : MOk P w K mg base 1 A.Books "balance" ["self", "bidder"] (sp_Books_balance K A) := by
  refine mokP T.mBooks_balance sc_Books_balance (fun vs H R ⟨_, _, _, _, e, _⟩ => by rw [e]; rfl) (fun _ _ _ _ _ _ us hl => match us, hl with | [_, _], _ => rfl) fun f cdv A' outer s' H E hr => ⟨_, (pss_cons (ps_set (i := 2) sc_Books_balance.nd rfl (by first | exact Or.inl rfl | exact Or.inr rfl) (pe_un un_neg (pe_ix ix_list (pe_fld (pv 0) rfl) (pv 1) (fun _ _ => rfl))))
      (pss_cons (ps_for PassesOwn.never rfl (pi_list (pe_fld (pv 0) rfl)) (pg_name (i := 3) sc_Books_balance.nd rfl (by first | exact Or.inl rfl | exact Or.inr rfl)) (pss_cons (ps_setLc (i := 4) (own := [("one", 5), ("weight", 6)]) (g := (gTup K 2 (gCons (gName 5) (gCons (gName 6) gNil)))) (tt := tYes) (te := (tVar 5)) (by rfl) sc_Books_balance.nd rfl rfl (sw_true rfl rfl rfl (by decide +kernel)) (pi_list (pe_fld (pe_ix ix_list (pe_fld (pv 0) rfl) (pe_fld (pv 3) rfl) (fun _ _ => rfl)) rfl)) (blkOk_by (own := [("one", 5), ("weight", 6)]) (N := ["self", "bidder", "found", "bill", "bidders", "one", "weight", "amount"]) (sc := defScope (inClass (top 13) 9)) (by decide +kernel)) (fun _ _ _ _ _ => (pg_tup rfl (pgs_cons (pg_name (i := 5) sc_Books_balance.nd rfl (by first | exact Or.inl rfl | exact Or.inr rfl)) (pgs_cons (pg_name (i := 6) sc_Books_balance.nd rfl (by first | exact Or.inl rfl | exact Or.inr rfl)) pgs_nil)))) (fun _ _ _ _ _ => pts_nil) (fun _ _ _ _ _ => (pv 5)))
      (pss_one (ps_aug (i := 2) sc_Books_balance.nd rfl (by first | exact Or.inl rfl | exact Or.inr rfl) (pe_callB (cr_sum rfl) (by rfl) T.b_sum (by decide +kernel) (pa_cons (pe_lc (own := [("one", 5), ("amount", 7)]) (g := (gTup K 2 (gCons (gName 5) (gCons (gName 7) gNil)))) (tt := (tTest (tOp (rEq) (tVar 5) (tVar 1)))) (te := (tVar 7)) (by rfl) sc_Books_balance.nd (pi_zip (by rfl) T.b_zip (pa_cons (pv 4) (pa_cons (pe_fld (pv 3) rfl) pa_nil))) (blkOk_by (own := [("one", 5), ("amount", 7)]) (N := ["self", "bidder", "found", "bill", "bidders", "one", "weight", "amount"]) (sc := defScope (inClass (top 13) 9)) (by decide +kernel)) (fun _ _ _ _ _ => (pg_tup rfl (pgs_cons (pg_name (i := 5) sc_Books_balance.nd rfl (by first | exact Or.inl rfl | exact Or.inr rfl)) (pgs_cons (pg_name (i := 7) sc_Books_balance.nd rfl (by first | exact Or.inl rfl | exact Or.inr rfl)) pgs_nil)))) (fun _ _ _ _ _ => (pts_one (pt_cmpR op_eq (pv 5) (pv 1) (nomark _)))) (fun _ _ _ _ _ => (pv 7))) pa_nil)) ip_add))))
      (pss_one (ps_ret (pv 2))))), ?_⟩
  rintro vs H0 R e ⟨g, b, G, k, rfl, hG, hW, hk, rfl⟩
  have hkp : k < G.paid.length := by rw [hW.npd]; exact hk
  refine sq_asg (v := .int (-(G.paid.getD k 0))) (ev_neg (ev_ixL (n := k) (fld_Books_paid T (ev_var rfl) hG.ins) (ev_var rfl) hG.paid (by
    rw [List.getElem?_map, List.getD_eq_getElem?_getD, List.getElem?_eq_getElem hkp]
    rfl))) ?_
  refine sq_for (evi_list (K := K) G.bs (fun y => V.ref y.p) (fld_Books_bills T (ev_var rfl) hG.ins) (sq_of hG.bills))
    (fun i σ' Hk => ∃ o1 o2 : Option V, σ' = [some (.ref b), some (nV k), some (.int (-(G.paid.getD k 0) + ((G.bs.take i).map (bilTo G k)).sum)), o1, o2, none, none, none] ∧ Ex H0 Hk)
    ⟨none, none, by rw [List.take_zero, List.map_nil, List.sum_nil, Int.add_zero]; rfl, Ex.refl _⟩ up_l (fun i σ' Hk _ ⟨_, _, _, e3⟩ => sq_of (e3 _ _ hG.bills)) ?_ ?_
  · rintro i y x σ' Hk H1 hy ⟨o1, o2, rfl, e1⟩ e2 rfl
    have e12 := e1.trans e2
    have hym := List.mem_of_getElem? hy
    have hB := (hG.bill y hym).up e12
    have hbl := hW.bil y hym
    have hC := (hG.con _ (List.getElem_mem hbl.1)).up e12
    have hc := hW.con _ (List.getElem_mem hbl.1)
    have hal : y.b.amounts.length = G.cs[y.b.contract].c.bidders.length := hbl.2 _ (List.getElem?_eq_getElem hbl.1)
    have hto : bilTo G k y = Amounts.sumInt (G.cs[y.b.contract].c.bidders.zipIdx.map fun e => if e.1.1 = k then y.b.amounts.getD e.2 0 else 0) := by
      unfold bilTo
      rw [List.getElem?_eq_getElem hbl.1]
    rw [balance_law hal] at hto
    have hblen := hc.blen
    generalize hz : G.cs[y.b.contract] = z at hC hc hal hto hblen
    have hzl : z.ts.length = z.c.bidders.length := by rw [← hC.bidders.eq, List.length_map]
    have hcon : Ev (tOp (rIxL K) (tFld K (tVar 0) "contracts") (tFld K (tVar 3) "contract")) [some (.ref b), some (nV k), some (.int (-(G.paid.getD k 0) + ((G.bs.take i).map (bilTo G k)).sum)), some (.ref y.p), o2, none, none, none] H1 (.ref z.p) := by
      have := ev_con T (hG.up e12) (σ := [some (.ref b), some (nV k), some (.int (-(G.paid.getD k 0) + ((G.bs.take i).map (bilTo G k)).sum)), some (.ref y.p), o2, none, none, none]) (ta := tVar 0) (tb := tFld K (tVar 3) "contract") (ev_var rfl) (fld_Bill_contract T (ev_var rfl) hB.ins) hbl.1
      rw [hz] at this
      exact this
    refine ⟨_, evg_name, sq_asgL (xs := (z.c.bidders.map (·.1)).map nV) (EvL.to (evl_lc (fun _ => true) (fun z => nV z.2.1) (evi_list (K := K) z.ts (fun z => V.ref z.1) (fld_Contract_bidders T hcon hC.ins) (sq_of hC.bidders.lst)) up_l (sq_of hC.bidders.lst) (by omega) ?_) ?_) fun p H2 _ _ e3 hp => ?_⟩
    · rintro q x H2 hq e3 rfl
      exact ⟨_, evg_tup (ws := pV q.2) (gset_cons (gset_cons gset_nil)) (st_of (e3 _ _ (hC.bidders.tup q hq))) rfl rfl, rfl, et_yes, fun _ => ev_var rfl⟩
    · rw [filter_true, ← hC.bidders.eq, List.map_map, List.map_map]
      rfl
    · have hB2 := hB.up e3
      refine Sj.last (sq_augI (b := bilTo G k y) rfl ((ev_sumN (ns := (((z.c.bidders.map (·.1)).zip y.b.amounts).filter fun e => e.1 == k).map (·.2)) (EvL.to (evl_lc (fun e : Nat × Int => e.1 == k) (fun e : Nat × Int => V.int e.2) (evi_zip (K := K) (z.c.bidders.map (·.1)) y.b.amounts nV V.int (ev_var rfl) (fld_Bill_amounts T (ev_var rfl) hB2.ins) (sq_of hp) (sq_of hB2.am))
        (fun _ _ ex h => ⟨ex_l ex h.1, ex_l ex h.2⟩) ⟨sq_of hp, sq_of hB2.am⟩ ?_ ?_) ?_)).to ?_) (sj_next ⟨some (.ref y.p), some (.ref p), ?_, e12.trans e3⟩))
      · rw [List.length_zip, List.length_map]
        omega
      · rintro e x H4 he e5 ⟨t, rfl, ht⟩
        exact ⟨_, evg_tup (gset_cons (gset_cons gset_nil)) (st_of ht) rfl rfl, rfl, et_test ((ev_eqS (ev_var (v := nV e.1) rfl) (ev_var (v := nV k) rfl) rfl).to (congrArg V.bl dec_nat)), fun _ => ev_var rfl⟩
      · rw [List.map_map]
        rfl
      · rw [hto]
      · rw [take_succ hy, List.map_append, List.map_singleton, List.sum_append, List.sum_singleton, ← Int.add_assoc]
        rfl
  · rintro σ' Hk ⟨o1, o2, rfl, e1⟩
    refine sj_ret (ev_var rfl) ?_
    rw [List.take_length]
    rfl
/-! ### shortfall -/
def shortOf (G : BooksG) (n : Nat) (c : Contract) : List Int := ((G.ds.map (·.d)).filter fun d => d.contract == n).foldl take1 (c.volumes.map fun n : Nat => (n : Int))
def p_shortfall (K : PySem.W.Frag) (A : Adr) : PreT := fun vs H R => ∃ (g : Tg) (b : Addr) (G : BooksG) (n : Nat) (hn : n < G.cs.length), vs = [.ref b, nV n] ∧ BooksAt K A g H b G ∧ WBooks G ∧ R = isL ((shortOf G n G.cs[n].c).map V.int)
abbrev sp_Books_shortfall (K : PySem.W.Frag) (A : Adr) : Sp := spP (p_shortfall K A)
theorem sc_Books_shortfall : FnScope ["self", "number", "found", "delivery"] ["self", "number"] (defScope (inClass (top 13) 10)) := ⟨rfl, rfl, rfl, by decide +kernel, rfl, by decide +kernel, by decide +kernel⟩
theorem ok_Books_shortfall (T : Top K mg A) : MOk P w K mg base 2 A.Books "shortfall" ["self", "number"] (sp_Books_shortfall K A) := by
  refine mokP T.mBooks_shortfall sc_Books_shortfall (fun vs H R ⟨_, _, _, _, _, e, _⟩ => by rw [e]; rfl) (fun _ _ _ _ _ _ us hl => match us, hl with | [_, _], _ => rfl) fun f cdv A' outer s' H E hr => ⟨_, (pss_cons (ps_set (i := 2) sc_Books_shortfall.nd rfl (by first | exact Or.inl rfl | exact Or.inr rfl) (pe_callTy cr_listS (by rfl) T.b_list (by decide +kernel) (pa_cons (pe_fld (pe_ix ix_list (pe_fld (pv 0) rfl) (pv 1) (fun _ _ => rfl)) rfl) pa_nil)))
      (pss_cons (ps_for PassesOwn.never rfl (pi_list (pe_m (ok_Books_deliveries_of T) (pv 0) T.cBooks.cl (hr.mono (by decide)) (pa_cons (pv 1) pa_nil))) (pg_name (i := 3) sc_Books_shortfall.nd rfl (by first | exact Or.inl rfl | exact Or.inr rfl)) (pss_one (ps_augL ip_sub (pv 2) (pe_fld (pv 3) rfl) (pe_fld (pv 3) rfl))))
      (pss_one (ps_ret (pv 2))))), ?_⟩
  rintro vs H0 R e ⟨g, b, G, n, hn, rfl, hG, hW, rfl⟩
  have hC := hG.con _ (List.getElem_mem hn)
  have hc := hW.con _ (List.getElem_mem hn)
  refine sq_asgL (el_listA (fld_Contract_volumes T (ev_con T hG (ev_var rfl) (ev_var rfl) hn) hC.ins) hC.vol) fun p H1 bp np e1 hp => ?_
  refine bindFor (R := fun v H2 => ∃ q, v = .ref q ∧ H2 q = some (.lst ((G.ds.filter fun y => y.d.contract == n).map fun y => V.ref y.p))) (evp_meth (ev_var rfl) (hG.ins.up e1) no_Books_deliveries_of (ea_cons (ev_var rfl) ea_nil) (spL_go ⟨g, b, G, n, rfl, hG.up e1, by have := hW.nds; omega, rfl⟩)) fun x H2 e2 ⟨q, ex, hq⟩ => ?_
  subst ex
  have e12 := e1.trans e2
  have hp2 := e2 _ _ hp
  -- the list of deliveries is not the list under way: its items are no whole numbers
  have hqp : q ≠ p := fun z => by
    subst z
    rw [hp2] at hq
    have hq := HO.lst.inj (Option.some.inj hq)
    have hl : ((G.ds.filter fun y => y.d.contract == n).map fun y => V.ref y.p).length = 10 := by rw [← hq, List.length_map, hc.vlen]
    cases hf : G.ds.filter fun y => y.d.contract == n with
    | nil => rw [hf] at hl; simp at hl
    | cons a l =>
      rw [hf] at hq
      cases hv : G.cs[n].c.volumes with
      | nil => rw [hv] at hq; simp at hq
      | cons v vs => rw [hv] at hq; simp [nV] at hq
  have hne : ∀ {a : Addr} {o : HO}, H0 a = some o → a ≠ p := fun h => ne_of_none h np
  refine sq_for (evi_list (K := K) (G.ds.filter fun y => y.d.contract == n) (fun y => V.ref y.p) ev_c (sq_of hq))
    (fun i σ' Hk => ∃ o : Option V, σ' = [some (.ref b), some (nV n), some (.ref p), o] ∧ Ex (less H2 p) Hk ∧ Hk p = some (.lst (((((G.ds.filter fun y => y.d.contract == n).take i).map (·.d)).foldl take1 (G.cs[n].c.volumes.map fun n : Nat => (n : Int))).map V.int)))
    ⟨none, rfl, less_ex, by rw [hp2, List.take_zero, List.map_nil, List.foldl_nil, ← sum_nV]⟩ up_l (fun i σ' Hk _ ⟨_, _, e3, _⟩ => sq_of (e3 _ _ (by rw [less_ne hqp]; exact hq))) ?_ ?_
  · rintro i d x σ' Hk H3 hd ⟨o, rfl, e3, hk⟩ e4 rfl
    have hdm := List.mem_filter.mp (List.mem_of_getElem? hd)
    have hWd := hW.del d hdm.1
    have h03 : Ex H0 H3 := fun a o ha => e4 _ _ (e3 _ _ (by rw [less_ne (hne ha)]; exact e12 _ _ ha))
    have hD := (hG.del d hdm.1).up h03
    generalize hcur : (((G.ds.filter fun y => y.d.contract == n).take i).map (·.d)).foldl take1 (G.cs[n].c.volumes.map fun n : Nat => (n : Int)) = cur at hk
    have hcl : cur.length = 10 := by rw [← hcur, take1_length, List.length_map, hc.vlen]
    refine ⟨_, evg_name, Sj.last (sq_augL (n := d.d.grade) (i := cur.getD d.d.grade 0) (j := (d.d.volume : Int)) (e4 _ _ hk) bp (ev_var rfl) (fld_Delivery_grade T (ev_var rfl) hD.ins) ?_ (fld_Delivery_volume T (ev_var rfl) hD.ins) (sj_next ⟨_, rfl, (e3.trans e4).mut less_self, ?_⟩))⟩
    · rw [List.getElem?_map, List.getD_eq_getElem?_getD, List.getElem?_eq_getElem (by have := hWd.grade; omega)]
      rfl
    · show upd H3 p _ p = _
      rw [upd_same, take_succ hd, List.map_append, List.foldl_append, hcur]
      show some (HO.lst _) = some (HO.lst ((take1 cur d.d).map V.int))
      unfold take1
      rw [List.map_set]
  · rintro σ' Hk ⟨o, rfl, e3, hk⟩
    rw [List.take_length] at hk
    refine sj_ret (ev_var rfl) ⟨p, rfl, ?_⟩
    rw [hk]
    unfold shortOf
    rw [map_filter_d]
end
end TB
/-! # Contracts: a contract of a bid -/
namespace TB
open PySem PySem.Spec PyProof.Rows L2 Evl
open TimberAuction (Lot Bid Sale Contract Delivery Bill)
open TBM

theorem totalValue_le {S : Sale} (hW : WSale S) : ∀ {ns : List Nat}, (∀ m ∈ ns, m < S.bids.length) → S.totalValue ns ≤ ns.length * 100000000000000
  | [], _ => Nat.zero_le _
  | m :: ns, h => by
    have ih := totalValue_le hW (ns := ns) fun x hx => h x (List.mem_cons_of_mem _ hx)
    have hm := h m List.mem_cons_self
    have hb : S.bid m ∈ S.bids := by
      unfold TimberAuction.Sale.bid
      rw [List.getD_eq_getElem?_getD, List.getElem?_eq_getElem hm]
      exact List.getElem_mem hm
    have := value_le hW (hW.bids _ hb)
    show S.value (S.bid m) + S.totalValue ns ≤ _
    rw [List.length_cons, Nat.add_mul, Nat.one_mul]
    omega
theorem reserve_le {S : Sale} {b : Bid} (hW : WSale S) (hb : WBid S.lots.length b) : S.reserve b ≤ 10000000000000 := by
  rw [reserve_eq hb]
  have h1 := sum_le (l := b.lots.map fun n => (lotOf S.lots n).reserve) (B := 1000000000) (fun x hx => by
    obtain ⟨n, hn, rfl⟩ := List.mem_map.mp hx
    have hn := hb.lots n hn
    simp only [lotOf, List.getD_eq_getElem?_getD, List.getElem?_eq_getElem hn, Option.getD_some]
    exact (hW.lots _ (List.getElem_mem hn)).res)
  rw [List.length_map] at h1
  have := hb.llen
  omega
theorem bid_mem {S : Sale} {n : Nat} (hn : n < S.bids.length) : S.bid n ∈ S.bids := by
  unfold TimberAuction.Sale.bid
  rw [List.getD_eq_getElem?_getD, List.getElem?_eq_getElem hn]
  exact List.getElem_mem hn
theorem threshold_lt {S : Sale} (hW : WSale S) {n : Nat} (hn : n < S.bids.length) : S.threshold n < 2 ^ 60 := by
  unfold TimberAuction.Sale.threshold
  simp only
  rw [← best_some hW hn, wd_total hn]
  have h1 := reserve_le hW (hW.bids _ (bid_mem hn))
  have h2 := totalValue_le hW (ns := bestOf S (some n)) fun m hm => best_lt m hm
  have h3 := best_length (S := S) (wo := some n)
  have h4 := hW.nbids
  have h5 : S.totalValue (bestOf S (some n)) ≤ 12 * 100000000000000 := Nat.le_trans h2 (Nat.mul_le_mul_right _ (by omega))
  have h6 : (2 : Nat) ^ 60 = 1152921504606846976 := by decide
  rw [h6]
  generalize S.totalValue S.bestSelection - S.value (S.bid n) = z
  omega
theorem factor_one {S : Sale} {n : Nat} (h : ¬ (S.rule = 1 ∧ 0 < S.value (S.bid n))) (hr : S.rule ≤ 1) : S.factor n = 1 := by
  unfold TimberAuction.Sale.factor
  rw [if_pos]
  omega
theorem factor_frac {S : Sale} {n : Nat} (h : S.rule = 1 ∧ 0 < S.value (S.bid n)) : S.factor n = ((S.threshold n : Nat) : Rat) / ((S.value (S.bid n) : Nat) : Rat) := by
  unfold TimberAuction.Sale.factor
  rw [if_neg]
  omega
theorem byGrade_self {ns : List Nat} (h : ns.length = 10) : TimberAuction.byGrade ns = ns := by
  rw [byGrade_eq (by omega), h]
  simp
theorem wcon_of {S : Sale} (hW : WSale S) {n day : Nat} (hn : n < S.bids.length) : WCon (S.contract day n) := by
  have hb := hW.bids _ (bid_mem hn)
  refine ⟨total_length, total_le hW hb, byGrade_length _, ?_, hb.blen, hb.bid, hW.ad, ?_⟩
  · show ∀ x ∈ TimberAuction.byGrade (S.bid n).prices, x ≤ 1000000
    rw [byGrade_self hb.plen]
    exact hb.prices
  · show Bd 60 (S.factor n)
    by_cases h : S.rule = 1 ∧ 0 < S.value (S.bid n)
    · rw [factor_frac h]
      exact bd_of _ _ _ h.2 (threshold_lt hW hn) (Nat.lt_of_le_of_lt (value_le hW hb) (by decide))
    · rw [factor_one h hW.ru]
      exact bd_nat 1 60 (by decide) (by decide)
section
variable {P : Program} {w : World} {K : PySem.W.Frag} {mg : Str → Option Value} {base : Heap} {A : Adr}
/-- a new contract of the bid y -/
def NewCon (K : PySem.W.Frag) (A : Adr) (S : Sale) (y : BidG) (n day : Nat) : V → Hp → Hp → Prop := fun v H H' => ∃ p va fa : Addr, v = .ref p ∧ H p = none ∧ H va = none ∧ va ≠ p ∧
  Ins H' p A.Contract (conF va y.pa y.ba ((S.value y.b : Nat) : Int) (day : Int) (S.advance : Int) fa false) ∧ NL H' va (TimberAuction.totalVolumes S.lots y.b.lots) ∧ SqT K H' fa [.int (S.factor n).num, .int (((S.factor n).den : Nat) : Int)]
theorem NewCon.up {S : Sale} {y : BidG} {n day : Nat} {v : V} {Ha Hb Hk H2 : Hp} (ea : Ex Ha Hb) (e : Ex Hk H2) (h : NewCon K A S y n day v Hb Hk) : NewCon K A S y n day v Ha H2 :=
  let ⟨p, va, fa, h1, h2, h3, h4, h5, h6, h7⟩ := h; ⟨p, va, fa, h1, fresh_back ea h2, fresh_back ea h3, h4, h5.up e, h6.up e, ex_t e h7⟩
def p_contract_of (K : PySem.W.Frag) (A : Adr) : PreN := fun vs H R => ∃ (g : Tg) (s : Addr) (G : SaleG) (n day : Nat) (hn : n < G.bs.length), vs = [.ref s, nV n, nV day] ∧ SaleAt A g H s G ∧ WSale G.sale ∧ n ∈ G.sale.bestSelection ∧ R = NewCon K A G.sale G.bs[n] n day
theorem sc_contract_of : FnScope ["sale", "number", "day", "bid", "value", "factor"] ["sale", "number", "day"] (defScope (top 14)) := ⟨rfl, rfl, rfl, by decide +kernel, rfl, by decide +kernel, by decide +kernel⟩
theorem ok_contract_of (T : Top K mg A) : FOk P w K mg base 7 "contract_of" ["sale", "number", "day"] (spN (p_contract_of K A)) := by
  refine fokN T.f_contract_of sc_contract_of (fun vs H R ⟨_, _, _, _, _, _, e, _⟩ => by rw [e]; rfl) (fun _ _ _ _ _ _ us hl => match us, hl with | [_, _, _], _ => rfl) fun f cdv A' outer s' H E hr => ⟨_, (pss_cons (ps_set (i := 3) sc_contract_of.nd rfl (by first | exact Or.inl rfl | exact Or.inr rfl) (pe_ix ix_list (pe_fld (pv 0) rfl) (pv 1) (fun _ _ => rfl)))
      (pss_cons (ps_set (i := 4) sc_contract_of.nd rfl (by first | exact Or.inl rfl | exact Or.inr rfl) (pe_m (ok_Sale_value_of T) (pv 0) T.cSale.cl (hr.mono (by decide)) (pa_cons (pv 3) pa_nil)))
      (pss_cons (ps_set (i := 5) sc_contract_of.nd rfl (by first | exact Or.inl rfl | exact Or.inr rfl) (pe_tup (pa_cons pe_int (pa_cons pe_int pa_nil))))
      (pss_cons (ps_if (PW.pt (pw_and (pt_cmpR op_eq (pe_fld (pv 0) rfl) pe_int (nomark _)) (pw_and1 (pt_cmpR op_gt (pv 4) pe_int (nomark _))))) (pss_one (ps_set (i := 5) sc_contract_of.nd rfl (by first | exact Or.inl rfl | exact Or.inr rfl) (pe_f (ok_fraction T) (hr.mono (by decide)) rfl (pa_cons (pe_m (ok_Sale_threshold T) (pv 0) T.cSale.cl (hr.mono (by decide)) (pa_cons (pv 1) pa_nil)) (pa_cons (pv 4) pa_nil))))) pss_nil)
      (pss_one (ps_ret (pe_new T.cContract (ok_Contract_init T) (hr.mono (by decide)) rfl (pa_cons (pv 3) (pa_cons (pe_m (ok_Sale_volumes_of T) (pv 0) T.cSale.cl (hr.mono (by decide)) (pa_cons (pv 3) pa_nil)) (pa_cons (pv 4) (pa_cons (pe_tup (pa_cons (pv 2) (pa_cons (pe_fld (pv 0) rfl) (pa_cons (pv 5) pa_nil)))) pa_nil))))))))))), ?_⟩
  rintro vs H0 R e ⟨g, s, G, n, day, hn, rfl, hS, hW, hbest, rfl⟩
  have hB := hS.bid _ (List.getElem_mem hn)
  have hWb := SaleG.wbid hW hn
  have hns : n < G.sale.bids.length := by simpa [SaleG.sale] using hn
  refine sq_asg (ev_bid T hS (ev_var rfl) (ev_var rfl) hn) ?_
  have hth := threshold_lt hW hns
  have hbo := G.bid_of hn
  have hf1 := factor_one (S := G.sale) (n := n)
  have hf2 := factor_frac (S := G.sale) (n := n)
  rw [hbo] at hf1 hf2
  have hvl := value_le hW hWb
  generalize hy : G.bs[n] = y at *
  generalize hv : G.sale.value y.b = val at *
  refine sq_asg (v := nV val) (ev_meth (ev_var rfl) hS.ins no_Sale_value_of (ea_cons (ev_var rfl) ea_nil) (spV_go ⟨g, s, G, y, rfl, hS, hB, hWb, hW, by rw [hv]; rfl⟩)) ?_
  refine sq_asgP (R := isT K [.int 1, .int 1]) ((eu_tup (ea_cons ev_c (ea_cons ev_c ea_nil)) (by show 2 ≤ 100000; decide)).p.imp fun v H1 _ ⟨p, ev, hp⟩ => ⟨p, ev, st_of hp⟩) fun v H1 e1 ⟨f1, ev, hf⟩ => ?_
  subst ev
  have hS1 := hS.up e1
  have hB1 := hB.up e1
  -- the end, the factor at f
  have fin : ∀ (fa : Addr) (H2 : Hp), Ex H1 H2 → SqT K H2 fa [.int (G.sale.factor n).num, .int (((G.sale.factor n).den : Nat) : Int)] →
      Sj H (tRet (tMake A.Contract (sp_Contract_init K A) [] E0 (tCons (tVar 3) (tCons (tMeth A.Sale "volumes_of" (sp_Sale_volumes_of K A) [] E0 (tVar 0) (tCons (tVar 3) tNil)) (tCons (tVar 4) (tCons (tTup (tCons (tVar 2) (tCons (tFld K (tVar 0) "advance") (tCons (tVar 5) tNil)))) tNil))))))
        [some (.ref s), some (nV n), some (nV day), some (.ref y.p), some (nV val), some (.ref fa)] H2 (fun _ Hk => NewCon K A G.sale y n day .non H Hk) (fun v Hk => NewCon K A G.sale y n day v H Hk) := fun fa H2 e2 hfa => by
    have e02 := e1.trans e2
    have hS2 := hS.up e02
    have hB2 := hB.up e02
    refine sj_retN (R := NewCon K A G.sale y n day) (evn_new (RA := fun vs H3 H4 => ∃ va t, vs = [.ref y.p, .ref va, nV val, .ref t] ∧ H3 va = none ∧ NL H4 va (TimberAuction.totalVolumes G.sale.lots y.b.lots) ∧ SqT K H4 t [nV day, .int (G.sale.advance : Int), .ref fa]) ?_ ?_) fun v H3 H4 e3 eb e34 h => h.up eb (Ex.refl _)
    · intro H3 e3 Q qq
      refine (ev_var (v := .ref y.p) (i := 3) rfl) H3 e3 _ fun H4 e4 => ?_
      refine (evn_meth (R := isLF ((TimberAuction.totalVolumes G.sale.lots y.b.lots).map nV)) (ev_var (v := .ref s) (i := 0) rfl) hS2.ins no_Sale_volumes_of (ea_cons (ev_var (v := .ref y.p) rfl) ea_nil) ⟨g, s, G, y, rfl, hS2, hB2, hWb, hW, rfl⟩ fun _ _ _ _ _ ea ek h => isLF_up ea ek h) H4 (e3.trans e4) _ fun v H5 e5 ⟨va, ev, hva, nva⟩ => ?_
      subst ev
      refine (ev_var (v := nV val) (i := 4) rfl) H5 ((e3.trans e4).trans e5) _ fun H6 e6 => ?_
      refine (eu_tup (ea_cons (ev_var (v := nV day) rfl) (ea_cons (fld_Sale_advance T (ev_var rfl) hS2.ins) (ea_cons (ev_var (v := .ref fa) rfl) ea_nil))) (by show 3 ≤ 100000; decide)) H6 (((e3.trans e4).trans e5).trans e6) _ fun t H7 ht e7 h7 => ?_
      exact qq _ H7 (((e4.trans e5).trans e6).trans e7) ⟨va, t, rfl, fresh_back e4 nva, (e6.trans e7) _ _ hva, st_of h7⟩
    · rintro vs H3 H4 e3 e4 ⟨va, t, rfl, nva, hva, ht⟩
      refine ⟨_, ⟨y.p, y.la, y.pa, y.ba, va, fa, t, y.b.withdrawn, _, _, _, rfl, hB2.ins.up (e3.trans e4), ht, rfl⟩, fun p H5 H6 np hi e46 e56 => ⟨p, va, fa, rfl, fresh_back e4 np, nva, ne_of_none hva np, ?_, hva.up e46, ex_t ((e3.trans e4).trans e46) hfa⟩⟩
      rw [hv]
      exact hi.up e56
  refine sq_when (b := decide (G.sale.rule = 1) && decide (0 < val)) (et_and (et_test ((ev_eqS (fld_Sale_rule T (ev_var rfl) hS1.ins) (ev_c (v := .int 1)) rfl).to (congrArg V.bl ?_))) fun _ => et_test ((ev_I0 (i := (val : Int)) (j := 0) (ev_var rfl) ev_c).to (congrArg V.bl (decide_eq_decide.mpr (by omega))))) (fun hc => ?_) (fun hc => ?_)
  · rw [dec_int, Bool.eq_iff_iff]
    show (((G.ru : Int) == 1) = true) ↔ decide (G.ru = 1) = true
    simp
    omega
  · have hc2 : G.sale.rule = 1 ∧ 0 < val := by simpa using hc
    refine sj_assoc (sq_asgP (R := isF K (G.sale.factor n)) (evp_call (vs := [nV (G.sale.threshold n), nV val]) (ea_cons (ev_meth (ev_var rfl) hS1.ins no_Sale_threshold (ea_cons (ev_var rfl) ea_nil) (spV_go ⟨g, s, G, n, rfl, hS1, hW, hbest, rfl⟩)) (ea_cons (ev_var rfl) ea_nil))
      (spF_go (Pre := p_fraction K) ⟨_, _, rfl, hc2.2, ?_, ?_, by rw [hf2 hc2]⟩)) fun v H2 e2 ⟨fa, ev, hfa⟩ => ?_)
    · exact Nat.lt_of_lt_of_le hth (Nat.pow_le_pow_right (by decide) (by decide))
    · exact Nat.lt_of_le_of_lt hvl (Nat.lt_of_lt_of_le (show 100000000000000 < 2 ^ 60 by decide) (Nat.pow_le_pow_right (by decide) (by decide)))
    · subst ev
      exact fin fa H2 e2 hfa
  · have hc2 : ¬ (G.sale.rule = 1 ∧ 0 < val) := by
      rintro ⟨h1, h2⟩
      rw [decide_eq_true h1, decide_eq_true h2] at hc
      exact absurd hc (by decide)
    refine fin f1 H1 (Ex.refl _) ?_
    rw [hf1 hc2 hW.ru]
    exact hf
end
end TB
/-! # The desk: its state in the heap -/
namespace TB
open PySem PySem.Spec PyProof.Rows L2 Evl
open TimberAuction (Lot Bid Sale Contract Delivery Bill)
open TBM
open AuctionSpec (State)
/-! ### what stands when something else changes -/
structure Kp (K : PySem.W.Frag) (S : Tag → Prop) (g g' : Tg) (H H' : Hp) : Prop where
  at_ : ∀ a o, H a = some o → S (g a) → H' a = some o
  tup : ∀ a xs, H a = some (.tup xs) → H' a = some (.tup xs)
  sqt : ∀ a xs, SqT K H a xs → SqT K H' a xs
  tag : ∀ a, H a ≠ none → g' a = g a
section
variable {K : PySem.W.Frag} {A : Adr} {S : Tag → Prop} {g g' : Tg} {H H' : Hp}
theorem some_ne {a : Addr} {o : HO} (h : H a = some o) : H a ≠ none := by rw [h]; simp
theorem Kp.ins (k : Kp K S g g' H H') {a C : Addr} {fs : List (Str × V)} (h : Ins H a C fs) (hs : S (g a)) : Ins H' a C fs := let ⟨dx, h⟩ := h; ⟨dx, k.at_ a _ h hs⟩
theorem Kp.tagI (k : Kp K S g g' H H') {a C : Addr} {fs : List (Str × V)} (h : Ins H a C fs) : g' a = g a := let ⟨dx, h⟩ := h; k.tag a (some_ne h)
theorem LotAt.kp {y : LotG} (k : Kp K S g g' H H') (hs : S .fro) (h : LotAt A g H y) : LotAt A g' H' y :=
  ⟨k.ins h.ins (by rw [h.gp]; exact hs), k.at_ _ _ h.vol (by rw [h.gv]; exact hs), by rw [k.tagI h.ins]; exact h.gp, by rw [k.tag _ (some_ne h.vol)]; exact h.gv⟩
theorem PairsAt.kp {a : Addr} {ts : List (Addr × (Nat × Nat))} {ps : List (Nat × Nat)} (k : Kp K S g g' H H') (hs : S .fro) (h : PairsAt g H a ts ps) : PairsAt g' H' a ts ps :=
  ⟨k.at_ _ _ h.lst (by rw [h.ga]; exact hs), fun z hz => k.tup _ _ (h.tup z hz), h.eq, by rw [k.tag _ (some_ne h.lst)]; exact h.ga⟩
theorem BidAt.kp {y : BidG} (k : Kp K S g g' H H') (hs : S .fro) (hp : S (g y.p)) (h : BidAt A g H y) : BidAt A g' H' y :=
  ⟨k.ins h.ins hp, k.at_ _ _ h.lots (by rw [h.gl]; exact hs), k.at_ _ _ h.prices (by rw [h.gp]; exact hs), h.bidders.kp k hs, by rw [k.tag _ (some_ne h.lots)]; exact h.gl, by rw [k.tag _ (some_ne h.prices)]; exact h.gp⟩
theorem ConAt.kp {y : ConG} (k : Kp K S g g' H H') (hs : S .fro) (hp : S (g y.p)) (h : ConAt K A g H y) : ConAt K A g' H' y :=
  ⟨k.ins h.ins hp, k.at_ _ _ h.vol (by rw [h.gv]; exact hs), k.at_ _ _ h.prices (by rw [h.gp]; exact hs), h.bidders.kp k hs, k.sqt _ _ h.factor, by rw [k.tag _ (some_ne h.vol)]; exact h.gv, by rw [k.tag _ (some_ne h.prices)]; exact h.gp⟩
theorem DelAt.kp {y : DelG} (k : Kp K S g g' H H') (hp : S (g y.p)) (h : DelAt A g H y) : DelAt A g' H' y := ⟨k.ins h.ins hp⟩
theorem BilAt.kp {y : BilG} (k : Kp K S g g' H H') (hs : S .fro) (h : BilAt A g H y) : BilAt A g' H' y :=
  ⟨k.ins h.ins (by rw [h.gp]; exact hs), k.at_ _ _ h.am (by rw [h.ga]; exact hs), by rw [k.tagI h.ins]; exact h.gp, by rw [k.tag _ (some_ne h.am)]; exact h.ga⟩
/-- the tags of a sale, of the books -/
def saleT : Tag → Prop
  | .fro | .sale | .lots | .bids | .limits | .bid _ => True
  | _ => False
def bookT : Tag → Prop
  | .fro | .books | .cons | .dels | .bills | .idx | .paid | .con _ | .del _ => True
  | _ => False
theorem SaleAt.bidTag {s : Addr} {G : SaleG} (h : SaleAt A g H s G) {y : BidG} (hy : y ∈ G.bs) : ∃ i, g y.p = .bid i := by
  obtain ⟨i, hi, e⟩ := List.mem_iff_getElem.mp hy
  exact ⟨i, h.gbid i y (by rw [List.getElem?_eq_getElem hi, e])⟩
theorem BooksAt.conTag {b : Addr} {G : BooksG} (h : BooksAt K A g H b G) {y : ConG} (hy : y ∈ G.cs) : ∃ i, g y.p = .con i := by
  obtain ⟨i, hi, e⟩ := List.mem_iff_getElem.mp hy
  exact ⟨i, h.gcon i y (by rw [List.getElem?_eq_getElem hi, e])⟩
theorem BooksAt.delTag {b : Addr} {G : BooksG} (h : BooksAt K A g H b G) {y : DelG} (hy : y ∈ G.ds) : ∃ i, g y.p = .del i := by
  obtain ⟨i, hi, e⟩ := List.mem_iff_getElem.mp hy
  exact ⟨i, h.gdel i y (by rw [List.getElem?_eq_getElem hi, e])⟩
theorem SaleAt.kp {s : Addr} {G : SaleG} (k : Kp K S g g' H H') (hs : ∀ t, saleT t → S t) (h : SaleAt A g H s G) : SaleAt A g' H' s G :=
  ⟨k.ins h.ins (by rw [h.gs]; exact hs _ trivial), k.at_ _ _ h.lots (by rw [h.gl]; exact hs _ trivial), fun y hy => (h.lot y hy).kp k (hs _ trivial), k.at_ _ _ h.bids (by rw [h.gb]; exact hs _ trivial),
    fun y hy => (h.bid y hy).kp k (hs _ trivial) (by obtain ⟨i, e⟩ := h.bidTag hy; rw [e]; exact hs _ trivial), k.at_ _ _ h.lims (by rw [h.gm]; exact hs _ trivial),
    by rw [k.tagI h.ins]; exact h.gs, by rw [k.tag _ (some_ne h.lots)]; exact h.gl, by rw [k.tag _ (some_ne h.bids)]; exact h.gb, by rw [k.tag _ (some_ne h.lims)]; exact h.gm,
    fun i y hy => by rw [k.tagI (h.bid y (List.mem_of_getElem? hy)).ins]; exact h.gbid i y hy⟩
theorem BooksAt.kp {b : Addr} {G : BooksG} (k : Kp K S g g' H H') (hs : ∀ t, bookT t → S t) (h : BooksAt K A g H b G) : BooksAt K A g' H' b G :=
  ⟨k.ins h.ins (by rw [h.gb]; exact hs _ trivial), k.at_ _ _ h.cons (by rw [h.gc]; exact hs _ trivial), fun y hy => (h.con y hy).kp k (hs _ trivial) (by obtain ⟨i, e⟩ := h.conTag hy; rw [e]; exact hs _ trivial),
    k.at_ _ _ h.dels (by rw [h.gd]; exact hs _ trivial), fun y hy => (h.del y hy).kp k (by obtain ⟨i, e⟩ := h.delTag hy; rw [e]; exact hs _ trivial),
    k.at_ _ _ h.bills (by rw [h.gi]; exact hs _ trivial), fun y hy => (h.bill y hy).kp k (hs _ trivial), k.at_ _ _ h.idx (by rw [h.gx]; exact hs _ trivial), k.at_ _ _ h.paid (by rw [h.gp]; exact hs _ trivial),
    by rw [k.tagI h.ins]; exact h.gb, by rw [k.tag _ (some_ne h.cons)]; exact h.gc, by rw [k.tag _ (some_ne h.dels)]; exact h.gd, by rw [k.tag _ (some_ne h.bills)]; exact h.gi, by rw [k.tag _ (some_ne h.idx)]; exact h.gx, by rw [k.tag _ (some_ne h.paid)]; exact h.gp,
    fun i y hy => by rw [k.tagI (h.con y (List.mem_of_getElem? hy)).ins]; exact h.gcon i y hy, fun i y hy => by rw [k.tagI (h.del y (List.mem_of_getElem? hy)).ins]; exact h.gdel i y hy⟩
/-- more is known, new tags for what is new -/
theorem kp_ex (e : Ex H H') (ht : ∀ a, H a ≠ none → g' a = g a) : Kp K S g g' H H' := ⟨fun a o h _ => e a o h, fun a xs h => e a _ h, fun a xs h => ex_t e h, ht⟩
/-- the object at m changes; its tag is not among those -/
theorem kp_upd {m : Addr} {o : HO} (e : Ex H H') (hS : ¬ S (g m)) (hm : ∀ xs, ¬ Rd H m (.tup xs)) (ht : ∀ a, H a ≠ none → g' a = g a) : Kp K S g g' H (upd H' m o) :=
  ⟨fun a o h hs => by rw [upd_ne (fun z => hS (by rw [← z]; exact hs))]; exact e a o h,
   fun a xs h => by rw [upd_ne (fun z => hm xs (by rw [← z]; exact .inl h))]; exact e a _ h,
   fun a xs h => by
    rcases h with h | h
    · have hne : a ≠ m := fun z => hm xs (by rw [← z]; exact h)
      refine .inl ?_
      rcases h with h | ⟨od, h⟩
      · exact .inl (by rw [upd_ne hne]; exact e _ _ h)
      · exact .inr ⟨od, by rw [upd_ne hne]; exact e _ _ h⟩
    · exact .inr h, ht⟩
theorem rd_lst {m : Addr} {xs : List V} (h : H m = some (.lst xs)) : ∀ ys, ¬ Rd H m (.tup ys) := fun ys h2 => by
  rcases h2 with h2 | ⟨od, h2⟩ <;> rw [h] at h2 <;> cases h2
theorem rd_ins {m C dx : Addr} {fs : List (Str × V)} (h : H m = some (.ins C dx fs)) : ∀ ys, ¬ Rd H m (.tup ys) := fun ys h2 => by
  rcases h2 with h2 | ⟨od, h2⟩ <;> rw [h] at h2 <;> cases h2
theorem rd_dk {m : Addr} {xs : List (Key × V)} (h : H m = some (.dK xs)) : ∀ ys, ¬ Rd H m (.tup ys) := fun ys h2 => by
  rcases h2 with h2 | ⟨od, h2⟩ <;> rw [h] at h2 <;> cases h2
/-- a tag set -/
def tagAt (g : Tg) (a : Addr) (t : Tag) : Tg := fun b => if b = a then t else g b
theorem tagAt_same {a : Addr} {t : Tag} : tagAt g a t a = t := if_pos rfl
theorem tagAt_ne {a b : Addr} {t : Tag} (h : b ≠ a) : tagAt g a t b = g b := if_neg h
end
/-! ### the desk -/
structure DeskG where
  p : Addr
  day : Nat
  sl : Option (Addr × SaleG)
  b : Addr
  bk : BooksG
def saleV : Option (Addr × SaleG) → V
  | none => .non
  | some z => .ref z.1
structure DeskAt (K : PySem.W.Frag) (A : Adr) (g : Tg) (H : Hp) (G : DeskG) : Prop where
  ins : Ins H G.p A.Desk (deskF (G.day : Int) (saleV G.sl) G.b)
  sale : ∀ z, G.sl = some z → SaleAt A g H z.1 z.2
  books : BooksAt K A g H G.b G.bk
  gd : g G.p = .desk
structure WDesk (G : DeskG) : Prop where
  day : G.day ≤ 99999
  sale : ∀ z, G.sl = some z → WSale z.2.sale
  books : WBooks G.bk
/-- what the spec's state is -/
structure Same (G : DeskG) (st : State) : Prop where
  day : st.day = G.day
  sale : st.sale = G.sl.map fun z => z.2.sale
  cons : st.contracts = G.bk.cs.map (·.c)
  dels : st.deliveries = G.bk.ds.map (·.d)
  bills : st.bills = G.bk.bs.map (·.b)
  idx : st.indexes.Perm G.bk.xs
  pay : st.payments.map (fun n : Nat => (n : Int)) = G.bk.paid
structure Rep (K : PySem.W.Frag) (A : Adr) (g : Tg) (H : Hp) (G : DeskG) (st : State) : Prop where
  at_ : DeskAt K A g H G
  wf : WDesk G
  same : Same G st
/-- what must stay: all that has no tag -/
def un (g : Tg) (H : Hp) : Hp := fun a => if g a = .no then H a else none
section
variable {K : PySem.W.Frag} {A : Adr} {g g' : Tg} {H H' : Hp} {G : DeskG} {st : State}
theorem DeskAt.up (e : Ex H H') (h : DeskAt K A g H G) : DeskAt K A g H' G := ⟨h.ins.up e, fun z hz => (h.sale z hz).up e, h.books.up e, h.gd⟩
theorem Rep.up (e : Ex H H') (h : Rep K A g H G st) : Rep K A g H' G st := ⟨h.at_.up e, h.wf, h.same⟩
theorem un_none {a : Addr} (h : g a ≠ .no) : un g H a = none := if_neg h
theorem un_ex : Ex (un g H) H := fun a o h => by
  unfold un at h
  split at h
  · exact h
  · cases h
theorem un_fresh {a : Addr} (h : un g H a = none) (hg : g a = .no) : H a = none := by
  unfold un at h
  rw [if_pos hg] at h
  exact h
/-- what a desk's method hands back, and how the state then is -/
def Pm (K : PySem.W.Frag) (A : Adr) (g : Tg) (H : Hp) (p : Addr) (r : State × List Int) : V → Hp → Prop := fun v Hk => ∃ g' G', (∀ a, un g H a ≠ none → g' a = .no) ∧ G'.p = p ∧ Rep K A g' Hk G' r.1 ∧ ∃ q, v = .ref q ∧ un g H q = none ∧ Hk q = some (.lst (r.2.map V.int))
def spM (K : PySem.W.Frag) (A : Adr) (args : List V → Hp → AuctionSpec.Call → Prop) : Sp := fun vs H Q _ => ∃ (ws : List V) (g : Tg) (G : DeskG) (st : State) (H0 : Hp) (c : AuctionSpec.Call), vs = .ref G.p :: ws ∧ Ex H0 H ∧ Rep K A g H0 G st ∧ args ws H0 c ∧
  ∀ v Hk H2, Ex (un g H) H2 → Ex Hk H2 → Pm K A g H G.p (AuctionSpec.step st c) v Hk → Q v H2
/-- `return xs` in the state reached -/
theorem sj_done {te : TE} {σ : L2.St} {N : L2.St → Hp → Prop} {p : Addr} {r : State × List Int} (h : EvL te σ H' (r.2.map V.int)) (hr : Rep K A g' H' G r.1) (hg : ∀ a, un g H a ≠ none → g' a = .no) (hp : G.p = p) : Sj (un g H) (tRet te) σ H' N (Pm K A g H p r) :=
  sj_retL h fun q H1 hb _ e hq => ⟨g', G, hg, hp, hr.up e, q, rfl, hb, hq⟩
theorem un_tag {a : Addr} (h : un g H a ≠ none) : g a = .no := by
  unfold un at h
  split at h
  · assumption
  · exact absurd rfl h
theorem sj_same {te : TE} {σ : L2.St} {N : L2.St → Hp → Prop} {r : State × List Int} (h : EvL te σ H' (r.2.map V.int)) (hr : Rep K A g H' G st) (hs : r.1 = st) : Sj (un g H) (tRet te) σ H' N (Pm K A g H G.p r) :=
  sj_done h (by rw [hs]; exact hr) (fun a ha => un_tag ha) rfl
/-- [k] -/
theorem el_one {i : Int} {σ : L2.St} : EvL (tLst (tCons (tC (.int i)) tNil)) σ H ([i].map V.int) := el_lst (ea_cons ev_c ea_nil) (by show 1 ≤ 100000; decide)
theorem sj_code {i : Int} {σ : L2.St} {N : L2.St → Hp → Prop} {r : State × List Int} (hr : Rep K A g H' G st) (h : r = (st, [i])) : Sj (un g H) (tRet (tLst (tCons (tC (.int i)) tNil))) σ H' N (Pm K A g H G.p r) := by
  subst h
  exact sj_same el_one hr rfl
end
section
variable {P : Program} {w : World} {K : PySem.W.Frag} {mg : Str → Option Value} {base : Heap} {A : Adr}
theorem mokM {C : Addr} {x qual : Str} {st : Stmt} {N ps : List Str} {k : Nat} {args : List V → Hp → AuctionSpec.Call → Prop} (M : MethAt K C x qual st) (S : FnScope N ps (defScope st)) (len : ∀ ws H c, args ws H c → ws.length + 1 = ps.length)
    (bind : ∀ (kV doc pm : Value) (an : Option Addr) (cdv ct : Value) (us : List Value), us.length = ps.length → bindArgs (PySem.W.fnOf x qual (defArgs st) (defBody st) (defScope st) .none kV doc pm an cdv ct) ⟨us, []⟩ = pure (ps.zip us))
    (hbody : ∀ (f : Addr) (cdv : Value) (A' : Around) (outer : List Env) (s : Shared) (H : Hp) (E : XK), Room k (A'.deeper (envOfC qual (defScope st) s.heap.objs.size f cdv)) →
      ∃ t, PSs (cxOf CX0 P w K mg base N qual (defScope st) f cdv A' outer s H E).nox (defBody st) t ∧ ∀ ws g G st H0 c, Ex H0 H → Rep K A g H0 G st → args ws H0 c → Sj (un g H) t (start N (.ref G.p :: ws)) H0 (fun _ _ => False) (Pm K A g H G.p (AuctionSpec.step st c))) :
    MOk P w K mg base (k + 1) C x ps (spM K A args) :=
  mok M S (fun vs H Q E ⟨ws, g, G, st, H0, c, ev, _, _, ha, _⟩ => by rw [ev]; exact len ws H0 c ha) bind fun f cdv A' outer s H vs Q E hr ⟨ws, g, G, st, H0, c, ev, e, hrep, ha, q⟩ => by
    obtain ⟨t, h1, h2⟩ := hbody f cdv A' outer s H E hr
    subst ev
    exact ⟨t, h1, h2 ws g G st H0 c e hrep ha H e un_ex _ (fun _ _ _ _ _ z => z.elim) fun v Hk H' ek eb hv => q v Hk H' eb ek hv⟩
/-! ### is_sealed, is_bid, is_contract -/
def p_is_sealed (K : PySem.W.Frag) (A : Adr) : PreT := fun vs H R => ∃ (g : Tg) (G : DeskG) (z : Addr × SaleG), vs = [.ref G.p] ∧ DeskAt K A g H G ∧ G.sl = some z ∧ R = isV (.bl (decide (G.day ≤ z.2.cd)))
abbrev sp_Desk_is_sealed (K : PySem.W.Frag) (A : Adr) : Sp := spP (p_is_sealed K A)
theorem fld_sale (T : Top K mg A) {g : Tg} {H : Hp} {G : DeskG} {z : Addr × SaleG} {σ : L2.St} {te : TE} (hG : DeskAt K A g H G) (hz : G.sl = some z) (h : Ev te σ H (.ref G.p)) : Ev (tFld K te "sale") σ H (.ref z.1) :=
  (fld_Desk_sale T h hG.ins).to (by rw [hz]; rfl)
theorem sc_Desk_is_sealed : FnScope ["self"] ["self"] (defScope (inClass (top 46) 1)) := ⟨rfl, rfl, rfl, by decide +kernel, rfl, by decide +kernel, by decide +kernel⟩
theorem ok_Desk_is_sealed (T : Top K mg A) : MOk P w K mg base 1 A.Desk "is_sealed" ["self"] (sp_Desk_is_sealed K A) := by
  refine mokP T.mDesk_is_sealed sc_Desk_is_sealed (fun vs H R ⟨_, _, _, e, _⟩ => by rw [e]; rfl) (fun _ _ _ _ _ _ us hl => match us, hl with | [_], _ => rfl) fun f cdv A' outer s' H E hr => ⟨_, (pss_one (ps_ret (pe_cmpR op_le (pe_fld (pv 0) rfl) (pe_fld (pe_fld (pv 0) rfl) rfl) (nomark _)))), ?_⟩
  rintro vs H0 R e ⟨g, G, z, rfl, hG, hz, rfl⟩
  refine sj_ret ((ev_I0 (i := (G.day : Int)) (j := (z.2.cd : Int)) (fld_Desk_day T (ev_var rfl) hG.ins) (fld_Sale_closing_day T (fld_sale T hG hz (ev_var rfl)) (hG.sale z hz).ins)).to ?_) rfl
  exact congrArg V.bl (decide_eq_decide.mpr (by omega))
def isBidB (G : DeskG) (n : Nat) : Bool := match G.sl with
  | none => false
  | some z => decide (n < z.2.bs.length)
def p_is_bid (K : PySem.W.Frag) (A : Adr) : PreT := fun vs H R => ∃ (g : Tg) (G : DeskG) (n : Nat), vs = [.ref G.p, nV n] ∧ DeskAt K A g H G ∧ R = isV (.bl (isBidB G n))
abbrev sp_Desk_is_bid (K : PySem.W.Frag) (A : Adr) : Sp := spP (p_is_bid K A)
theorem sc_Desk_is_bid : FnScope ["self", "bid"] ["self", "bid"] (defScope (inClass (top 46) 2)) := ⟨rfl, rfl, rfl, by decide +kernel, rfl, by decide +kernel, by decide +kernel⟩
theorem ok_Desk_is_bid (T : Top K mg A) : MOk P w K mg base 1 A.Desk "is_bid" ["self", "bid"] (sp_Desk_is_bid K A) := by
  refine mokP T.mDesk_is_bid sc_Desk_is_bid (fun vs H R ⟨_, _, _, e, _⟩ => by rw [e]; rfl) (fun _ _ _ _ _ _ us hl => match us, hl with | [_, _], _ => rfl) fun f cdv A' outer s' H E hr => ⟨_, (pss_one (ps_ret (pe_and (pe_cmpR op_notN1 (pe_fld (pv 0) rfl) pe_non (nomark _)) (pe_one (pe_chain op_le op_lt pe_int (pv 1) (pe_callB cr_lenS (by rfl) T.b_len boot_len (pa_cons (pe_fld (pe_fld (pv 0) rfl) rfl) pa_nil))))))), ?_⟩
  rintro vs H0 R e ⟨g, G, n, rfl, hG, rfl⟩
  refine sj_ret (v := .bl (isBidB G n)) ?_ rfl
  cases hz : G.sl with
  | none =>
    refine (ev_andV (a := false) (b := false) ((ev_notN (fld_Desk_sale T (ev_var rfl) hG.ins)).to (by rw [hz]; rfl)) fun h => absurd h (by decide)).to ?_
    unfold isBidB
    rw [hz]
    rfl
  | some z =>
    have hS := hG.sale z hz
    refine (ev_andV (a := true) (b := true && decide (n < z.2.bs.length)) ((ev_notN (fld_Desk_sale T (ev_var rfl) hG.ins)).to (by rw [hz]; rfl)) fun _ => ev_chain (i := 0) (j := (n : Int)) (k := ((z.2.bs.length : Nat) : Int)) ev_c (ev_var rfl)
      ((ev_lenL (fld_Sale_bids T (fld_sale T hG hz (ev_var rfl)) hS.ins) hS.bids).to (by rw [List.length_map])) (congrArg V.bl (decide_eq_true (by omega))) (congrArg V.bl (decide_eq_decide.mpr (by omega)))).to ?_
    unfold isBidB
    rw [hz]
    rfl
def p_is_contract (K : PySem.W.Frag) (A : Adr) : PreT := fun vs H R => ∃ (g : Tg) (G : DeskG) (n : Nat), vs = [.ref G.p, nV n] ∧ DeskAt K A g H G ∧ R = isV (.bl (decide (n < G.bk.cs.length)))
abbrev sp_Desk_is_contract (K : PySem.W.Frag) (A : Adr) : Sp := spP (p_is_contract K A)
theorem sc_Desk_is_contract : FnScope ["self", "contract"] ["self", "contract"] (defScope (inClass (top 46) 3)) := ⟨rfl, rfl, rfl, by decide +kernel, rfl, by decide +kernel, by decide +kernel⟩
theorem ok_Desk_is_contract (T : Top K mg A) : MOk P w K mg base 1 A.Desk "is_contract" ["self", "contract"] (sp_Desk_is_contract K A) := by
  refine mokP T.mDesk_is_contract sc_Desk_is_contract (fun vs H R ⟨_, _, _, e, _⟩ => by rw [e]; rfl) (fun _ _ _ _ _ _ us hl => match us, hl with | [_, _], _ => rfl) fun f cdv A' outer s' H E hr => ⟨_, (pss_one (ps_ret (pe_chain op_le op_lt pe_int (pv 1) (pe_callB cr_lenS (by rfl) T.b_len boot_len (pa_cons (pe_fld (pe_fld (pv 0) rfl) rfl) pa_nil))))), ?_⟩
  rintro vs H0 R e ⟨g, G, n, rfl, hG, rfl⟩
  exact sj_ret ((ev_chain (i := 0) (j := (n : Int)) (k := ((G.bk.cs.length : Nat) : Int)) ev_c (ev_var rfl)
      ((ev_lenL (fld_Books_contracts T (fld_Desk_books T (ev_var rfl) hG.ins) hG.books.ins) hG.books.cons).to (by rw [List.length_map])) (congrArg V.bl (decide_eq_true (by omega))) (congrArg V.bl (decide_eq_decide.mpr (by omega)))).to (congrArg V.bl (Bool.true_and _))) rfl
end
end TB
/-! # The desk: what is handed in -/
namespace TB
open PySem PySem.Spec PyProof.Rows L2 Evl
open TimberAuction (Lot Bid Sale Contract Delivery Bill)
open TBM
open AuctionSpec (State)

/-! ### twice among some -/
theorem erase_le : ∀ (n : Nat) (l : List Nat), l.length ≤ n → l.eraseDups.length ≤ l.length ∧ (l.eraseDups.length = l.length ↔ l.Nodup)
  | 0, l, h => by
    have : l = [] := List.eq_nil_of_length_eq_zero (by omega)
    subst this
    exact ⟨Nat.le_refl _, by simp⟩
  | n + 1, [], _ => ⟨Nat.le_refl _, by simp⟩
  | n + 1, a :: l, h => by
    have hf : (l.filter fun b => !b == a).length ≤ l.length := List.length_filter_le _ _
    have hl : l.length ≤ n := by simpa using h
    obtain ⟨h1, h2⟩ := erase_le n (l.filter fun b => !b == a) (by omega)
    rw [List.eraseDups_cons, List.length_cons, List.length_cons, List.nodup_cons]
    refine ⟨by omega, fun e => ?_, fun ⟨e1, e2⟩ => ?_⟩
    · have h3 : (l.filter fun b => !b == a).length = l.length := by omega
      have h4 : ∀ b ∈ l, (!b == a) = true := List.length_filter_eq_length_iff.mp h3
      have h5 : l.filter (fun b => !b == a) = l := List.filter_eq_self.mpr h4
      rw [h5] at h2 e
      exact ⟨fun hm => by simpa using h4 a hm, h2.mp (by omega)⟩
    · have h4 : ∀ b ∈ l, (!b == a) = true := fun b hb => by
        have : b ≠ a := fun z => e1 (by rw [← z]; exact hb)
        simpa using this
      have h5 : l.filter (fun b => !b == a) = l := List.filter_eq_self.mpr h4
      rw [h5] at h2 ⊢
      rw [h2.mpr e2]
theorem dup_iff (l : List Nat) : AuctionSpec.hasDuplicates l = decide (¬ l.Nodup) := by
  obtain ⟨h1, h2⟩ := erase_le _ l (Nat.le_refl _)
  unfold AuctionSpec.hasDuplicates
  refine decide_eq_decide.mpr ?_
  rw [← h2]
  omega
theorem dedup_le : ∀ (l acc : List Int), (l.foldl step_dedup acc).length ≤ acc.length + l.length ∧ ((l.foldl step_dedup acc).length = acc.length + l.length ↔ l.Nodup ∧ ∀ x ∈ l, x ∉ acc)
  | [], acc => ⟨by simp, by simp⟩
  | a :: l, acc => by
    rw [List.foldl_cons]
    by_cases h : a ∈ acc
    · have e : step_dedup acc a = acc := by
        unfold step_dedup
        rw [if_pos (by simpa using h)]
      rw [e]
      have := (dedup_le l acc).1
      refine ⟨by rw [List.length_cons]; omega, fun e2 => ?_, fun e2 => absurd h (e2.2 a List.mem_cons_self)⟩
      rw [List.length_cons] at e2
      omega
    · have e : step_dedup acc a = acc ++ [a] := by
        unfold step_dedup
        rw [if_neg (by simpa using h)]
      rw [e]
      obtain ⟨h1, h2⟩ := dedup_le l (acc ++ [a])
      rw [List.length_append, List.length_singleton] at h1 h2
      refine ⟨by rw [List.length_cons]; omega, fun e2 => ?_, fun e2 => ?_⟩
      · rw [List.length_cons] at e2
        obtain ⟨h3, h4⟩ := h2.mp (by omega)
        refine ⟨List.nodup_cons.mpr ⟨fun hm => h4 a hm (by simp), h3⟩, fun x hx => ?_⟩
        rcases List.mem_cons.mp hx with hx | hx
        · rw [hx]; exact h
        · exact fun hxa => h4 x hx (by simp [hxa])
      · obtain ⟨e3, e4⟩ := e2
        obtain ⟨e5, e6⟩ := List.nodup_cons.mp e3
        have := h2.mpr ⟨e6, fun x hx hxa => by
          rcases List.mem_append.mp hxa with hxa | hxa
          · exact e4 x (List.mem_cons_of_mem _ hx) hxa
          · exact e5 (by rw [← List.mem_singleton.mp hxa]; exact hx)⟩
        rw [List.length_cons]
        omega
theorem met_eq (ns : List Int) : met ns = ns.foldl step_dedup [] := by
  unfold met PyProof.Rows.firstMet
  congr 1
  refine List.ext_getElem (by simp) fun i h1 h2 => ?_
  simp [List.getD_eq_getElem?_getD, List.getElem?_eq_getElem h2]
theorem met_le (ns : List Int) : (met ns).length ≤ ns.length := by
  have := (dedup_le ns []).1
  rw [met_eq]
  simpa using this
theorem met_dup (l : List Nat) : decide ((((met (l.map fun n : Nat => (n : Int))).length : Nat) : Int) < ((l.length : Nat) : Int)) = AuctionSpec.hasDuplicates l := by
  rw [dup_iff]
  refine decide_eq_decide.mpr ?_
  obtain ⟨h1, h2⟩ := dedup_le (l.map fun n : Nat => (n : Int)) []
  rw [met_eq]
  simp only [List.length_nil, Nat.zero_add, List.length_map, List.not_mem_nil, not_false_eq_true, implies_true, and_true] at h1 h2
  have h3 : (l.map fun n : Nat => (n : Int)).Nodup ↔ l.Nodup := by
    rw [List.nodup_iff_pairwise_ne, List.nodup_iff_pairwise_ne, List.pairwise_map]
    constructor
    · exact fun h => h.imp fun {a b} h e => h (by rw [e])
    · exact fun h => h.imp fun {a b} h e => h (by omega)
  rw [← h3, ← h2]
  omega
/-! ### pairs -/
theorem alt_cons2 {α : Type} {st : Nat} (h : st ≤ 1) (a b : α) (l : List α) : alt st (a :: b :: l) = (if st = 0 then a else b) :: alt st l := by
  unfold alt
  have e : ((a :: b :: l).length - st + 1) / 2 = (l.length - st + 1) / 2 + 1 := by
    rw [List.length_cons, List.length_cons]
    omega
  rw [e, List.range_succ_eq_map, List.filterMap_cons]
  have e0 : (a :: b :: l)[st + 2 * 0]? = some (if st = 0 then a else b) := by
    rcases (show st = 0 ∨ st = 1 by omega) with h | h <;> subst h <;> rfl
  rw [e0, List.filterMap_map]
  simp only
  congr 1
theorem alt_pairs : ∀ (m : Nat) (l : List Nat), l.length = 2 * m → alt 0 l = (AuctionSpec.pairsOf l).map (·.1) ∧ alt 1 l = (AuctionSpec.pairsOf l).map (·.2)
  | 0, [], _ => ⟨rfl, rfl⟩
  | 0, a :: l, h => by simp at h
  | m + 1, [], h => by simp at h
  | m + 1, [a], h => by simp at h; omega
  | m + 1, a :: b :: l, h => by
    obtain ⟨h1, h2⟩ := alt_pairs m l (by simp at h; omega)
    rw [alt_cons2 (by decide), alt_cons2 (by decide), h1, h2]
    exact ⟨rfl, rfl⟩
theorem alt_map {α β : Type} (f : α → β) (st : Nat) (l : List α) : alt st (l.map f) = (alt st l).map f := by
  unfold alt
  rw [List.length_map, List.map_filterMap]
  refine filterMap_same fun k _ => List.getElem?_map
theorem pairs_length : ∀ (m : Nat) (l : List Nat), l.length = 2 * m → (AuctionSpec.pairsOf l).length = m
  | 0, [], _ => rfl
  | 0, a :: l, h => by simp at h
  | m + 1, [], h => by simp at h
  | m + 1, [a], h => by simp at h; omega
  | m + 1, a :: b :: l, h => by
    show (AuctionSpec.pairsOf l).length + 1 = m + 1
    rw [pairs_length m l (by simp at h; omega)]
theorem pairs_at : ∀ (m : Nat) (l : List Nat), l.length = 2 * m → ∀ k, k < m → (AuctionSpec.pairsOf l)[k]? = some (l.getD (2 * k) 0, l.getD (2 * k + 1) 0)
  | 0, _, _, k, h => absurd h (Nat.not_lt_zero k)
  | m + 1, [], h, _, _ => by simp at h
  | m + 1, [a], h, _, _ => by simp at h; omega
  | m + 1, a :: b :: l, h, k, hk => by
    cases k with
    | zero => rfl
    | succ k =>
      show (AuctionSpec.pairsOf l)[k]? = _
      rw [pairs_at m l (by simp at h; omega) k (by omega)]
      rfl
section
variable {P : Program} {w : World} {K : PySem.W.Frag} {mg : Str → Option Value} {base : Heap} {A : Adr}
theorem et_within {lo x hi : Nat} {σ : L2.St} {H : Hp} {ta tb tc : TE} (ha : Ev ta σ H (nV lo)) (hb : Ev tb σ H (nV x)) (hc : Ev tc σ H (nV hi)) : Ev (tChain (rI0 fun i j => .bl (decide (i ≤ j))) (rI0 fun i j => .bl (decide (i ≤ j))) ta tb tc) σ H (.bl (AuctionSpec.inRange lo hi x)) :=
  (ev_chain (p := decide (lo ≤ x)) (q := decide (x ≤ hi)) ha hb hc (congrArg V.bl (decide_eq_decide.mpr (by omega))) (congrArg V.bl (decide_eq_decide.mpr (by omega)))).to rfl
theorem et_below {x hi : Nat} {σ : L2.St} {H : Hp} {ta tb tc : TE} (ha : Ev ta σ H (nV 0)) (hb : Ev tb σ H (nV x)) (hc : Ev tc σ H (nV hi)) : Ev (tChain (rI0 fun i j => .bl (decide (i ≤ j))) (rI0 fun i j => .bl (decide (i < j))) ta tb tc) σ H (.bl (decide (x < hi))) :=
  (ev_chain (p := true) (q := decide (x < hi)) ha hb hc (congrArg V.bl (decide_eq_true (by omega))) (congrArg V.bl (decide_eq_decide.mpr (by omega)))).to rfl
theorem empty_all {l : List Nat} (p : Nat → Bool) : ((l.filter fun x => !p x).map nV).isEmpty = l.all p := by
  induction l with
  | nil => rfl
  | cons a l ih =>
    rw [List.all_cons]
    by_cases h : p a = true
    · rw [List.filter_cons_of_neg (by simp [h]), ih, h, Bool.true_and]
    · have h : p a = false := by simpa using h
      rw [List.filter_cons_of_pos (by simp [h]), h]
      rfl
def p_are_grades : PreT := fun vs H R => ∃ (a : Addr) (ns : List Nat) (most : Nat), vs = [.ref a, nV most] ∧ NL H a ns ∧ ns.length ≤ 1000 ∧ R = isV (.bl (AuctionSpec.inRange 1 10 ns.length && AuctionSpec.allAtMost most ns))
theorem sc_are_grades : FnScope ["some", "most", "one"] ["some", "most"] (defScope (top 43)) := ⟨rfl, rfl, rfl, by decide +kernel, rfl, by decide +kernel, by decide +kernel⟩
theorem ok_are_grades (T : Top K mg A) : FOk P w K mg base 1 "are_grades" ["some", "most"] (spP p_are_grades) := by
  refine fokP T.f_are_grades sc_are_grades (fun vs H R ⟨_, _, _, e, _⟩ => by rw [e]; rfl) (fun _ _ _ _ _ _ us hl => match us, hl with | [_, _], _ => rfl) fun f cdv A' outer s' H E hr => ⟨_, (pss_one (ps_ret (pe_and (pe_chain op_le op_le pe_int (pe_callB cr_lenS (by rfl) T.b_len boot_len (pa_cons (pv 0) pa_nil)) (pe_k rfl T.k_GRADES)) (pe_one (pe_cmpR (op_eqN (hu1 hr)) (pe_lc (own := [("one", 2)]) (g := (gName 2)) (tt := (tNot (tTest (tChain (rI0 fun i j => .bl (decide (i ≤ j))) (rI0 fun i j => .bl (decide (i ≤ j))) (tC (.int (0))) (tVar 2) (tVar 1))))) (te := (tVar 2)) (by rfl) sc_are_grades.nd (pi_list (pv 0)) (blkOk_by (own := [("one", 2)]) (N := ["some", "most", "one"]) (sc := defScope (top 43)) (by decide +kernel)) (fun _ _ _ _ _ => (pg_name (i := 2) sc_are_grades.nd rfl (by first | exact Or.inl rfl | exact Or.inr rfl))) (fun _ _ _ _ _ => (pts_one (pt_not (pt_chain op_le op_le pe_int (pv 2) (pv 1))))) (fun _ _ _ _ _ => (pv 2))) (pe_lst pa_nil) (nomark _)))))), ?_⟩
  rintro vs H0 R e ⟨a, ns, most, rfl, hN, hl, rfl⟩
  refine sj_ret (v := .bl (AuctionSpec.inRange 1 10 ns.length && AuctionSpec.allAtMost most ns)) (ev_andV (et_within (lo := 1) ev_c ((ev_lenL (ev_var rfl) hN).to (by rw [List.length_map]; rfl)) ev_c) fun _ => ?_) rfl
  refine (ev_eqN (evl_lc (fun x => !decide (x ≤ most)) nV (evi_list (K := K) ns nV (ev_var rfl) (sq_of hN)) up_l (sq_of hN) (by omega) ?_)).to ?_
  · rintro x v H1 hx e1 rfl
    refine ⟨_, evg_name, rfl, et_not (et_test ((et_within (lo := 0) ev_c (ev_var rfl) (ev_var (v := nV most) rfl)).to ?_)), fun _ => ev_var rfl⟩
    exact congrArg V.bl (by unfold AuctionSpec.inRange; simp)
  · rw [empty_all]
    rfl
def p_are_bidders : PreT := fun vs H R => ∃ (a : Addr) (ns : List Nat), vs = [.ref a] ∧ NL H a ns ∧ ns.length ≤ 1000 ∧ R = isV (.bl (AuctionSpec.isBidderList ns))
theorem el_alt {K : PySem.W.Frag} {st : Nat} {σ : L2.St} {H : Hp} {te : TE} {a : Addr} {xs : List V} (h : Ev te σ H (.ref a)) (hs : H a = some (.lst xs)) : EvL (tAlt K st te) σ H (alt st xs) := fun H1 e Q q => h H1 e _ fun H2 e2 =>
  ⟨a, xs, rfl, sq_of ((e.trans e2) _ _ hs), fun p hp => q p _ (fresh_back e2 hp) (e2.trans (Ex.new hp)) upd_same⟩
theorem bindLcL {K : PySem.W.Frag} {σ : L2.St} {H : Hp} {tl te : TE} {g : TG} {tt : TT} {vs : List Nat} {xs zs : List V} (h : EvL tl σ H xs) (k : ∀ p H1, Ex H H1 → H1 p = some (.lst xs) → EvL (tLc (iList K (tC (.ref p))) g tt te vs) σ H1 zs) : EvL (tLc (iList K tl) g tt te vs) σ H zs :=
  EvLP.l (bindLc (R := isL xs) h.p fun x H1 e1 ⟨p, ev, hp⟩ => by subst ev; exact (k p H1 e1 hp).lp) fun _ _ h => h
theorem sc_are_bidders : FnScope ["some", "names", "one"] ["some"] (defScope (top 44)) := ⟨rfl, rfl, rfl, by decide +kernel, rfl, by decide +kernel, by decide +kernel⟩
theorem ok_are_bidders (T : Top K mg A) : FOk P w K mg base 1 "are_bidders" ["some"] (spP p_are_bidders) := by
  refine fokP T.f_are_bidders sc_are_bidders (fun vs H R ⟨_, _, e, _⟩ => by rw [e]; rfl) (fun _ _ _ _ _ _ us hl => match us, hl with | [_], _ => rfl) fun f cdv A' outer s' H E hr => ⟨_, (pss_cons (ps_if (pt_cmpR op_notIn_seq (pe_callB cr_lenS (by rfl) T.b_len boot_len (pa_cons (pv 0) pa_nil)) (pe_tup (pa_cons pe_int (pa_cons pe_int (pa_cons pe_int (pa_cons pe_int pa_nil))))) (by with_unfolding_all rfl)) (pss_one (ps_ret pe_bl)) pss_nil)
      (pss_cons (ps_setLc (i := 1) (own := [("one", 2)]) (g := (gName 2)) (tt := (tNot (tTest (tChain (rI0 fun i j => .bl (decide (i ≤ j))) (rI0 fun i j => .bl (decide (i < j))) (tC (.int (0))) (tVar 2) (tC (.int (16))))))) (te := (tVar 2)) (by rfl) sc_are_bidders.nd rfl rfl (sw_true rfl rfl rfl (by decide +kernel)) (pi_list (pe_alt0 (pv 0))) (blkOk_by (own := [("one", 2)]) (N := ["some", "names", "one"]) (sc := defScope (top 44)) (by decide +kernel)) (fun _ _ _ _ _ => (pg_name (i := 2) sc_are_bidders.nd rfl (by first | exact Or.inl rfl | exact Or.inr rfl))) (fun _ _ _ _ _ => (pts_one (pt_not (pt_chain op_le op_lt pe_int (pv 2) (pe_k rfl T.k_BIDDERS))))) (fun _ _ _ _ _ => (pv 2)))
      (pss_one (ps_ret (pe_and (pe_cmpR (op_eqN (hu1 hr)) (pv 1) (pe_lst pa_nil) (nomark _)) (pe_one (pe_cmpR (op_eqN (hu1 hr)) (pe_lc (own := [("one", 2)]) (g := (gName 2)) (tt := (tNot (tTest (tChain (rI0 fun i j => .bl (decide (i ≤ j))) (rI0 fun i j => .bl (decide (i ≤ j))) (tC (.int (1))) (tVar 2) (tC (.int (1000))))))) (te := (tVar 2)) (by rfl) sc_are_bidders.nd (pi_list (pe_alt1 (pv 0))) (blkOk_by (own := [("one", 2)]) (N := ["some", "names", "one"]) (sc := defScope (top 44)) (by decide +kernel)) (fun _ _ _ _ _ => (pg_name (i := 2) sc_are_bidders.nd rfl (by first | exact Or.inl rfl | exact Or.inr rfl))) (fun _ _ _ _ _ => (pts_one (pt_not (pt_chain op_le op_le pe_int (pv 2) (pe_k rfl T.k_MOST_WEIGHT))))) (fun _ _ _ _ _ => (pv 2))) (pe_lst pa_nil) (nomark _)))))))), ?_⟩
  rintro vs H0 R e ⟨a, ns, rfl, hN, hl, rfl⟩
  have hin : inV (nV ns.length) [.int 2, .int 4, .int 6, .int 8] = [2, 4, 6, 8].contains ns.length := inV_nat ns.length [2, 4, 6, 8]
  refine sq_ifRet (et_test ((ev_niU (xs := [.int 2, .int 4, .int 6, .int 8]) ((ev_lenL (ev_var rfl) hN).to (show V.int _ = nV ns.length by rw [List.length_map]; rfl)) (eu_tup (ea_cons ev_c (ea_cons ev_c (ea_cons ev_c (ea_cons ev_c ea_nil)))) (by show 4 ≤ 100000; decide)) rfl rfl).to (congrArg V.bl (congrArg Bool.not hin)))) (fun hc => ?_) (fun hc => ?_)
  · refine sj_ret ev_c ?_
    show V.bl false = V.bl _
    unfold AuctionSpec.isBidderList
    have : [2, 4, 6, 8].contains ns.length = false := by
      cases h : [2, 4, 6, 8].contains ns.length with
      | false => rfl
      | true => rw [h] at hc; exact absurd hc (by decide)
    rw [this]
    rfl
  · have hin : [2, 4, 6, 8].contains ns.length = true := by
      cases h : [2, 4, 6, 8].contains ns.length with
      | true => rfl
      | false => rw [h] at hc; exact absurd hc (by decide)
    obtain ⟨m, hm⟩ : ∃ m, ns.length = 2 * m := by
      simp at hin
      exact ⟨ns.length / 2, by omega⟩
    obtain ⟨h0, h1⟩ := alt_pairs m ns hm
    have hpl := pairs_length m ns hm
    refine sq_asgL (xs := (((AuctionSpec.pairsOf ns).map (·.1)).filter fun x => !decide (x ≤ 15)).map nV) (bindLcL (el_alt (ev_var rfl) hN) fun p H1 e1 hp => ?_) fun q H1 _ _ e1 hq => ?_
    · rw [alt_map, h0] at hp
      refine evl_lc (fun x => !decide (x ≤ 15)) nV (evi_list (K := K) _ nV ev_c (sq_of hp)) up_l (sq_of hp) (by rw [List.length_map]; omega) ?_
      rintro x v H2 hx e2 rfl
      refine ⟨_, evg_name, rfl, et_not (et_test ((et_below ev_c (ev_var rfl) (ev_c (v := nV 16))).to ?_)), fun _ => ev_var rfl⟩
      exact congrArg V.bl (decide_eq_decide.mpr (by omega))
    · refine sj_ret (v := .bl (AuctionSpec.isBidderList ns)) ((ev_andV (ev_eqA (ev_var rfl) hq) fun _ => ev_eqN (xs := (((AuctionSpec.pairsOf ns).map (·.2)).filter fun x => !(AuctionSpec.inRange 1 1000 x)).map nV) (bindLcL (el_alt (ev_var rfl) (e1 _ _ hN)) fun p H2 e2 hp => ?_)).to ?_) rfl
      · rw [alt_map, h1] at hp
        refine evl_lc (fun x => !(AuctionSpec.inRange 1 1000 x)) nV (evi_list (K := K) _ nV ev_c (sq_of hp)) up_l (sq_of hp) (by rw [List.length_map]; omega) ?_
        rintro x v H3 hx e3 rfl
        exact ⟨_, evg_name, rfl, et_not (et_test (et_within (lo := 1) ev_c (ev_var rfl) (ev_c (v := nV 1000)))), fun _ => ev_var rfl⟩
      · rw [empty_all, empty_all]
        unfold AuctionSpec.isBidderList
        rw [hin, Bool.true_and]
        refine congrArg V.bl ?_
        rw [List.all_map, List.all_map, Bool.eq_iff_iff]
        simp only [Bool.and_eq_true, List.all_eq_true, Function.comp]
        exact ⟨fun h x hx => ⟨h.1 x hx, h.2 x hx⟩, fun h => ⟨fun x hx => (h x hx).1, fun x hx => (h x hx).2⟩⟩
def p_has_twice (K : PySem.W.Frag) : PreT := fun vs H R => ∃ (a : Addr) (ns : List Nat), vs = [.ref a] ∧ SqL K H a (ns.map nV) ∧ ns.length ≤ 1000 ∧ R = isV (.bl (AuctionSpec.hasDuplicates ns))
theorem sc_has_twice : FnScope ["some"] ["some"] (defScope (top 45)) := ⟨rfl, rfl, rfl, by decide +kernel, rfl, by decide +kernel, by decide +kernel⟩
theorem ok_has_twice (T : Top K mg A) : FOk P w K mg base 1 "has_twice" ["some"] (spP (p_has_twice K)) := by
  refine fokP T.f_has_twice sc_has_twice (fun vs H R ⟨_, _, e, _⟩ => by rw [e]; rfl) (fun _ _ _ _ _ _ us hl => match us, hl with | [_], _ => rfl) fun f cdv A' outer s' H E hr => ⟨_, (pss_one (ps_ret (pe_cmpR op_lt (pe_lenSet rfl T.b_len rfl T.b_set (pv 0)) (pe_callB cr_lenS (by rfl) T.b_len boot_len (pa_cons (pv 0) pa_nil)) (nomark _)))), ?_⟩
  rintro vs H0 R e ⟨a, ns, rfl, hN, hl, rfl⟩
  have h1 : Ev (tLenSet K (tVar 0)) [some (.ref a)] H0 (.int ((met (ns.map fun n : Nat => (n : Int))).length : Nat)) := fun H1 e1 Q q => (ev_var (v := .ref a) (i := 0) rfl) H1 e1 _ fun H2 e2 =>
    ⟨a, ns.map fun n : Nat => (n : Int), rfl, by rw [← sum_nV]; exact ex_l (e1.trans e2) hN, by rw [List.length_map]; exact hl, met_le _, q H2 e2⟩
  exact sj_ret ((ev_I0 h1 (ev_len (ev_var rfl) hN)).to (by
    rw [List.length_map]
    exact congrArg V.bl (met_dup ns))) rfl
end
end TB
/-! # The desk: the day, a sale, lots, limits -/
namespace TB
open PySem PySem.Spec PyProof.Rows L2 Evl
open TimberAuction (Lot Bid Sale Contract Delivery Bill)
open TBM
open AuctionSpec (State)

section
variable {K : PySem.W.Frag} {A : Adr} {mg : Str → Option Value} {g g1 : Tg} {H H' : Hp} {G : DeskG} {st : State}
theorem un_tagAt {p : Addr} {t : Tag} (hg : ∀ a, un g H a ≠ none → g1 a = .no) (hp : un g H p = none) : ∀ a, un g H a ≠ none → tagAt g1 p t a = .no := fun a ha => by
  rw [tagAt_ne (fun z => ha (by rw [z]; exact hp))]
  exact hg a ha
theorem tag_tagAt {p : Addr} {t : Tag} (ht : ∀ a, H' a ≠ none → g1 a = g a) (hp : H' p = none) : ∀ a, H' a ≠ none → tagAt g1 p t a = g a := fun a ha => by
  rw [tagAt_ne (fun z => ha (by rw [z]; exact hp))]
  exact ht a ha
theorem ev_noSale (T : Top K mg A) {σ : L2.St} {te : TE} (hG : DeskAt K A g H' G) (h : Ev te σ H' (.ref G.p)) : Ev (tOp rIsN (tFld K te "sale") (tC .non)) σ H' (.bl G.sl.isNone) :=
  (ev_isN (fld_Desk_sale T h hG.ins)).to (by
    cases hz : G.sl with
    | none => rfl
    | some z => rfl)
theorem ev_hasSale (T : Top K mg A) {σ : L2.St} {te : TE} (hG : DeskAt K A g H' G) (h : Ev te σ H' (.ref G.p)) : Ev (tOp rNotN (tFld K te "sale") (tC .non)) σ H' (.bl G.sl.isSome) :=
  (ev_notN (fld_Desk_sale T h hG.ins)).to (by
    cases hz : G.sl with
    | none => rfl
    | some z => rfl)
theorem et_sealed (T : Top K mg A) {σ : L2.St} {te : TE} {z : Addr × SaleG} (hG : DeskAt K A g H' G) (hz : G.sl = some z) (h : Ev te σ H' (.ref G.p)) : EvT (tB (tMeth A.Desk "is_sealed" (sp_Desk_is_sealed K A) [] E0 te tNil)) σ H' (decide (G.day ≤ z.2.cd)) :=
  et_B (ev_meth h hG.ins no_Desk_is_sealed ea_nil (spV_go ⟨g, G, z, rfl, hG, hz, rfl⟩))
theorem Same.none (h : Same G st) (hz : G.sl = none) : st.sale = none := by rw [h.sale, hz]; rfl
theorem Same.some {z : Addr × SaleG} (h : Same G st) (hz : G.sl = some z) : st.sale = some z.2.sale := by rw [h.sale, hz]; rfl
theorem accepts (h : Same G st) {z : Addr × SaleG} : AuctionSpec.acceptsBids st z.2.sale = decide (G.day ≤ z.2.cd) := by
  unfold AuctionSpec.acceptsBids
  rw [h.day]
  rfl
/-- the desk's object changes -/
theorem DeskAt.putDesk {dx : Addr} {H2 : Hp} {fs : List (Str × V)} {day : Nat} {sl : Option (Addr × SaleG)} (h : DeskAt K A g H' G) (e : Ex H' H2) (hi : H' G.p = some (.ins A.Desk dx fs)) (ht : ∀ a, H' a ≠ none → g1 a = g a) (h0 : ∀ z, sl = some z → SaleAt A g1 (upd H2 G.p (.ins A.Desk dx (deskF (day : Int) (saleV sl) G.b))) z.1 z.2) :
    DeskAt K A g1 (upd H2 G.p (.ins A.Desk dx (deskF (day : Int) (saleV sl) G.b))) { G with day := day, sl := sl } :=
  have k : Kp K (· ≠ .desk) g g1 H' (upd H2 G.p (.ins A.Desk dx (deskF (day : Int) (saleV sl) G.b))) := kp_upd e (fun z => z h.gd) (rd_ins hi) ht
  ⟨⟨dx, upd_same⟩, h0, h.books.kp k (fun t ht e => by subst e; exact ht), by rw [ht _ (some_ne hi)]; exact h.gd⟩
theorem put_day {d d' : Int} {sl : V} {b : Addr} : putF "day" (.int d') (deskF d sl b) = deskF d' sl b := putF_here
theorem put_sale {d : Int} {sl sl' : V} {b : Addr} : putF "sale" sl' (deskF d sl b) = deskF d sl' b := by
  unfold deskF
  rw [putF_past (by decide +kernel), putF_here]
end
section
variable {P : Program} {w : World} {K : PySem.W.Frag} {mg : Str → Option Value} {base : Heap} {A : Adr}
theorem not_within {n hi : Nat} : (!AuctionSpec.inRange 0 hi n) = decide (hi < n) := by
  unfold AuctionSpec.inRange
  by_cases h : n ≤ hi
  · simp [h]
  · simp [h]
    omega
def a_set_day : List V → Hp → AuctionSpec.Call → Prop := fun ws _ c => ∃ d : Nat, ws = [nV d] ∧ c = .setDay d
abbrev sp_Desk_set_day (K : PySem.W.Frag) (A : Adr) : Sp := spM K A a_set_day
theorem sc_Desk_set_day : FnScope ["self", "day"] ["self", "day"] (defScope (inClass (top 46) 4)) := ⟨rfl, rfl, rfl, by decide +kernel, rfl, by decide +kernel, by decide +kernel⟩
theorem ok_Desk_set_day (T : Top K mg A) : MOk P w K mg base 1 A.Desk "set_day" ["self", "day"] (sp_Desk_set_day K A) := by
  refine mokM T.mDesk_set_day sc_Desk_set_day (fun ws H c ⟨_, e, _⟩ => by rw [e]; rfl) (fun _ _ _ _ _ _ us hl => match us, hl with | [_, _], _ => rfl) fun f cdv A' outer s' H E hr => ⟨_, (pss_cons (ps_if (pt_not (pt_chain op_le op_le pe_int (pv 1) (pe_k rfl T.k_MOST_DAY))) (pss_one (ps_ret (pe_lst (pa_cons (pe_k rfl T.k_OUT) pa_nil)))) pss_nil)
      (pss_cons (ps_if (pt_cmpR op_lt (pv 1) (pe_fld (pv 0) rfl) (nomark _)) (pss_one (ps_ret (pe_lst (pa_cons (pe_k rfl T.k_NOT_POSSIBLE) pa_nil)))) pss_nil)
      (pss_cons (ps_fld (pv 0) (pv 1) rfl)
      (pss_one (ps_ret (pe_lst (pa_cons pe_int pa_nil))))))), ?_⟩
  rintro ws g G st H0 c e hR ⟨d, rfl, rfl⟩
  have hG := hR.at_
  refine sq_ifRet (b := decide (99999 < d)) (et_is (et_not (et_test (et_within (lo := 0) (x := d) (hi := 99999) ev_c (ev_var rfl) ev_c))) ?_) (fun hc => ?_) (fun hc => ?_)
  · exact not_within
  · refine sj_code hR ?_
    simp only [AuctionSpec.step]
    rw [if_pos (show AuctionSpec.maxDay < d from of_decide_eq_true hc)]
    rfl
  have hd : ¬ AuctionSpec.maxDay < d := of_decide_eq_false hc
  refine sq_ifRet (b := decide (d < G.day)) (et_test ((ev_I0 (i := (d : Int)) (j := (G.day : Int)) (ev_var rfl) (fld_Desk_day T (ev_var rfl) hG.ins)).to (congrArg V.bl (decide_eq_decide.mpr (by omega))))) (fun hc => ?_) (fun hc => ?_)
  · refine sj_code hR ?_
    simp only [AuctionSpec.step]
    rw [if_neg hd, if_pos (by rw [hR.same.day]; exact of_decide_eq_true hc)]
    rfl
  · have hd2 : ¬ d < st.day := by rw [hR.same.day]; exact of_decide_eq_false hc
    obtain ⟨dx, hi⟩ := hG.ins
    have hstep : AuctionSpec.step st (.setDay d) = ({ st with day := d }, [0]) := by
      simp only [AuctionSpec.step]
      rw [if_neg hd, if_neg hd2]
    refine sq_fldE T.cDesk.cl T.nDesk_day hi (un_none (by rw [hG.gd]; decide)) (by show 3 < 1000; decide) (ev_var rfl) (ev_var rfl) put_day ?_
    rw [hstep]
    have hDk := hG.putDesk (g1 := g) (day := d) (sl := G.sl) (Ex.refl _) hi (fun a _ => rfl) fun z hz => (hG.sale z hz).kp (K := K) (kp_upd (S := (· ≠ .desk)) (Ex.refl _) (fun z => z hG.gd) (rd_ins hi) fun a _ => rfl) fun t ht e => by subst e; exact ht
    exact sj_done (g' := g) (G := { G with day := d, sl := G.sl }) el_one ⟨hDk, ⟨by show d ≤ 99999; exact Nat.le_of_not_lt hd, hR.wf.sale, hR.wf.books⟩, ⟨rfl, hR.same.sale, hR.same.cons, hR.same.dels, hR.same.bills, hR.same.idx, hR.same.pay⟩⟩ (fun a ha => un_tag ha) rfl
def a_open_sale : List V → Hp → AuctionSpec.Call → Prop := fun ws _ c => ∃ a b d : Nat, ws = [nV a, nV b, nV d] ∧ c = .openSale a b d
abbrev sp_Desk_open_sale (K : PySem.W.Frag) (A : Adr) : Sp := spM K A a_open_sale
theorem sc_Desk_open_sale : FnScope ["self", "closing_day", "rule", "advance"] ["self", "closing_day", "rule", "advance"] (defScope (inClass (top 46) 5)) := ⟨rfl, rfl, rfl, by decide +kernel, rfl, by decide +kernel, by decide +kernel⟩
theorem ok_Desk_open_sale (T : Top K mg A) : MOk P w K mg base 3 A.Desk "open_sale" ["self", "closing_day", "rule", "advance"] (sp_Desk_open_sale K A) := by
  refine mokM T.mDesk_open_sale sc_Desk_open_sale (fun ws H c ⟨_, _, _, e, _⟩ => by rw [e]; rfl) (fun _ _ _ _ _ _ us hl => match us, hl with | [_, _, _, _], _ => rfl) fun f cdv A' outer s' H E hr => ⟨_, (pss_cons (ps_if (PW.pt (pw_or (pt_not (pt_chain op_le op_le pe_int (pv 1) (pe_k rfl T.k_MOST_DAY))) (pw_or (pt_not (pt_chain op_le op_le pe_int (pv 2) pe_int)) (pw_or1 (pt_not (pt_chain op_le op_le pe_int (pv 3) pe_int)))))) (pss_one (ps_ret (pe_lst (pa_cons (pe_k rfl T.k_OUT) pa_nil)))) pss_nil)
      (pss_cons (ps_if (pt_cmpR op_notN1 (pe_fld (pv 0) rfl) pe_non (nomark _)) (pss_one (ps_ret (pe_lst (pa_cons (pe_k rfl T.k_DONE) pa_nil)))) pss_nil)
      (pss_cons (ps_if (pt_cmpR op_lt (pv 1) (pe_fld (pv 0) rfl) (nomark _)) (pss_one (ps_ret (pe_lst (pa_cons (pe_k rfl T.k_NOT_POSSIBLE) pa_nil)))) pss_nil)
      (pss_cons (ps_fld (pv 0) (pe_new T.cSale (ok_Sale_init T) (hr.mono (by decide)) rfl (pa_cons (pv 1) (pa_cons (pv 2) (pa_cons (pv 3) pa_nil)))) rfl)
      (pss_one (ps_ret (pe_lst (pa_cons pe_int pa_nil)))))))), ?_⟩
  rintro ws g G st H0 c e hR ⟨a, b, d, rfl, rfl⟩
  have hG := hR.at_
  refine sq_ifRet (b := decide (99999 < a) || (decide (1 < b) || decide (1000 < d))) (et_or (et_is (et_not (et_test (et_within (lo := 0) (x := a) (hi := 99999) ev_c (ev_var rfl) ev_c))) not_within) fun _ => et_or (et_is (et_not (et_test (et_within (lo := 0) (x := b) (hi := 1) ev_c (ev_var rfl) ev_c))) not_within) fun _ => et_is (et_not (et_test (et_within (lo := 0) (x := d) (hi := 1000) ev_c (ev_var rfl) ev_c))) not_within) (fun hc => ?_) (fun hc => ?_)
  · refine sj_code hR ?_
    simp only [AuctionSpec.step]
    rw [if_pos (by simpa [AuctionSpec.maxDay] using hc)]
    rfl
  have h1 : ¬ (AuctionSpec.maxDay < a ∨ 1 < b ∨ 1000 < d) := by
    intro h
    rw [Bool.eq_false_iff] at hc
    exact hc (by simpa [AuctionSpec.maxDay] using h)
  refine sq_ifRet (b := G.sl.isSome) (et_test (ev_hasSale T hG (ev_var rfl))) (fun hc => ?_) (fun hc => ?_)
  · obtain ⟨z, hz⟩ := Option.isSome_iff_exists.mp hc
    refine sj_code hR ?_
    simp only [AuctionSpec.step]
    rw [if_neg h1, if_pos (by rw [hR.same.some hz]; simp)]
    rfl
  have hz : G.sl = none := by cases h : G.sl with | none => rfl | some z => rw [h] at hc; exact absurd hc (by simp)
  refine sq_ifRet (b := decide (a < G.day)) (et_test ((ev_I0 (i := (a : Int)) (j := (G.day : Int)) (ev_var rfl) (fld_Desk_day T (ev_var rfl) hG.ins)).to (congrArg V.bl (decide_eq_decide.mpr (by omega))))) (fun hc => ?_) (fun hc => ?_)
  · refine sj_code hR ?_
    simp only [AuctionSpec.step]
    rw [if_neg h1, if_neg (by rw [hR.same.none hz]; simp), if_pos (by rw [hR.same.day]; exact of_decide_eq_true hc)]
    rfl
  · have hd2 : ¬ a < st.day := by rw [hR.same.day]; exact of_decide_eq_false hc
    have hstep : AuctionSpec.step st (.openSale a b d) = ({ st with sale := some ⟨a, b, d, [], [], List.replicate 16 12⟩ }, [0]) := by
      simp only [AuctionSpec.step]
      rw [if_neg h1, if_neg (by rw [hR.same.none hz]; simp), if_neg hd2]
    obtain ⟨dx, hi⟩ := hG.ins
    refine sq_fldNE (R := fun v H1 H2 => ∃ s, v = .ref s ∧ H1 s = none ∧ NewSale A a b d s H1 H2) (fs' := fun v => deskF (G.day : Int) v G.b) T.cDesk.cl T.nDesk_sale hi (un_none (by rw [hG.gd]; decide)) (by show 3 < 1000; decide)
      (evn_new (an_of (ea_cons (ev_var (v := nV a) rfl) (ea_cons (ev_var (v := nV b) rfl) (ea_cons (ev_var (v := nV d) rfl) ea_nil)))) ?_) (ev_var rfl) (fun v => put_sale) fun v H1 H2 e1 eb e12 ⟨s, ev, hs, la, ba, ma, hi2, hla, hba, hma, nla, nba, nma, n1, n2, n3, n4, n5, n6⟩ => ?_
    · rintro vs H1 H2 e1 e12 rfl
      refine ⟨_, ⟨a, b, d, rfl, rfl⟩, fun p H3 H4 hp hN e24 e34 => ⟨p, rfl, fresh_back e12 hp, ?_⟩⟩
      obtain ⟨la, ba, ma, h1, h2, h3, h4, h5, h6, h7, h8⟩ := hN
      exact ⟨la, ba, ma, h1.up e34, e34 _ _ h2, e34 _ _ h3, e34 _ _ h4, fresh_back e12 h5, fresh_back e12 h6, fresh_back e12 h7, h8⟩
    subst ev
    rw [hstep]
    have np : G.p ≠ s := ne_of_none (e1 _ _ hi) hs
    have nlp : la ≠ G.p := (ne_of_none (e1 _ _ hi) nla).symm
    have nbp : ba ≠ G.p := (ne_of_none (e1 _ _ hi) nba).symm
    have nmp : ma ≠ G.p := (ne_of_none (e1 _ _ hi) nma).symm
    have e02 := e1.trans e12
    let g' := tagAt (tagAt (tagAt (tagAt g s .sale) la .lots) ba .bids) ma .limits
    have ht : ∀ x, H0 x ≠ none → g' x = g x := tag_tagAt (tag_tagAt (tag_tagAt (tag_tagAt (fun _ _ => rfl) (fresh_back e1 hs)) (fresh_back e1 nla)) (fresh_back e1 nba)) (fresh_back e1 nma)
    have hun : ∀ x, un g H x ≠ none → g' x = .no := un_tagAt (un_tagAt (un_tagAt (un_tagAt (fun x hx => un_tag hx) (fresh_back eb hs)) (fresh_back eb nla)) (fresh_back eb nba)) (fresh_back eb nma)
    let z : Addr × SaleG := (s, ⟨a, b, d, la, ba, ma, [], [], List.replicate 16 12⟩)
    obtain ⟨dx2, hi2⟩ := hi2
    have hDk := hG.putDesk (g1 := g') (day := G.day) (sl := some z) e02 hi ht fun y hy => by
      cases hy
      refine ⟨⟨dx2, by rw [upd_ne np.symm]; exact hi2⟩, by show upd H2 G.p _ la = _; rw [upd_ne nlp]; exact hla, fun y hy => absurd hy (by simp [z]), by show upd H2 G.p _ ba = _; rw [upd_ne nbp]; exact hba, fun y hy => absurd hy (by simp [z]), by show upd H2 G.p _ ma = _; rw [upd_ne nmp]; exact hma, ?_, ?_, ?_, ?_, fun i y hy => absurd hy (by simp [z])⟩
      · show tagAt (tagAt (tagAt (tagAt g s .sale) la .lots) ba .bids) ma .limits s = _
        rw [tagAt_ne n3.symm, tagAt_ne n2.symm, tagAt_ne n1.symm, tagAt_same]
      · show tagAt (tagAt (tagAt (tagAt g s .sale) la .lots) ba .bids) ma .limits la = _
        rw [tagAt_ne n5, tagAt_ne n4, tagAt_same]
      · show tagAt (tagAt (tagAt (tagAt g s .sale) la .lots) ba .bids) ma .limits ba = _
        rw [tagAt_ne n6, tagAt_same]
      · exact tagAt_same
    refine sj_done (g' := g') (G := { G with day := G.day, sl := some z }) el_one ⟨hDk, ⟨hR.wf.day, fun y hy => ?_, hR.wf.books⟩, ⟨hR.same.day, rfl, hR.same.cons, hR.same.dels, hR.same.bills, hR.same.idx, hR.same.pay⟩⟩ hun rfl
    cases hy
    have h1' : a ≤ 99999 ∧ b ≤ 1 ∧ d ≤ 1000 := by
      unfold AuctionSpec.maxDay at h1
      omega
    exact ⟨h1'.1, h1'.2.1, h1'.2.2, by show 0 ≤ 10; decide, fun l hl => absurd hl (by simp [z, SaleG.sale]), by show 0 ≤ 12; decide, fun l hl => absurd hl (by simp [z, SaleG.sale]), by simp [z, SaleG.sale], fun x hx => by
      have hx : x ∈ List.replicate 16 12 := hx
      have := (List.mem_replicate.mp hx).2
      omega⟩
end
end TB
/-! # The desk: lots, limits, bids -/
namespace TB
open PySem PySem.Spec PyProof.Rows L2 Evl
open TimberAuction (Lot Bid Sale Contract Delivery Bill)
open TBM
open AuctionSpec (State)

section
variable {K : PySem.W.Frag} {A : Adr} {mg : Str → Option Value} {g g1 : Tg} {H H' : Hp} {G : DeskG} {st : State}
/-- something of the open sale changes, the desk and the books stand -/
theorem DeskAt.putSale {S : Tag → Prop} {H2 : Hp} {z z' : Addr × SaleG} (k : Kp K S g g1 H' H2) (hS : ∀ t, bookT t ∨ t = .desk → S t) (h : DeskAt K A g H' G) (hz : G.sl = some z) (hp : z'.1 = z.1) (h0 : SaleAt A g1 H2 z'.1 z'.2) : DeskAt K A g1 H2 { G with sl := some z' } :=
  ⟨by
    have := k.ins h.ins (by rw [h.gd]; exact hS _ (.inr rfl))
    rw [hz] at this
    show Ins H2 G.p A.Desk (deskF (G.day : Int) (.ref z'.1) G.b)
    rw [hp]
    exact this, fun y hy => by cases hy; exact h0, h.books.kp k fun t ht => hS t (.inl ht), by rw [k.tagI h.ins]; exact h.gd⟩
theorem Rep.putSale {H2 : Hp} {z z' : Addr × SaleG} (h : Rep K A g H' G st) (hz : G.sl = some z) (hD : DeskAt K A g1 H2 { G with sl := some z' }) (hW : WSale z'.2.sale) : Rep K A g1 H2 { G with sl := some z' } { st with sale := some z'.2.sale } :=
  ⟨hD, ⟨h.wf.day, fun y hy => by cases hy; exact hW, h.wf.books⟩, ⟨h.same.day, rfl, h.same.cons, h.same.dels, h.same.bills, h.same.idx, h.same.pay⟩⟩
theorem no_sale {b : Bool} (h : G.sl.isNone = b) (hb : b = false) : ∃ z, G.sl = some z := by
  cases hz : G.sl with
  | none => rw [hz] at h; rw [hb] at h; exact absurd h (by simp)
  | some z => exact ⟨z, rfl⟩
theorem bookT_ne {t : Tag} (h : bookT t ∨ t = .desk) : t ≠ .lots ∧ t ≠ .bids ∧ t ≠ .limits ∧ ∀ i, t ≠ .bid i := by
  rcases h with h | h
  · refine ⟨fun e => ?_, fun e => ?_, fun e => ?_, fun i e => ?_⟩ <;> (subst e; exact h)
  · subst h
    exact ⟨by decide, by decide, by decide, fun i => by simp⟩
end
section
variable {P : Program} {w : World} {K : PySem.W.Frag} {mg : Str → Option Value} {base : Heap} {A : Adr}
theorem et_grades (T : Top K mg A) {σ : L2.St} {H : Hp} {ta tb : TE} {a : Addr} {ns : List Nat} {most : Nat} (h1 : Ev ta σ H (.ref a)) (h2 : Ev tb σ H (nV most)) (hN : NL H a ns) (hl : ns.length ≤ 1000) :
    EvT (tB (tCall (spP p_are_grades) [] E0 (tCons ta (tCons tb tNil)))) σ H (AuctionSpec.inRange 1 10 ns.length && AuctionSpec.allAtMost most ns) :=
  et_B (ev_f (ea_cons h1 (ea_cons h2 ea_nil)) (spV_go ⟨a, ns, most, rfl, hN, hl, rfl⟩))
theorem all_le {m : Nat} {ns : List Nat} (h : AuctionSpec.allAtMost m ns = true) : ∀ x ∈ ns, x ≤ m := fun x hx => of_decide_eq_true (List.all_eq_true.mp h x hx)
theorem byGrade_le {m : Nat} {ns : List Nat} (h : ∀ x ∈ ns, x ≤ m) : ∀ x ∈ TimberAuction.byGrade ns, x ≤ m := fun x hx => by
  unfold TimberAuction.byGrade at hx
  obtain ⟨i, _, rfl⟩ := List.mem_map.mp hx
  rw [List.getD_eq_getElem?_getD]
  cases e : ns[i]? with
  | none => simp
  | some y => exact h y (List.mem_of_getElem? e)
def a_add_lot : List V → Hp → AuctionSpec.Call → Prop := fun ws H c => ∃ (r : Nat) (a : Addr) (ns : List Nat), ws = [nV r, .ref a] ∧ NL H a ns ∧ ns.length ≤ 1000 ∧ c = .addLot r ns
abbrev sp_Desk_add_lot (K : PySem.W.Frag) (A : Adr) : Sp := spM K A a_add_lot
theorem sc_Desk_add_lot : FnScope ["self", "reserve", "volumes"] ["self", "reserve", "volumes"] (defScope (inClass (top 46) 6)) := ⟨rfl, rfl, rfl, by decide +kernel, rfl, by decide +kernel, by decide +kernel⟩
theorem ok_Desk_add_lot (T : Top K mg A) : MOk P w K mg base 3 A.Desk "add_lot" ["self", "reserve", "volumes"] (sp_Desk_add_lot K A) := by
  refine mokM T.mDesk_add_lot sc_Desk_add_lot (fun ws H c ⟨_, _, _, e, _⟩ => by rw [e]; rfl) (fun _ _ _ _ _ _ us hl => match us, hl with | [_, _, _], _ => rfl) fun f cdv A' outer s' H E hr => ⟨_, (pss_cons (ps_if (PW.pt (pw_or (pt_not (pt_chain op_le op_le pe_int (pv 1) (pe_k rfl T.k_MOST_AMOUNT))) (pw_or1 (pt_not (pt_val (pe_f (ok_are_grades T) (hr.mono (by decide)) rfl (pa_cons (pv 2) (pa_cons (pe_k rfl T.k_MOST_VOLUME) pa_nil)))))))) (pss_one (ps_ret (pe_lst (pa_cons (pe_k rfl T.k_OUT) pa_nil)))) pss_nil)
      (pss_cons (ps_if (pt_cmpR op_isN1 (pe_fld (pv 0) rfl) pe_non (nomark _)) (pss_one (ps_ret (pe_lst (pa_cons (pe_k rfl T.k_MISSING) pa_nil)))) pss_nil)
      (pss_cons (ps_if (PW.pt (pw_or (pt_cmpR (op_neN (hu1 hr)) (pe_fld (pe_fld (pv 0) rfl) rfl) (pe_lst pa_nil) (nomark _)) (pw_or1 (pt_not (pt_val (pe_m0 (ok_Desk_is_sealed T) (pv 0) T.cDesk.cl (hr.mono (by decide)))))))) (pss_one (ps_ret (pe_lst (pa_cons (pe_k rfl T.k_NOT_POSSIBLE) pa_nil)))) pss_nil)
      (pss_cons (ps_if (pt_cmpR op_eq (pe_callB cr_lenS (by rfl) T.b_len boot_len (pa_cons (pe_fld (pe_fld (pv 0) rfl) rfl) pa_nil)) (pe_k rfl T.k_MOST_LOTS) (nomark _)) (pss_one (ps_ret (pe_lst (pa_cons (pe_k rfl T.k_FULL) pa_nil)))) pss_nil)
      (pss_cons (ps_expr (pe_bm PySem.F.plainAttrs_list PySem.F.slot_list_append PySem.F.type_list_append mt_append (pe_fld (pe_fld (pv 0) rfl) rfl) (pa_cons (pe_new T.cLot (ok_Lot_init T) (hr.mono (by decide)) rfl (pa_cons (pv 1) (pa_cons (pe_f (ok_filled T) (hr.mono (by decide)) rfl (pa_cons (pv 2) pa_nil)) pa_nil))) pa_nil)))
      (pss_one (ps_ret (pe_lst (pa_cons (pe_op op_sub (pe_callB cr_lenS (by rfl) T.b_len boot_len (pa_cons (pe_fld (pe_fld (pv 0) rfl) rfl) pa_nil)) pe_int) pa_nil))))))))), ?_⟩
  rintro ws g G st H0 c e hR ⟨r, a, ns, rfl, hN, hl, rfl⟩
  have hG := hR.at_
  refine sq_ifRet (b := decide (1000000000 < r) || !(AuctionSpec.inRange 1 10 ns.length && AuctionSpec.allAtMost 1000000 ns)) (et_or (et_is (et_not (et_test (et_within (lo := 0) (x := r) (hi := 1000000000) ev_c (ev_var rfl) ev_c))) not_within) fun _ => et_not (et_grades T (most := 1000000) (ev_var rfl) ev_c hN hl)) (fun hc => ?_) (fun hc => ?_)
  · refine sj_code hR ?_
    simp only [AuctionSpec.step]
    rw [if_pos]
    · rfl
    · rcases Bool.or_eq_true_iff.mp hc with h | h
      · exact .inl (of_decide_eq_true h)
      · cases h1 : AuctionSpec.inRange 1 10 ns.length with
        | false => exact .inr (.inl rfl)
        | true =>
          rw [h1, Bool.true_and] at h
          exact .inr (.inr (by unfold AuctionSpec.maxQuantity; simpa using h))
  obtain ⟨hc1, hc2⟩ := Bool.or_eq_false_iff.mp hc
  have hc2 : (AuctionSpec.inRange 1 10 ns.length && AuctionSpec.allAtMost 1000000 ns) = true := by simpa using hc2
  obtain ⟨hc3, hc4⟩ := Bool.and_eq_true_iff.mp hc2
  have h1 : ¬ (AuctionSpec.maxAmount < r ∨ AuctionSpec.inRange 1 10 ns.length = false ∨ AuctionSpec.allAtMost AuctionSpec.maxQuantity ns = false) := by
    rintro (h | h | h)
    · exact of_decide_eq_false hc1 h
    · rw [hc3] at h; cases h
    · have h : AuctionSpec.allAtMost 1000000 ns = false := h
      rw [hc4] at h; cases h
  have hlen : ns.length ≤ 10 := by
    unfold AuctionSpec.inRange at hc3
    simp at hc3
    exact hc3.2
  refine sq_ifRet (b := G.sl.isNone) (et_test (ev_noSale T hG (ev_var rfl))) (fun hc => ?_) (fun hc => ?_)
  · refine sj_code hR ?_
    simp only [AuctionSpec.step, AuctionSpec.withSale]
    rw [if_neg h1, hR.same.none (by simpa using hc)]
    rfl
  obtain ⟨z, hz⟩ := no_sale rfl hc
  have hS := hG.sale z hz
  have hWS := hR.wf.sale z hz
  have hst := hR.same.some hz
  refine sq_ifRet (b := !z.2.bs.isEmpty || !decide (G.day ≤ z.2.cd)) (et_or (et_test ((ev_neA (fld_Sale_bids T (fld_sale T hG hz (ev_var rfl)) hS.ins) hS.bids).to (by cases z.2.bs <;> rfl))) fun _ => et_not (et_sealed T hG hz (ev_var rfl))) (fun hc => ?_) (fun hc => ?_)
  · refine sj_code hR ?_
    simp only [AuctionSpec.step, AuctionSpec.withSale]
    rw [if_neg h1, hst]
    simp only
    rw [if_pos]
    · rfl
    · rw [accepts hR.same]
      rcases Bool.or_eq_true_iff.mp hc with h | h
      · refine .inl fun h2 => ?_
        have h2 : z.2.bs.map (·.b) = [] := h2
        rw [List.map_eq_nil_iff] at h2
        rw [h2] at h
        exact absurd h (by decide)
      · exact .inr (by simpa using h)
  obtain ⟨hc5, hc6⟩ := Bool.or_eq_false_iff.mp hc
  have hb0 : z.2.bs = [] := by
    cases h : z.2.bs with
    | nil => rfl
    | cons _ _ => rw [h] at hc5; exact absurd hc5 (by simp)
  have hday : G.day ≤ z.2.cd := by simpa using hc6
  have h2 : ¬ (z.2.sale.bids ≠ [] ∨ AuctionSpec.acceptsBids st z.2.sale = false) := by
    rintro (h | h)
    · exact h (by show z.2.bs.map (·.b) = []; rw [hb0]; rfl)
    · rw [accepts hR.same, decide_eq_true hday] at h
      cases h
  have hll : z.2.sale.lots.length = z.2.ls.length := by simp [SaleG.sale]
  refine sq_ifRet (b := decide (z.2.ls.length = 10)) (et_test ((ev_eqS (x := nV z.2.ls.length) (y := .int 10) ((ev_lenL (fld_Sale_lots T (fld_sale T hG hz (ev_var rfl)) hS.ins) hS.lots).to (by rw [List.length_map]; rfl)) ev_c rfl).to (congrArg V.bl (by
    rw [decide_eq_decide]
    constructor
    · intro h
      have := V.int.inj h
      omega
    · intro h
      rw [h]
      rfl)))) (fun hc => ?_) (fun hc => ?_)
  · refine sj_code hR ?_
    simp only [AuctionSpec.step, AuctionSpec.withSale]
    rw [if_neg h1, hst]
    simp only
    rw [if_neg h2, if_pos (by rw [hll, of_decide_eq_true hc]; exact Nat.le_refl _)]
    rfl
  have hnl := hWS.nlots
  have hlt : z.2.ls.length < 10 := by
    have := of_decide_eq_false hc
    omega
  have hstep : AuctionSpec.step st (.addLot r ns) = ({ st with sale := some { z.2.sale with lots := z.2.sale.lots ++ [⟨r, TimberAuction.byGrade ns⟩] } }, [(z.2.sale.lots.length : Int)]) := by
    simp only [AuctionSpec.step, AuctionSpec.withSale]
    rw [if_neg h1, hst]
    simp only
    rw [if_neg h2, if_neg (by omega)]
  refine sq_appN (R := fun v H1 H2 => ∃ p va, v = .ref p ∧ H1 p = none ∧ H1 va = none ∧ va ≠ p ∧ Ins H2 p A.Lot (lotF (r : Int) va) ∧ NL H2 va (TimberAuction.byGrade ns)) hS.lots (un_none (by rw [hS.gl]; decide)) (fld_Sale_lots T (fld_sale T hG hz (ev_var rfl)) hS.ins)
    (evn_new (RA := fun vs H1 H2 => ∃ va, vs = [nV r, .ref va] ∧ H1 va = none ∧ NL H2 va (TimberAuction.byGrade ns)) ?_ ?_) (by rw [List.length_map]; omega) fun v H1 H2 e1 eb e12 ⟨p, va, ev, hp, hva, hne, hi, hv⟩ => ?_
  · intro H1 e1 Q qq
    refine (ev_var (v := nV r) (i := 1) rfl) H1 e1 _ fun H2 e2 => ?_
    refine (evn_call (R := isLF ((TimberAuction.byGrade ns).map nV)) (ea_cons (ev_var (v := .ref a) rfl) ea_nil) ⟨a, ns, rfl, hN, hlen, rfl⟩ fun _ _ _ _ _ ea ek h => isLF_up ea ek h) H2 (e1.trans e2) _ fun v H3 e3 ⟨va, ev, hv, nva⟩ => ?_
    subst ev
    exact qq _ H3 (e2.trans e3) ⟨va, rfl, fresh_back e2 nva, hv⟩
  · rintro vs H1 H2 e1 e2 ⟨va, rfl, nva, hv⟩
    exact ⟨_, ⟨(r : Int), va, rfl, rfl⟩, fun p H3 H4 np hi e24 e34 => ⟨p, va, rfl, fresh_back e2 np, nva, ne_of_none hv np, hi.up e34, e24 _ _ hv⟩⟩
  subst ev
  rw [hstep]
  have hlane : z.2.la ≠ p := ne_of_none (e1 _ _ hS.lots) hp
  have hlanv : z.2.la ≠ va := ne_of_none (e1 _ _ hS.lots) hva
  let g' := tagAt (tagAt g p .fro) va .fro
  have ht : ∀ x, H0 x ≠ none → g' x = g x := tag_tagAt (tag_tagAt (fun _ _ => rfl) (fresh_back e1 hp)) (fresh_back e1 hva)
  have hun : ∀ x, un g H x ≠ none → g' x = .no := un_tagAt (un_tagAt (fun x hx => un_tag hx) (fresh_back eb hp)) (fresh_back eb hva)
  have e02 := e1.trans e12
  have k : Kp K (· ≠ .lots) g g' H0 (upd H2 z.2.la (.lst (z.2.ls.map (fun y => V.ref y.p) ++ [.ref p]))) := kp_upd e02 (fun h => h hS.gl) (rd_lst hS.lots) ht
  let y' : LotG := ⟨p, va, ⟨r, TimberAuction.byGrade ns⟩⟩
  let z' : Addr × SaleG := (z.1, { z.2 with ls := z.2.ls ++ [y'] })
  have hbl : z'.2.sale = { z.2.sale with lots := z.2.sale.lots ++ [⟨r, TimberAuction.byGrade ns⟩] } := by
    show (SaleG.sale _) = _
    simp [SaleG.sale, z', y']
  have hDk := hG.putSale k (fun t ht => (bookT_ne ht).1) hz (z' := z') rfl ⟨k.ins hS.ins (by rw [hS.gs]; decide), by
      show upd H2 z.2.la _ z.2.la = _
      rw [upd_same]
      show some (HO.lst _) = some (HO.lst ((z.2.ls ++ [y']).map _))
      rw [List.map_append]
      rfl, fun y hy => by
      rcases List.mem_append.mp hy with hy | hy
      · exact (hS.lot y hy).kp k (by decide)
      · rw [List.mem_singleton.mp hy]
        exact ⟨hi.elim fun dx h => ⟨dx, by show upd H2 _ _ p = _; rw [upd_ne hlane.symm]; exact h⟩, by show upd H2 _ _ va = _; rw [upd_ne hlanv.symm]; exact hv, by show tagAt (tagAt g p .fro) va .fro p = _; rw [tagAt_ne hne.symm, tagAt_same], tagAt_same⟩,
    k.at_ _ _ hS.bids (by rw [hS.gb]; decide), fun y hy => by
      have hy : y ∈ z.2.bs := hy
      rw [hb0] at hy
      exact absurd hy (by simp), k.at_ _ _ hS.lims (by rw [hS.gm]; decide), by rw [k.tagI hS.ins]; exact hS.gs, by show g' z.2.la = _; rw [k.tag _ (some_ne hS.lots)]; exact hS.gl, by show g' z.2.ba = _; rw [k.tag _ (some_ne hS.bids)]; exact hS.gb, by show g' z.2.ma = _; rw [k.tag _ (some_ne hS.lims)]; exact hS.gm,
    fun i y hy => by
      have hy : z.2.bs[i]? = some y := hy
      rw [hb0] at hy
      simp at hy⟩
  have hRep := hR.putSale hz hDk (by
    rw [hbl]
    refine ⟨hWS.cd, hWS.ru, hWS.ad, ?_, fun l hl => ?_, hWS.nbids, fun b hb => ?_, hWS.nlim, hWS.lim⟩
    · show (z.2.sale.lots ++ [_]).length ≤ 10
      rw [List.length_append, List.length_singleton]
      omega
    · rcases List.mem_append.mp hl with hl | hl
      · exact hWS.lots l hl
      · rw [List.mem_singleton.mp hl]
        refine ⟨?_, byGrade_length _, byGrade_le (all_le hc4)⟩
        have := of_decide_eq_false hc1
        show r ≤ 1000000000
        omega
    · have hb : b ∈ z.2.bs.map (·.b) := hb
      rw [hb0] at hb
      exact absurd hb (by simp))
  rw [hbl] at hRep
  refine sj_done (g' := g') (EvL.to (el_lst (ea_cons (ev_I0 (j := 1) ((ev_lenL (fld_Sale_lots T (fld_sale T hDk (z := z') rfl (ev_var rfl)) (hDk.sale z' rfl).ins) (hDk.sale z' rfl).lots)) ev_c) ea_nil) (by show 1 ≤ 100000; decide)) ?_) hRep hun rfl
  rw [List.length_map]
  show [V.int (((z.2.ls ++ [y']).length : Nat) - 1)] = [V.int (z.2.sale.lots.length : Int)]
  rw [List.length_append, List.length_singleton, hll]
  congr 2
  omega
end
end TB
/-! # The desk: limits, bids withdrawn -/
namespace TB
open PySem PySem.Spec PyProof.Rows L2 Evl
open TimberAuction (Lot Bid Sale Contract Delivery Bill)
open TBM
open AuctionSpec (State)

section
variable {P : Program} {w : World} {K : PySem.W.Frag} {mg : Str → Option Value} {base : Heap} {A : Adr}
theorem not_below {n hi : Nat} : (!decide (n < hi + 1)) = decide (hi < n) := by
  by_cases h : n < hi + 1
  · simp [h]; omega
  · simp [h]; omega
def a_set_limit : List V → Hp → AuctionSpec.Call → Prop := fun ws H c => ∃ (i n : Nat), ws = [nV i, nV n] ∧ c = .setLimit i n
abbrev sp_Desk_set_limit (K : PySem.W.Frag) (A : Adr) : Sp := spM K A a_set_limit
theorem sc_Desk_set_limit : FnScope ["self", "bidder", "limit"] ["self", "bidder", "limit"] (defScope (inClass (top 46) 7)) := ⟨rfl, rfl, rfl, by decide +kernel, rfl, by decide +kernel, by decide +kernel⟩
theorem ok_Desk_set_limit (T : Top K mg A) : MOk P w K mg base 2 A.Desk "set_limit" ["self", "bidder", "limit"] (sp_Desk_set_limit K A) := by
  refine mokM T.mDesk_set_limit sc_Desk_set_limit (fun ws H c ⟨_, _, e, _⟩ => by rw [e]; rfl) (fun _ _ _ _ _ _ us hl => match us, hl with | [_, _, _], _ => rfl) fun f cdv A' outer s' H E hr => ⟨_, (pss_cons (ps_if (PW.pt (pw_or (pt_not (pt_chain op_le op_lt pe_int (pv 1) (pe_k rfl T.k_BIDDERS))) (pw_or1 (pt_not (pt_chain op_le op_le pe_int (pv 2) (pe_k rfl T.k_MOST_LIMIT_desk)))))) (pss_one (ps_ret (pe_lst (pa_cons (pe_k rfl T.k_OUT) pa_nil)))) pss_nil)
      (pss_cons (ps_if (pt_cmpR op_isN1 (pe_fld (pv 0) rfl) pe_non (nomark _)) (pss_one (ps_ret (pe_lst (pa_cons (pe_k rfl T.k_MISSING) pa_nil)))) pss_nil)
      (pss_cons (ps_if (pt_not (pt_val (pe_m0 (ok_Desk_is_sealed T) (pv 0) T.cDesk.cl (hr.mono (by decide))))) (pss_one (ps_ret (pe_lst (pa_cons (pe_k rfl T.k_NOT_POSSIBLE) pa_nil)))) pss_nil)
      (pss_cons (ps_asg (pv 2) (pg_sub (pe_fld (pe_fld (pv 0) rfl) rfl) (pv 1) set_list))
      (pss_one (ps_ret (pe_lst (pa_cons pe_int pa_nil)))))))), ?_⟩
  rintro ws g G st H0 c e hR ⟨i, n, rfl, rfl⟩
  have hG := hR.at_
  refine sq_ifRet (b := decide (15 < i) || decide (12 < n)) (et_or (et_is (et_not (et_test (et_below (x := i) (hi := 15 + 1) ev_c (ev_var rfl) ev_c))) not_below) fun _ => et_is (et_not (et_test (et_within (lo := 0) (x := n) (hi := 12) ev_c (ev_var rfl) ev_c))) not_within) (fun hc => ?_) (fun hc => ?_)
  · refine sj_code hR ?_
    simp only [AuctionSpec.step]
    rw [if_pos (by simpa using hc)]
    rfl
  have h1 : ¬ (15 < i ∨ 12 < n) := by
    intro h
    rw [Bool.eq_false_iff] at hc
    exact hc (by simpa using h)
  refine sq_ifRet (b := G.sl.isNone) (et_test (ev_noSale T hG (ev_var rfl))) (fun hc => ?_) (fun hc => ?_)
  · refine sj_code hR ?_
    simp only [AuctionSpec.step, AuctionSpec.withSale]
    rw [if_neg h1, hR.same.none (by simpa using hc)]
    rfl
  obtain ⟨z, hz⟩ := no_sale rfl hc
  have hS := hG.sale z hz
  have hWS := hR.wf.sale z hz
  have hst := hR.same.some hz
  refine sq_ifRet (b := !decide (G.day ≤ z.2.cd)) (et_not (et_sealed T hG hz (ev_var rfl))) (fun hc => ?_) (fun hc => ?_)
  · refine sj_code hR ?_
    simp only [AuctionSpec.step, AuctionSpec.withSale]
    rw [if_neg h1, hst]
    simp only
    rw [if_pos (by rw [accepts hR.same]; simpa using hc)]
    rfl
  have hday : G.day ≤ z.2.cd := by simpa using hc
  have hstep : AuctionSpec.step st (.setLimit i n) = ({ st with sale := some { z.2.sale with limits := z.2.sale.limits.set i n } }, [0]) := by
    simp only [AuctionSpec.step, AuctionSpec.withSale]
    rw [if_neg h1, hst]
    simp only
    rw [if_neg (by rw [accepts hR.same, decide_eq_true hday]; decide)]
  rw [hstep]
  have hil : i < z.2.lim.length := by have := hWS.nlim; show i < z.2.sale.limits.length; omega
  refine sq_setP (n := i) hS.lims (un_none (by rw [hS.gm]; decide)) (R := isV (nV n)) ((ev_var rfl).p) (fld_Sale_limits T (fld_sale T hG hz (ev_var rfl)) hS.ins) (ev_var rfl) (by rw [List.length_map]; exact hil) fun v H1 e1 hv => ?_
  have hv : v = nV n := hv
  subst hv
  have k : Kp K (· ≠ .limits) g g H0 (upd H1 z.2.ma (.lst ((z.2.lim.map nV).set i (nV n)))) := kp_upd e1 (fun h => h hS.gm) (rd_lst hS.lims) fun _ _ => rfl
  let z' : Addr × SaleG := (z.1, { z.2 with lim := z.2.lim.set i n })
  have hDk := hG.putSale k (fun t ht => (bookT_ne ht).2.2.1) hz (z' := z') rfl ⟨k.ins hS.ins (by rw [hS.gs]; decide), k.at_ _ _ hS.lots (by rw [hS.gl]; decide), fun y hy => (hS.lot y hy).kp k (by decide), k.at_ _ _ hS.bids (by rw [hS.gb]; decide),
    fun y hy => (hS.bid y hy).kp k (by decide) (by obtain ⟨j, e⟩ := hS.bidTag hy; rw [e]; simp), by
      show upd H1 z.2.ma _ z.2.ma = some (HO.lst ((z.2.lim.set i n).map nV))
      rw [upd_same, List.map_set], hS.gs, hS.gl, hS.gb, hS.gm, hS.gbid⟩
  refine sj_done (g' := g) el_one (hR.putSale hz hDk ?_) (fun a ha => un_tag ha) rfl
  refine ⟨hWS.cd, hWS.ru, hWS.ad, hWS.nlots, hWS.lots, hWS.nbids, hWS.bids, ?_, fun x hx => ?_⟩
  · show (z.2.lim.set i n).length = 16
    rw [List.length_set]
    exact hWS.nlim
  · have hx : x ∈ z.2.lim.set i n := hx
    rcases List.mem_or_eq_of_mem_set hx with hx | hx
    · exact hWS.lim x hx
    · omega
def a_withdraw_bid : List V → Hp → AuctionSpec.Call → Prop := fun ws H c => ∃ (n : Nat), ws = [nV n] ∧ c = .withdrawBid n
abbrev sp_Desk_withdraw_bid (K : PySem.W.Frag) (A : Adr) : Sp := spM K A a_withdraw_bid
theorem isBid_some {G : DeskG} {n : Nat} (h : isBidB G n = true) : ∃ z, G.sl = some z ∧ n < z.2.bs.length := by
  unfold isBidB at h
  cases hz : G.sl with
  | none => rw [hz] at h; exact absurd h (by simp)
  | some z => rw [hz] at h; exact ⟨z, rfl, of_decide_eq_true h⟩
theorem sale_bids_len {S : SaleG} : S.sale.bids.length = S.bs.length := by simp [SaleG.sale]
theorem put_wd {la pa ba : Addr} {b c : Bool} : putF "is_withdrawn" (.bl c) (bidF la pa ba b) = bidF la pa ba c := by
  unfold bidF
  rw [putF_past (by decide +kernel), putF_past (by decide +kernel), putF_past (by decide +kernel), putF_here]
theorem sq_fldI {K : PySem.W.Frag} {B H : Hp} {σ : L2.St} {te to : TE} {u : TS} {v : V} {N : L2.St → Hp → Prop} {Pq : V → Hp → Prop} {a C : Addr} {fs fs' : List (Str × V)} {fn : Str} (c : Cls K C) (n : NoAttr K C fn) (hi : Ins H a C fs) (hb : B a = none) (hf : fs.length < 1000) (h : Ev te σ H v) (ho : Ev to σ H (.ref a)) (hput : putF fn v fs = fs')
    (k : ∀ dx, H a = some (.ins C dx fs) → Sj B u σ (upd H a (.ins C dx fs')) N Pq) : Sj B (tSeq (sFld K to te fn) u) σ H N Pq := by
  obtain ⟨dx, hi⟩ := hi
  exact sq_fldE c n hi hb hf h ho hput (k dx hi)
theorem sc_Desk_withdraw_bid : FnScope ["self", "bid"] ["self", "bid"] (defScope (inClass (top 46) 9)) := ⟨rfl, rfl, rfl, by decide +kernel, rfl, by decide +kernel, by decide +kernel⟩
theorem ok_Desk_withdraw_bid (T : Top K mg A) : MOk P w K mg base 2 A.Desk "withdraw_bid" ["self", "bid"] (sp_Desk_withdraw_bid K A) := by
  refine mokM T.mDesk_withdraw_bid sc_Desk_withdraw_bid (fun ws H c ⟨_, e, _⟩ => by rw [e]; rfl) (fun _ _ _ _ _ _ us hl => match us, hl with | [_, _], _ => rfl) fun f cdv A' outer s' H E hr => ⟨_, (pss_cons (ps_if (pt_not (pt_val (pe_m (ok_Desk_is_bid T) (pv 0) T.cDesk.cl (hr.mono (by decide)) (pa_cons (pv 1) pa_nil)))) (pss_one (ps_ret (pe_lst (pa_cons (pe_k rfl T.k_MISSING) pa_nil)))) pss_nil)
      (pss_cons (ps_if (pt_val (pe_fld (pe_ix ix_list (pe_fld (pe_fld (pv 0) rfl) rfl) (pv 1) (fun _ _ => rfl)) rfl)) (pss_one (ps_ret (pe_lst (pa_cons (pe_k rfl T.k_DONE) pa_nil)))) pss_nil)
      (pss_cons (ps_if (pt_not (pt_val (pe_m0 (ok_Desk_is_sealed T) (pv 0) T.cDesk.cl (hr.mono (by decide))))) (pss_one (ps_ret (pe_lst (pa_cons (pe_k rfl T.k_NOT_POSSIBLE) pa_nil)))) pss_nil)
      (pss_cons (ps_fld (pe_ix ix_list (pe_fld (pe_fld (pv 0) rfl) rfl) (pv 1) (fun _ _ => rfl)) pe_bl rfl)
      (pss_one (ps_ret (pe_lst (pa_cons pe_int pa_nil)))))))), ?_⟩
  rintro ws g G st H0 c e hR ⟨n, rfl, rfl⟩
  have hG := hR.at_
  refine sq_ifRet (b := !isBidB G n) (et_not (et_B (ev_meth (ev_var rfl) hG.ins no_Desk_is_bid (ea_cons (ev_var rfl) ea_nil) (spV_go ⟨g, G, n, rfl, hG, rfl⟩)))) (fun hc => ?_) (fun hc => ?_)
  · refine sj_code hR ?_
    simp only [AuctionSpec.step, AuctionSpec.withSale]
    cases hz : G.sl with
    | none => rw [hR.same.none hz]; rfl
    | some z =>
      rw [hR.same.some hz]
      have hn : ¬ n < z.2.bs.length := by
        intro h
        unfold isBidB at hc
        rw [hz] at hc
        simp [h] at hc
      simp only
      rw [List.getElem?_eq_none (by rw [sale_bids_len]; omega)]
      rfl
  obtain ⟨z, hz, hn⟩ := isBid_some (by simpa using hc)
  have hS := hG.sale z hz
  have hWS := hR.wf.sale z hz
  have hst := hR.same.some hz
  have hB := hS.bid _ (List.getElem_mem hn)
  have hgb := hS.gbid n _ (List.getElem?_eq_getElem hn)
  have hbn : z.2.sale.bids[n]? = some z.2.bs[n].b := by
    show (z.2.bs.map (·.b))[n]? = _
    rw [List.getElem?_map, List.getElem?_eq_getElem hn]
    rfl
  have hbid : ∀ {σ : L2.St}, σ[0]? = some (some (.ref G.p)) → σ[1]? = some (some (nV n)) → Ev (tOp (rIxL K) (tFld K (tFld K (tVar 0) "sale") "bids") (tVar 1)) σ H0 (.ref z.2.bs[n].p) := fun h0 h1 => ev_bid T hS (fld_sale T hG hz (ev_var h0)) (ev_var h1) hn
  refine sq_ifRet (b := z.2.bs[n].b.withdrawn) (et_B (fld_Bid_is_withdrawn T (hbid rfl rfl) hB.ins)) (fun hc => ?_) (fun hc => ?_)
  · refine sj_code hR ?_
    simp only [AuctionSpec.step, AuctionSpec.withSale]
    rw [hst]
    simp only
    rw [hbn]
    simp only
    rw [if_pos hc]
    rfl
  refine sq_ifRet (b := !decide (G.day ≤ z.2.cd)) (et_not (et_sealed T hG hz (ev_var rfl))) (fun hc2 => ?_) (fun hc2 => ?_)
  · refine sj_code hR ?_
    simp only [AuctionSpec.step, AuctionSpec.withSale]
    rw [hst]
    simp only
    rw [hbn]
    simp only
    rw [if_neg (by rw [hc]; decide), if_pos (by rw [accepts hR.same]; simpa using hc2)]
    rfl
  have hday : G.day ≤ z.2.cd := by simpa using hc2
  have hstep : AuctionSpec.step st (.withdrawBid n) = ({ st with sale := some (z.2.sale.withdraw n) }, [0]) := by
    simp only [AuctionSpec.step, AuctionSpec.withSale]
    rw [hst]
    simp only
    rw [hbn]
    simp only
    rw [if_neg (by rw [hc]; decide), if_neg (by rw [accepts hR.same, decide_eq_true hday]; decide)]
  rw [hstep]
  refine sq_fldI T.cBid.cl T.nBid_is_withdrawn hB.ins (un_none (by rw [hgb]; simp)) (by show 4 < 1000; decide) ev_c (hbid rfl rfl) put_wd fun dx hi => ?_
  have k : Kp K (· ≠ .bid n) g g H0 (upd H0 z.2.bs[n].p (.ins A.Bid dx (bidF z.2.bs[n].la z.2.bs[n].pa z.2.bs[n].ba true))) := kp_upd (Ex.refl _) (fun h => h hgb) (rd_ins hi) fun _ _ => rfl
  let y' : BidG := { z.2.bs[n] with b := { z.2.bs[n].b with withdrawn := true } }
  let z' : Addr × SaleG := (z.1, { z.2 with bs := z.2.bs.set n y' })
  have hbl : z'.2.sale = z.2.sale.withdraw n := by
    show (SaleG.sale _) = _
    unfold SaleG.sale TimberAuction.Sale.withdraw TimberAuction.Sale.bid
    simp only [z', y', List.map_set]
    rw [List.getD_eq_getElem?_getD]
    have hbn : (z.2.bs.map (·.b))[n]? = some z.2.bs[n].b := hbn
    rw [hbn]
    rfl
  have hmp : (z.2.bs.set n y').map (fun y => V.ref y.p) = z.2.bs.map fun y => V.ref y.p := by
    rw [List.map_set]
    refine List.ext_getElem (by simp) fun i h1 h2 => ?_
    rw [List.getElem_set]
    split
    · rename_i h
      subst h
      simp [y']
    · rfl
  have hgt : ∀ (i : Nat) y, (z.2.bs.set n y')[i]? = some y → g y.p = .bid i := fun i y hy => by
    by_cases h : n = i
    · subst h
      rw [List.getElem?_set_self hn] at hy
      rw [← Option.some.inj hy]
      exact hgb
    · rw [List.getElem?_set_ne h] at hy
      exact hS.gbid i y hy
  have hDk := hG.putSale k (fun t ht => (bookT_ne ht).2.2.2 n) hz (z' := z') rfl ⟨k.ins hS.ins (by rw [hS.gs]; simp), k.at_ _ _ hS.lots (by rw [hS.gl]; simp), fun y hy => (hS.lot y hy).kp k (by simp),
    by show upd H0 z.2.bs[n].p _ z.2.ba = some (HO.lst ((z.2.bs.set n y').map _)); rw [hmp]; exact k.at_ _ _ hS.bids (by rw [hS.gb]; simp),
    fun y hy => by
      have hy : y ∈ z.2.bs.set n y' := hy
      obtain ⟨i, hi2, ei⟩ := List.mem_iff_getElem.mp hy
      by_cases h : n = i
      · subst h
        rw [List.getElem_set_self] at ei
        subst ei
        exact ⟨⟨dx, upd_same⟩, k.at_ _ _ hB.lots (by rw [hB.gl]; simp), k.at_ _ _ hB.prices (by rw [hB.gp]; simp), hB.bidders.kp k (by simp), hB.gl, hB.gp⟩
      · rw [List.getElem_set_ne h] at ei
        have hi3 : i < z.2.bs.length := by simpa using hi2
        have hym : y ∈ z.2.bs := by rw [← ei]; exact List.getElem_mem hi3
        refine (hS.bid y hym).kp k (by simp) ?_
        rw [hS.gbid i y (by rw [List.getElem?_eq_getElem hi3, ei])]
        intro e
        exact h (Tag.bid.inj e).symm, k.at_ _ _ hS.lims (by rw [hS.gm]; simp), hS.gs, hS.gl, hS.gb, hS.gm, hgt⟩
  have hRep := hR.putSale hz hDk (by rw [hbl]; exact wd_wsale hWS (by rw [sale_bids_len]; exact hn))
  rw [hbl] at hRep
  exact sj_done (g' := g) el_one hRep (fun a ha => un_tag ha) rfl
end
end TB
/-! # The desk: bids placed -/
namespace TB
open PySem PySem.Spec PyProof.Rows L2 Evl
open TimberAuction (Lot Bid Sale Contract Delivery Bill)
open TBM
open AuctionSpec (State)

section
variable {P : Program} {w : World} {K : PySem.W.Frag} {mg : Str → Option Value} {base : Heap} {A : Adr}
theorem any_not {ns : List Nat} {m : Nat} : (!((ns.filter fun x => !decide (x < m)).map nV).isEmpty) = ns.any fun x => decide (m ≤ x) := by
  rw [empty_all]
  induction ns with
  | nil => rfl
  | cons a l ih =>
    rw [List.all_cons, List.any_cons, Bool.not_and, ih]
    congr 1
    by_cases h : a < m
    · simp [h]
    · simp [h]; omega
theorem pairs_of {H : Hp} {ls : List (Nat × Nat)} {zs : List V} (h : Paired (fun (y : Nat × Nat) z => ∃ t, z = V.ref t ∧ H t = some (.tup (pV y))) ls zs) : ∃ ts : List (Addr × (Nat × Nat)), zs = ts.map (fun z => V.ref z.1) ∧ (∀ z ∈ ts, H z.1 = some (.tup (pV z.2))) ∧ ts.map (·.2) = ls := by
  induction h with
  | nil => exact ⟨[], rfl, fun z hz => absurd hz (by simp), rfl⟩
  | cons h _ ih =>
    obtain ⟨t, rfl, ht⟩ := h
    obtain ⟨ts, h1, h2, h3⟩ := ih
    refine ⟨(t, _) :: ts, by rw [List.map_cons, h1], fun z hz => ?_, by rw [List.map_cons, h3]⟩
    rcases List.mem_cons.mp hz with hz | hz
    · rw [hz]; exact ht
    · exact h2 z hz
theorem pairs_range {m : Nat} {l : List Nat} (h : l.length = 2 * m) : (List.range m).map (fun k => (l.getD (2 * k) 0, l.getD (2 * k + 1) 0)) = AuctionSpec.pairsOf l := by
  refine List.ext_getElem? fun i => ?_
  by_cases hi : i < m
  · rw [pairs_at m l h i hi, List.getElem?_map, List.getElem?_range hi]
    rfl
  · rw [List.getElem?_eq_none (by simp; omega), List.getElem?_eq_none (by rw [pairs_length m l h]; omega)]
theorem bidders_even {l : List Nat} (h : AuctionSpec.isBidderList l = true) : ∃ m, l.length = 2 * m ∧ 1 ≤ m ∧ m ≤ 4 ∧ ∀ x ∈ AuctionSpec.pairsOf l, x.1 ≤ 15 ∧ 1 ≤ x.2 ∧ x.2 ≤ 1000 := by
  unfold AuctionSpec.isBidderList at h
  obtain ⟨h1, h2⟩ := Bool.and_eq_true_iff.mp h
  simp at h1
  refine ⟨l.length / 2, by omega, by omega, by omega, fun x hx => ?_⟩
  have h3 := List.all_eq_true.mp h2 x hx
  obtain ⟨h4, h5⟩ := Bool.and_eq_true_iff.mp h3
  unfold AuctionSpec.inRange at h5
  obtain ⟨h6, h7⟩ := Bool.and_eq_true_iff.mp h5
  exact ⟨of_decide_eq_true h4, of_decide_eq_true h6, of_decide_eq_true h7⟩
theorem nodup_of {l : List Nat} (h : AuctionSpec.hasDuplicates l = false) : l.Nodup := by
  rw [dup_iff] at h
  exact Classical.byContradiction fun z => of_decide_eq_false h z
def a_place_bid : List V → Hp → AuctionSpec.Call → Prop := fun ws H c => ∃ (a1 a2 a3 : Addr) (ls ps bs : List Nat), ws = [.ref a1, .ref a2, .ref a3] ∧ NL H a1 ls ∧ NL H a2 ps ∧ NL H a3 bs ∧ ls.length ≤ 1000 ∧ ps.length ≤ 1000 ∧ bs.length ≤ 1000 ∧ c = .placeBid ls ps bs
abbrev sp_Desk_place_bid (K : PySem.W.Frag) (A : Adr) : Sp := spM K A a_place_bid
theorem dec_len {n m : Nat} : decide (nV n = V.int (m : Int)) = decide (n = m) := by
  rw [decide_eq_decide]
  constructor
  · intro h
    have := V.int.inj h
    omega
  · intro h
    rw [h]
    rfl
theorem sc_Desk_place_bid : FnScope ["self", "lots", "prices", "bidders", "pairs", "at", "lot"] ["self", "lots", "prices", "bidders"] (defScope (inClass (top 46) 8)) := ⟨rfl, rfl, rfl, by decide +kernel, rfl, by decide +kernel, by decide +kernel⟩
theorem ok_Desk_place_bid (T : Top K mg A) : MOk P w K mg base 3 A.Desk "place_bid" ["self", "lots", "prices", "bidders"] (sp_Desk_place_bid K A) := by
  refine mokM T.mDesk_place_bid sc_Desk_place_bid (fun ws H c ⟨_, _, _, _, _, _, e, _⟩ => by rw [e]; rfl) (fun _ _ _ _ _ _ us hl => match us, hl with | [_, _, _, _], _ => rfl) fun f cdv A' outer s' H E hr => ⟨_, (pss_cons (ps_if (PW.pt (pw_or (pt_not (pt_chain op_le op_le pe_int (pe_callB cr_lenS (by rfl) T.b_len boot_len (pa_cons (pv 1) pa_nil)) (pe_k rfl T.k_MOST_LOTS))) (pw_or (pt_not (pt_val (pe_f (ok_are_grades T) (hr.mono (by decide)) rfl (pa_cons (pv 2) (pa_cons (pe_k rfl T.k_MOST_VOLUME) pa_nil))))) (pw_or1 (pt_not (pt_val (pe_f (ok_are_bidders T) (hr.mono (by decide)) rfl (pa_cons (pv 3) pa_nil)))))))) (pss_one (ps_ret (pe_lst (pa_cons (pe_k rfl T.k_OUT) pa_nil)))) pss_nil)
      (pss_cons (ps_if (PW.pt (pw_or (pt_cmpR op_isN1 (pe_fld (pv 0) rfl) pe_non (nomark _)) (pw_or1 (pt_cmpR (op_neN (hu1 hr)) (pe_lc (own := [("lot", 6)]) (g := (gName 6)) (tt := (tNot (tTest (tChain (rI0 fun i j => .bl (decide (i ≤ j))) (rI0 fun i j => .bl (decide (i < j))) (tC (.int (0))) (tVar 6) (tCB (rLenS K) (tCons (tFld K (tFld K (tVar 0) "sale") "lots") tNil)))))) (te := (tVar 6)) (by rfl) sc_Desk_place_bid.nd (pi_list (pv 1)) (blkOk_by (own := [("lot", 6)]) (N := ["self", "lots", "prices", "bidders", "pairs", "at", "lot"]) (sc := defScope (inClass (top 46) 8)) (by decide +kernel)) (fun _ _ _ _ _ => (pg_name (i := 6) sc_Desk_place_bid.nd rfl (by first | exact Or.inl rfl | exact Or.inr rfl))) (fun _ _ _ _ _ => (pts_one (pt_not (pt_chain op_le op_lt pe_int (pv 6) (pe_callB cr_lenS (by rfl) T.b_len boot_len (pa_cons (pe_fld (pe_fld (pv 0) rfl) rfl) pa_nil)))))) (fun _ _ _ _ _ => (pv 6))) (pe_lst pa_nil) (nomark _))))) (pss_one (ps_ret (pe_lst (pa_cons (pe_k rfl T.k_MISSING) pa_nil)))) pss_nil)
      (pss_cons (ps_if (PW.pt (pw_or (pt_val (pe_f (ok_has_twice T) (hr.mono (by decide)) rfl (pa_cons (pv 1) pa_nil))) (pw_or (pt_val (pe_f (ok_has_twice T) (hr.mono (by decide)) rfl (pa_cons (pe_alt0 (pv 3)) pa_nil))) (pw_or1 (pt_not (pt_val (pe_m0 (ok_Desk_is_sealed T) (pv 0) T.cDesk.cl (hr.mono (by decide))))))))) (pss_one (ps_ret (pe_lst (pa_cons (pe_k rfl T.k_NOT_POSSIBLE) pa_nil)))) pss_nil)
      (pss_cons (ps_if (pt_cmpR op_eq (pe_callB cr_lenS (by rfl) T.b_len boot_len (pa_cons (pe_fld (pe_fld (pv 0) rfl) rfl) pa_nil)) (pe_k rfl T.k_MOST_BIDS) (nomark _)) (pss_one (ps_ret (pe_lst (pa_cons (pe_k rfl T.k_FULL) pa_nil)))) pss_nil)
      (pss_cons (ps_setLc (i := 4) (own := [("at", 5)]) (g := (gName 5)) (tt := tYes) (te := (tTup (tCons (tOp (rIxL K) (tVar 3) (tVar 5)) (tCons (tOp (rIxL K) (tVar 3) (tOp (rI0 fun i j => .int (i + j)) (tVar 5) (tC (.int (1))))) tNil)))) (by rfl) sc_Desk_place_bid.nd rfl rfl (sw_true rfl rfl rfl (by decide +kernel)) (pi_range3 (by rfl) T.b_range (pa_cons pe_int (pa_cons (pe_callB cr_lenS (by rfl) T.b_len boot_len (pa_cons (pv 3) pa_nil)) (pa_cons pe_int pa_nil)))) (blkOk_by (own := [("at", 5)]) (N := ["self", "lots", "prices", "bidders", "pairs", "at", "lot"]) (sc := defScope (inClass (top 46) 8)) (by decide +kernel)) (fun _ _ _ _ _ => (pg_name (i := 5) sc_Desk_place_bid.nd rfl (by first | exact Or.inl rfl | exact Or.inr rfl))) (fun _ _ _ _ _ => pts_nil) (fun _ _ _ _ _ => (pe_tup (pa_cons (pe_ix ix_list (pv 3) (pv 5) (fun _ _ => rfl)) (pa_cons (pe_ix ix_list (pv 3) (pe_op op_add (pv 5) pe_int) (fun _ _ => rfl)) pa_nil)))))
      (pss_cons (ps_expr (pe_bm PySem.F.plainAttrs_list PySem.F.slot_list_append PySem.F.type_list_append mt_append (pe_fld (pe_fld (pv 0) rfl) rfl) (pa_cons (pe_new T.cBid (ok_Bid_init T) (hr.mono (by decide)) rfl (pa_cons (pe_callTy cr_listS (by rfl) T.b_list (by decide +kernel) (pa_cons (pv 1) pa_nil)) (pa_cons (pe_f (ok_filled T) (hr.mono (by decide)) rfl (pa_cons (pv 2) pa_nil)) (pa_cons (pv 4) pa_nil)))) pa_nil)))
      (pss_one (ps_ret (pe_lst (pa_cons (pe_op op_sub (pe_callB cr_lenS (by rfl) T.b_len boot_len (pa_cons (pe_fld (pe_fld (pv 0) rfl) rfl) pa_nil)) pe_int) pa_nil)))))))))), ?_⟩
  rintro ws g G st H0 c e hR ⟨a1, a2, a3, ls, ps, bs, rfl, hN1, hN2, hN3, hl1, hl2, hl3, rfl⟩
  have hG := hR.at_
  refine sq_ifRet (b := !AuctionSpec.inRange 1 10 ls.length || (!(AuctionSpec.inRange 1 10 ps.length && AuctionSpec.allAtMost 1000000 ps) || !AuctionSpec.isBidderList bs))
    (et_or (et_not (et_test (et_within (lo := 1) (x := ls.length) (hi := 10) ev_c ((ev_lenL (ev_var rfl) hN1).to (by rw [List.length_map]; rfl)) ev_c))) fun _ => et_or (et_not (et_grades T (most := 1000000) (ev_var rfl) ev_c hN2 hl2)) fun _ => et_not (et_B (ev_f (ea_cons (ev_var rfl) ea_nil) (spV_go ⟨a3, bs, rfl, hN3, hl3, rfl⟩)))) (fun hc => ?_) (fun hc => ?_)
  · refine sj_code hR ?_
    simp only [AuctionSpec.step]
    rw [if_pos]
    · rfl
    · show AuctionSpec.inRange 1 10 ls.length = false ∨ AuctionSpec.inRange 1 10 ps.length = false ∨ AuctionSpec.allAtMost 1000000 ps = false ∨ AuctionSpec.isBidderList bs = false
      revert hc
      generalize AuctionSpec.inRange 1 10 ls.length = b1
      generalize AuctionSpec.inRange 1 10 ps.length = b2
      generalize AuctionSpec.allAtMost 1000000 ps = b3
      generalize AuctionSpec.isBidderList bs = b4
      cases b1 <;> cases b2 <;> cases b3 <;> cases b4 <;> simp
  have hcc : AuctionSpec.inRange 1 10 ls.length = true ∧ AuctionSpec.inRange 1 10 ps.length = true ∧ AuctionSpec.allAtMost 1000000 ps = true ∧ AuctionSpec.isBidderList bs = true := by
    revert hc
    generalize AuctionSpec.inRange 1 10 ls.length = b1
    generalize AuctionSpec.inRange 1 10 ps.length = b2
    generalize AuctionSpec.allAtMost 1000000 ps = b3
    generalize AuctionSpec.isBidderList bs = b4
    cases b1 <;> cases b2 <;> cases b3 <;> cases b4 <;> simp
  obtain ⟨k1, k2, k3, k4⟩ := hcc
  have h1 : ¬ (AuctionSpec.inRange 1 10 ls.length = false ∨ AuctionSpec.inRange 1 10 ps.length = false ∨ AuctionSpec.allAtMost AuctionSpec.maxQuantity ps = false ∨ AuctionSpec.isBidderList bs = false) := by
    show ¬ (AuctionSpec.inRange 1 10 ls.length = false ∨ AuctionSpec.inRange 1 10 ps.length = false ∨ AuctionSpec.allAtMost 1000000 ps = false ∨ AuctionSpec.isBidderList bs = false)
    rw [k1, k2, k3, k4]
    simp
  have hlen : ∀ {l : List Nat}, AuctionSpec.inRange 1 10 l.length = true → l.length ≤ 10 := fun h => by
    unfold AuctionSpec.inRange at h
    simp at h
    exact h.2
  obtain ⟨m, hm, hm1, hm4, hbw⟩ := bidders_even k4
  obtain ⟨halt0, halt1⟩ := alt_pairs m bs hm
  have hpl := pairs_length m bs hm
  refine sq_ifRet (b := G.sl.isNone || (match G.sl with | none => false | some z => ls.any fun x => decide (z.2.ls.length ≤ x))) (et_or (et_test (ev_noSale T hG (ev_var rfl))) fun hn => ?_) (fun hc => ?_) (fun hc => ?_)
  · obtain ⟨z, hz⟩ := no_sale rfl hn
    have hS := hG.sale z hz
    rw [hz]
    simp only
    refine et_test ((ev_neN (xs := (ls.filter fun x => !decide (x < z.2.ls.length)).map nV) (evl_lc (fun x => !decide (x < z.2.ls.length)) nV (evi_list (K := K) ls nV (ev_var rfl) (sq_of hN1)) up_l (sq_of hN1) (by omega) ?_)).to (congrArg V.bl any_not))
    rintro x v H1 hx e1 rfl
    exact ⟨_, evg_name, rfl, et_not (et_test (et_below (x := x) (hi := z.2.ls.length) ev_c (ev_var rfl) ((ev_lenL (fld_Sale_lots T (fld_sale T (hG.up e1) hz (ev_var rfl)) (hS.ins.up e1)) (e1 _ _ hS.lots)).to (by rw [List.length_map]; rfl)))), fun _ => ev_var rfl⟩
  · refine sj_code hR ?_
    simp only [AuctionSpec.step, AuctionSpec.withSale]
    rw [if_neg h1]
    cases hz : G.sl with
    | none => rw [hR.same.none hz]; rfl
    | some z =>
      rw [hR.same.some hz]
      rw [hz] at hc
      simp only [Option.isNone_some, Bool.false_or] at hc
      simp only
      have hll : z.2.sale.lots.length = z.2.ls.length := by simp [SaleG.sale]
      rw [if_pos (by rw [hll]; exact hc)]
      rfl
  obtain ⟨hn, hc⟩ := Bool.or_eq_false_iff.mp hc
  obtain ⟨z, hz⟩ := no_sale rfl hn
  have hS := hG.sale z hz
  have hWS := hR.wf.sale z hz
  have hst := hR.same.some hz
  have hll : z.2.sale.lots.length = z.2.ls.length := by simp [SaleG.sale]
  rw [hz] at hc
  simp only at hc
  have h2 : ¬ (ls.any fun x => decide (z.2.sale.lots.length ≤ x)) = true := by rw [hll, hc]; decide
  refine sq_ifRet (b := AuctionSpec.hasDuplicates ls || (AuctionSpec.hasDuplicates ((AuctionSpec.pairsOf bs).map fun y => y.1) || !decide (G.day ≤ z.2.cd)))
    (et_or (et_B (ev_f (ea_cons (ev_var rfl) ea_nil) (spV_go ⟨a1, ls, rfl, sq_of hN1, hl1, rfl⟩))) fun _ => et_or (et_B (EvP.val (R := isV _) (evp_callP (ap_one (el_alt (K := K) (ev_var rfl) hN3).p) fun vs H1 e1 ⟨x, ev, q, ex, hq⟩ => ?_) fun _ _ h => h)) fun _ => et_not (et_sealed T hG hz (ev_var rfl))) (fun hc => ?_) (fun hc => ?_)
  · subst ev ex
    rw [alt_map, halt0] at hq
    exact spV_go ⟨q, _, rfl, sq_of hq, by rw [List.length_map]; omega, rfl⟩
  · refine sj_code hR ?_
    simp only [AuctionSpec.step, AuctionSpec.withSale]
    rw [if_neg h1, hst]
    simp only
    rw [if_neg h2, if_pos]
    · rfl
    · rw [accepts hR.same]
      rcases Bool.or_eq_true_iff.mp hc with h | h
      · exact .inl h
      · rcases Bool.or_eq_true_iff.mp h with h | h
        · exact .inr (.inl h)
        · exact .inr (.inr (by simpa using h))
  obtain ⟨hd1, hc⟩ := Bool.or_eq_false_iff.mp hc
  obtain ⟨hd2, hc⟩ := Bool.or_eq_false_iff.mp hc
  have hday : G.day ≤ z.2.cd := by simpa using hc
  have h3 : ¬ (AuctionSpec.hasDuplicates ls = true ∨ AuctionSpec.hasDuplicates ((AuctionSpec.pairsOf bs).map fun y => y.1) = true ∨ AuctionSpec.acceptsBids st z.2.sale = false) := by
    rw [hd1, hd2, accepts hR.same, decide_eq_true hday]
    simp
  have hbl : z.2.sale.bids.length = z.2.bs.length := sale_bids_len
  refine sq_ifRet (b := decide (z.2.bs.length = 12)) (et_test ((ev_eqS (x := nV z.2.bs.length) (y := .int 12) ((ev_lenL (fld_Sale_bids T (fld_sale T hG hz (ev_var rfl)) hS.ins) hS.bids).to (by rw [List.length_map]; rfl)) ev_c rfl).to (congrArg V.bl (dec_len (m := 12))))) (fun hc => ?_) (fun hc => ?_)
  · refine sj_code hR ?_
    simp only [AuctionSpec.step, AuctionSpec.withSale]
    rw [if_neg h1, hst]
    simp only
    rw [if_neg h2, if_neg h3, if_pos (by rw [hbl, of_decide_eq_true hc]; exact Nat.le_refl _)]
    rfl
  have hnb := hWS.nbids
  have hlt : z.2.bs.length < 12 := by
    have := of_decide_eq_false hc
    omega
  have hstep : AuctionSpec.step st (.placeBid ls ps bs) = ({ st with sale := some { z.2.sale with bids := z.2.sale.bids ++ [⟨ls, TimberAuction.byGrade ps, AuctionSpec.pairsOf bs, false⟩] } }, [(z.2.sale.bids.length : Int)]) := by
    simp only [AuctionSpec.step, AuctionSpec.withSale]
    rw [if_neg h1, hst]
    simp only
    rw [if_neg h2, if_neg h3, if_neg (by omega)]
  rw [hstep]
  -- the pairs
  refine sq_asgLP (R := fun zs H1 => Paired (fun (y : Nat) z => ∃ t, z = V.ref t ∧ H1 t = some (.tup (pV (bs.getD (2 * y) 0, bs.getD (2 * y + 1) 0)))) ((List.range m).filter fun _ => true) zs)
    (evlp_lcU (fun _ => true) (fun y => pV (bs.getD (2 * y) 0, bs.getD (2 * y + 1) 0)) (evi_range2 (m := m) ev_c ((ev_lenL (ev_var rfl) hN3).to (by rw [List.length_map, hm])) ev_c (by omega)) (fun _ _ _ h => h) trivial (by rw [List.length_range]; omega) ?_) fun q zs H1 bq nq e1 hq hpair => ?_
  · rintro y x H1 hy e1 rfl
    have hy : y < m := List.mem_range.mp hy
    have hget : ∀ j, j < bs.length → (bs.map nV)[j]? = some (nV (bs.getD j 0)) := fun j hj => by
      rw [List.getElem?_map, List.getD_eq_getElem?_getD, List.getElem?_eq_getElem hj]
      rfl
    refine ⟨_, evg_name, rfl, et_yes, fun _ => eu_tup (ea_cons (ev_ixL (n := 2 * y) (ev_var rfl) (ev_var rfl) (e1 _ _ hN3) (hget _ (by omega))) (ea_cons (ev_ixL (n := 2 * y + 1) (ev_var rfl) ((ev_I0 (i := ((2 * y : Nat) : Int)) (j := 1) (ev_var rfl) ev_c).to rfl) (e1 _ _ hN3) (hget _ (by omega))) ea_nil)) (by show 2 ≤ 100000; decide)⟩
  rw [filter_true] at hpair
  have hpair2 : ∀ {l : List Nat} {zs : List V}, Paired (fun (y : Nat) z => ∃ t, z = V.ref t ∧ H1 t = some (.tup (pV (bs.getD (2 * y) 0, bs.getD (2 * y + 1) 0)))) l zs → Paired (fun (y : Nat × Nat) z => ∃ t, z = V.ref t ∧ H1 t = some (.tup (pV y))) (l.map fun k => (bs.getD (2 * k) 0, bs.getD (2 * k + 1) 0)) zs := fun {l zs} h => by
    induction h with
    | nil => exact .nil
    | cons h _ ih => exact .cons h ih
  obtain ⟨ts, hts1, hts2, hts3⟩ := pairs_of (hpair2 hpair)
  rw [pairs_range hm] at hts3
  subst hts1
  have hG1 := hG.up e1
  have hS1 := hS.up e1
  refine sq_appN (R := fun v H2 H3 => ∃ p la pa, v = .ref p ∧ H2 p = none ∧ H2 la = none ∧ H2 pa = none ∧ la ≠ p ∧ pa ≠ p ∧ la ≠ pa ∧ Ins H3 p A.Bid (bidF la pa q false) ∧ NL H3 la ls ∧ NL H3 pa (TimberAuction.byGrade ps)) hS1.bids (un_none (by rw [hS.gb]; decide)) (fld_Sale_bids T (fld_sale T hG1 hz (ev_var rfl)) hS1.ins)
    (evn_new (RA := fun vs H2 H3 => ∃ la pa, vs = [.ref la, .ref pa, .ref q] ∧ H2 la = none ∧ H2 pa = none ∧ la ≠ pa ∧ NL H3 la ls ∧ NL H3 pa (TimberAuction.byGrade ps)) ?_ ?_) (by rw [List.length_map]; omega) fun v H2 H3 e2 eb e23 ⟨p, la, pa, ev, hp, hla, hpa, n1, n2, n3, hi, hv1, hv2⟩ => ?_
  · intro H2 e2 Q qq
    refine (el_listA (K := K) (ev_var (v := .ref a1) (i := 1) rfl) (e1 _ _ hN1)) H2 e2 _ fun la H3 nla e3 hla => ?_
    refine (evn_call (R := isLF ((TimberAuction.byGrade ps).map nV)) (ea_cons (ev_var (v := .ref a2) rfl) ea_nil) ⟨a2, ps, rfl, e1 _ _ hN2, hlen k2, rfl⟩ fun _ _ _ _ _ ea ek h => isLF_up ea ek h) H3 (e2.trans e3) _ fun v H4 e4 ⟨pa, ev, hv, nva⟩ => ?_
    subst ev
    refine (ev_var (v := .ref q) (i := 4) rfl) H4 ((e2.trans e3).trans e4) _ fun H5 e5 => ?_
    exact qq _ H5 ((e3.trans e4).trans e5) ⟨la, pa, rfl, nla, fresh_back e3 nva, ne_of_none hla nva, (e4.trans e5) _ _ hla, e5 _ _ hv⟩
  · rintro vs H2 H3 e2 e3 ⟨la, pa, rfl, nla, npa, n3, hv1, hv2⟩
    exact ⟨_, ⟨la, pa, q, rfl, rfl⟩, fun p H4 H5 np hi e35 e45 => ⟨p, la, pa, rfl, fresh_back e3 np, nla, npa, ne_of_none hv1 np, ne_of_none hv2 np, n3, hi.up e45, e35 _ _ hv1, e35 _ _ hv2⟩⟩
  subst ev
  have nba1 : z.2.ba ≠ p := ne_of_none (e2 _ _ hS1.bids) hp
  have nba2 : z.2.ba ≠ la := ne_of_none (e2 _ _ hS1.bids) hla
  have nba3 : z.2.ba ≠ pa := ne_of_none (e2 _ _ hS1.bids) hpa
  have nqp : q ≠ p := ne_of_none (e2 _ _ hq) hp
  have nql : q ≠ la := ne_of_none (e2 _ _ hq) hla
  have nqa : q ≠ pa := ne_of_none (e2 _ _ hq) hpa
  have nbq : z.2.ba ≠ q := ne_of_none hS.bids nq
  let g' := tagAt (tagAt (tagAt (tagAt g p (.bid z.2.bs.length)) la .fro) pa .fro) q .fro
  have e02 := e1.trans e2
  have ht : ∀ x, H0 x ≠ none → g' x = g x := tag_tagAt (tag_tagAt (tag_tagAt (tag_tagAt (fun _ _ => rfl) (fresh_back e02 hp)) (fresh_back e02 hla)) (fresh_back e02 hpa)) nq
  have hun : ∀ x, un g H x ≠ none → g' x = .no := un_tagAt (un_tagAt (un_tagAt (un_tagAt (fun x hx => un_tag hx) (fresh_back eb hp)) (fresh_back eb hla)) (fresh_back eb hpa)) bq
  have e03 := e02.trans e23
  have k : Kp K (· ≠ .bids) g g' H0 (upd H3 z.2.ba (.lst (z.2.bs.map (fun y => V.ref y.p) ++ [.ref p]))) := kp_upd e03 (fun h => h hS.gb) (rd_lst hS.bids) ht
  let y' : BidG := ⟨p, la, pa, q, ts, ⟨ls, TimberAuction.byGrade ps, AuctionSpec.pairsOf bs, false⟩⟩
  let z' : Addr × SaleG := (z.1, { z.2 with bs := z.2.bs ++ [y'] })
  have hbsl : z'.2.sale = { z.2.sale with bids := z.2.sale.bids ++ [⟨ls, TimberAuction.byGrade ps, AuctionSpec.pairsOf bs, false⟩] } := by
    show (SaleG.sale _) = _
    simp [SaleG.sale, z', y']
  have gp' : g' p = .bid z.2.bs.length := by
    show tagAt (tagAt (tagAt (tagAt g p (.bid z.2.bs.length)) la .fro) pa .fro) q .fro p = _
    rw [tagAt_ne nqp.symm, tagAt_ne n2.symm, tagAt_ne n1.symm, tagAt_same]
  have hDk := hG.putSale k (fun t ht => (bookT_ne ht).2.1) hz (z' := z') rfl ⟨k.ins hS.ins (by rw [hS.gs]; decide), k.at_ _ _ hS.lots (by rw [hS.gl]; decide), fun y hy => (hS.lot y hy).kp k (by decide), by
      show upd H3 z.2.ba _ z.2.ba = _
      rw [upd_same]
      show some (HO.lst _) = some (HO.lst ((z.2.bs ++ [y']).map _))
      rw [List.map_append]
      rfl, fun y hy => by
      rcases List.mem_append.mp hy with hy | hy
      · exact (hS.bid y hy).kp k (by decide) (by obtain ⟨j, e⟩ := hS.bidTag hy; rw [e]; simp)
      · rw [List.mem_singleton.mp hy]
        refine ⟨hi.elim fun dx h => ⟨dx, by show upd H3 _ _ p = _; rw [upd_ne nba1.symm]; exact h⟩, by show upd H3 _ _ la = _; rw [upd_ne nba2.symm]; exact hv1, by show upd H3 _ _ pa = _; rw [upd_ne nba3.symm]; exact hv2, ⟨?_, fun t htm => ?_, hts3, tagAt_same⟩, ?_, ?_⟩
        · show upd H3 _ _ q = _
          rw [upd_ne nbq.symm]
          exact (e2.trans e23) _ _ hq
        · have h1 := hts2 t htm
          have hne : t.1 ≠ z.2.ba := ne_of h1 (e1 _ _ hS.bids) (by intro z; cases z)
          rw [upd_ne hne]
          exact (e2.trans e23) _ _ h1
        · show tagAt (tagAt (tagAt (tagAt g p (.bid z.2.bs.length)) la .fro) pa .fro) q .fro la = _
          rw [tagAt_ne nql.symm, tagAt_ne n3, tagAt_same]
        · show tagAt (tagAt (tagAt (tagAt g p (.bid z.2.bs.length)) la .fro) pa .fro) q .fro pa = _
          rw [tagAt_ne nqa.symm, tagAt_same],
    k.at_ _ _ hS.lims (by rw [hS.gm]; decide), by rw [k.tagI hS.ins]; exact hS.gs, by show g' z.2.la = _; rw [k.tag _ (some_ne hS.lots)]; exact hS.gl, by show g' z.2.ba = _; rw [k.tag _ (some_ne hS.bids)]; exact hS.gb, by show g' z.2.ma = _; rw [k.tag _ (some_ne hS.lims)]; exact hS.gm,
    fun i y hy => by
      have hy : (z.2.bs ++ [y'])[i]? = some y := hy
      by_cases hi : i < z.2.bs.length
      · rw [List.getElem?_append_left hi] at hy
        rw [k.tagI (hS.bid y (List.mem_of_getElem? hy)).ins]
        exact hS.gbid i y hy
      · rw [List.getElem?_append_right (by omega)] at hy
        obtain ⟨h5, h6⟩ := List.getElem?_eq_some_iff.mp hy
        have h7 : i = z.2.bs.length := by
          rw [List.length_singleton] at h5
          omega
        subst h7
        have h8 : y = y' := by rw [← h6]; simp
        rw [h8]
        exact gp'⟩
  have hRep := hR.putSale hz hDk (by
    rw [hbsl]
    refine ⟨hWS.cd, hWS.ru, hWS.ad, hWS.nlots, hWS.lots, ?_, fun b hb => ?_, hWS.nlim, hWS.lim⟩
    · show (z.2.sale.bids ++ [_]).length ≤ 12
      rw [List.length_append, List.length_singleton]
      omega
    · rcases List.mem_append.mp hb with hb | hb
      · exact hWS.bids b hb
      · rw [List.mem_singleton.mp hb]
        refine ⟨hlen k1, nodup_of hd1, fun x hx => ?_, byGrade_length _, byGrade_le (all_le k3), ⟨by show 1 ≤ (AuctionSpec.pairsOf bs).length; omega, by show (AuctionSpec.pairsOf bs).length ≤ 4; omega⟩, hbw, nodup_of hd2⟩
        show x < z.2.sale.lots.length
        refine Nat.lt_of_not_le fun h => h2 (List.any_eq_true.mpr ⟨x, hx, decide_eq_true h⟩))
  rw [hbsl] at hRep
  refine sj_done (g' := g') (EvL.to (el_lst (ea_cons (ev_I0 (j := 1) ((ev_lenL (fld_Sale_bids T (fld_sale T hDk (z := z') rfl (ev_var rfl)) (hDk.sale z' rfl).ins) (hDk.sale z' rfl).bids)) ev_c) ea_nil) (by show 1 ≤ 100000; decide)) ?_) hRep hun rfl
  rw [List.length_map]
  show [V.int (((z.2.bs ++ [y']).length : Nat) - 1)] = [V.int (z.2.sale.bids.length : Int)]
  rw [List.length_append, List.length_singleton, hbl]
  congr 2
  omega
end
end TB
/-! # The desk: what the bids tell -/
namespace TB
open PySem PySem.Spec PyProof.Rows L2 Evl
open TimberAuction (Lot Bid Sale Contract Delivery Bill)
open TBM
open AuctionSpec (State)

section
variable {P : Program} {w : World} {K : PySem.W.Frag} {mg : Str → Option Value} {base : Heap} {A : Adr}
/-- `return found`, found a list made here -/
theorem sj_found {g : Tg} {H H' : Hp} {G : DeskG} {st : State} {σ : L2.St} {N : L2.St → Hp → Prop} {r : State × List Int} {i : Nat} {q : Addr} (hx : σ[i]? = some (some (.ref q))) (hq : H' q = some (.lst (r.2.map V.int))) (hb : un g H q = none) (hr : Rep K A g H' G st) (hs : r.1 = st) : Sj (un g H) (tRet (tVar i)) σ H' N (Pm K A g H G.p r) :=
  sj_ret (ev_var hx) ⟨g, G, fun a ha => un_tag ha, rfl, by rw [hs]; exact hr, q, rfl, hb, hq⟩
def a_list_bids : List V → Hp → AuctionSpec.Call → Prop := fun ws H c => ws = [] ∧ c = .listBids
abbrev sp_Desk_list_bids (K : PySem.W.Frag) (A : Adr) : Sp := spM K A a_list_bids
def bidRow (S : Sale) (b : Bid) : List Int := [(S.value b : Int), if b.withdrawn = true then 1 else 0, if S.isAdmissible b = true then 1 else 0]
theorem sc_Desk_list_bids : FnScope ["self", "found", "bid"] ["self"] (defScope (inClass (top 46) 10)) := ⟨rfl, rfl, rfl, by decide +kernel, rfl, by decide +kernel, by decide +kernel⟩
theorem ok_Desk_list_bids (T : Top K mg A) : MOk P w K mg base 4 A.Desk "list_bids" ["self"] (sp_Desk_list_bids K A) := by
  refine mokM T.mDesk_list_bids sc_Desk_list_bids (fun ws H c ⟨e, _⟩ => by rw [e]; rfl) (fun _ _ _ _ _ _ us hl => match us, hl with | [_], _ => rfl) fun f cdv A' outer s' H E hr => ⟨_, (pss_cons (ps_if (pt_cmpR op_isN1 (pe_fld (pv 0) rfl) pe_non (nomark _)) (pss_one (ps_ret (pe_lst (pa_cons (pe_k rfl T.k_MISSING) pa_nil)))) pss_nil)
      (pss_cons (ps_if (pt_val (pe_m0 (ok_Desk_is_sealed T) (pv 0) T.cDesk.cl (hr.mono (by decide)))) (pss_one (ps_ret (pe_lst (pa_cons (pe_k rfl T.k_NOT_POSSIBLE) pa_nil)))) pss_nil)
      (pss_cons (ps_set (i := 1) sc_Desk_list_bids.nd rfl (by first | exact Or.inl rfl | exact Or.inr rfl) (pe_lst (pa_cons (pe_callB cr_lenS (by rfl) T.b_len boot_len (pa_cons (pe_fld (pe_fld (pv 0) rfl) rfl) pa_nil)) pa_nil)))
      (pss_cons (ps_for PassesOwn.never rfl (pi_list (pe_fld (pe_fld (pv 0) rfl) rfl)) (pg_name (i := 2) sc_Desk_list_bids.nd rfl (by first | exact Or.inl rfl | exact Or.inr rfl)) (pss_one (ps_expr (pe_bm PySem.F.plainAttrs_list PySem.F.slot_list_extend PySem.F.type_list_extend mt_extend (pv 1) (pa_cons (pe_lst (pa_cons (pe_m (ok_Sale_value_of T) (pe_fld (pv 0) rfl) T.cSale.cl (hr.mono (by decide)) (pa_cons (pv 2) pa_nil)) (pa_cons (pe_callTy cr_int1 (by rfl) T.b_int (by decide +kernel) (pa_cons (pe_fld (pv 2) rfl) pa_nil)) (pa_cons (pe_callTy cr_int1 (by rfl) T.b_int (by decide +kernel) (pa_cons (pe_m (ok_Sale_is_admissible T) (pe_fld (pv 0) rfl) T.cSale.cl (hr.mono (by decide)) (pa_cons (pv 2) pa_nil)) pa_nil)) pa_nil)))) pa_nil)))))
      (pss_one (ps_ret (pv 1))))))), ?_⟩
  rintro ws g G st H0 c e hR ⟨rfl, rfl⟩
  have hG := hR.at_
  refine sq_ifRet (b := G.sl.isNone) (et_test (ev_noSale T hG (ev_var rfl))) (fun hc => ?_) (fun hc => ?_)
  · refine sj_code hR ?_
    simp only [AuctionSpec.step, AuctionSpec.withSale]
    rw [hR.same.none (by simpa using hc)]
    rfl
  obtain ⟨z, hz⟩ := no_sale rfl hc
  have hS := hG.sale z hz
  have hWS := hR.wf.sale z hz
  have hst := hR.same.some hz
  refine sq_ifRet (b := decide (G.day ≤ z.2.cd)) (et_sealed T hG hz (ev_var rfl)) (fun hc => ?_) (fun hc => ?_)
  · refine sj_code hR ?_
    simp only [AuctionSpec.step, AuctionSpec.withSale]
    rw [hst]
    simp only
    rw [if_pos (by rw [accepts hR.same]; exact hc)]
    rfl
  have hstep : AuctionSpec.step st .listBids = (st, (z.2.sale.bids.length : Int) :: z.2.sale.bids.flatMap (bidRow z.2.sale)) := by
    simp only [AuctionSpec.step, AuctionSpec.withSale]
    rw [hst]
    simp only
    rw [if_neg (by rw [accepts hR.same, hc]; decide)]
    rfl
  rw [hstep]
  refine sq_asgL (xs := [nV z.2.bs.length]) (el_lst (ea_cons ((ev_lenL (fld_Sale_bids T (fld_sale T hG hz (ev_var rfl)) hS.ins) hS.bids).to (by rw [List.length_map]; rfl)) ea_nil) (by show 1 ≤ 100000; decide)) fun p H1 bp np e1 hp => ?_
  have hG1 := hG.up e1
  have hS1 := hS.up e1
  have hkeep : Ex H0 (less H1 p) := ex_less np e1
  refine sq_for (evi_list (K := K) z.2.bs (fun y => V.ref y.p) (fld_Sale_bids T (fld_sale T hG1 hz (ev_var rfl)) hS1.ins) (sq_of hS1.bids))
    (fun i σ' Hk => ∃ o : Option V, σ' = [some (.ref G.p), some (.ref p), o] ∧ Ex (less H1 p) Hk ∧ Hk p = some (.lst (((z.2.bs.length : Int) :: (z.2.bs.take i).flatMap fun y => bidRow z.2.sale y.b).map V.int)))
    ⟨none, rfl, less_ex, hp⟩ up_l (fun i σ' Hk _ ⟨_, _, e2, _⟩ => sq_of ((hkeep.trans e2) _ _ hS.bids)) ?_ ?_
  · rintro i y x σ' Hk H2 hy ⟨o, rfl, e2, hk⟩ e3 rfl
    have hym := List.mem_of_getElem? hy
    have hyn : i < z.2.bs.length := (List.getElem?_eq_some_iff.mp hy).1
    have e02 := (hkeep.trans e2).trans e3
    have hG2 := hG.up e02
    have hS2 := hS.up e02
    have hB2 := (hS.bid y hym).up e02
    have hwb : WBid z.2.sale.lots.length y.b := hWS.bids _ (by show y.b ∈ z.2.bs.map (·.b); exact List.mem_map.mpr ⟨y, hym, rfl⟩)
    refine ⟨_, evg_name, Sj.last (sq_ext (zs := (bidRow z.2.sale y.b).map V.int) (e3 _ _ hk) bp (ev_var rfl) (el_lst (ea_cons (ev_meth (fld_sale T hG2 hz (ev_var rfl)) hS2.ins no_Sale_value_of (ea_cons (ev_var rfl) ea_nil) (spV_go ⟨g, z.1, z.2, y, rfl, hS2, hB2, hwb, hWS, rfl⟩))
      (ea_cons (ev_int1 (fld_Bid_is_withdrawn T (ev_var rfl) hB2.ins)) (ea_cons (ev_int1 (ev_meth (fld_sale T hG2 hz (ev_var rfl)) hS2.ins no_Sale_is_admissible (ea_cons (ev_var rfl) ea_nil) (spV_go ⟨g, z.1, z.2, y, rfl, hS2, hB2, hwb, hWS, rfl⟩))) ea_nil))) (by show 3 ≤ 100000; decide)) ?_ (sj_next ⟨_, rfl, (e2.trans e3).mut less_self, ?_⟩))⟩
    · rw [List.length_map, List.length_map, List.length_cons, List.length_flatMap]
      have h1 := sum_le (l := (z.2.bs.take i).map fun y => (bidRow z.2.sale y.b).length) (B := 3) fun x hx => by
        obtain ⟨w, _, rfl⟩ := List.mem_map.mp hx
        exact Nat.le_refl 3
      rw [List.length_map, List.length_take] at h1
      have h2 := hWS.nbids
      rw [sale_bids_len] at h2
      show _ + 3 ≤ _
      omega
    · rw [upd_same, take_succ hy, List.flatMap_append, List.flatMap_singleton, ← List.map_append]
      rfl
  · rintro σ' Hk ⟨o, rfl, e2, hk⟩
    rw [List.take_length] at hk
    refine sj_found rfl ?_ bp (hR.up (hkeep.trans e2)) rfl
    rw [hk]
    show some (HO.lst _) = some (HO.lst (((z.2.sale.bids.length : Int) :: z.2.sale.bids.flatMap (bidRow z.2.sale)).map V.int))
    rw [sale_bids_len]
    congr 4
    show _ = (z.2.bs.map (·.b)).flatMap _
    rw [List.flatMap_map]
def a_check_selection : List V → Hp → AuctionSpec.Call → Prop := fun ws H c => ∃ (a : Addr) (ns : List Nat), ws = [.ref a] ∧ NL H a ns ∧ ns.length ≤ 1000 ∧ c = .checkSelection ns
abbrev sp_Desk_check_selection (K : PySem.W.Frag) (A : Adr) : Sp := spM K A a_check_selection
theorem sc_Desk_check_selection : FnScope ["self", "bids", "bid"] ["self", "bids"] (defScope (inClass (top 46) 11)) := ⟨rfl, rfl, rfl, by decide +kernel, rfl, by decide +kernel, by decide +kernel⟩
theorem ok_Desk_check_selection (T : Top K mg A) : MOk P w K mg base 5 A.Desk "check_selection" ["self", "bids"] (sp_Desk_check_selection K A) := by
  refine mokM T.mDesk_check_selection sc_Desk_check_selection (fun ws H c ⟨_, _, e, _⟩ => by rw [e]; rfl) (fun _ _ _ _ _ _ us hl => match us, hl with | [_, _], _ => rfl) fun f cdv A' outer s' H E hr => ⟨_, (pss_cons (ps_if (pt_cmpR op_gt (pe_callB cr_lenS (by rfl) T.b_len boot_len (pa_cons (pv 1) pa_nil)) (pe_k rfl T.k_MOST_BIDS) (nomark _)) (pss_one (ps_ret (pe_lst (pa_cons (pe_k rfl T.k_OUT) pa_nil)))) pss_nil)
      (pss_cons (ps_if (PW.pt (pw_or (pt_cmpR op_isN1 (pe_fld (pv 0) rfl) pe_non (nomark _)) (pw_or1 (pt_cmpR (op_neN (hu1 hr)) (pe_lc (own := [("bid", 2)]) (g := (gName 2)) (tt := (tNot (tB (tMeth A.Desk "is_bid" (sp_Desk_is_bid K A) [] E0 (tVar 0) (tCons (tVar 2) tNil))))) (te := (tVar 2)) (by rfl) sc_Desk_check_selection.nd (pi_list (pv 1)) (blkOk_by (own := [("bid", 2)]) (N := ["self", "bids", "bid"]) (sc := defScope (inClass (top 46) 11)) (by decide +kernel)) (fun _ _ _ _ _ => (pg_name (i := 2) sc_Desk_check_selection.nd rfl (by first | exact Or.inl rfl | exact Or.inr rfl))) (fun _ _ _ _ _ => (pts_one (pt_not (pt_val (pe_m (ok_Desk_is_bid T) (pv 0) T.cDesk.cl (hr.mono (by decide)) (pa_cons (pv 2) pa_nil)))))) (fun _ _ _ _ _ => (pv 2))) (pe_lst pa_nil) (nomark _))))) (pss_one (ps_ret (pe_lst (pa_cons (pe_k rfl T.k_MISSING) pa_nil)))) pss_nil)
      (pss_cons (ps_if (PW.pt (pw_or (pt_val (pe_m0 (ok_Desk_is_sealed T) (pv 0) T.cDesk.cl (hr.mono (by decide)))) (pw_or1 (pt_val (pe_f (ok_has_twice T) (hr.mono (by decide)) rfl (pa_cons (pv 1) pa_nil)))))) (pss_one (ps_ret (pe_lst (pa_cons (pe_k rfl T.k_NOT_POSSIBLE) pa_nil)))) pss_nil)
      (pss_one (ps_ret (pe_op op_cat (pe_lst (pa_cons pe_int pa_nil)) (pe_m (ok_Sale_judged T) (pe_fld (pv 0) rfl) T.cSale.cl (hr.mono (by decide)) (pa_cons (pv 1) pa_nil)))))))), ?_⟩
  rintro ws g G st H0 c e hR ⟨a, ns, rfl, hN, hl, rfl⟩
  have hG := hR.at_
  refine sq_ifRet (b := decide (12 < ns.length)) (et_test ((ev_I0 (i := ((ns.length : Nat) : Int)) (j := 12) ((ev_lenL (ev_var rfl) hN).to (by rw [List.length_map])) ev_c).to (congrArg V.bl (decide_eq_decide.mpr (by omega))))) (fun hc => ?_) (fun hc => ?_)
  · refine sj_code hR ?_
    simp only [AuctionSpec.step]
    rw [if_pos (of_decide_eq_true hc)]
    rfl
  have h1 : ¬ 12 < ns.length := of_decide_eq_false hc
  refine sq_ifRet (b := G.sl.isNone || (match G.sl with | none => false | some z => ns.any fun x => decide (z.2.bs.length ≤ x))) (et_or (et_test (ev_noSale T hG (ev_var rfl))) fun hn => ?_) (fun hc => ?_) (fun hc => ?_)
  · obtain ⟨z, hz⟩ := no_sale rfl hn
    rw [hz]
    simp only
    refine et_test ((ev_neN (xs := (ns.filter fun x => !decide (x < z.2.bs.length)).map nV) (evl_lc (fun x => !decide (x < z.2.bs.length)) nV (evi_list (K := K) ns nV (ev_var rfl) (sq_of hN)) up_l (sq_of hN) (by omega) ?_)).to (congrArg V.bl any_not))
    rintro x v H1 hx e1 rfl
    refine ⟨_, evg_name, rfl, et_not (et_B (ev_meth (ev_var rfl) (hG.ins.up e1) no_Desk_is_bid (ea_cons (ev_var rfl) ea_nil) (spV_go ⟨g, G, x, rfl, hG.up e1, ?_⟩))), fun _ => ev_var rfl⟩
    unfold isBidB
    rw [hz]
  · refine sj_code hR ?_
    simp only [AuctionSpec.step, AuctionSpec.withSale]
    rw [if_neg h1]
    cases hz : G.sl with
    | none => rw [hR.same.none hz]; rfl
    | some z =>
      rw [hR.same.some hz]
      rw [hz] at hc
      simp only [Option.isNone_some, Bool.false_or] at hc
      simp only
      rw [if_pos (by rw [sale_bids_len]; exact hc)]
      rfl
  obtain ⟨hn, hc⟩ := Bool.or_eq_false_iff.mp hc
  obtain ⟨z, hz⟩ := no_sale rfl hn
  have hS := hG.sale z hz
  have hWS := hR.wf.sale z hz
  have hst := hR.same.some hz
  rw [hz] at hc
  simp only at hc
  have h2 : ¬ (ns.any fun x => decide (z.2.sale.bids.length ≤ x)) = true := by rw [sale_bids_len, hc]; decide
  have hns : ∀ n ∈ ns, n < z.2.bs.length := fun n hn => Nat.lt_of_not_le fun h => h2 (List.any_eq_true.mpr ⟨n, hn, decide_eq_true (by rw [sale_bids_len]; exact h)⟩)
  refine sq_ifRet (b := decide (G.day ≤ z.2.cd) || AuctionSpec.hasDuplicates ns) (et_or (et_sealed T hG hz (ev_var rfl)) fun _ => et_B (ev_f (ea_cons (ev_var rfl) ea_nil) (spV_go ⟨a, ns, rfl, sq_of hN, hl, rfl⟩))) (fun hc => ?_) (fun hc => ?_)
  · refine sj_code hR ?_
    simp only [AuctionSpec.step, AuctionSpec.withSale]
    rw [if_neg h1, hst]
    simp only
    rw [if_neg h2, if_pos]
    · rfl
    · rw [accepts hR.same]
      exact Bool.or_eq_true_iff.mp hc
  obtain ⟨hc1, hc2⟩ := Bool.or_eq_false_iff.mp hc
  have hstep : AuctionSpec.step st (.checkSelection ns) = (st, 0 :: match z.2.sale.violation ns with | none => [0, (z.2.sale.totalValue ns : Int)] | some v => [(v.1 : Int), (v.2 : Int)]) := by
    simp only [AuctionSpec.step, AuctionSpec.withSale]
    rw [if_neg h1, hst]
    simp only
    rw [if_neg h2, if_neg (by rw [accepts hR.same, hc1, hc2]; simp)]
    cases z.2.sale.violation ns <;> rfl
  rw [hstep]
  refine sj_same (EvL.to (el_catP (xs := [.int 0]) (ys := told z.2.sale ns) (el_lst (ea_cons ev_c ea_nil) (by show 1 ≤ 100000; decide)) (evp_meth (fld_sale T hG hz (ev_var rfl)) hS.ins no_Sale_judged (ea_cons (ev_var rfl) ea_nil) (spL_go ⟨g, z.1, a, z.2, ns, rfl, hS, hN, hl, hns, hWS, rfl⟩)) ?_) ?_) hR rfl
  · unfold told
    split <;> (show 1 + 2 ≤ 10000000; decide)
  · unfold told
    cases z.2.sale.violation ns <;> rfl
def a_best_selection : List V → Hp → AuctionSpec.Call → Prop := fun ws H c => ws = [] ∧ c = .bestSelection
abbrev sp_Desk_best_selection (K : PySem.W.Frag) (A : Adr) : Sp := spM K A a_best_selection
theorem sc_Desk_best_selection : FnScope ["self", "value", "bids"] ["self"] (defScope (inClass (top 46) 12)) := ⟨rfl, rfl, rfl, by decide +kernel, rfl, by decide +kernel, by decide +kernel⟩
theorem ok_Desk_best_selection (T : Top K mg A) : MOk P w K mg base 6 A.Desk "best_selection" ["self"] (sp_Desk_best_selection K A) := by
  refine mokM T.mDesk_best_selection sc_Desk_best_selection (fun ws H c ⟨e, _⟩ => by rw [e]; rfl) (fun _ _ _ _ _ _ us hl => match us, hl with | [_], _ => rfl) fun f cdv A' outer s' H E hr => ⟨_, (pss_cons (ps_if (pt_cmpR op_isN1 (pe_fld (pv 0) rfl) pe_non (nomark _)) (pss_one (ps_ret (pe_lst (pa_cons (pe_k rfl T.k_MISSING) pa_nil)))) pss_nil)
      (pss_cons (ps_if (pt_val (pe_m0 (ok_Desk_is_sealed T) (pv 0) T.cDesk.cl (hr.mono (by decide)))) (pss_one (ps_ret (pe_lst (pa_cons (pe_k rfl T.k_NOT_POSSIBLE) pa_nil)))) pss_nil)
      (pss_cons (ps_asg (pe_m (ok_Sale_best T) (pe_fld (pv 0) rfl) T.cSale.cl (hr.mono (by decide)) (pa_cons pe_non pa_nil)) (pg_tup rfl (pgs_cons (pg_name (i := 1) sc_Desk_best_selection.nd rfl (by first | exact Or.inl rfl | exact Or.inr rfl)) (pgs_cons (pg_name (i := 2) sc_Desk_best_selection.nd rfl (by first | exact Or.inl rfl | exact Or.inr rfl)) pgs_nil))))
      (pss_one (ps_ret (pe_op op_cat (pe_lst (pa_cons (pv 1) pa_nil)) (pv 2))))))), ?_⟩
  rintro ws g G st H0 c e hR ⟨rfl, rfl⟩
  have hG := hR.at_
  refine sq_ifRet (b := G.sl.isNone) (et_test (ev_noSale T hG (ev_var rfl))) (fun hc => ?_) (fun hc => ?_)
  · refine sj_code hR ?_
    simp only [AuctionSpec.step, AuctionSpec.withSale]
    rw [hR.same.none (by simpa using hc)]
    rfl
  obtain ⟨z, hz⟩ := no_sale rfl hc
  have hS := hG.sale z hz
  have hWS := hR.wf.sale z hz
  have hst := hR.same.some hz
  refine sq_ifRet (b := decide (G.day ≤ z.2.cd)) (et_sealed T hG hz (ev_var rfl)) (fun hc => ?_) (fun hc => ?_)
  · refine sj_code hR ?_
    simp only [AuctionSpec.step, AuctionSpec.withSale]
    rw [hst]
    simp only
    rw [if_pos (by rw [accepts hR.same]; exact hc)]
    rfl
  have hstep : AuctionSpec.step st .bestSelection = (st, (z.2.sale.totalValue z.2.sale.bestSelection : Int) :: AuctionSpec.toInts z.2.sale.bestSelection) := by
    simp only [AuctionSpec.step, AuctionSpec.withSale]
    rw [hst]
    simp only
    rw [if_neg (by rw [accepts hR.same, hc]; decide)]
  rw [hstep, ← best_none hWS]
  refine sq_tup (K := K) (is := [1, 2]) (R := fun xs H2 => ∃ na, xs = [nV (z.2.sale.totalValue (bestOf z.2.sale none)), .ref na] ∧ NL H2 na (bestOf z.2.sale none)) ((ev_best T hS hWS (wo := none) (fld_sale T hG hz (ev_var rfl)) ev_c).imp fun v H1 _ ⟨p, na, ev, hp, hna⟩ => ⟨p, _, ev, st_of hp, na, rfl, hna⟩) (gset_cons (gset_cons gset_nil)) rfl (fun xs _ ⟨na, h, _⟩ => by rw [h]; rfl) fun xs H1 e1 ⟨na, ex, hna⟩ => ?_
  subst ex
  refine sj_same (EvL.to (el_catA (el_lst (ea_cons (ev_var (v := nV (z.2.sale.totalValue (bestOf z.2.sale none))) rfl) ea_nil) (by show 1 ≤ 100000; decide)) (ev_var (v := .ref na) rfl) hna ?_) ?_) (hR.up e1) rfl
  · rw [List.length_map]
    have h1 := best_length (S := z.2.sale) (wo := none)
    have h2 := hWS.nbids
    show 1 + _ ≤ _
    omega
  · unfold AuctionSpec.toInts
    rw [sum_nV]
    rfl
def a_threshold : List V → Hp → AuctionSpec.Call → Prop := fun ws H c => ∃ n : Nat, ws = [nV n] ∧ c = .threshold n
abbrev sp_Desk_threshold (K : PySem.W.Frag) (A : Adr) : Sp := spM K A a_threshold
theorem sc_Desk_threshold : FnScope ["self", "bid"] ["self", "bid"] (defScope (inClass (top 46) 13)) := ⟨rfl, rfl, rfl, by decide +kernel, rfl, by decide +kernel, by decide +kernel⟩
theorem ok_Desk_threshold (T : Top K mg A) : MOk P w K mg base 7 A.Desk "threshold" ["self", "bid"] (sp_Desk_threshold K A) := by
  refine mokM T.mDesk_threshold sc_Desk_threshold (fun ws H c ⟨_, e, _⟩ => by rw [e]; rfl) (fun _ _ _ _ _ _ us hl => match us, hl with | [_, _], _ => rfl) fun f cdv A' outer s' H E hr => ⟨_, (pss_cons (ps_if (pt_not (pt_val (pe_m (ok_Desk_is_bid T) (pv 0) T.cDesk.cl (hr.mono (by decide)) (pa_cons (pv 1) pa_nil)))) (pss_one (ps_ret (pe_lst (pa_cons (pe_k rfl T.k_MISSING) pa_nil)))) pss_nil)
      (pss_cons (ps_if (PW.pt (pw_or (pt_val (pe_m0 (ok_Desk_is_sealed T) (pv 0) T.cDesk.cl (hr.mono (by decide)))) (pw_or1 (pt_cmpR op_notIn_seq (pv 1) (pe_ix ix_tup (pe_m (ok_Sale_best T) (pe_fld (pv 0) rfl) T.cSale.cl (hr.mono (by decide)) (pa_cons pe_non pa_nil)) pe_int (fun _ _ => rfl)) (by with_unfolding_all rfl))))) (pss_one (ps_ret (pe_lst (pa_cons (pe_k rfl T.k_NOT_POSSIBLE) pa_nil)))) pss_nil)
      (pss_one (ps_ret (pe_lst (pa_cons (pe_m (ok_Sale_threshold T) (pe_fld (pv 0) rfl) T.cSale.cl (hr.mono (by decide)) (pa_cons (pv 1) pa_nil)) pa_nil)))))), ?_⟩
  rintro ws g G st H0 c e hR ⟨n, rfl, rfl⟩
  have hG := hR.at_
  refine sq_ifRet (b := !isBidB G n) (et_not (et_B (ev_meth (ev_var rfl) hG.ins no_Desk_is_bid (ea_cons (ev_var rfl) ea_nil) (spV_go ⟨g, G, n, rfl, hG, rfl⟩)))) (fun hc => ?_) (fun hc => ?_)
  · refine sj_code hR ?_
    simp only [AuctionSpec.step, AuctionSpec.withSale]
    cases hz : G.sl with
    | none => rw [hR.same.none hz]; rfl
    | some z =>
      rw [hR.same.some hz]
      have hn : ¬ n < z.2.bs.length := by
        intro h
        unfold isBidB at hc
        rw [hz] at hc
        simp [h] at hc
      simp only
      rw [if_pos (by rw [sale_bids_len]; omega)]
      rfl
  obtain ⟨z, hz, hn⟩ := isBid_some (by simpa using hc)
  have hS := hG.sale z hz
  have hWS := hR.wf.sale z hz
  have hst := hR.same.some hz
  have h1 : ¬ z.2.sale.bids.length ≤ n := by rw [sale_bids_len]; omega
  refine sq_ifRet (b := decide (G.day ≤ z.2.cd) || !(bestOf z.2.sale none).contains n) (et_or (et_sealed T hG hz (ev_var rfl)) fun _ => et_test (EvP.val (R := isV _) (bindOp2 (R := isL ((bestOf z.2.sale none).map nV)) (ev_var (v := nV n) rfl) (bindOp1 (R := isBest z.2.sale none) (ev_best T hS hWS (wo := none) (fld_sale T hG hz (ev_var rfl)) ev_c) fun v H1 e1 ⟨p, na, ev, hp, hna⟩ => ?_)
    fun v H1 e1 ⟨q, ev, hq⟩ => ?_) fun _ _ h => h)) (fun hc => ?_) (fun hc => ?_)
  · subst ev
    exact ((ev_ixT (n := 1) ev_c ev_c (st_of hp) rfl).p).imp fun v H2 e2 hv => ⟨na, hv, hna.up e2⟩
  · subst ev
    refine ((ev_inA (neg := true) ev_c ev_c hq rfl (flat_nat _)).to ?_).p
    show V.bl (!inV (nV n) ((bestOf z.2.sale none).map nV)) = _
    rw [inV_nat]
  · refine sj_code hR ?_
    simp only [AuctionSpec.step, AuctionSpec.withSale]
    rw [hst]
    simp only
    rw [if_neg h1, if_pos]
    · rfl
    · rw [accepts hR.same, ← best_none hWS]
      rcases Bool.or_eq_true_iff.mp hc with h | h
      · exact .inl h
      · exact .inr (by simpa using h)
  obtain ⟨hc1, hc2⟩ := Bool.or_eq_false_iff.mp hc
  have hcont : z.2.sale.bestSelection.contains n = true := by
    rw [← best_none hWS]
    cases h : (bestOf z.2.sale none).contains n with
    | true => rfl
    | false => rw [h] at hc2; exact absurd hc2 (by decide)
  have hstep : AuctionSpec.step st (.threshold n) = (st, [(z.2.sale.threshold n : Int)]) := by
    simp only [AuctionSpec.step, AuctionSpec.withSale]
    rw [hst]
    simp only
    rw [if_neg h1, if_neg (by rw [accepts hR.same, hc1, hcont]; simp)]
  rw [hstep]
  exact sj_same (el_lst (ea_cons (ev_meth (fld_sale T hG hz (ev_var rfl)) hS.ins no_Sale_threshold (ea_cons (ev_var rfl) ea_nil) (spV_go ⟨g, z.1, z.2, n, rfl, hS, hWS, by simpa using hcont, rfl⟩)) ea_nil) (by show 1 ≤ 100000; decide)) hR rfl
end
end TB
/-! # The desk: the award -/
namespace TB
open PySem PySem.Spec PyProof.Rows L2 Evl
open TimberAuction (Lot Bid Sale Contract Delivery Bill)
open TBM
open AuctionSpec (State)

section
variable {K : PySem.W.Frag} {A : Adr} {mg : Str → Option Value} {g g1 : Tg} {H H' : Hp} {G : DeskG} {st : State}
/-- something of the books changes, the desk and the sale stand -/
theorem DeskAt.putBooks {S : Tag → Prop} {H2 : Hp} {bk : BooksG} (k : Kp K S g g1 H' H2) (hS : ∀ t, saleT t ∨ t = .desk → S t) (h : DeskAt K A g H' G) (h0 : BooksAt K A g1 H2 G.b bk) : DeskAt K A g1 H2 { G with bk := bk } :=
  ⟨k.ins h.ins (by rw [h.gd]; exact hS _ (.inr rfl)), fun y hy => (h.sale y hy).kp k fun t ht => hS t (.inl ht), h0, by rw [k.tagI h.ins]; exact h.gd⟩
theorem saleT_ne {t : Tag} (h : saleT t ∨ t = .desk) : t ≠ .cons ∧ t ≠ .dels ∧ t ≠ .bills ∧ t ≠ .idx ∧ t ≠ .paid ∧ (∀ i, t ≠ .con i) ∧ ∀ i, t ≠ .del i := by
  rcases h with h | h
  · refine ⟨fun e => ?_, fun e => ?_, fun e => ?_, fun e => ?_, fun e => ?_, fun i e => ?_, fun i e => ?_⟩ <;> (subst e; exact h)
  · subst h
    exact ⟨by decide, by decide, by decide, by decide, by decide, fun i => by simp, fun i => by simp⟩
theorem un_none_of {a : Addr} {t : Tag} (hun : ∀ a, un g H a ≠ none → g1 a = .no) (h : g1 a = t) (ht : t ≠ .no := by decide) : un g H a = none :=
  Classical.byContradiction fun z => ht (by rw [← h]; exact hun a z)
/-- more contracts -/
theorem WBooks.more {B : BooksG} {new : List ConG} (h : WBooks B) (hn : (B.cs ++ new).length ≤ 24) (hc : ∀ y ∈ new, WCon y.c) : WBooks { B with cs := B.cs ++ new } :=
  ⟨hn, fun y hy => by
    rcases List.mem_append.mp hy with hy | hy
    · exact h.con y hy
    · exact hc y hy, h.nds, fun y hy => by
    have := h.del y hy
    refine ⟨?_, this.grade, this.vol⟩
    show y.d.contract < (B.cs ++ new).length
    rw [List.length_append]
    have := this.con
    omega, h.nbs, fun y hy => by
    obtain ⟨h1, h2⟩ := h.bil y hy
    refine ⟨by show y.b.contract < (B.cs ++ new).length; rw [List.length_append]; omega, fun z hz => h2 z ?_⟩
    have hz : (B.cs ++ new)[y.b.contract]? = some z := hz
    rw [List.getElem?_append_left h1] at hz
    exact hz, h.idx, h.npd⟩
/-- a new contract at the end -/
theorem BooksAt.addCon {b : Addr} {B : BooksG} {H2 : Hp} {y' : ConG} (k : Kp K (· ≠ .cons) g g1 H' H2) (h : BooksAt K A g H' b B) (hl : H2 B.ca = some (.lst ((B.cs ++ [y']).map fun y => V.ref y.p))) (hc : ConAt K A g1 H2 y') (hg : g1 y'.p = .con B.cs.length) : BooksAt K A g1 H2 b { B with cs := B.cs ++ [y'] } :=
  ⟨k.ins h.ins (by rw [h.gb]; decide), hl, fun y hy => by
    rcases List.mem_append.mp hy with hy | hy
    · exact (h.con y hy).kp k (by decide) (by obtain ⟨i, e⟩ := h.conTag hy; rw [e]; simp)
    · rw [List.mem_singleton.mp hy]; exact hc,
    k.at_ _ _ h.dels (by rw [h.gd]; decide), fun y hy => (h.del y hy).kp k (by obtain ⟨i, e⟩ := h.delTag hy; rw [e]; simp),
    k.at_ _ _ h.bills (by rw [h.gi]; decide), fun y hy => (h.bill y hy).kp k (by decide), k.at_ _ _ h.idx (by rw [h.gx]; decide), k.at_ _ _ h.paid (by rw [h.gp]; decide),
    by rw [k.tagI h.ins]; exact h.gb, by show g1 B.ca = _; rw [k.tag _ (some_ne h.cons)]; exact h.gc, by show g1 B.da = _; rw [k.tag _ (some_ne h.dels)]; exact h.gd, by show g1 B.ba = _; rw [k.tag _ (some_ne h.bills)]; exact h.gi, by show g1 B.xa = _; rw [k.tag _ (some_ne h.idx)]; exact h.gx, by show g1 B.pa = _; rw [k.tag _ (some_ne h.paid)]; exact h.gp,
    fun i y hy => by
      have hy : (B.cs ++ [y'])[i]? = some y := hy
      by_cases hi : i < B.cs.length
      · rw [List.getElem?_append_left hi] at hy
        rw [k.tagI (h.con y (List.mem_of_getElem? hy)).ins]
        exact h.gcon i y hy
      · rw [List.getElem?_append_right (by omega)] at hy
        obtain ⟨h5, h6⟩ := List.getElem?_eq_some_iff.mp hy
        have h7 : i = B.cs.length := by
          rw [List.length_singleton] at h5
          omega
        subst h7
        have h8 : y = y' := by rw [← h6]; simp
        rw [h8]
        exact hg,
    fun i y hy => by rw [k.tagI (h.del y (List.mem_of_getElem? hy)).ins]; exact h.gdel i y hy⟩
end
section
variable {P : Program} {w : World} {K : PySem.W.Frag} {mg : Str → Option Value} {base : Heap} {A : Adr}
def a_award : List V → Hp → AuctionSpec.Call → Prop := fun ws H c => ws = [] ∧ c = .award
abbrev sp_Desk_award (K : PySem.W.Frag) (A : Adr) : Sp := spM K A a_award
theorem sc_Desk_award : FnScope ["self", "bids", "first", "bid"] ["self"] (defScope (inClass (top 46) 14)) := ⟨rfl, rfl, rfl, by decide +kernel, rfl, by decide +kernel, by decide +kernel⟩
theorem ok_Desk_award (T : Top K mg A) : MOk P w K mg base 8 A.Desk "award" ["self"] (sp_Desk_award K A) := by
  refine mokM T.mDesk_award sc_Desk_award (fun ws H c ⟨e, _⟩ => by rw [e]; rfl) (fun _ _ _ _ _ _ us hl => match us, hl with | [_], _ => rfl) fun f cdv A' outer s' H E hr => ⟨_, (pss_cons (ps_if (pt_cmpR op_isN1 (pe_fld (pv 0) rfl) pe_non (nomark _)) (pss_one (ps_ret (pe_lst (pa_cons (pe_k rfl T.k_MISSING) pa_nil)))) pss_nil)
      (pss_cons (ps_if (pt_val (pe_m0 (ok_Desk_is_sealed T) (pv 0) T.cDesk.cl (hr.mono (by decide)))) (pss_one (ps_ret (pe_lst (pa_cons (pe_k rfl T.k_NOT_POSSIBLE) pa_nil)))) pss_nil)
      (pss_cons (ps_par (i := 1) (j := 2) (by rfl) sc_Desk_award.nd rfl rfl (by decide) rfl rfl (pa_cons (pe_ix ix_tup (pe_m (ok_Sale_best T) (pe_fld (pv 0) rfl) T.cSale.cl (hr.mono (by decide)) (pa_cons pe_non pa_nil)) pe_int (fun _ _ => rfl)) (pa_cons (pe_callB cr_lenS (by rfl) T.b_len boot_len (pa_cons (pe_fld (pe_fld (pv 0) rfl) rfl) pa_nil)) pa_nil)) (by rfl))
      (pss_cons (ps_if (pt_cmpR op_gt (pe_op op_add (pv 2) (pe_callB cr_lenS (by rfl) T.b_len boot_len (pa_cons (pv 1) pa_nil))) (pe_k rfl T.k_MOST_CONTRACTS) (nomark _)) (pss_one (ps_ret (pe_lst (pa_cons (pe_k rfl T.k_FULL) pa_nil)))) pss_nil)
      (pss_cons (ps_for PassesOwn.never rfl (pi_list (pv 1)) (pg_name (i := 3) sc_Desk_award.nd rfl (by first | exact Or.inl rfl | exact Or.inr rfl)) (pss_one (ps_expr (pe_bm PySem.F.plainAttrs_list PySem.F.slot_list_append PySem.F.type_list_append mt_append (pe_fld (pe_fld (pv 0) rfl) rfl) (pa_cons (pe_f (ok_contract_of T) (hr.mono (by decide)) rfl (pa_cons (pe_fld (pv 0) rfl) (pa_cons (pv 3) (pa_cons (pe_fld (pv 0) rfl) pa_nil)))) pa_nil)))))
      (pss_cons (ps_fld (pv 0) pe_non rfl)
      (pss_one (ps_ret (pe_lst (pa_cons (pe_callB cr_lenS (by rfl) T.b_len boot_len (pa_cons (pv 1) pa_nil)) (pa_cons (pv 2) pa_nil))))))))))), ?_⟩
  rintro ws g G st H0 c e hR ⟨rfl, rfl⟩
  have hG := hR.at_
  refine sq_ifRet (b := G.sl.isNone) (et_test (ev_noSale T hG (ev_var rfl))) (fun hc => ?_) (fun hc => ?_)
  · refine sj_code hR ?_
    simp only [AuctionSpec.step, AuctionSpec.withSale]
    rw [hR.same.none (by simpa using hc)]
    rfl
  obtain ⟨z, hz⟩ := no_sale rfl hc
  have hS := hG.sale z hz
  have hWS := hR.wf.sale z hz
  have hst := hR.same.some hz
  have hB := hG.books
  refine sq_ifRet (b := decide (G.day ≤ z.2.cd)) (et_sealed T hG hz (ev_var rfl)) (fun hc => ?_) (fun hc => ?_)
  · refine sj_code hR ?_
    simp only [AuctionSpec.step, AuctionSpec.withSale]
    rw [hst]
    simp only
    rw [if_pos (by rw [accepts hR.same]; exact hc)]
    rfl
  have h1 : ¬ AuctionSpec.acceptsBids st z.2.sale = true := by rw [accepts hR.same, hc]; decide
  have hbest := best_none hWS
  generalize hbs : bestOf z.2.sale none = best at hbest
  have hbl : ∀ n ∈ best, n < z.2.bs.length := fun n hn => by
    rw [← hbs] at hn
    have := best_lt n hn
    rw [sale_bids_len] at this
    exact this
  have hbn : best.length ≤ 12 := by
    rw [← hbs]
    exact Nat.le_trans best_length hWS.nbids
  have hcl : st.contracts.length = G.bk.cs.length := by rw [hR.same.cons, List.length_map]
  refine sq_parP (R := fun v H1 => ∃ na, v = .ref na ∧ NL H1 na best) (R' := fun x y H1 => (∃ na, x = .ref na ∧ NL H1 na best) ∧ y = nV G.bk.cs.length)
    (bindOp1 (R := isBest z.2.sale none) (ev_best T hS hWS (wo := none) (fld_sale T hG hz (ev_var rfl)) ev_c) fun v H1 e1 ⟨p, na, ev, hp, hna⟩ => by
      subst ev
      rw [hbs] at hna
      exact ((ev_ixT (n := 1) ev_c ev_c (st_of hp) rfl).p).imp fun v H2 e2 hv => ⟨na, hv, hna.up e2⟩)
    (fun x H1 e1 ⟨na, ex, hna⟩ => ((ev_lenL (fld_Books_contracts T (fld_Desk_books T (ev_var rfl) (hG.ins.up e1)) (hB.ins.up e1)) (e1 _ _ hB.cons)).to (by rw [List.length_map]; rfl)).p.imp fun y H2 e2 hy => ⟨⟨na, ex, hna.up e2⟩, hy⟩)
    fun x y H1 e1 ⟨⟨na, ex, hna⟩, ey⟩ => ?_
  subst ex ey
  have hG1 := hG.up e1
  refine sq_ifRet (b := decide (24 < G.bk.cs.length + best.length)) (et_test ((ev_I0 (i := ((G.bk.cs.length : Nat) : Int) + ((best.length : Nat) : Int)) (j := 24) (ev_I0 (i := ((G.bk.cs.length : Nat) : Int)) (j := ((best.length : Nat) : Int)) (ev_var rfl) ((ev_lenL (ev_var rfl) hna).to (by rw [List.length_map]))) ev_c).to (congrArg V.bl (decide_eq_decide.mpr (by omega))))) (fun hc => ?_) (fun hc => ?_)
  · refine sj_code (hR.up e1) ?_
    simp only [AuctionSpec.step, AuctionSpec.withSale]
    rw [hst]
    simp only
    rw [if_neg h1, if_pos (by rw [hcl, ← hbest]; exact of_decide_eq_true hc)]
    rfl
  have hcap : ¬ 24 < G.bk.cs.length + best.length := of_decide_eq_false hc
  have hstep : AuctionSpec.step st .award = ({ st with sale := none, contracts := st.contracts ++ best.map (z.2.sale.contract st.day) }, [(best.length : Int), (st.contracts.length : Int)]) := by
    simp only [AuctionSpec.step, AuctionSpec.withSale]
    rw [hst]
    simp only
    rw [if_neg h1, if_neg (by rw [hcl, ← hbest]; exact hcap), ← hbest]
  rw [hstep]
  have hnaca : best ≠ [] → na ≠ G.bk.ca := fun hne h => by
    subst h
    have h2 := e1 _ _ hB.cons
    rw [hna] at h2
    have h2 := HO.lst.inj (Option.some.inj h2)
    cases hb : best with
    | nil => exact hne hb
    | cons a l =>
      rw [hb] at h2
      cases hcs : G.bk.cs with
      | nil => rw [hcs] at h2; simp at h2
      | cons y ys => rw [hcs] at h2; simp [nV] at h2
  refine sq_for (evi_list (K := K) best nV (ev_var rfl) (sq_of hna))
    (fun i σ' Hk => ∃ (o : Option V) (gi : Tg) (new : List ConG), σ' = [some (.ref G.p), some (.ref na), some (nV G.bk.cs.length), o] ∧ DeskAt K A gi Hk { G with bk := { G.bk with cs := G.bk.cs ++ new } } ∧
      new.map (·.c) = (best.take i).map (z.2.sale.contract G.day) ∧ (∀ a, un g H a ≠ none → gi a = .no) ∧ NL Hk na best)
    ⟨none, g, [], rfl, by rw [List.append_nil]; exact hG1, rfl, fun a ha => un_tag ha, hna⟩ up_l (fun i σ' Hk _ ⟨_, _, _, _, _, _, _, h⟩ => sq_of h) ?_ ?_
  · rintro i n x σ' Hk H2 hi ⟨o, gi, new, rfl, hGi, hnew, hun, hnk⟩ e2 rfl
    have hnm := List.mem_of_getElem? hi
    have hil : i < best.length := (List.getElem?_eq_some_iff.mp hi).1
    have hn := hbl n hnm
    have hG2 := hGi.up e2
    have hS2 : SaleAt A gi H2 z.1 z.2 := hG2.sale z hz
    have hB2 := hG2.books
    have hbne : best ≠ [] := fun h => by rw [h] at hnm; exact absurd hnm (by simp)
    have hnl : new.length = i := by
      have := congrArg List.length hnew
      rw [List.length_map, List.length_map, List.length_take] at this
      omega
    have hyb := hS2.bid _ (List.getElem_mem hn)
    have hWb := SaleG.wbid hWS hn
    have hbo := z.2.bid_of hn
    refine ⟨_, evg_name, Sj.last (sq_appN (R := NewCon K A z.2.sale z.2.bs[n] n G.day) hB2.cons (un_none_of hun hB2.gc) (fld_Books_contracts T (fld_Desk_books T (ev_var rfl) hG2.ins) hB2.ins)
      (evn_call (ea_cons (fld_sale T hG2 hz (ev_var rfl)) (ea_cons (ev_var (v := nV n) rfl) (ea_cons (fld_Desk_day T (ev_var rfl) hG2.ins) ea_nil))) ⟨gi, z.1, z.2, n, G.day, hn, rfl, hS2, hWS, by rw [← hbest]; exact hnm, rfl⟩ fun v Ha Hb Hk' H3 ea ek h => h.up ea ek)
      (by rw [List.length_map, List.length_append]; have := hR.wf.books.ncs; omega) fun v H3 H4 e3 eb e34 ⟨p, va, fa, ev, np, nva, nvp, hi2, hvol, hfa⟩ => sj_next ?_)⟩
    subst ev
    have e24 := e3.trans e34
    let gj := tagAt (tagAt gi p (.con (G.bk.cs ++ new).length)) va .fro
    have ht : ∀ x, H2 x ≠ none → gj x = gi x := tag_tagAt (tag_tagAt (fun _ _ => rfl) (fresh_back e3 np)) (fresh_back e3 nva)
    have hunj : ∀ x, un g H x ≠ none → gj x = .no := un_tagAt (un_tagAt hun (fresh_back eb np)) (fresh_back eb nva)
    have ncp : G.bk.ca ≠ p := ne_of_none (e3 _ _ hB2.cons) np
    have ncv : G.bk.ca ≠ va := ne_of_none (e3 _ _ hB2.cons) nva
    let y' : ConG := ⟨p, va, z.2.bs[n].pa, z.2.bs[n].ba, z.2.bs[n].ts, fa, z.2.sale.contract G.day n⟩
    have k : Kp K (· ≠ .cons) gi gj H2 (upd H4 G.bk.ca (.lst (((G.bk.cs ++ new).map fun y => V.ref y.p) ++ [.ref p]))) := kp_upd e24 (fun h => h hB2.gc) (rd_lst hB2.cons) ht
    have k4 : Kp K (fun _ => True) gi gj H2 H4 := kp_ex e24 ht
    have k5 : ∀ {S : Tag → Prop}, Kp K S gi gj H2 H4 := kp_ex e24 ht
    have hpa : NL H4 z.2.bs[n].pa z.2.bs[n].b.prices := e24 _ _ hyb.prices
    have hpr : TimberAuction.byGrade (z.2.sale.bid n).prices = z.2.bs[n].b.prices := by rw [hbo]; exact byGrade_self hWb.plen
    have hcon : ConAt K A gj (upd H4 G.bk.ca (.lst (((G.bk.cs ++ new).map fun y => V.ref y.p) ++ [.ref p]))) y' := by
      refine ⟨?_, ?_, ?_, ?_, ?_, tagAt_same, ?_⟩
      · obtain ⟨dx, hi2⟩ := hi2
        refine ⟨dx, ?_⟩
        rw [upd_ne ncp.symm, hi2]
        have hv : TimberAuction.valueOf y'.c.volumes y'.c.prices = z.2.sale.value z.2.bs[n].b := by
          show TimberAuction.valueOf (TimberAuction.totalVolumes z.2.sale.lots (z.2.sale.bid n).lots) (TimberAuction.byGrade (z.2.sale.bid n).prices) = _
          rw [hpr, hbo]
          rfl
        rw [hv]
        rfl
      · show upd H4 _ _ va = some (HO.lst ((TimberAuction.totalVolumes z.2.sale.lots (z.2.sale.bid n).lots).map nV))
        rw [upd_ne ncv.symm, hbo]
        exact hvol
      · show upd H4 _ _ z.2.bs[n].pa = some (HO.lst ((TimberAuction.byGrade (z.2.sale.bid n).prices).map nV))
        rw [hpr]
        exact k.at_ _ _ hyb.prices (by rw [hyb.gp]; decide)
      · have := hyb.bidders.kp k (by decide)
        show PairsAt gj _ z.2.bs[n].ba z.2.bs[n].ts (z.2.sale.bid n).bidders
        rw [hbo]
        exact this
      · have hnr : ∀ xs, ¬ Rd H4 G.bk.ca (.tup xs) := rd_lst (e24 _ _ hB2.cons)
        have kk : Kp K (fun _ => False) gj gj H4 (upd H4 G.bk.ca (.lst (((G.bk.cs ++ new).map fun y => V.ref y.p) ++ [.ref p]))) := kp_upd (Ex.refl _) (fun h => h) hnr fun _ _ => rfl
        exact kk.sqt _ _ hfa
      · show gj z.2.bs[n].pa = _
        rw [k.tag _ (some_ne hyb.prices)]
        exact hyb.gp
    have hgp : gj p = .con (G.bk.cs ++ new).length := by
      show tagAt (tagAt gi p (.con (G.bk.cs ++ new).length)) va .fro p = _
      rw [tagAt_ne nvp.symm, tagAt_same]
    have hBk := hB2.addCon (y' := y') k (by
      show upd H4 G.bk.ca _ G.bk.ca = some (HO.lst (((G.bk.cs ++ new) ++ [y']).map fun y => V.ref y.p))
      rw [upd_same, List.map_append (l₁ := G.bk.cs ++ new)]
      rfl) hcon hgp
    refine ⟨_, gj, new ++ [y'], rfl, ?_, ?_, hunj, ?_⟩
    · have := hG2.putBooks k (fun t ht => (saleT_ne ht).1) hBk
      rw [← List.append_assoc]
      exact this
    · rw [List.map_append, hnew, take_succ hi, List.map_append]
      rfl
    · show upd H4 G.bk.ca _ na = _
      rw [upd_ne (hnaca hbne)]
      exact e24 _ _ (e2 _ _ hnk)
  · rintro σ' Hk ⟨o, gi, new, rfl, hGi, hnew, hun, hnk⟩
    rw [List.take_length] at hnew
    have hB2 := hGi.books
    obtain ⟨dx, hdi⟩ := hGi.ins
    have hnewW : ∀ y ∈ new, WCon y.c := fun y hy => by
      have h : y.c ∈ new.map (·.c) := List.mem_map.mpr ⟨y, hy, rfl⟩
      rw [hnew] at h
      obtain ⟨n, hn, e⟩ := List.mem_map.mp h
      rw [← e]
      exact wcon_of hWS (by rw [sale_bids_len]; exact hbl n hn)
    have hnl : new.length = best.length := by
      have := congrArg List.length hnew
      rw [List.length_map, List.length_map] at this
      exact this
    refine sq_fldE T.cDesk.cl T.nDesk_sale hdi (un_none_of hun hGi.gd) (by show 3 < 1000; decide) (v := .non) ev_c (ev_var rfl) put_sale ?_
    have hDk := hGi.putDesk (g1 := gi) (day := G.day) (sl := none) (Ex.refl _) hdi (fun _ _ => rfl) fun y hy => by cases hy
    have hnk2 : upd Hk G.p (.ins A.Desk dx (deskF (G.day : Int) .non G.b)) na = some (.lst (best.map nV)) := by
      rw [upd_ne (ne_of hnk hdi (by intro z; cases z))]
      exact hnk
    refine sj_done (g' := gi) (G := { G with day := G.day, sl := none, bk := { G.bk with cs := G.bk.cs ++ new } }) (EvL.to (el_lst (ea_cons (ev_lenL (ev_var rfl) hnk2) (ea_cons (ev_var (v := nV G.bk.cs.length) rfl) ea_nil)) (by show 2 ≤ 100000; decide)) ?_) ⟨hDk, ⟨hR.wf.day, (fun y hy => by cases hy), hR.wf.books.more (by rw [List.length_append]; omega) hnewW⟩, ⟨hR.same.day, rfl, ?_, hR.same.dels, hR.same.bills, hR.same.idx, hR.same.pay⟩⟩ hun rfl
    · rw [List.length_map, hcl]
      rfl
    · show st.contracts ++ best.map (z.2.sale.contract st.day) = (G.bk.cs ++ new).map (·.c)
      rw [List.map_append, hnew, hR.same.cons, hR.same.day]
end
end TB
/-! # The desk: what the books tell -/
namespace TB
open PySem PySem.Spec PyProof.Rows L2 Evl
open TimberAuction (Lot Bid Sale Contract Delivery Bill)
open TBM
open AuctionSpec (State)

section
variable {K : PySem.W.Frag} {A : Adr} {mg : Str → Option Value} {g g1 : Tg} {H H' : Hp} {G : DeskG} {st : State}
theorem Same.index (h : Same G st) (hW : WDesk G) (day : Nat) : TimberAuction.indexOn st.indexes day = TimberAuction.indexOn G.bk.xs day :=
  index_same (by
    have := (h.idx.map (fun e : Nat × Nat => e.1)).nodup_iff.mpr hW.books.idx.nd
    exact this) hW.books.idx.nd (fun e => h.idx.mem_iff) day
theorem Same.deliv (h : Same G st) (hW : WDesk G) (n : Nat) (c : Contract) : AuctionSpec.deliveredNow st n c = TimberAuction.deliveredValue G.bk.xs (G.bk.ds.map (·.d)) n c := by
  unfold AuctionSpec.deliveredNow TimberAuction.deliveredValue
  rw [h.dels]
  simp only [h.index hW]
theorem Same.due (h : Same G st) (hW : WDesk G) (n : Nat) (c : Contract) : AuctionSpec.dueNow st n c = dueOf G.bk n c := by
  have h1 := h.deliv hW n c
  unfold AuctionSpec.deliveredNow at h1
  unfold AuctionSpec.dueNow dueOf TimberAuction.amountDue
  rw [h1]
theorem Same.amounts (h : Same G st) (hW : WDesk G) (n : Nat) (c : Contract) : AuctionSpec.amountsNow st n c = amountsOf G.bk n c := by
  have h1 := h.due hW n c
  unfold AuctionSpec.dueNow dueOf at h1
  unfold AuctionSpec.amountsNow amountsOf TimberAuction.nextAmounts
  rw [h1, h.bills]
theorem Same.con (h : Same G st) {n : Nat} (hn : n < G.bk.cs.length) : st.contracts[n]? = Option.some G.bk.cs[n].c := by
  rw [h.cons, List.getElem?_map, List.getElem?_eq_getElem hn]
  rfl
theorem Same.noCon (h : Same G st) {n : Nat} (hn : ¬ n < G.bk.cs.length) : st.contracts[n]? = Option.none := by
  rw [h.cons]
  exact List.getElem?_eq_none (by rw [List.length_map]; omega)
theorem et_con (T : Top K mg A) {σ : L2.St} {te ti : TE} {n : Nat} (hG : DeskAt K A g H' G) (h : Ev te σ H' (.ref G.p)) (hi : Ev ti σ H' (nV n)) : EvT (tB (tMeth A.Desk "is_contract" (sp_Desk_is_contract K A) [] E0 te (tCons ti tNil))) σ H' (decide (n < G.bk.cs.length)) :=
  et_B (ev_meth h hG.ins no_Desk_is_contract (ea_cons hi ea_nil) (spV_go ⟨g, G, n, rfl, hG, rfl⟩))
theorem fld_books (T : Top K mg A) {σ : L2.St} {te : TE} (hG : DeskAt K A g H' G) (h : Ev te σ H' (.ref G.p)) : Ev (tFld K te "books") σ H' (.ref G.b) := fld_Desk_books T h hG.ins
theorem ev_dcon (T : Top K mg A) {σ : L2.St} {te ti : TE} {n : Nat} (hG : DeskAt K A g H' G) (h : Ev te σ H' (.ref G.p)) (hi : Ev ti σ H' (nV n)) (hn : n < G.bk.cs.length) : Ev (tOp (rIxL K) (tFld K (tFld K te "books") "contracts") ti) σ H' (.ref G.bk.cs[n].p) :=
  ev_con T hG.books (fld_books T hG h) hi hn
theorem el_if {b : Bool} {t : TT} {ta tb : TE} {σ : L2.St} {xs : List V} (h : EvT t σ H b) (h1 : b = true → EvL ta σ H xs) (h2 : b = false → EvL tb σ H xs) : EvL (tIf t ta tb) σ H xs := fun H1 e Q q => h H1 e _ fun H2 e2 => by
  cases b with
  | true =>
    show ta σ H2 Q
    exact h1 rfl H2 (e.trans e2) Q fun p H3 hp e3 h3 => q p H3 (fresh_back e2 hp) (e2.trans e3) h3
  | false =>
    show tb σ H2 Q
    exact h2 rfl H2 (e.trans e2) Q fun p H3 hp e3 h3 => q p H3 (fresh_back e2 hp) (e2.trans e3) h3
theorem toInts_nV (ns : List Nat) : ns.map nV = (AuctionSpec.toInts ns).map V.int := by
  unfold AuctionSpec.toInts
  exact sum_nV ns
end
section
variable {P : Program} {w : World} {K : PySem.W.Frag} {mg : Str → Option Value} {base : Heap} {A : Adr}
def a_con (f : Nat → AuctionSpec.Call) : List V → Hp → AuctionSpec.Call → Prop := fun ws H c => ∃ n : Nat, ws = [nV n] ∧ c = f n
abbrev sp_Desk_get_contract (K : PySem.W.Frag) (A : Adr) : Sp := spM K A (a_con .getContract)
theorem cut_pairs {ts : List (Addr × (Nat × Nat))} {ps : List (Nat × Nat)} (h : ts.map (·.2) = ps) (i : Nat) : (ts.take i).flatMap (fun z => [((z.2.1 : Nat) : Int), ((z.2.2 : Nat) : Int)]) = (ps.take i).flatMap fun e => [((e.1 : Nat) : Int), ((e.2 : Nat) : Int)] := by
  rw [← h, ← List.map_take, List.flatMap_map]
theorem sc_Desk_get_contract : FnScope ["self", "contract", "one", "found", "bidder", "weight"] ["self", "contract"] (defScope (inClass (top 46) 15)) := ⟨rfl, rfl, rfl, by decide +kernel, rfl, by decide +kernel, by decide +kernel⟩
theorem ok_Desk_get_contract (T : Top K mg A) : MOk P w K mg base 2 A.Desk "get_contract" ["self", "contract"] (sp_Desk_get_contract K A) := by
  refine mokM T.mDesk_get_contract sc_Desk_get_contract (fun ws H c ⟨_, e, _⟩ => by rw [e]; rfl) (fun _ _ _ _ _ _ us hl => match us, hl with | [_, _], _ => rfl) fun f cdv A' outer s' H E hr => ⟨_, (pss_cons (ps_if (pt_not (pt_val (pe_m (ok_Desk_is_contract T) (pv 0) T.cDesk.cl (hr.mono (by decide)) (pa_cons (pv 1) pa_nil)))) (pss_one (ps_ret (pe_lst (pa_cons (pe_k rfl T.k_MISSING) pa_nil)))) pss_nil)
      (pss_cons (ps_set (i := 2) sc_Desk_get_contract.nd rfl (by first | exact Or.inl rfl | exact Or.inr rfl) (pe_ix ix_list (pe_fld (pe_fld (pv 0) rfl) rfl) (pv 1) (fun _ _ => rfl)))
      (pss_cons (ps_set (i := 3) sc_Desk_get_contract.nd rfl (by first | exact Or.inl rfl | exact Or.inr rfl) (pe_op op_cat (pe_op op_cat (pe_op op_cat (pe_op op_cat (pe_lst (pa_cons pe_int (pa_cons (pe_fld (pv 2) rfl) pa_nil))) (pe_callTy cr_listS (by rfl) T.b_list (by decide +kernel) (pa_cons (pe_fld (pv 2) rfl) pa_nil))) (pe_lst (pa_cons (pe_fld (pv 2) rfl) (pa_cons (pe_callTy cr_int1 (by rfl) T.b_int (by decide +kernel) (pa_cons (pe_fld (pv 2) rfl) pa_nil)) pa_nil)))) (pe_fld (pv 2) rfl)) (pe_fld (pv 2) rfl)))
      (pss_cons (ps_expr (pe_bm PySem.F.plainAttrs_list PySem.F.slot_list_append PySem.F.type_list_append mt_append (pv 3) (pa_cons (pe_callB cr_lenS (by rfl) T.b_len boot_len (pa_cons (pe_fld (pv 2) rfl) pa_nil)) pa_nil)))
      (pss_cons (ps_for PassesOwn.never rfl (pi_list (pe_fld (pv 2) rfl)) (pg_tup rfl (pgs_cons (pg_name (i := 4) sc_Desk_get_contract.nd rfl (by first | exact Or.inl rfl | exact Or.inr rfl)) (pgs_cons (pg_name (i := 5) sc_Desk_get_contract.nd rfl (by first | exact Or.inl rfl | exact Or.inr rfl)) pgs_nil))) (pss_one (ps_expr (pe_bm PySem.F.plainAttrs_list PySem.F.slot_list_extend PySem.F.type_list_extend mt_extend (pv 3) (pa_cons (pe_lst (pa_cons (pv 4) (pa_cons (pv 5) pa_nil))) pa_nil)))))
      (pss_one (ps_ret (pv 3)))))))), ?_⟩
  rintro ws g G st H0 c e hR ⟨n, rfl, rfl⟩
  have hG := hR.at_
  refine sq_ifRet (b := !decide (n < G.bk.cs.length)) (et_not (et_con T hG (ev_var rfl) (ev_var rfl))) (fun hc => ?_) (fun hc => ?_)
  · refine sj_code hR ?_
    simp only [AuctionSpec.step, AuctionSpec.withContract]
    rw [hR.same.noCon (by simpa using hc)]
    rfl
  have hn : n < G.bk.cs.length := by simpa using hc
  have hstep : AuctionSpec.step st (.getContract n) = (st, 0 :: AuctionSpec.contractFields G.bk.cs[n].c) := by
    simp only [AuctionSpec.step, AuctionSpec.withContract]
    rw [hR.same.con hn]
  rw [hstep]
  have hC := hG.books.con _ (List.getElem_mem hn)
  have hc := hR.wf.books.con _ (List.getElem_mem hn)
  refine sq_asg (ev_dcon T hG (ev_var rfl) (ev_var rfl) hn) ?_
  generalize G.bk.cs[n] = y at hC hc ⊢
  have hvl := hc.vlen
  have hpl := hc.plen
  have hbl := hc.blen
  have hzl : y.ts.length = y.c.bidders.length := by rw [← hC.bidders.eq, List.length_map]
  let start : List Int := ((([0, (y.c.day : Int)] ++ Amounts.encodeFraction y.c.factor) ++ [(y.c.advance : Int), if y.c.closed = true then 1 else 0]) ++ AuctionSpec.toInts y.c.volumes) ++ AuctionSpec.toInts y.c.prices
  have hsl : start.length = 26 := by
    show ((((_ ++ _) ++ _) ++ _) ++ _ : List Int).length = 26
    simp only [List.length_append, AuctionSpec.toInts, List.length_map, hvl, hpl]
    rfl
  refine sq_asgL (xs := start.map V.int) (EvL.to (el_catA (el_catA (el_cat (el_cat (el_lst (ea_cons (ev_c (v := .int 0)) (ea_cons (fld_Contract_day T (ev_var rfl) hC.ins) ea_nil)) (by show 2 ≤ 100000; decide)) (el_listT (xs := [.int y.c.factor.num, .int ((y.c.factor.den : Nat) : Int)]) ((fld_Contract_factor T (ev_var rfl) hC.ins).pp fun H1 e1 => ⟨y.fa, rfl, ex_t e1 hC.factor⟩)) (by show 2 + 2 ≤ 10000000; decide))
    (el_lst (ea_cons (fld_Contract_advance T (ev_var rfl) hC.ins) (ea_cons (ev_int1 (fld_Contract_is_closed T (ev_var rfl) hC.ins)) ea_nil)) (by show 2 ≤ 100000; decide)) (by show 4 + 2 ≤ 10000000; decide)) (fld_Contract_volumes T (ev_var rfl) hC.ins) hC.vol (by rw [List.length_map, hvl]; show 6 + 10 ≤ 10000000; decide)) (fld_Contract_prices T (ev_var rfl) hC.ins) hC.prices (by rw [List.length_append, List.length_map, List.length_map, hvl, hpl]; show 6 + 10 + 10 ≤ 10000000; decide)) ?_) fun p H1 bp np e1 hp => ?_
  · show _ = (((([0, (y.c.day : Int)] ++ Amounts.encodeFraction y.c.factor) ++ [(y.c.advance : Int), if y.c.closed = true then 1 else 0]) ++ AuctionSpec.toInts y.c.volumes) ++ AuctionSpec.toInts y.c.prices).map V.int
    rw [List.map_append, List.map_append, toInts_nV, toInts_nV]
    rfl
  have hC1 := hC.up e1
  refine sq_app hp bp (ev_var rfl) (v := nV y.c.bidders.length) ((ev_lenL (fld_Contract_bidders T (ev_var rfl) hC1.ins) hC1.bidders.lst).to (by rw [List.length_map, hzl]; rfl)) (by rw [List.length_map, hsl]; decide) ?_
  have hkeep : Ex H0 (upd H1 p (.lst (start.map V.int ++ [nV y.c.bidders.length]))) := e1.mut np
  have hless : Ex H0 (less (upd H1 p (.lst (start.map V.int ++ [nV y.c.bidders.length]))) p) := ex_less np hkeep
  refine sq_for (evi_list (K := K) y.ts (fun z => V.ref z.1) (fld_Contract_bidders T (ev_var rfl) (hC.up hkeep).ins) (sq_of (hC.up hkeep).bidders.lst))
    (fun i σ' Hk => ∃ o1 o2 : Option V, σ' = [some (.ref G.p), some (nV n), some (.ref y.p), some (.ref p), o1, o2] ∧ Ex (less (upd H1 p (.lst (start.map V.int ++ [nV y.c.bidders.length]))) p) Hk ∧ Hk p = some (.lst ((start ++ [(y.c.bidders.length : Int)] ++ (y.c.bidders.take i).flatMap fun e => [((e.1 : Nat) : Int), ((e.2 : Nat) : Int)]).map V.int)))
    ⟨none, none, rfl, less_ex, by rw [upd_same, List.take_zero, List.flatMap_nil, List.append_nil, List.map_append (l₁ := start)]; rfl⟩ up_l (fun i σ' Hk _ ⟨_, _, _, e2, _⟩ => sq_of ((hless.trans e2) _ _ hC.bidders.lst)) ?_ ?_
  · rintro i t x σ' Hk H2 ht ⟨o1, o2, rfl, e2, hk⟩ e3 rfl
    have htm := List.mem_of_getElem? ht
    have htt := ((hless.trans e2).trans e3) _ _ (hC.bidders.tup t htm)
    refine ⟨_, evg_tup (ws := pV t.2) (gset_cons (gset_cons gset_nil)) (st_of htt) rfl rfl, Sj.last (sq_ext (zs := pV t.2) (e3 _ _ hk) bp (ev_var rfl) (el_lst (ea_cons (ev_var rfl) (ea_cons (ev_var rfl) ea_nil)) (by show 2 ≤ 100000; decide)) ?_ (sj_next ⟨_, _, rfl, (e2.trans e3).mut less_self, ?_⟩))⟩
    · rw [List.length_map, List.length_append, List.length_append, hsl]
      have h1 := sum_le (l := (y.c.bidders.take i).map fun e => [((e.1 : Nat) : Int), ((e.2 : Nat) : Int)].length) (B := 2) fun x hx => by
        obtain ⟨w, _, rfl⟩ := List.mem_map.mp hx
        exact Nat.le_refl 2
      rw [List.length_map, List.length_take] at h1
      rw [List.length_flatMap]
      show 26 + 1 + _ + 2 ≤ _
      omega
    · rw [upd_same]
      have hbt : y.c.bidders[i]? = some t.2 := by rw [← hC.bidders.eq, List.getElem?_map, ht]; rfl
      rw [take_succ hbt, List.flatMap_append, List.flatMap_singleton, ← List.append_assoc, List.map_append (l₂ := [((t.2.1 : Nat) : Int), ((t.2.2 : Nat) : Int)])]
      rfl
  · rintro σ' Hk ⟨o1, o2, rfl, e2, hk⟩
    refine sj_found rfl ?_ bp (hR.up (hless.trans e2)) rfl
    rw [hk, List.take_of_length_le (by omega)]
    congr 3
abbrev sp_Desk_contract_value (K : PySem.W.Frag) (A : Adr) : Sp := spM K A (a_con .contractValue)
theorem sc_Desk_contract_value : FnScope ["self", "contract", "found"] ["self", "contract"] (defScope (inClass (top 46) 20)) := ⟨rfl, rfl, rfl, by decide +kernel, rfl, by decide +kernel, by decide +kernel⟩
theorem ok_Desk_contract_value (T : Top K mg A) : MOk P w K mg base 6 A.Desk "contract_value" ["self", "contract"] (sp_Desk_contract_value K A) := by
  refine mokM T.mDesk_contract_value sc_Desk_contract_value (fun ws H c ⟨_, e, _⟩ => by rw [e]; rfl) (fun _ _ _ _ _ _ us hl => match us, hl with | [_, _], _ => rfl) fun f cdv A' outer s' H E hr => ⟨_, (pss_cons (ps_if (pt_not (pt_val (pe_m (ok_Desk_is_contract T) (pv 0) T.cDesk.cl (hr.mono (by decide)) (pa_cons (pv 1) pa_nil)))) (pss_one (ps_ret (pe_lst (pa_cons (pe_k rfl T.k_MISSING) pa_nil)))) pss_nil)
      (pss_cons (ps_set (i := 2) sc_Desk_contract_value.nd rfl (by first | exact Or.inl rfl | exact Or.inr rfl) (pe_op op_cat (pe_lst (pa_cons pe_int pa_nil)) (pe_callTy cr_listS (by rfl) T.b_list (by decide +kernel) (pa_cons (pe_m0 (ok_Contract_estimate T) (pe_ix ix_list (pe_fld (pe_fld (pv 0) rfl) rfl) (pv 1) (fun _ _ => rfl)) T.cContract.cl (hr.mono (by decide))) pa_nil))))
      (pss_one (ps_ret (pe_op op_cat (pe_op op_cat (pv 2) (pe_callTy cr_listS (by rfl) T.b_list (by decide +kernel) (pa_cons (pe_m (ok_Books_delivered T) (pe_fld (pv 0) rfl) T.cBooks.cl (hr.mono (by decide)) (pa_cons (pv 1) pa_nil)) pa_nil))) (pe_lst (pa_cons (pe_m (ok_Books_due T) (pe_fld (pv 0) rfl) T.cBooks.cl (hr.mono (by decide)) (pa_cons (pv 1) pa_nil)) pa_nil))))))), ?_⟩
  rintro ws g G st H0 c e hR ⟨n, rfl, rfl⟩
  have hG := hR.at_
  refine sq_ifRet (b := !decide (n < G.bk.cs.length)) (et_not (et_con T hG (ev_var rfl) (ev_var rfl))) (fun hc => ?_) (fun hc => ?_)
  · refine sj_code hR ?_
    simp only [AuctionSpec.step, AuctionSpec.withContract]
    rw [hR.same.noCon (by simpa using hc)]
    rfl
  have hn : n < G.bk.cs.length := by simpa using hc
  have hC := hG.books.con _ (List.getElem_mem hn)
  have hc := hR.wf.books.con _ (List.getElem_mem hn)
  have hstep : AuctionSpec.step st (.contractValue n) = (st, [0] ++ Amounts.encodeFraction (TimberAuction.estimate G.bk.cs[n].c) ++ Amounts.encodeFraction (TimberAuction.deliveredValue G.bk.xs (G.bk.ds.map (·.d)) n G.bk.cs[n].c) ++ [(dueOf G.bk n G.bk.cs[n].c : Int)]) := by
    simp only [AuctionSpec.step, AuctionSpec.withContract]
    rw [hR.same.con hn]
    simp only
    rw [hR.same.deliv hR.wf, hR.same.due hR.wf]
  rw [hstep]
  have hdel : ∀ H1, Ex H0 H1 → SpP (sp_Books_delivered K A) ([.ref G.b, nV n] ++ []) H1 (isF K (TimberAuction.deliveredValue G.bk.xs (G.bk.ds.map (·.d)) n G.bk.cs[n].c)) := fun H1 e1 => spF_go ⟨g, G.b, G.bk, n, hn, rfl, hG.books.up e1, hR.wf.books, rfl⟩
  have hest : SpP (sp_Contract_estimate K A) ([.ref G.bk.cs[n].p] ++ []) H0 (isF K (TimberAuction.estimate G.bk.cs[n].c)) := spF_go ⟨g, G.bk.cs[n], rfl, hC, hc, rfl⟩
  have hdue : ∀ H1, Ex H0 H1 → SpP (sp_Books_due K A) ([.ref G.b, nV n] ++ []) H1 (isV (nV (dueOf G.bk n G.bk.cs[n].c))) := fun H1 e1 => spV_go ⟨g, G.b, G.bk, n, hn, rfl, hG.books.up e1, hR.wf.books, rfl⟩
  generalize TimberAuction.deliveredValue G.bk.xs (G.bk.ds.map (·.d)) n G.bk.cs[n].c = dv at *
  generalize TimberAuction.estimate G.bk.cs[n].c = es at *
  generalize dueOf G.bk n G.bk.cs[n].c = du at *
  refine sq_asgL (xs := [.int 0, .int es.num, .int ((es.den : Nat) : Int)]) (el_cat (el_lst (ea_cons (ev_c (v := .int 0)) ea_nil) (by show 1 ≤ 100000; decide)) (el_listT (evp_meth (ev_dcon T hG (ev_var rfl) (ev_var rfl) hn) hC.ins no_Contract_estimate ea_nil hest)) (by show 1 + 2 ≤ 10000000; decide)) fun p H1 _ _ e1 hp => ?_
  have hG1 := hG.up e1
  exact sj_same (el_cat (xs := [.int 0, .int es.num, .int ((es.den : Nat) : Int), .int dv.num, .int ((dv.den : Nat) : Int)]) (ys := [nV du]) (el_catAL (ev_var rfl) hp (el_listT (evp_meth (fld_books T hG1 (ev_var rfl)) hG1.books.ins no_Books_delivered (ea_cons (ev_var rfl) ea_nil) (hdel H1 e1))) (by show 3 + 2 ≤ 10000000; decide)) (el_lst (ea_cons (ev_meth (fld_books T hG1 (ev_var rfl)) hG1.books.ins no_Books_due (ea_cons (ev_var rfl) ea_nil) (hdue H1 e1)) ea_nil) (by show 1 ≤ 100000; decide)) (by show 5 + 1 ≤ 10000000; decide)) (hR.up e1) rfl
abbrev sp_Desk_list_bills (K : PySem.W.Frag) (A : Adr) : Sp := spM K A (a_con .listBills)
def billRow (z : Bill × Nat) : List Int := [(z.2 : Int), (z.1.day : Int)] ++ z.1.amounts
theorem sc_Desk_list_bills : FnScope ["self", "contract", "numbers", "found", "number"] ["self", "contract"] (defScope (inClass (top 46) 22)) := ⟨rfl, rfl, rfl, by decide +kernel, rfl, by decide +kernel, by decide +kernel⟩
theorem ok_Desk_list_bills (T : Top K mg A) : MOk P w K mg base 2 A.Desk "list_bills" ["self", "contract"] (sp_Desk_list_bills K A) := by
  refine mokM T.mDesk_list_bills sc_Desk_list_bills (fun ws H c ⟨_, e, _⟩ => by rw [e]; rfl) (fun _ _ _ _ _ _ us hl => match us, hl with | [_, _], _ => rfl) fun f cdv A' outer s' H E hr => ⟨_, (pss_cons (ps_if (pt_not (pt_val (pe_m (ok_Desk_is_contract T) (pv 0) T.cDesk.cl (hr.mono (by decide)) (pa_cons (pv 1) pa_nil)))) (pss_one (ps_ret (pe_lst (pa_cons (pe_k rfl T.k_MISSING) pa_nil)))) pss_nil)
      (pss_cons (ps_set (i := 2) sc_Desk_list_bills.nd rfl (by first | exact Or.inl rfl | exact Or.inr rfl) (pe_m (ok_Books_bills_of T) (pe_fld (pv 0) rfl) T.cBooks.cl (hr.mono (by decide)) (pa_cons (pv 1) pa_nil)))
      (pss_cons (ps_set (i := 3) sc_Desk_list_bills.nd rfl (by first | exact Or.inl rfl | exact Or.inr rfl) (pe_lst (pa_cons (pe_callB cr_lenS (by rfl) T.b_len boot_len (pa_cons (pv 2) pa_nil)) pa_nil)))
      (pss_cons (ps_for PassesOwn.never rfl (pi_list (pv 2)) (pg_name (i := 4) sc_Desk_list_bills.nd rfl (by first | exact Or.inl rfl | exact Or.inr rfl)) (pss_one (ps_expr (pe_bm PySem.F.plainAttrs_list PySem.F.slot_list_extend PySem.F.type_list_extend mt_extend (pv 3) (pa_cons (pe_op op_cat (pe_lst (pa_cons (pv 4) (pa_cons (pe_fld (pe_ix ix_list (pe_fld (pe_fld (pv 0) rfl) rfl) (pv 4) (fun _ _ => rfl)) rfl) pa_nil))) (pe_fld (pe_ix ix_list (pe_fld (pe_fld (pv 0) rfl) rfl) (pv 4) (fun _ _ => rfl)) rfl)) pa_nil)))))
      (pss_one (ps_ret (pv 3))))))), ?_⟩
  rintro ws g G st H0 c e hR ⟨n, rfl, rfl⟩
  have hG := hR.at_
  refine sq_ifRet (b := !decide (n < G.bk.cs.length)) (et_not (et_con T hG (ev_var rfl) (ev_var rfl))) (fun hc => ?_) (fun hc => ?_)
  · refine sj_code hR ?_
    simp only [AuctionSpec.step, AuctionSpec.withContract]
    rw [hR.same.noCon (by simpa using hc)]
    rfl
  have hn : n < G.bk.cs.length := by simpa using hc
  have hbm : (st.bills.zipIdx.filter fun z => z.1.contract == n) = (billNos G.bk n).map fun z => (z.1.b, z.2) := by
    unfold billNos
    rw [hR.same.bills, List.zipIdx_map, List.filter_map]
    rfl
  have hstep : AuctionSpec.step st (.listBills n) = (st, ((billNos G.bk n).length : Int) :: (billNos G.bk n).flatMap fun z => billRow (z.1.b, z.2)) := by
    simp only [AuctionSpec.step, AuctionSpec.withContract]
    rw [hR.same.con hn]
    simp only
    rw [hbm, List.length_map, List.flatMap_map]
    rfl
  rw [hstep]
  refine sq_asgP (R := isL ((billNos G.bk n).map fun z => nV z.2)) (evp_meth (fld_books T hG (ev_var rfl)) hG.books.ins no_Books_bills_of (ea_cons (ev_var rfl) ea_nil) (spL_go ⟨g, G.b, G.bk, n, rfl, hG.books, hR.wf.books, rfl⟩)) fun v H1 e1 ⟨q, ev, hq⟩ => ?_
  subst ev
  refine sq_asgL (xs := [nV (billNos G.bk n).length]) (el_lst (ea_cons ((ev_lenL (ev_var rfl) hq).to (by rw [List.length_map]; rfl)) ea_nil) (by show 1 ≤ 100000; decide)) fun p H2 bp np e2 hp => ?_
  have np0 : H0 p = none := fresh_back e1 np
  have hqp : q ≠ p := ne_of_none hq np
  have hkeep : Ex H0 (less H2 p) := ex_less np0 (e1.trans e2)
  refine sq_for (evi_list (K := K) (billNos G.bk n) (fun z => nV z.2) (ev_var rfl) (sq_of (e2 _ _ hq)))
    (fun i σ' Hk => ∃ o : Option V, σ' = [some (.ref G.p), some (nV n), some (.ref q), some (.ref p), o] ∧ Ex (less H2 p) Hk ∧ Hk p = some (.lst ((((billNos G.bk n).length : Int) :: ((billNos G.bk n).take i).flatMap fun z => billRow (z.1.b, z.2)).map V.int)))
    ⟨none, rfl, less_ex, hp⟩ up_l (fun i σ' Hk _ ⟨_, _, e3, _⟩ => sq_of (e3 _ _ (by rw [less_ne hqp]; exact e2 _ _ hq))) ?_ ?_
  · rintro i z x σ' Hk H3 hz ⟨o, rfl, e3, hk⟩ e4 rfl
    obtain ⟨hz1, hz2, hz3, hz4⟩ := billNos_mem (List.mem_of_getElem? hz)
    have e03 := (hkeep.trans e3).trans e4
    have hG3 := hG.up e03
    have hB := (hG.books.bill _ hz3).up e03
    have hbl := hR.wf.books.bil _ hz3
    have hal : z.1.b.amounts.length = G.bk.cs[n].c.bidders.length := hbl.2 _ (by rw [hz4]; exact List.getElem?_eq_getElem hn)
    have hbn := (hR.wf.books.con _ (List.getElem_mem hn)).blen
    have hbv : Ev (tOp (rIxL K) (tFld K (tFld K (tVar 0) "books") "bills") (tVar 4)) [some (.ref G.p), some (nV n), some (.ref q), some (.ref p), some (nV z.2)] H3 (.ref z.1.p) := by
      have := ev_ixL (K := K) (n := z.2) (fld_Books_bills T (fld_books T hG3 (σ := [some (.ref G.p), some (nV n), some (.ref q), some (.ref p), some (nV z.2)]) (te := tVar 0) (ev_var rfl)) hG3.books.ins) (tb := tVar 4) (ev_var rfl) (hG3.books.bills) (get_ref (f := fun y : BilG => y.p) hz1)
      rw [hz2] at this
      exact this
    refine ⟨_, evg_name, Sj.last (sq_ext (zs := (billRow (z.1.b, z.2)).map V.int) (e4 _ _ hk) bp (ev_var rfl) (EvL.to (el_catA (el_lst (ea_cons (ev_var (v := nV z.2) rfl) (ea_cons (fld_Bill_day T hbv hB.ins) ea_nil)) (by show 2 ≤ 100000; decide)) (fld_Bill_amounts T hbv hB.ins) hB.am (by rw [List.length_map, hal]; show 2 + _ ≤ _; omega)) ?_) ?_ (sj_next ⟨_, rfl, (e3.trans e4).mut less_self, ?_⟩))⟩
    · unfold billRow
      rw [List.map_append]
      rfl
    · rw [List.length_map, List.length_map, List.length_cons, List.length_flatMap]
      have h1 := sum_le (l := ((billNos G.bk n).take i).map fun z => (billRow (z.1.b, z.2)).length) (B := 6) fun x hx => by
        obtain ⟨w, hw, rfl⟩ := List.mem_map.mp hx
        obtain ⟨_, _, h3, h4⟩ := billNos_mem (List.mem_of_mem_take hw)
        have h5 := (hR.wf.books.bil _ h3).2 _ (by rw [h4]; exact List.getElem?_eq_getElem hn)
        show ([(w.2 : Int), (w.1.b.day : Int)] ++ w.1.b.amounts).length ≤ 6
        rw [List.length_append, h5]
        show 2 + _ ≤ 6
        omega
      rw [List.length_map, List.length_take] at h1
      have h2 : (billNos G.bk n).length ≤ 48 := by
        unfold billNos
        refine Nat.le_trans (List.length_filter_le _ _) ?_
        rw [List.length_zipIdx]
        exact hR.wf.books.nbs
      have h6 : (billRow (z.1.b, z.2)).length ≤ 6 := by
        show ([(z.2 : Int), (z.1.b.day : Int)] ++ z.1.b.amounts).length ≤ 6
        rw [List.length_append, hal]
        show 2 + _ ≤ 6
        omega
      omega
    · rw [upd_same, take_succ hz, List.flatMap_append, List.flatMap_singleton, ← List.map_append]
      rfl
  · rintro σ' Hk ⟨o, rfl, e3, hk⟩
    rw [List.take_length] at hk
    exact sj_found rfl hk bp (hR.up (hkeep.trans e3)) rfl
abbrev sp_Desk_balance (K : PySem.W.Frag) (A : Adr) : Sp := spM K A (a_con .balance)
theorem balance_spec {G : DeskG} {st : State} (h : Same G st) {k : Nat} : AuctionSpec.totalBilled st k - ((st.payments.getD k 0 : Nat) : Int) = balOf G.bk k := by
  have h1 : ((st.payments.getD k 0 : Nat) : Int) = G.bk.paid.getD k 0 := by
    rw [← h.pay, List.getD_eq_getElem?_getD, List.getD_eq_getElem?_getD, List.getElem?_map]
    cases st.payments[k]? <;> rfl
  have h2 : AuctionSpec.totalBilled st k = (G.bk.bs.map (bilTo G.bk k)).sum := by
    unfold AuctionSpec.totalBilled
    rw [h.bills, h.cons, sumInt_eq, List.map_map]
    congr 1
    refine List.map_congr_left fun y _ => ?_
    unfold bilTo
    simp only [Function.comp, List.getElem?_map]
    cases G.bk.cs[y.b.contract]? <;> rfl
  rw [h1, h2]
  unfold balOf
  omega
theorem sc_Desk_balance : FnScope ["self", "bidder"] ["self", "bidder"] (defScope (inClass (top 46) 24)) := ⟨rfl, rfl, rfl, by decide +kernel, rfl, by decide +kernel, by decide +kernel⟩
theorem ok_Desk_balance (T : Top K mg A) : MOk P w K mg base 2 A.Desk "balance" ["self", "bidder"] (sp_Desk_balance K A) := by
  refine mokM T.mDesk_balance sc_Desk_balance (fun ws H c ⟨_, e, _⟩ => by rw [e]; rfl) (fun _ _ _ _ _ _ us hl => match us, hl with | [_, _], _ => rfl) fun f cdv A' outer s' H E hr => ⟨_, (pss_one (ps_ret (pe_ifExp (pt_chain op_le op_lt pe_int (pv 1) (pe_k rfl T.k_BIDDERS)) (pe_lst (pa_cons pe_int (pa_cons (pe_m (ok_Books_balance T) (pe_fld (pv 0) rfl) T.cBooks.cl (hr.mono (by decide)) (pa_cons (pv 1) pa_nil)) pa_nil))) (pe_lst (pa_cons (pe_k rfl T.k_OUT) pa_nil))))), ?_⟩
  rintro ws g G st H0 c e hR ⟨k, rfl, rfl⟩
  have hG := hR.at_
  have hstep : AuctionSpec.step st (.balance k) = (st, if 15 < k then [-1] else [0, balOf G.bk k]) := by
    simp only [AuctionSpec.step]
    split
    · rfl
    · rw [balance_spec hR.same]
  rw [hstep]
  refine sj_same (el_if (b := decide (k < 16)) (et_test (et_below ev_c (ev_var rfl) (ev_c (v := nV 16)))) (fun hc => ?_) (fun hc => ?_)) hR rfl
  · have hk : k < 16 := of_decide_eq_true hc
    show EvL _ _ _ ((if 15 < k then [-1] else [0, balOf G.bk k] : List Int).map V.int)
    rw [if_neg (by omega)]
    exact el_lst (ea_cons ev_c (ea_cons (ev_meth (fld_books T hG (ev_var rfl)) hG.books.ins no_Books_balance (ea_cons (ev_var rfl) ea_nil) (spV_go ⟨g, G.b, G.bk, k, rfl, hG.books, hR.wf.books, hk, rfl⟩)) ea_nil)) (by show 2 ≤ 100000; decide)
  · have hk : ¬ k < 16 := of_decide_eq_false hc
    show EvL _ _ _ ((if 15 < k then [-1] else [0, balOf G.bk k] : List Int).map V.int)
    rw [if_pos (by omega)]
    exact el_one
abbrev sp_Desk_shortfall (K : PySem.W.Frag) (A : Adr) : Sp := spM K A (a_con .shortfall)
theorem sc_Desk_shortfall : FnScope ["self", "contract"] ["self", "contract"] (defScope (inClass (top 46) 25)) := ⟨rfl, rfl, rfl, by decide +kernel, rfl, by decide +kernel, by decide +kernel⟩
theorem ok_Desk_shortfall (T : Top K mg A) : MOk P w K mg base 3 A.Desk "shortfall" ["self", "contract"] (sp_Desk_shortfall K A) := by
  refine mokM T.mDesk_shortfall sc_Desk_shortfall (fun ws H c ⟨_, e, _⟩ => by rw [e]; rfl) (fun _ _ _ _ _ _ us hl => match us, hl with | [_, _], _ => rfl) fun f cdv A' outer s' H E hr => ⟨_, (pss_one (ps_ret (pe_ifExp (pt_val (pe_m (ok_Desk_is_contract T) (pv 0) T.cDesk.cl (hr.mono (by decide)) (pa_cons (pv 1) pa_nil))) (pe_op op_cat (pe_lst (pa_cons pe_int pa_nil)) (pe_m (ok_Books_shortfall T) (pe_fld (pv 0) rfl) T.cBooks.cl (hr.mono (by decide)) (pa_cons (pv 1) pa_nil))) (pe_lst (pa_cons (pe_k rfl T.k_MISSING) pa_nil))))), ?_⟩
  rintro ws g G st H0 c e hR ⟨n, rfl, rfl⟩
  have hG := hR.at_
  by_cases hn : n < G.bk.cs.length
  · have hc := hR.wf.books.con _ (List.getElem_mem hn)
    have hsh : AuctionSpec.shortfallOf st n G.bk.cs[n].c = shortOf G.bk n G.bk.cs[n].c := by
      unfold shortOf AuctionSpec.shortfallOf
      rw [short_law hc.vlen, hR.same.dels]
    have hstep : AuctionSpec.step st (.shortfall n) = (st, 0 :: shortOf G.bk n G.bk.cs[n].c) := by
      simp only [AuctionSpec.step, AuctionSpec.withContract]
      rw [hR.same.con hn]
      simp only
      rw [hsh]
    rw [hstep]
    refine sj_same (el_if (b := decide (n < G.bk.cs.length)) (et_con T hG (ev_var rfl) (ev_var rfl)) (fun _ => ?_) (fun hc => absurd hn (of_decide_eq_false hc))) hR rfl
    refine EvL.to (el_catP (xs := [.int 0]) (ys := (shortOf G.bk n G.bk.cs[n].c).map V.int) (el_lst (ea_cons ev_c ea_nil) (by show 1 ≤ 100000; decide)) (evp_meth (fld_books T hG (ev_var rfl)) hG.books.ins no_Books_shortfall (ea_cons (ev_var rfl) ea_nil) (spL_go ⟨g, G.b, G.bk, n, hn, rfl, hG.books, hR.wf.books, rfl⟩)) ?_) rfl
    rw [List.length_map]
    unfold shortOf
    rw [take1_length, List.length_map, hc.vlen]
    decide
  · have hstep : AuctionSpec.step st (.shortfall n) = (st, [-3]) := by
      simp only [AuctionSpec.step, AuctionSpec.withContract]
      rw [hR.same.noCon hn]
      rfl
    rw [hstep]
    exact sj_same (el_if (b := decide (n < G.bk.cs.length)) (et_con T hG (ev_var rfl) (ev_var rfl)) (fun hc => absurd (of_decide_eq_true hc) hn) (fun _ => el_one)) hR rfl
end
end TB
/-! # The desk: the books change -/
namespace TB
open PySem PySem.Spec PyProof.Rows L2 Evl
open TimberAuction (Lot Bid Sale Contract Delivery Bill)
open TBM
open AuctionSpec (State)

section
variable {K : PySem.W.Frag} {A : Adr} {mg : Str → Option Value} {g g1 : Tg} {H H' B : Hp} {G : DeskG} {st : State} {σ : L2.St} {N : L2.St → Hp → Prop} {P : V → Hp → Prop} {td ty tv : TE} {u : TS}
theorem sq_dput {d : Addr} {kvs : List (Key × V)} {i : Int} {v : V} (hv : Ev tv σ H v) (ho : Ev td σ H (.ref d)) (hi : Ev ty σ H (.int i)) (hd : H d = some (.dK kvs)) (hb : B d = none) (hl : kvs.length < 1000) (k : Sj B u σ (upd H d (.dK (putK kvs (Sum.inl i) v))) N P) :
    Sj B (tSeq (sDPut td ty tv) u) σ H N P := fun H1 e eb D kn kr => hv H1 e _ fun H2 e2 => ho H2 (e.trans e2) _ fun H3 e3 => hi H3 ((e.trans e2).trans e3) _ fun H4 e4 => by
  have e04 := ((e.trans e2).trans e3).trans e4
  exact ⟨d, _, rfl, DPut.k (k := Sum.inl i) (e04 _ _ hd) (Nat.lt_of_lt_of_le hl (by decide)), k _ e04.upd (Ex.mut (((eb.trans e2).trans e3).trans e4) hb) D kn kr⟩
theorem hasKey {xs : List (Nat × Nat)} {day : Nat} : (valV (xs.map kvN) (Sum.inl (day : Int))).isSome = xs.any fun e => e.1 == day := by
  rw [← valV_any, List.any_map]
  congr 1
  funext e
  show decide ((Sum.inl (e.1 : Int) : Key) = Sum.inl (day : Int)) = (e.1 == day)
  rw [Bool.eq_iff_iff]
  simp
  constructor
  · intro h
    omega
  · intro h
    rw [h]
theorem ev_dnotin {d : Addr} {xs : List (Nat × Nat)} {day : Nat} (hi : Ev ty σ H (nV day)) (ho : Ev td σ H (.ref d)) (hd : H d = some (.dK (xs.map kvN))) : Ev (tDNotIn ty td) σ H (.bl (!(xs.any fun e => e.1 == day))) := fun H1 e Q q =>
  hi H1 e _ fun H2 e2 => ho H2 (e.trans e2) _ fun H3 e3 => ⟨d, _, rfl, DGet.k (k := Sum.inl (day : Int)) (((e.trans e2).trans e3) _ _ hd), by rw [hasKey]; exact q H3 (e2.trans e3)⟩
/-! ### an index value set -/
def setKey (day v : Nat) (e : Nat × Nat) : Nat × Nat := if e.1 = day then (day, v) else e
def putX (xs : List (Nat × Nat)) (day v : Nat) : List (Nat × Nat) := if (xs.any fun e => e.1 == day) = true then xs.map (setKey day v) else xs ++ [(day, v)]
theorem putX_kv {xs : List (Nat × Nat)} {day v : Nat} : putK (xs.map kvN) (Sum.inl (day : Int)) (.int (v : Int)) = (putX xs day v).map kvN := by
  unfold putK putX
  rw [valV_any, hasKey]
  split
  · rw [List.map_map, List.map_map]
    refine List.map_congr_left fun e _ => ?_
    simp only [Function.comp, setKey]
    by_cases h : e.1 = day
    · subst h
      rw [if_pos rfl]
      exact if_pos rfl
    · rw [if_neg h]
      refine if_neg fun z => h ?_
      have z : (Sum.inl (e.1 : Int) : Key) = Sum.inl (day : Int) := z
      have := Sum.inl.inj z
      omega
  · rw [List.map_append]
    rfl
theorem setKey_id {day v : Nat} : ∀ {l : List (Nat × Nat)}, (∀ e ∈ l, e.1 ≠ day) → l.map (setKey day v) = l ∧ (l.filter fun e => e.1 != day) = l
  | [], _ => ⟨rfl, rfl⟩
  | a :: l, h => by
    obtain ⟨h1, h2⟩ := setKey_id (v := v) fun e he => h e (List.mem_cons_of_mem a he)
    have ha := h a List.mem_cons_self
    rw [List.map_cons, h1, List.filter_cons_of_pos (by simpa using ha), h2]
    refine ⟨?_, rfl⟩
    unfold setKey
    rw [if_neg ha]
theorem put_perm {day v : Nat} : ∀ {xs : List (Nat × Nat)}, (xs.map (·.1)).Nodup → (xs.any fun e => e.1 == day) = true → ((xs.filter fun e => e.1 != day) ++ [(day, v)]).Perm (xs.map (setKey day v))
  | [], _, h => by simp at h
  | a :: l, hn, h => by
    rw [List.map_cons, List.nodup_cons] at hn
    by_cases ha : a.1 = day
    · have hl : ∀ e ∈ l, e.1 ≠ day := fun e he z => hn.1 (by rw [ha, ← z]; exact List.mem_map.mpr ⟨e, he, rfl⟩)
      obtain ⟨h1, h2⟩ := setKey_id (v := v) hl
      rw [List.filter_cons_of_neg (by simpa using ha), List.map_cons, h1, h2]
      have : setKey day v a = (day, v) := if_pos ha
      rw [this]
      exact List.perm_append_singleton _ _
    · rw [List.filter_cons_of_pos (by simpa using ha), List.map_cons]
      have : setKey day v a = a := if_neg ha
      rw [this, List.cons_append]
      refine List.Perm.cons _ (put_perm hn.2 ?_)
      rw [List.any_cons] at h
      have h3 : (a.1 == day) = false := by simpa using ha
      rw [h3, Bool.false_or] at h
      exact h
theorem putX_perm {xs idx : List (Nat × Nat)} {day v : Nat} (hn : (xs.map (·.1)).Nodup) (hp : idx.Perm xs) : (AuctionSpec.replaceIndex idx day v).Perm (putX xs day v) := by
  unfold AuctionSpec.replaceIndex putX
  refine ((hp.filter _).append_right _).trans ?_
  split
  · rename_i h
    exact put_perm hn h
  · rename_i h
    rw [(setKey_id (v := v) fun e he z => h (List.any_eq_true.mpr ⟨e, he, by simpa using z⟩)).2]
theorem filter_len {xs idx : List (Nat × Nat)} {day : Nat} (hn : (xs.map (·.1)).Nodup) (hp : idx.Perm xs) : (idx.filter fun e => e.1 != day).length = if (xs.any fun e => e.1 == day) = true then xs.length - 1 else xs.length := by
  rw [(hp.filter _).length_eq]
  split
  · rename_i h
    have := (put_perm (v := 0) hn h).length_eq
    rw [List.length_append, List.length_singleton, List.length_map] at this
    omega
  · rename_i h
    rw [(setKey_id (v := 0) fun e he z => h (List.any_eq_true.mpr ⟨e, he, by simpa using z⟩)).2]
theorem putX_w {xs : List (Nat × Nat)} {day v : Nat} (h : WIdx xs) (hf : (xs.any fun e => e.1 == day) = false → xs.length < 16) (hd : day ≤ 99999) (hv : 1 ≤ v ∧ v ≤ 10000) : WIdx (putX xs day v) := by
  unfold putX
  cases ha : xs.any fun e => e.1 == day with
  | true =>
    rw [if_pos rfl]
    have hk : (xs.map (setKey day v)).map (·.1) = xs.map (·.1) := by
      rw [List.map_map]
      refine List.map_congr_left fun e _ => ?_
      simp only [Function.comp, setKey]
      split
      · rename_i h; exact h.symm
      · rfl
    refine ⟨by rw [List.length_map]; exact h.len, by rw [hk]; exact h.nd, fun e he => ?_⟩
    obtain ⟨x, hx, rfl⟩ := List.mem_map.mp he
    unfold setKey
    split
    · exact ⟨hd, hv⟩
    · exact h.val x hx
  | false =>
    rw [if_neg (by decide)]
    refine ⟨?_, ?_, fun e he => ?_⟩
    · rw [List.length_append, List.length_singleton]
      have := hf ha
      omega
    · rw [List.map_append, List.nodup_append]
      refine ⟨h.nd, by simp, fun x hx y hy => ?_⟩
      have hy : y = day := by simpa using hy
      subst hy
      obtain ⟨e, he, rfl⟩ := List.mem_map.mp hx
      intro z
      rw [Bool.eq_false_iff] at ha
      exact ha (List.any_eq_true.mpr ⟨e, he, by simpa using z⟩)
    · rcases List.mem_append.mp he with he | he
      · exact h.val e he
      · rw [List.mem_singleton.mp he]
        exact ⟨hd, hv⟩
end
section
variable {P : Program} {w : World} {K : PySem.W.Frag} {mg : Str → Option Value} {base : Heap} {A : Adr}
def a_set_index : List V → Hp → AuctionSpec.Call → Prop := fun ws H c => ∃ d v : Nat, ws = [nV d, nV v] ∧ c = .setIndex d v
abbrev sp_Desk_set_index (K : PySem.W.Frag) (A : Adr) : Sp := spM K A a_set_index
theorem not_within1 {n lo hi : Nat} {b : Bool} (h : b = AuctionSpec.inRange lo hi n) : (!b) = decide (AuctionSpec.inRange lo hi n = false) := by
  rw [h]
  cases AuctionSpec.inRange lo hi n <;> rfl
theorem sc_Desk_set_index : FnScope ["self", "day", "index"] ["self", "day", "index"] (defScope (inClass (top 46) 16)) := ⟨rfl, rfl, rfl, by decide +kernel, rfl, by decide +kernel, by decide +kernel⟩
theorem ok_Desk_set_index (T : Top K mg A) : MOk P w K mg base 1 A.Desk "set_index" ["self", "day", "index"] (sp_Desk_set_index K A) := by
  refine mokM T.mDesk_set_index sc_Desk_set_index (fun ws H c ⟨_, _, e, _⟩ => by rw [e]; rfl) (fun _ _ _ _ _ _ us hl => match us, hl with | [_, _, _], _ => rfl) fun f cdv A' outer s' H E hr => ⟨_, (pss_cons (ps_if (PW.pt (pw_or (pt_not (pt_chain op_le op_le pe_int (pv 1) (pe_k rfl T.k_MOST_DAY))) (pw_or1 (pt_not (pt_chain op_le op_le pe_int (pv 2) (pe_k rfl T.k_MOST_INDEX)))))) (pss_one (ps_ret (pe_lst (pa_cons (pe_k rfl T.k_OUT) pa_nil)))) pss_nil)
      (pss_cons (ps_if (PW.pt (pw_and (pt_cmp (pc_dnotin (hu_of hr) (pv 1) (pe_fld (pe_fld (pv 0) rfl) rfl))) (pw_and1 (pt_cmpR op_eq (pe_callB cr_lenD (by rfl) T.b_len boot_len (pa_cons (pe_fld (pe_fld (pv 0) rfl) rfl) pa_nil)) (pe_k rfl T.k_MOST_INDEXES) (nomark _))))) (pss_one (ps_ret (pe_lst (pa_cons (pe_k rfl T.k_FULL) pa_nil)))) pss_nil)
      (pss_cons (ps_dput (hu_of hr) (pe_fld (pe_fld (pv 0) rfl) rfl) (pv 1) (pv 2) rfl)
      (pss_one (ps_ret (pe_lst (pa_cons pe_int pa_nil))))))), ?_⟩
  rintro ws g G st H0 c e hR ⟨d, v, rfl, rfl⟩
  have hG := hR.at_
  have hB := hG.books
  have hW := hR.wf.books.idx
  refine sq_ifRet (b := decide (99999 < d) || decide (AuctionSpec.inRange 1 10000 v = false)) (et_or (et_is (et_not (et_test (et_within (lo := 0) (x := d) (hi := 99999) ev_c (ev_var rfl) ev_c))) not_within) fun _ => et_is (et_not (et_test (et_within (lo := 1) (x := v) (hi := 10000) ev_c (ev_var rfl) ev_c))) (not_within1 rfl)) (fun hc => ?_) (fun hc => ?_)
  · refine sj_code hR ?_
    simp only [AuctionSpec.step]
    rw [if_pos]
    · rfl
    · rcases Bool.or_eq_true_iff.mp hc with h | h
      · exact .inl (of_decide_eq_true h)
      · exact .inr (of_decide_eq_true h)
  obtain ⟨hc1, hc2⟩ := Bool.or_eq_false_iff.mp hc
  have hd : ¬ 99999 < d := of_decide_eq_false hc1
  have hv : ¬ AuctionSpec.inRange 1 10000 v = false := of_decide_eq_false hc2
  have h1 : ¬ (AuctionSpec.maxDay < d ∨ AuctionSpec.inRange 1 10000 v = false) := by
    rintro (h | h)
    · exact hd h
    · exact hv h
  have hvb : 1 ≤ v ∧ v ≤ 10000 := by
    unfold AuctionSpec.inRange at hv
    simpa using hv
  have hfl := filter_len (day := d) hW.nd hR.same.idx
  refine sq_ifRet (b := !(G.bk.xs.any fun e => e.1 == d) && decide (G.bk.xs.length = 16)) (et_and (et_test (ev_dnotin (ev_var rfl) (fld_Books_indexes T (fld_books T hG (ev_var rfl)) hB.ins) hB.idx)) fun _ => et_test ((ev_eqS (x := nV G.bk.xs.length) (y := .int 16) ((ev_lenD (fld_Books_indexes T (fld_books T hG (ev_var rfl)) hB.ins) hB.idx).to (by rw [List.length_map]; rfl)) ev_c rfl).to (congrArg V.bl (dec_len (m := 16))))) (fun hc => ?_) (fun hc => ?_)
  · obtain ⟨h2, h3⟩ := Bool.and_eq_true_iff.mp hc
    refine sj_code hR ?_
    simp only [AuctionSpec.step]
    rw [if_neg h1, if_pos]
    · rfl
    · rw [hfl, if_neg (fun z => by rw [z] at h2; exact absurd h2 (by decide)), of_decide_eq_true h3]
      exact Nat.le_refl _
  have hcap : (G.bk.xs.any fun e => e.1 == d) = false → G.bk.xs.length < 16 := fun h => by
    rw [h] at hc
    have h4 : ¬ G.bk.xs.length = 16 := by simpa using hc
    have := hW.len
    omega
  have h5 : ¬ 16 ≤ (st.indexes.filter fun e => e.1 != d).length := by
    rw [hfl]
    cases ha : G.bk.xs.any fun e => e.1 == d with
    | true =>
      rw [if_pos rfl]
      have := hW.len
      omega
    | false =>
      rw [if_neg (by decide)]
      have := hcap ha
      omega
  have hstep : AuctionSpec.step st (.setIndex d v) = ({ st with indexes := AuctionSpec.replaceIndex st.indexes d v }, [0]) := by
    simp only [AuctionSpec.step]
    rw [if_neg h1, if_neg h5]
  rw [hstep]
  refine sq_dput (i := (d : Int)) (ev_var (v := nV v) rfl) (fld_Books_indexes T (fld_books T hG (ev_var rfl)) hB.ins) (ev_var rfl) hB.idx (un_none (by rw [hB.gx]; decide)) (by rw [List.length_map]; have := hW.len; omega) ?_
  have hput : putK (G.bk.xs.map fun e => (Sum.inl (e.1 : Int), V.int (e.2 : Int))) (Sum.inl (d : Int)) (nV v) = (putX G.bk.xs d v).map kvN := putX_kv
  rw [hput]
  have k : Kp K (· ≠ .idx) g g H0 (upd H0 G.bk.xa (.dK ((putX G.bk.xs d v).map kvN))) := kp_upd (Ex.refl _) (fun h => h hB.gx) (rd_dk hB.idx) fun _ _ => rfl
  have hDk := hG.putBooks (bk := { G.bk with xs := putX G.bk.xs d v }) k (fun t ht => (saleT_ne ht).2.2.2.1) ⟨k.ins hB.ins (by rw [hB.gb]; decide), k.at_ _ _ hB.cons (by rw [hB.gc]; decide), fun y hy => (hB.con y hy).kp k (by decide) (by obtain ⟨i, e⟩ := hB.conTag hy; rw [e]; simp),
    k.at_ _ _ hB.dels (by rw [hB.gd]; decide), fun y hy => (hB.del y hy).kp k (by obtain ⟨i, e⟩ := hB.delTag hy; rw [e]; simp), k.at_ _ _ hB.bills (by rw [hB.gi]; decide), fun y hy => (hB.bill y hy).kp k (by decide), upd_same, k.at_ _ _ hB.paid (by rw [hB.gp]; decide),
    hB.gb, hB.gc, hB.gd, hB.gi, hB.gx, hB.gp, hB.gcon, hB.gdel⟩
  refine sj_done (g' := g) (G := { G with bk := { G.bk with xs := putX G.bk.xs d v } }) el_one ⟨hDk, ⟨hR.wf.day, hR.wf.sale, ?_⟩, ⟨hR.same.day, hR.same.sale, hR.same.cons, hR.same.dels, hR.same.bills, putX_perm hW.nd hR.same.idx, hR.same.pay⟩⟩ (fun a ha => un_tag ha) rfl
  have hw := hR.wf.books
  exact ⟨hw.ncs, hw.con, hw.nds, hw.del, hw.nbs, hw.bil, putX_w hW hcap (by omega) hvb, hw.npd⟩
def a_record_payment : List V → Hp → AuctionSpec.Call → Prop := fun ws H c => ∃ i v : Nat, ws = [nV i, nV v] ∧ c = .recordPayment i v
abbrev sp_Desk_record_payment (K : PySem.W.Frag) (A : Adr) : Sp := spM K A a_record_payment
theorem sc_Desk_record_payment : FnScope ["self", "bidder", "amount"] ["self", "bidder", "amount"] (defScope (inClass (top 46) 23)) := ⟨rfl, rfl, rfl, by decide +kernel, rfl, by decide +kernel, by decide +kernel⟩
theorem ok_Desk_record_payment (T : Top K mg A) : MOk P w K mg base 1 A.Desk "record_payment" ["self", "bidder", "amount"] (sp_Desk_record_payment K A) := by
  refine mokM T.mDesk_record_payment sc_Desk_record_payment (fun ws H c ⟨_, _, e, _⟩ => by rw [e]; rfl) (fun _ _ _ _ _ _ us hl => match us, hl with | [_, _, _], _ => rfl) fun f cdv A' outer s' H E hr => ⟨_, (pss_cons (ps_if (PW.pt (pw_or (pt_not (pt_chain op_le op_lt pe_int (pv 1) (pe_k rfl T.k_BIDDERS))) (pw_or1 (pt_not (pt_chain op_le op_le pe_int (pv 2) (pe_k rfl T.k_MOST_AMOUNT)))))) (pss_one (ps_ret (pe_lst (pa_cons (pe_k rfl T.k_OUT) pa_nil)))) pss_nil)
      (pss_cons (ps_augL ip_add (pe_fld (pe_fld (pv 0) rfl) rfl) (pv 1) (pv 2))
      (pss_one (ps_ret (pe_lst (pa_cons pe_int pa_nil)))))), ?_⟩
  rintro ws g G st H0 c e hR ⟨i, v, rfl, rfl⟩
  have hG := hR.at_
  have hB := hG.books
  refine sq_ifRet (b := decide (15 < i) || decide (1000000000 < v)) (et_or (et_is (et_not (et_test (et_below (x := i) (hi := 15 + 1) ev_c (ev_var rfl) ev_c))) not_below) fun _ => et_is (et_not (et_test (et_within (lo := 0) (x := v) (hi := 1000000000) ev_c (ev_var rfl) ev_c))) not_within) (fun hc => ?_) (fun hc => ?_)
  · refine sj_code hR ?_
    simp only [AuctionSpec.step]
    rw [if_pos (by unfold AuctionSpec.maxAmount; simpa using hc)]
    rfl
  have h1 : ¬ (15 < i ∨ AuctionSpec.maxAmount < v) := by
    intro h
    rw [Bool.eq_false_iff] at hc
    exact hc (by unfold AuctionSpec.maxAmount at h; simpa using h)
  have hstep : AuctionSpec.step st (.recordPayment i v) = ({ st with payments := st.payments.set i (st.payments.getD i 0 + v) }, [0]) := by
    simp only [AuctionSpec.step]
    rw [if_neg h1]
  rw [hstep]
  have hnp := hR.wf.books.npd
  have hil : i < G.bk.paid.length := by omega
  refine sq_augL (n := i) (i := G.bk.paid.getD i 0) (j := (v : Int)) hB.paid (un_none (by rw [hB.gp]; decide)) (fld_Books_paid T (fld_books T hG (ev_var rfl)) hB.ins) (ev_var rfl) (by
    rw [List.getElem?_map, List.getD_eq_getElem?_getD, List.getElem?_eq_getElem hil]
    rfl) (ev_var rfl) ?_
  rw [show (G.bk.paid.map V.int).set i (V.int (G.bk.paid.getD i 0 + (v : Int))) = (G.bk.paid.set i (G.bk.paid.getD i 0 + (v : Int))).map V.int by rw [List.map_set]]
  have k : Kp K (· ≠ .paid) g g H0 (upd H0 G.bk.pa (.lst ((G.bk.paid.set i (G.bk.paid.getD i 0 + (v : Int))).map V.int))) := kp_upd (Ex.refl _) (fun h => h hB.gp) (rd_lst hB.paid) fun _ _ => rfl
  have hDk := hG.putBooks (bk := { G.bk with paid := G.bk.paid.set i (G.bk.paid.getD i 0 + (v : Int)) }) k (fun t ht => (saleT_ne ht).2.2.2.2.1) ⟨k.ins hB.ins (by rw [hB.gb]; decide), k.at_ _ _ hB.cons (by rw [hB.gc]; decide), fun y hy => (hB.con y hy).kp k (by decide) (by obtain ⟨i, e⟩ := hB.conTag hy; rw [e]; simp),
    k.at_ _ _ hB.dels (by rw [hB.gd]; decide), fun y hy => (hB.del y hy).kp k (by obtain ⟨i, e⟩ := hB.delTag hy; rw [e]; simp), k.at_ _ _ hB.bills (by rw [hB.gi]; decide), fun y hy => (hB.bill y hy).kp k (by decide), k.at_ _ _ hB.idx (by rw [hB.gx]; decide), upd_same,
    hB.gb, hB.gc, hB.gd, hB.gi, hB.gx, hB.gp, hB.gcon, hB.gdel⟩
  refine sj_done (g' := g) (G := { G with bk := { G.bk with paid := G.bk.paid.set i (G.bk.paid.getD i 0 + (v : Int)) } }) el_one ⟨hDk, ⟨hR.wf.day, hR.wf.sale, ?_⟩, ⟨hR.same.day, hR.same.sale, hR.same.cons, hR.same.dels, hR.same.bills, hR.same.idx, ?_⟩⟩ (fun a ha => un_tag ha) rfl
  · have hw := hR.wf.books
    exact ⟨hw.ncs, hw.con, hw.nds, hw.del, hw.nbs, hw.bil, hw.idx, by show (G.bk.paid.set _ _).length = 16; rw [List.length_set]; exact hnp⟩
  · show (st.payments.set i (st.payments.getD i 0 + v)).map (fun n : Nat => (n : Int)) = G.bk.paid.set i (G.bk.paid.getD i 0 + (v : Int))
    rw [← hR.same.pay, List.map_set]
    congr 1
    rw [List.getD_eq_getElem?_getD, List.getD_eq_getElem?_getD, List.getElem?_map]
    cases st.payments[i]? <;> simp
def a_record_delivery : List V → Hp → AuctionSpec.Call → Prop := fun ws H c => ∃ n d gr v : Nat, ws = [nV n, nV d, nV gr, nV v] ∧ c = .recordDelivery n d gr v
abbrev sp_Desk_record_delivery (K : PySem.W.Frag) (A : Adr) : Sp := spM K A a_record_delivery
theorem sc_Desk_record_delivery : FnScope ["self", "contract", "day", "grade", "volume", "one"] ["self", "contract", "day", "grade", "volume"] (defScope (inClass (top 46) 17)) := ⟨rfl, rfl, rfl, by decide +kernel, rfl, by decide +kernel, by decide +kernel⟩
theorem ok_Desk_record_delivery (T : Top K mg A) : MOk P w K mg base 3 A.Desk "record_delivery" ["self", "contract", "day", "grade", "volume"] (sp_Desk_record_delivery K A) := by
  refine mokM T.mDesk_record_delivery sc_Desk_record_delivery (fun ws H c ⟨_, _, _, _, e, _⟩ => by rw [e]; rfl) (fun _ _ _ _ _ _ us hl => match us, hl with | [_, _, _, _, _], _ => rfl) fun f cdv A' outer s' H E hr => ⟨_, (pss_cons (ps_if (PW.pt (pw_or (pt_not (pt_chain op_le op_le pe_int (pv 2) (pe_k rfl T.k_MOST_DAY))) (pw_or (pt_not (pt_chain op_le op_lt pe_int (pv 3) (pe_k rfl T.k_GRADES))) (pw_or1 (pt_not (pt_chain op_le op_le pe_int (pv 4) (pe_k rfl T.k_MOST_VOLUME))))))) (pss_one (ps_ret (pe_lst (pa_cons (pe_k rfl T.k_OUT) pa_nil)))) pss_nil)
      (pss_cons (ps_if (pt_not (pt_val (pe_m (ok_Desk_is_contract T) (pv 0) T.cDesk.cl (hr.mono (by decide)) (pa_cons (pv 1) pa_nil)))) (pss_one (ps_ret (pe_lst (pa_cons (pe_k rfl T.k_MISSING) pa_nil)))) pss_nil)
      (pss_cons (ps_set (i := 5) sc_Desk_record_delivery.nd rfl (by first | exact Or.inl rfl | exact Or.inr rfl) (pe_ix ix_list (pe_fld (pe_fld (pv 0) rfl) rfl) (pv 1) (fun _ _ => rfl)))
      (pss_cons (ps_if (pt_val (pe_fld (pv 5) rfl)) (pss_one (ps_ret (pe_lst (pa_cons (pe_k rfl T.k_DONE) pa_nil)))) pss_nil)
      (pss_cons (ps_if (pt_not (pt_chain op_le op_le (pe_fld (pv 5) rfl) (pv 2) (pe_fld (pv 0) rfl))) (pss_one (ps_ret (pe_lst (pa_cons (pe_k rfl T.k_NOT_POSSIBLE) pa_nil)))) pss_nil)
      (pss_cons (ps_if (pt_cmpR op_eq (pe_callB cr_lenS (by rfl) T.b_len boot_len (pa_cons (pe_fld (pe_fld (pv 0) rfl) rfl) pa_nil)) (pe_k rfl T.k_MOST_DELIVERIES) (nomark _)) (pss_one (ps_ret (pe_lst (pa_cons (pe_k rfl T.k_FULL) pa_nil)))) pss_nil)
      (pss_cons (ps_expr (pe_bm PySem.F.plainAttrs_list PySem.F.slot_list_append PySem.F.type_list_append mt_append (pe_fld (pe_fld (pv 0) rfl) rfl) (pa_cons (pe_new T.cDelivery (ok_Delivery_init T) (hr.mono (by decide)) rfl (pa_cons (pv 1) (pa_cons (pv 2) (pa_cons (pv 3) (pa_cons (pv 4) pa_nil))))) pa_nil)))
      (pss_one (ps_ret (pe_lst (pa_cons (pe_op op_sub (pe_callB cr_lenS (by rfl) T.b_len boot_len (pa_cons (pe_fld (pe_fld (pv 0) rfl) rfl) pa_nil)) pe_int) pa_nil))))))))))), ?_⟩
  rintro ws g G st H0 c e hR ⟨n, d, gr, v, rfl, rfl⟩
  have hG := hR.at_
  have hB := hG.books
  refine sq_ifRet (b := decide (99999 < d) || (decide (9 < gr) || decide (1000000 < v))) (et_or (et_is (et_not (et_test (et_within (lo := 0) (x := d) (hi := 99999) ev_c (ev_var rfl) ev_c))) not_within) fun _ => et_or (et_is (et_not (et_test (et_below (x := gr) (hi := 9 + 1) ev_c (ev_var rfl) ev_c))) not_below) fun _ => et_is (et_not (et_test (et_within (lo := 0) (x := v) (hi := 1000000) ev_c (ev_var rfl) ev_c))) not_within) (fun hc => ?_) (fun hc => ?_)
  · refine sj_code hR ?_
    simp only [AuctionSpec.step]
    rw [if_pos (by unfold AuctionSpec.maxDay AuctionSpec.maxQuantity; simpa using hc)]
    rfl
  have h1 : ¬ (AuctionSpec.maxDay < d ∨ 9 < gr ∨ AuctionSpec.maxQuantity < v) := by
    intro h
    rw [Bool.eq_false_iff] at hc
    exact hc (by unfold AuctionSpec.maxDay AuctionSpec.maxQuantity at h; simpa using h)
  have h1' : d ≤ 99999 ∧ gr ≤ 9 ∧ v ≤ 1000000 := by
    unfold AuctionSpec.maxDay AuctionSpec.maxQuantity at h1
    omega
  refine sq_ifRet (b := !decide (n < G.bk.cs.length)) (et_not (et_con T hG (ev_var rfl) (ev_var rfl))) (fun hc => ?_) (fun hc => ?_)
  · refine sj_code hR ?_
    simp only [AuctionSpec.step, AuctionSpec.withContract]
    rw [if_neg h1, hR.same.noCon (by simpa using hc)]
    rfl
  have hn : n < G.bk.cs.length := by simpa using hc
  have hcon := hR.same.con hn
  have hC := hB.con _ (List.getElem_mem hn)
  refine sq_asg (ev_dcon T hG (ev_var rfl) (ev_var rfl) hn) ?_
  refine sq_ifRet (et_B (fld_Contract_is_closed T (ev_var rfl) hC.ins)) (fun hc => ?_) (fun hc => ?_)
  · refine sj_code hR ?_
    simp only [AuctionSpec.step, AuctionSpec.withContract]
    rw [if_neg h1, hcon]
    simp only
    rw [if_pos hc]
    rfl
  have h2 : ¬ G.bk.cs[n].c.closed = true := by rw [hc]; decide
  refine sq_ifRet (b := !(decide (G.bk.cs[n].c.day ≤ d) && decide (d ≤ G.day))) (et_not (et_test (ev_chain (p := decide (G.bk.cs[n].c.day ≤ d)) (q := decide (d ≤ G.day)) (fld_Contract_day T (ev_var rfl) hC.ins) (ev_var (v := nV d) rfl) (fld_Desk_day T (ev_var rfl) hG.ins) (congrArg V.bl (decide_eq_decide.mpr (by omega))) (congrArg V.bl (decide_eq_decide.mpr (by omega)))))) (fun hc => ?_) (fun hc => ?_)
  · refine sj_code hR ?_
    simp only [AuctionSpec.step, AuctionSpec.withContract]
    rw [if_neg h1, hcon]
    simp only
    rw [if_neg h2, if_pos]
    · rfl
    · rw [hR.same.day]
      simp at hc
      omega
  have h3 : ¬ (d < G.bk.cs[n].c.day ∨ st.day < d) := by
    rw [hR.same.day]
    simp at hc
    omega
  have hdl : st.deliveries.length = G.bk.ds.length := by rw [hR.same.dels, List.length_map]
  have hw := hR.wf.books
  refine sq_ifRet (b := decide (G.bk.ds.length = 64)) (et_test ((ev_eqS (x := nV G.bk.ds.length) (y := .int 64) ((ev_lenL (fld_Books_deliveries T (fld_books T hG (ev_var rfl)) hB.ins) hB.dels).to (by rw [List.length_map]; rfl)) ev_c rfl).to (congrArg V.bl (dec_len (m := 64))))) (fun hc => ?_) (fun hc => ?_)
  · refine sj_code hR ?_
    simp only [AuctionSpec.step, AuctionSpec.withContract]
    rw [if_neg h1, hcon]
    simp only
    rw [if_neg h2, if_neg h3, if_pos (by rw [hdl, of_decide_eq_true hc]; exact Nat.le_refl _)]
    rfl
  have hlt : G.bk.ds.length < 64 := by
    have := of_decide_eq_false hc
    have := hw.nds
    omega
  have hstep : AuctionSpec.step st (.recordDelivery n d gr v) = ({ st with deliveries := st.deliveries ++ [⟨n, d, gr, v⟩] }, [(st.deliveries.length : Int)]) := by
    simp only [AuctionSpec.step, AuctionSpec.withContract]
    rw [if_neg h1, hcon]
    simp only
    rw [if_neg h2, if_neg h3, if_neg (by omega)]
  rw [hstep]
  refine sq_appN (R := fun u H1 H2 => ∃ p, u = .ref p ∧ H1 p = none ∧ Ins H2 p A.Delivery (delF (n : Int) (d : Int) (gr : Int) (v : Int))) hB.dels (un_none (by rw [hB.gd]; decide)) (fld_Books_deliveries T (fld_books T hG (ev_var rfl)) hB.ins)
    (evn_new (an_of (ea_cons (ev_var (v := nV n) rfl) (ea_cons (ev_var (v := nV d) rfl) (ea_cons (ev_var (v := nV gr) rfl) (ea_cons (ev_var (v := nV v) rfl) ea_nil))))) ?_) (by rw [List.length_map]; omega) fun u H1 H2 e1 eb e12 ⟨p, ev, hp, hi⟩ => ?_
  · rintro vs H1 H2 e1 e12 rfl
    exact ⟨_, ⟨(n : Int), (d : Int), (gr : Int), (v : Int), rfl, rfl⟩, fun p H3 H4 hp hN e24 e34 => ⟨p, rfl, fresh_back e12 hp, hN.up e34⟩⟩
  subst ev
  have e02 := e1.trans e12
  have ndp : G.bk.da ≠ p := ne_of_none (e1 _ _ hB.dels) hp
  let g' := tagAt g p (.del G.bk.ds.length)
  have ht : ∀ x, H0 x ≠ none → g' x = g x := tag_tagAt (fun _ _ => rfl) (fresh_back e1 hp)
  have hun : ∀ x, un g H x ≠ none → g' x = .no := un_tagAt (fun x hx => un_tag hx) (fresh_back eb hp)
  let y' : DelG := ⟨p, ⟨n, d, gr, v⟩⟩
  have k : Kp K (· ≠ .dels) g g' H0 (upd H2 G.bk.da (.lst ((G.bk.ds.map fun y => V.ref y.p) ++ [.ref p]))) := kp_upd e02 (fun h => h hB.gd) (rd_lst hB.dels) ht
  have hDk := hG.putBooks (bk := { G.bk with ds := G.bk.ds ++ [y'] }) k (fun t ht => (saleT_ne ht).2.1) ⟨k.ins hB.ins (by rw [hB.gb]; decide), k.at_ _ _ hB.cons (by rw [hB.gc]; decide), fun y hy => (hB.con y hy).kp k (by decide) (by obtain ⟨i, e⟩ := hB.conTag hy; rw [e]; simp),
    by
      show upd H2 G.bk.da _ G.bk.da = some (HO.lst ((G.bk.ds ++ [y']).map _))
      rw [upd_same, List.map_append]
      rfl, fun y hy => by
      rcases List.mem_append.mp hy with hy | hy
      · exact (hB.del y hy).kp k (by obtain ⟨i, e⟩ := hB.delTag hy; rw [e]; simp)
      · rw [List.mem_singleton.mp hy]
        exact ⟨hi.elim fun dx h => ⟨dx, by show upd H2 _ _ p = _; rw [upd_ne ndp.symm]; exact h⟩⟩,
    k.at_ _ _ hB.bills (by rw [hB.gi]; decide), fun y hy => (hB.bill y hy).kp k (by decide), k.at_ _ _ hB.idx (by rw [hB.gx]; decide), k.at_ _ _ hB.paid (by rw [hB.gp]; decide),
    by rw [k.tagI hB.ins]; exact hB.gb, by show g' G.bk.ca = _; rw [k.tag _ (some_ne hB.cons)]; exact hB.gc, by show g' G.bk.da = _; rw [k.tag _ (some_ne hB.dels)]; exact hB.gd, by show g' G.bk.ba = _; rw [k.tag _ (some_ne hB.bills)]; exact hB.gi, by show g' G.bk.xa = _; rw [k.tag _ (some_ne hB.idx)]; exact hB.gx, by show g' G.bk.pa = _; rw [k.tag _ (some_ne hB.paid)]; exact hB.gp,
    fun i y hy => by rw [k.tagI (hB.con y (List.mem_of_getElem? hy)).ins]; exact hB.gcon i y hy, fun i y hy => by
      have hy : (G.bk.ds ++ [y'])[i]? = some y := hy
      by_cases hi : i < G.bk.ds.length
      · rw [List.getElem?_append_left hi] at hy
        rw [k.tagI (hB.del y (List.mem_of_getElem? hy)).ins]
        exact hB.gdel i y hy
      · rw [List.getElem?_append_right (by omega)] at hy
        obtain ⟨h5, h6⟩ := List.getElem?_eq_some_iff.mp hy
        have h7 : i = G.bk.ds.length := by
          rw [List.length_singleton] at h5
          omega
        subst h7
        have h8 : y = y' := by rw [← h6]; simp
        rw [h8]
        exact tagAt_same⟩
  refine sj_done (g' := g') (G := { G with bk := { G.bk with ds := G.bk.ds ++ [y'] } }) (EvL.to (el_lst (ea_cons (ev_I0 (j := 1) ((ev_lenL (fld_Books_deliveries T (fld_books T hDk (ev_var rfl)) hDk.books.ins) hDk.books.dels)) ev_c) ea_nil) (by show 1 ≤ 100000; decide)) ?_) ⟨hDk, ⟨hR.wf.day, hR.wf.sale, ⟨hw.ncs, hw.con, ?_, fun y hy => ?_, hw.nbs, hw.bil, hw.idx, hw.npd⟩⟩, ⟨hR.same.day, hR.same.sale, hR.same.cons, ?_, hR.same.bills, hR.same.idx, hR.same.pay⟩⟩ hun rfl
  · rw [List.length_map]
    show [V.int (((G.bk.ds ++ [y']).length : Nat) - 1)] = [V.int (st.deliveries.length : Int)]
    rw [List.length_append, List.length_singleton, hdl]
    congr 2
    omega
  · show (G.bk.ds ++ [y']).length ≤ 64
    rw [List.length_append, List.length_singleton]
    omega
  · rcases List.mem_append.mp hy with hy | hy
    · exact hw.del y hy
    · rw [List.mem_singleton.mp hy]
      exact ⟨hn, by show gr < 10; omega, h1'.2.2⟩
  · show st.deliveries ++ [_] = (G.bk.ds ++ [y']).map (·.d)
    rw [List.map_append, hR.same.dels]
    rfl
end
end TB
/-! # The desk: corrections, closings, bills; a new desk -/
namespace TB
open PySem PySem.Spec PyProof.Rows L2 Evl
open TimberAuction (Lot Bid Sale Contract Delivery Bill)
open TBM
open AuctionSpec (State)

section
variable {P : Program} {w : World} {K : PySem.W.Frag} {mg : Str → Option Value} {base : Heap} {A : Adr}
theorem put_vol {c d gr v v' : Int} : putF "volume" (.int v') (delF c d gr v) = delF c d gr v' := by
  unfold delF
  rw [putF_past (by decide +kernel), putF_past (by decide +kernel), putF_past (by decide +kernel), putF_here]
theorem put_closed {va pa ba : Addr} {x day ad : Int} {fa : Addr} {b b' : Bool} : putF "is_closed" (.bl b') (conF va pa ba x day ad fa b) = conF va pa ba x day ad fa b' := by
  unfold conF
  rw [putF_past (by decide +kernel), putF_past (by decide +kernel), putF_past (by decide +kernel), putF_past (by decide +kernel), putF_past (by decide +kernel), putF_past (by decide +kernel), putF_past (by decide +kernel), putF_here]
theorem set_map {α : Type} {l : List α} {f : α → Addr} {n : Nat} (hn : n < l.length) {y : α} (h : f y = f l[n]) : (l.set n y).map (fun y => V.ref (f y)) = l.map fun y => V.ref (f y) := by
  rw [List.map_set]
  refine List.ext_getElem (by simp) fun i h1 h2 => ?_
  rw [List.getElem_set]
  split
  · rename_i e
    subst e
    rw [List.getElem_map, h]
  · rfl
def a_correct_delivery : List V → Hp → AuctionSpec.Call → Prop := fun ws H c => ∃ n v : Nat, ws = [nV n, nV v] ∧ c = .correctDelivery n v
abbrev sp_Desk_correct_delivery (K : PySem.W.Frag) (A : Adr) : Sp := spM K A a_correct_delivery
theorem sc_Desk_correct_delivery : FnScope ["self", "delivery", "volume"] ["self", "delivery", "volume"] (defScope (inClass (top 46) 18)) := ⟨rfl, rfl, rfl, by decide +kernel, rfl, by decide +kernel, by decide +kernel⟩
theorem ok_Desk_correct_delivery (T : Top K mg A) : MOk P w K mg base 1 A.Desk "correct_delivery" ["self", "delivery", "volume"] (sp_Desk_correct_delivery K A) := by
  refine mokM T.mDesk_correct_delivery sc_Desk_correct_delivery (fun ws H c ⟨_, _, e, _⟩ => by rw [e]; rfl) (fun _ _ _ _ _ _ us hl => match us, hl with | [_, _, _], _ => rfl) fun f cdv A' outer s' H E hr => ⟨_, (pss_cons (ps_if (pt_not (pt_chain op_le op_le pe_int (pv 2) (pe_k rfl T.k_MOST_VOLUME))) (pss_one (ps_ret (pe_lst (pa_cons (pe_k rfl T.k_OUT) pa_nil)))) pss_nil)
      (pss_cons (ps_if (pt_not (pt_chain op_le op_lt pe_int (pv 1) (pe_callB cr_lenS (by rfl) T.b_len boot_len (pa_cons (pe_fld (pe_fld (pv 0) rfl) rfl) pa_nil)))) (pss_one (ps_ret (pe_lst (pa_cons (pe_k rfl T.k_MISSING) pa_nil)))) pss_nil)
      (pss_cons (ps_fld (pe_ix ix_list (pe_fld (pe_fld (pv 0) rfl) rfl) (pv 1) (fun _ _ => rfl)) (pv 2) rfl)
      (pss_one (ps_ret (pe_lst (pa_cons pe_int pa_nil))))))), ?_⟩
  rintro ws g G st H0 c e hR ⟨n, v, rfl, rfl⟩
  have hG := hR.at_
  have hB := hG.books
  refine sq_ifRet (b := decide (1000000 < v)) (et_is (et_not (et_test (et_within (lo := 0) (x := v) (hi := 1000000) ev_c (ev_var rfl) ev_c))) not_within) (fun hc => ?_) (fun hc => ?_)
  · refine sj_code hR ?_
    simp only [AuctionSpec.step]
    rw [if_pos (show AuctionSpec.maxQuantity < v from of_decide_eq_true hc)]
    rfl
  have h1 : ¬ AuctionSpec.maxQuantity < v := of_decide_eq_false hc
  refine sq_ifRet (b := !decide (n < G.bk.ds.length)) (et_not (et_test (et_below ev_c (ev_var rfl) ((ev_lenL (fld_Books_deliveries T (fld_books T hG (ev_var rfl)) hB.ins) hB.dels).to (by rw [List.length_map]; rfl))))) (fun hc => ?_) (fun hc => ?_)
  · have hn : ¬ n < G.bk.ds.length := by simpa using hc
    refine sj_code hR ?_
    simp only [AuctionSpec.step]
    rw [if_neg h1, hR.same.dels, List.getElem?_eq_none (by rw [List.length_map]; omega)]
    rfl
  have hn : n < G.bk.ds.length := by simpa using hc
  have hdn : st.deliveries[n]? = Option.some G.bk.ds[n].d := by
    rw [hR.same.dels, List.getElem?_map, List.getElem?_eq_getElem hn]
    rfl
  have hstep : AuctionSpec.step st (.correctDelivery n v) = ({ st with deliveries := st.deliveries.set n { G.bk.ds[n].d with volume := v } }, [0]) := by
    simp only [AuctionSpec.step]
    rw [if_neg h1, hdn]
  rw [hstep]
  have hD := hB.del _ (List.getElem_mem hn)
  have hgd := hB.gdel n _ (List.getElem?_eq_getElem hn)
  refine sq_fldI T.cDelivery.cl T.nDelivery_volume hD.ins (un_none (by rw [hgd]; simp)) (by show 4 < 1000; decide) (v := nV v) (ev_var rfl) (ev_ixL (fld_Books_deliveries T (fld_books T hG (ev_var rfl)) hB.ins) (ev_var rfl) hB.dels (get_ref hn)) put_vol fun dx hi => ?_
  have k : Kp K (· ≠ .del n) g g H0 (upd H0 G.bk.ds[n].p (.ins A.Delivery dx (delF (G.bk.ds[n].d.contract : Int) (G.bk.ds[n].d.day : Int) (G.bk.ds[n].d.grade : Int) (v : Int)))) := kp_upd (Ex.refl _) (fun h => h hgd) (rd_ins hi) fun _ _ => rfl
  let y' : DelG := { G.bk.ds[n] with d := { G.bk.ds[n].d with volume := v } }
  have hmp : (G.bk.ds.set n y').map (fun y => V.ref y.p) = G.bk.ds.map fun y => V.ref y.p := set_map (f := fun y : DelG => y.p) hn rfl
  have hDk := hG.putBooks (bk := { G.bk with ds := G.bk.ds.set n y' }) k (fun t ht => (saleT_ne ht).2.2.2.2.2.2 n) ⟨k.ins hB.ins (by rw [hB.gb]; simp), k.at_ _ _ hB.cons (by rw [hB.gc]; simp), fun y hy => (hB.con y hy).kp k (by simp) (by obtain ⟨i, e⟩ := hB.conTag hy; rw [e]; simp),
    by
      show upd H0 G.bk.ds[n].p _ G.bk.da = some (HO.lst ((G.bk.ds.set n y').map _))
      rw [hmp]
      exact k.at_ _ _ hB.dels (by rw [hB.gd]; simp), fun y hy => by
      have hy : y ∈ G.bk.ds.set n y' := hy
      obtain ⟨i, hi2, ei⟩ := List.mem_iff_getElem.mp hy
      by_cases h : n = i
      · subst h
        rw [List.getElem_set_self] at ei
        subst ei
        exact ⟨⟨dx, upd_same⟩⟩
      · rw [List.getElem_set_ne h] at ei
        have hi3 : i < G.bk.ds.length := by simpa using hi2
        have hym : y ∈ G.bk.ds := by rw [← ei]; exact List.getElem_mem hi3
        refine (hB.del y hym).kp k ?_
        rw [hB.gdel i y (by rw [List.getElem?_eq_getElem hi3, ei])]
        intro e
        exact h (Tag.del.inj e).symm,
    k.at_ _ _ hB.bills (by rw [hB.gi]; simp), fun y hy => (hB.bill y hy).kp k (by simp), k.at_ _ _ hB.idx (by rw [hB.gx]; simp), k.at_ _ _ hB.paid (by rw [hB.gp]; simp),
    hB.gb, hB.gc, hB.gd, hB.gi, hB.gx, hB.gp, hB.gcon, fun i y hy => by
      by_cases h : n = i
      · subst h
        have hy : (G.bk.ds.set n y')[n]? = some y := hy
        rw [List.getElem?_set_self hn] at hy
        rw [← Option.some.inj hy]
        exact hgd
      · have hy : (G.bk.ds.set n y')[i]? = some y := hy
        rw [List.getElem?_set_ne h] at hy
        exact hB.gdel i y hy⟩
  have hw := hR.wf.books
  refine sj_done (g' := g) (G := { G with bk := { G.bk with ds := G.bk.ds.set n y' } }) el_one ⟨hDk, ⟨hR.wf.day, hR.wf.sale, ⟨hw.ncs, hw.con, ?_, fun y hy => ?_, hw.nbs, hw.bil, hw.idx, hw.npd⟩⟩, ⟨hR.same.day, hR.same.sale, hR.same.cons, ?_, hR.same.bills, hR.same.idx, hR.same.pay⟩⟩ (fun a ha => un_tag ha) rfl
  · show (G.bk.ds.set n y').length ≤ 64
    rw [List.length_set]
    exact hw.nds
  · have hy : y ∈ G.bk.ds.set n y' := hy
    rcases List.mem_or_eq_of_mem_set hy with hy | hy
    · exact hw.del y hy
    · rw [hy]
      have := hw.del _ (List.getElem_mem hn)
      exact ⟨this.con, this.grade, by show v ≤ 1000000; unfold AuctionSpec.maxQuantity at h1; omega⟩
  · show st.deliveries.set n _ = (G.bk.ds.set n y').map (·.d)
    rw [List.map_set, hR.same.dels]
abbrev sp_Desk_close_contract (K : PySem.W.Frag) (A : Adr) : Sp := spM K A (a_con .closeContract)
theorem sc_Desk_close_contract : FnScope ["self", "contract"] ["self", "contract"] (defScope (inClass (top 46) 19)) := ⟨rfl, rfl, rfl, by decide +kernel, rfl, by decide +kernel, by decide +kernel⟩
theorem ok_Desk_close_contract (T : Top K mg A) : MOk P w K mg base 2 A.Desk "close_contract" ["self", "contract"] (sp_Desk_close_contract K A) := by
  refine mokM T.mDesk_close_contract sc_Desk_close_contract (fun ws H c ⟨_, e, _⟩ => by rw [e]; rfl) (fun _ _ _ _ _ _ us hl => match us, hl with | [_, _], _ => rfl) fun f cdv A' outer s' H E hr => ⟨_, (pss_cons (ps_if (pt_not (pt_val (pe_m (ok_Desk_is_contract T) (pv 0) T.cDesk.cl (hr.mono (by decide)) (pa_cons (pv 1) pa_nil)))) (pss_one (ps_ret (pe_lst (pa_cons (pe_k rfl T.k_MISSING) pa_nil)))) pss_nil)
      (pss_cons (ps_if (pt_val (pe_fld (pe_ix ix_list (pe_fld (pe_fld (pv 0) rfl) rfl) (pv 1) (fun _ _ => rfl)) rfl)) (pss_one (ps_ret (pe_lst (pa_cons (pe_k rfl T.k_DONE) pa_nil)))) pss_nil)
      (pss_cons (ps_fld (pe_ix ix_list (pe_fld (pe_fld (pv 0) rfl) rfl) (pv 1) (fun _ _ => rfl)) pe_bl rfl)
      (pss_one (ps_ret (pe_lst (pa_cons pe_int pa_nil))))))), ?_⟩
  rintro ws g G st H0 c e hR ⟨n, rfl, rfl⟩
  have hG := hR.at_
  have hB := hG.books
  refine sq_ifRet (b := !decide (n < G.bk.cs.length)) (et_not (et_con T hG (ev_var rfl) (ev_var rfl))) (fun hc => ?_) (fun hc => ?_)
  · refine sj_code hR ?_
    simp only [AuctionSpec.step, AuctionSpec.withContract]
    rw [hR.same.noCon (by simpa using hc)]
    rfl
  have hn : n < G.bk.cs.length := by simpa using hc
  have hcon := hR.same.con hn
  have hC := hB.con _ (List.getElem_mem hn)
  have hgc := hB.gcon n _ (List.getElem?_eq_getElem hn)
  refine sq_ifRet (et_B (fld_Contract_is_closed T (ev_dcon T hG (ev_var rfl) (ev_var rfl) hn) hC.ins)) (fun hc => ?_) (fun hc => ?_)
  · refine sj_code hR ?_
    simp only [AuctionSpec.step, AuctionSpec.withContract]
    rw [hcon]
    simp only
    rw [if_pos hc]
    rfl
  have hstep : AuctionSpec.step st (.closeContract n) = ({ st with contracts := st.contracts.set n { G.bk.cs[n].c with closed := true } }, [0]) := by
    simp only [AuctionSpec.step, AuctionSpec.withContract]
    rw [hcon]
    simp only
    rw [if_neg (by rw [hc]; decide)]
  rw [hstep]
  refine sq_fldI T.cContract.cl T.nContract_is_closed hC.ins (un_none (by rw [hgc]; simp)) (by show 8 < 1000; decide) (v := .bl true) ev_c (ev_dcon T hG (ev_var rfl) (ev_var rfl) hn) put_closed fun dx hi => ?_
  let y' : ConG := { G.bk.cs[n] with c := { G.bk.cs[n].c with closed := true } }
  have k : Kp K (· ≠ .con n) g g H0 (upd H0 G.bk.cs[n].p (.ins A.Contract dx (conF G.bk.cs[n].va G.bk.cs[n].pa G.bk.cs[n].ba ((TimberAuction.valueOf G.bk.cs[n].c.volumes G.bk.cs[n].c.prices : Nat) : Int) (G.bk.cs[n].c.day : Int) (G.bk.cs[n].c.advance : Int) G.bk.cs[n].fa true))) := kp_upd (Ex.refl _) (fun h => h hgc) (rd_ins hi) fun _ _ => rfl
  have hmp : (G.bk.cs.set n y').map (fun y => V.ref y.p) = G.bk.cs.map fun y => V.ref y.p := set_map (f := fun y : ConG => y.p) hn rfl
  have hDk := hG.putBooks (bk := { G.bk with cs := G.bk.cs.set n y' }) k (fun t ht => (saleT_ne ht).2.2.2.2.2.1 n) ⟨k.ins hB.ins (by rw [hB.gb]; simp), by
      show upd H0 G.bk.cs[n].p _ G.bk.ca = some (HO.lst ((G.bk.cs.set n y').map _))
      rw [hmp]
      exact k.at_ _ _ hB.cons (by rw [hB.gc]; simp), fun y hy => by
      have hy : y ∈ G.bk.cs.set n y' := hy
      obtain ⟨i, hi2, ei⟩ := List.mem_iff_getElem.mp hy
      by_cases h : n = i
      · subst h
        rw [List.getElem_set_self] at ei
        subst ei
        exact ⟨⟨dx, upd_same⟩, k.at_ _ _ hC.vol (by rw [hC.gv]; simp), k.at_ _ _ hC.prices (by rw [hC.gp]; simp), hC.bidders.kp k (by simp), k.sqt _ _ hC.factor, hC.gv, hC.gp⟩
      · rw [List.getElem_set_ne h] at ei
        have hi3 : i < G.bk.cs.length := by simpa using hi2
        have hym : y ∈ G.bk.cs := by rw [← ei]; exact List.getElem_mem hi3
        refine (hB.con y hym).kp k (by simp) ?_
        rw [hB.gcon i y (by rw [List.getElem?_eq_getElem hi3, ei])]
        intro e
        exact h (Tag.con.inj e).symm,
    k.at_ _ _ hB.dels (by rw [hB.gd]; simp), fun y hy => (hB.del y hy).kp k (by obtain ⟨i, e⟩ := hB.delTag hy; rw [e]; simp),
    k.at_ _ _ hB.bills (by rw [hB.gi]; simp), fun y hy => (hB.bill y hy).kp k (by simp), k.at_ _ _ hB.idx (by rw [hB.gx]; simp), k.at_ _ _ hB.paid (by rw [hB.gp]; simp),
    hB.gb, hB.gc, hB.gd, hB.gi, hB.gx, hB.gp, fun i y hy => by
      by_cases h : n = i
      · subst h
        have hy : (G.bk.cs.set n y')[n]? = some y := hy
        rw [List.getElem?_set_self hn] at hy
        rw [← Option.some.inj hy]
        exact hgc
      · have hy : (G.bk.cs.set n y')[i]? = some y := hy
        rw [List.getElem?_set_ne h] at hy
        exact hB.gcon i y hy, hB.gdel⟩
  have hw := hR.wf.books
  have hlen : (G.bk.cs.set n y').length = G.bk.cs.length := List.length_set
  refine sj_done (g' := g) (G := { G with bk := { G.bk with cs := G.bk.cs.set n y' } }) el_one ⟨hDk, ⟨hR.wf.day, hR.wf.sale, ⟨?_, fun y hy => ?_, hw.nds, fun y hy => ?_, hw.nbs, fun y hy => ?_, hw.idx, hw.npd⟩⟩, ⟨hR.same.day, hR.same.sale, ?_, hR.same.dels, hR.same.bills, hR.same.idx, hR.same.pay⟩⟩ (fun a ha => un_tag ha) rfl
  · show (G.bk.cs.set n y').length ≤ 24
    rw [hlen]
    exact hw.ncs
  · have hy : y ∈ G.bk.cs.set n y' := hy
    rcases List.mem_or_eq_of_mem_set hy with hy | hy
    · exact hw.con y hy
    · rw [hy]
      have := hw.con _ (List.getElem_mem hn)
      exact ⟨this.vlen, this.vol, this.plen, this.prices, this.blen, this.bid, this.adv, this.fac⟩
  · have := hw.del y hy
    exact ⟨by show y.d.contract < (G.bk.cs.set n y').length; rw [hlen]; exact this.con, this.grade, this.vol⟩
  · obtain ⟨h1, h2⟩ := hw.bil y hy
    refine ⟨by show y.b.contract < (G.bk.cs.set n y').length; rw [hlen]; exact h1, fun z hz => ?_⟩
    have hz : (G.bk.cs.set n y')[y.b.contract]? = some z := hz
    by_cases h : n = y.b.contract
    · rw [← h, List.getElem?_set_self hn] at hz
      have h3 := h2 G.bk.cs[n] (by rw [← h]; exact List.getElem?_eq_getElem hn)
      rw [← Option.some.inj hz]
      exact h3
    · rw [List.getElem?_set_ne h] at hz
      exact h2 z hz
  · show st.contracts.set n _ = (G.bk.cs.set n y').map (·.c)
    rw [List.map_set, hR.same.cons]
end
end TB
/-! # The desk: bills; a new desk -/
namespace TB
open PySem PySem.Spec PyProof.Rows L2 Evl
open TimberAuction (Lot Bid Sale Contract Delivery Bill)
open TBM
open AuctionSpec (State)

section
variable {P : Program} {w : World} {K : PySem.W.Frag} {mg : Str → Option Value} {base : Heap} {A : Adr}
theorem empty_zero {l : List Int} : ((l.filter fun x => !decide (V.int x = V.int 0)).map V.int).isEmpty = l.all fun x => x == 0 := by
  induction l with
  | nil => rfl
  | cons a l ih =>
    rw [List.all_cons]
    by_cases h : a = 0
    · subst h
      rw [List.filter_cons_of_neg (by simp), ih]
      rfl
    · rw [List.filter_cons_of_pos (by simp [h])]
      have : (a == 0) = false := by simpa using h
      rw [this]
      rfl
abbrev sp_Desk_create_bill (K : PySem.W.Frag) (A : Adr) : Sp := spM K A (a_con .createBill)
theorem sc_Desk_create_bill : FnScope ["self", "contract", "amounts", "found", "pair", "amount"] ["self", "contract"] (defScope (inClass (top 46) 21)) := ⟨rfl, rfl, rfl, by decide +kernel, rfl, by decide +kernel, by decide +kernel⟩
theorem ok_Desk_create_bill (T : Top K mg A) : MOk P w K mg base 8 A.Desk "create_bill" ["self", "contract"] (sp_Desk_create_bill K A) := by
  refine mokM T.mDesk_create_bill sc_Desk_create_bill (fun ws H c ⟨_, e, _⟩ => by rw [e]; rfl) (fun _ _ _ _ _ _ us hl => match us, hl with | [_, _], _ => rfl) fun f cdv A' outer s' H E hr => ⟨_, (pss_cons (ps_if (pt_not (pt_val (pe_m (ok_Desk_is_contract T) (pv 0) T.cDesk.cl (hr.mono (by decide)) (pa_cons (pv 1) pa_nil)))) (pss_one (ps_ret (pe_lst (pa_cons (pe_k rfl T.k_MISSING) pa_nil)))) pss_nil)
      (pss_cons (ps_set (i := 2) sc_Desk_create_bill.nd rfl (by first | exact Or.inl rfl | exact Or.inr rfl) (pe_m (ok_Books_new_amounts T) (pe_fld (pv 0) rfl) T.cBooks.cl (hr.mono (by decide)) (pa_cons (pv 1) pa_nil)))
      (pss_cons (ps_if (pt_cmpR (op_eqN (hu1 hr)) (pe_lc (own := [("amount", 5)]) (g := (gName 5)) (tt := (tTest (tOp (rNe) (tVar 5) (tC (.int (0)))))) (te := (tVar 5)) (by rfl) sc_Desk_create_bill.nd (pi_list (pv 2)) (blkOk_by (own := [("amount", 5)]) (N := ["self", "contract", "amounts", "found", "pair", "amount"]) (sc := defScope (inClass (top 46) 21)) (by decide +kernel)) (fun _ _ _ _ _ => (pg_name (i := 5) sc_Desk_create_bill.nd rfl (by first | exact Or.inl rfl | exact Or.inr rfl))) (fun _ _ _ _ _ => (pts_one (pt_cmpR op_ne (pv 5) pe_int (nomark _)))) (fun _ _ _ _ _ => (pv 5))) (pe_lst pa_nil) (nomark _)) (pss_one (ps_ret (pe_lst (pa_cons (pe_k rfl T.k_DONE) pa_nil)))) pss_nil)
      (pss_cons (ps_if (pt_cmpR op_eq (pe_callB cr_lenS (by rfl) T.b_len boot_len (pa_cons (pe_fld (pe_fld (pv 0) rfl) rfl) pa_nil)) (pe_k rfl T.k_MOST_BILLS) (nomark _)) (pss_one (ps_ret (pe_lst (pa_cons (pe_k rfl T.k_FULL) pa_nil)))) pss_nil)
      (pss_cons (ps_expr (pe_bm PySem.F.plainAttrs_list PySem.F.slot_list_append PySem.F.type_list_append mt_append (pe_fld (pe_fld (pv 0) rfl) rfl) (pa_cons (pe_new T.cBill (ok_Bill_init T) (hr.mono (by decide)) rfl (pa_cons (pv 1) (pa_cons (pe_fld (pv 0) rfl) (pa_cons (pv 2) pa_nil)))) pa_nil)))
      (pss_cons (ps_set (i := 3) sc_Desk_create_bill.nd rfl (by first | exact Or.inl rfl | exact Or.inr rfl) (pe_lst (pa_cons (pe_op op_sub (pe_callB cr_lenS (by rfl) T.b_len boot_len (pa_cons (pe_fld (pe_fld (pv 0) rfl) rfl) pa_nil)) pe_int) pa_nil)))
      (pss_cons (ps_for PassesOwn.never rfl (pi_zip (by rfl) T.b_zip (pa_cons (pe_fld (pe_ix ix_list (pe_fld (pe_fld (pv 0) rfl) rfl) (pv 1) (fun _ _ => rfl)) rfl) (pa_cons (pv 2) pa_nil))) (pg_tup rfl (pgs_cons (pg_name (i := 4) sc_Desk_create_bill.nd rfl (by first | exact Or.inl rfl | exact Or.inr rfl)) (pgs_cons (pg_name (i := 5) sc_Desk_create_bill.nd rfl (by first | exact Or.inl rfl | exact Or.inr rfl)) pgs_nil))) (pss_one (ps_expr (pe_bm PySem.F.plainAttrs_list PySem.F.slot_list_extend PySem.F.type_list_extend mt_extend (pv 3) (pa_cons (pe_lst (pa_cons (pe_ix ix_tup (pv 4) pe_int (fun _ _ => rfl)) (pa_cons (pv 5) pa_nil))) pa_nil)))))
      (pss_one (ps_ret (pv 3)))))))))), ?_⟩
  rintro ws g G st H0 c e hR ⟨n, rfl, rfl⟩
  have hG := hR.at_
  have hB := hG.books
  refine sq_ifRet (b := !decide (n < G.bk.cs.length)) (et_not (et_con T hG (ev_var rfl) (ev_var rfl))) (fun hc => ?_) (fun hc => ?_)
  · refine sj_code hR ?_
    simp only [AuctionSpec.step, AuctionSpec.withContract]
    rw [hR.same.noCon (by simpa using hc)]
    rfl
  have hn : n < G.bk.cs.length := by simpa using hc
  have hcon := hR.same.con hn
  have hC := hB.con _ (List.getElem_mem hn)
  have hw := hR.wf.books
  have hcw := hw.con _ (List.getElem_mem hn)
  have ham := hR.same.amounts hR.wf n G.bk.cs[n].c
  have haml : (amountsOf G.bk n G.bk.cs[n].c).length = G.bk.cs[n].c.bidders.length := next_length
  refine sq_asgN (R := isLF ((amountsOf G.bk n G.bk.cs[n].c).map V.int)) (evn_meth (fld_books T hG (ev_var rfl)) hB.ins no_Books_new_amounts (ea_cons (ev_var rfl) ea_nil) ⟨g, G.b, G.bk, n, hn, rfl, hB, hw, rfl⟩ fun _ _ _ _ _ ea ek h => isLF_up ea ek h) fun v H1 H2 e1 eb e12 ⟨q, ev, hq, nq⟩ => ?_
  subst ev
  have e02 := e1.trans e12
  have hG2 := hG.up e02
  have hB2 := hB.up e02
  have hblen := hcw.blen
  generalize hams : amountsOf G.bk n G.bk.cs[n].c = ams at *
  refine sq_ifRet (b := ams.all fun x => x == 0) (et_test ((ev_eqN (evl_lc (fun x => !decide (V.int x = V.int 0)) V.int (evi_list (K := K) ams V.int (ev_var rfl) (sq_of hq)) up_l (sq_of hq) (by omega) ?_)).to (congrArg V.bl empty_zero))) (fun hc => ?_) (fun hc => ?_)
  · rintro x v H3 hx e3 rfl
    exact ⟨_, evg_name, rfl, et_test (ev_neS (ev_var rfl) ev_c rfl), fun _ => ev_var rfl⟩
  · refine sj_code (hR.up e02) ?_
    simp only [AuctionSpec.step, AuctionSpec.withContract]
    rw [hcon]
    simp only
    rw [ham, if_pos hc]
    rfl
  have h1 : ¬ ams.all (fun x => x == 0) = true := by rw [hc]; decide
  have hbl : st.bills.length = G.bk.bs.length := by rw [hR.same.bills, List.length_map]
  refine sq_ifRet (b := decide (G.bk.bs.length = 48)) (et_test ((ev_eqS (x := nV G.bk.bs.length) (y := .int 48) ((ev_lenL (fld_Books_bills T (fld_books T hG2 (ev_var rfl)) hB2.ins) hB2.bills).to (by rw [List.length_map]; rfl)) ev_c rfl).to (congrArg V.bl (dec_len (m := 48))))) (fun hc => ?_) (fun hc => ?_)
  · refine sj_code (hR.up e02) ?_
    simp only [AuctionSpec.step, AuctionSpec.withContract]
    rw [hcon]
    simp only
    rw [ham, if_neg h1, if_pos (by rw [hbl, of_decide_eq_true hc]; exact Nat.le_refl _)]
    rfl
  have hlt : G.bk.bs.length < 48 := by
    have := of_decide_eq_false hc
    have := hw.nbs
    omega
  have hstep : AuctionSpec.step st (.createBill n) = ({ st with bills := st.bills ++ [⟨n, st.day, ams⟩] }, (st.bills.length : Int) :: (G.bk.cs[n].c.bidders.zip ams).flatMap fun e => [(e.1.1 : Int), e.2]) := by
    simp only [AuctionSpec.step, AuctionSpec.withContract]
    rw [hcon]
    simp only
    rw [ham, if_neg h1, if_neg (by omega)]
  rw [hstep]
  have nqb : un g H q = none := fresh_back eb nq
  have nq0 : H0 q = none := fresh_back e1 nq
  refine sq_appN (R := fun u H3 H4 => ∃ p, u = .ref p ∧ H3 p = none ∧ Ins H4 p A.Bill (bilF (n : Int) (G.day : Int) q)) hB2.bills (un_none (by rw [hB.gi]; decide)) (fld_Books_bills T (fld_books T hG2 (ev_var rfl)) hB2.ins)
    (evn_new (an_of (ea_cons (ev_var (v := nV n) rfl) (ea_cons (fld_Desk_day T (ev_var rfl) hG2.ins) (ea_cons (ev_var (v := .ref q) rfl) ea_nil)))) ?_) (by rw [List.length_map]; omega) fun u H3 H4 e3 eb3 e34 ⟨p, ev, hp, hi⟩ => ?_
  · rintro vs H3 H4 e3 e34 rfl
    exact ⟨_, ⟨(n : Int), (G.day : Int), q, rfl, rfl⟩, fun p H5 H6 hp hN e46 e56 => ⟨p, rfl, fresh_back e34 hp, hN.up e56⟩⟩
  subst ev
  have e03 := e02.trans e3
  have e04 := e03.trans e34
  have nbp : G.bk.ba ≠ p := ne_of_none (e3 _ _ hB2.bills) hp
  have nqp : q ≠ p := ne_of_none (e3 _ _ hq) hp
  have nbq : G.bk.ba ≠ q := ne_of_none hB.bills nq0
  let g' := tagAt (tagAt g p .fro) q .fro
  have ht : ∀ x, H0 x ≠ none → g' x = g x := tag_tagAt (tag_tagAt (fun _ _ => rfl) (fresh_back e03 hp)) nq0
  have hun : ∀ x, un g H x ≠ none → g' x = .no := un_tagAt (un_tagAt (fun x hx => un_tag hx) (fresh_back eb3 hp)) nqb
  let y' : BilG := ⟨p, q, ⟨n, G.day, ams⟩⟩
  let H5 := upd H4 G.bk.ba (.lst ((G.bk.bs.map fun y => V.ref y.p) ++ [.ref p]))
  have k : Kp K (· ≠ .bills) g g' H0 H5 := kp_upd e04 (fun h => h hB.gi) (rd_lst hB.bills) ht
  have hq5 : H5 q = some (.lst (ams.map V.int)) := by
    show upd H4 _ _ q = _
    rw [upd_ne nbq.symm]
    exact (e3.trans e34) _ _ hq
  have hDk := hG.putBooks (bk := { G.bk with bs := G.bk.bs ++ [y'] }) k (fun t ht => (saleT_ne ht).2.2.1) ⟨k.ins hB.ins (by rw [hB.gb]; decide), k.at_ _ _ hB.cons (by rw [hB.gc]; decide), fun y hy => (hB.con y hy).kp k (by decide) (by obtain ⟨i, e⟩ := hB.conTag hy; rw [e]; simp),
    k.at_ _ _ hB.dels (by rw [hB.gd]; decide), fun y hy => (hB.del y hy).kp k (by obtain ⟨i, e⟩ := hB.delTag hy; rw [e]; simp),
    by
      show upd H4 G.bk.ba _ G.bk.ba = some (HO.lst ((G.bk.bs ++ [y']).map _))
      rw [upd_same, List.map_append]
      rfl, fun y hy => by
      rcases List.mem_append.mp hy with hy | hy
      · exact (hB.bill y hy).kp k (by decide)
      · rw [List.mem_singleton.mp hy]
        exact ⟨hi.elim fun dx h => ⟨dx, by show upd H4 _ _ p = _; rw [upd_ne nbp.symm]; exact h⟩, hq5, by show tagAt (tagAt g p .fro) q .fro p = _; rw [tagAt_ne nqp.symm, tagAt_same], tagAt_same⟩,
    k.at_ _ _ hB.idx (by rw [hB.gx]; decide), k.at_ _ _ hB.paid (by rw [hB.gp]; decide),
    by rw [k.tagI hB.ins]; exact hB.gb, by show g' G.bk.ca = _; rw [k.tag _ (some_ne hB.cons)]; exact hB.gc, by show g' G.bk.da = _; rw [k.tag _ (some_ne hB.dels)]; exact hB.gd, by show g' G.bk.ba = _; rw [k.tag _ (some_ne hB.bills)]; exact hB.gi, by show g' G.bk.xa = _; rw [k.tag _ (some_ne hB.idx)]; exact hB.gx, by show g' G.bk.pa = _; rw [k.tag _ (some_ne hB.paid)]; exact hB.gp,
    fun i y hy => by rw [k.tagI (hB.con y (List.mem_of_getElem? hy)).ins]; exact hB.gcon i y hy, fun i y hy => by rw [k.tagI (hB.del y (List.mem_of_getElem? hy)).ins]; exact hB.gdel i y hy⟩
  have hRep : Rep K A g' H5 { G with bk := { G.bk with bs := G.bk.bs ++ [y'] } } { st with bills := st.bills ++ [⟨n, st.day, ams⟩] } := by
    refine ⟨hDk, ⟨hR.wf.day, hR.wf.sale, ⟨hw.ncs, hw.con, hw.nds, hw.del, ?_, fun y hy => ?_, hw.idx, hw.npd⟩⟩, ⟨hR.same.day, hR.same.sale, hR.same.cons, hR.same.dels, ?_, hR.same.idx, hR.same.pay⟩⟩
    · show (G.bk.bs ++ [y']).length ≤ 48
      rw [List.length_append, List.length_singleton]
      omega
    · rcases List.mem_append.mp hy with hy | hy
      · exact hw.bil y hy
      · rw [List.mem_singleton.mp hy]
        refine ⟨hn, fun z hz => ?_⟩
        have hz : G.bk.cs[n]? = some z := hz
        rw [List.getElem?_eq_getElem hn] at hz
        rw [← Option.some.inj hz]
        exact haml
    · show st.bills ++ [_] = (G.bk.bs ++ [y']).map (·.b)
      rw [List.map_append, hR.same.bills, hR.same.day]
      rfl
  refine sq_asgL (xs := [nV G.bk.bs.length]) (EvL.to (el_lst (ea_cons (ev_I0 (j := 1) ((ev_lenL (fld_Books_bills T (fld_books T hDk (ev_var rfl)) hDk.books.ins) hDk.books.bills)) ev_c) ea_nil) (by show 1 ≤ 100000; decide)) ?_) fun r H6 br nr e6 hr6 => ?_
  · rw [List.length_map]
    show [V.int (((G.bk.bs ++ [y']).length : Nat) - 1)] = [nV G.bk.bs.length]
    rw [List.length_append, List.length_singleton]
    show [V.int _] = [V.int _]
    congr 2
    omega
  have hkeep : Ex H5 (less H6 r) := ex_less nr e6
  have hC5 := hDk.books.con _ (List.getElem_mem (show n < G.bk.cs.length from hn))
  have hC5 : ConAt K A g' H5 G.bk.cs[n] := hC5
  have hzl : G.bk.cs[n].ts.length = G.bk.cs[n].c.bidders.length := by rw [← hC.bidders.eq, List.length_map]
  have hcon6 : Ev (tOp (rIxL K) (tFld K (tFld K (tVar 0) "books") "contracts") (tVar 1)) [some (.ref G.p), some (nV n), some (.ref q), some (.ref r), none, none] H6 (.ref G.bk.cs[n].p) := ev_dcon T (hDk.up e6) (ev_var rfl) (ev_var rfl) hn
  refine sq_for (evi_zip (K := K) G.bk.cs[n].ts ams (fun z => V.ref z.1) V.int (fld_Contract_bidders T hcon6 (hC5.up e6).ins) (ev_var rfl) (sq_of (hC5.up e6).bidders.lst) (sq_of (e6 _ _ hq5)))
    (fun i σ' Hk => ∃ o1 o2 : Option V, σ' = [some (.ref G.p), some (nV n), some (.ref q), some (.ref r), o1, o2] ∧ Ex (less H6 r) Hk ∧ Hk r = some (.lst (((G.bk.bs.length : Int) :: ((G.bk.cs[n].ts.zip ams).take i).flatMap fun e => [((e.1.2.1 : Nat) : Int), e.2]).map V.int)))
    ⟨none, none, rfl, less_ex, hr6⟩ (fun _ _ ex h => ⟨ex_l ex h.1, ex_l ex h.2⟩) (fun i σ' Hk _ ⟨_, _, _, e7, _⟩ => ⟨sq_of ((hkeep.trans e7) _ _ hC5.bidders.lst), sq_of ((hkeep.trans e7) _ _ hq5)⟩) ?_ ?_
  · rintro i z x σ' Hk H7 hz ⟨o1, o2, rfl, e7, hk⟩ e8 ⟨t, rfl, htt⟩
    have hzm := List.mem_of_getElem? hz
    have e57 := (hkeep.trans e7).trans e8
    have hpt := e57 _ _ (hC5.bidders.tup z.1 (List.of_mem_zip hzm).1)
    refine ⟨_, evg_tup (gset_cons (gset_cons gset_nil)) (st_of htt) rfl rfl, Sj.last (sq_ext (zs := [nV z.1.2.1, .int z.2]) (e8 _ _ hk) br (ev_var rfl) (el_lst (ea_cons (ev_ixT (K := K) (n := 0) (ev_var rfl) ev_c (st_of hpt) rfl) (ea_cons (ev_var rfl) ea_nil)) (by show 2 ≤ 100000; decide)) ?_ (sj_next ⟨_, _, rfl, (e7.trans e8).mut less_self, ?_⟩))⟩
    · rw [List.length_map, List.length_cons, List.length_flatMap]
      have h1 := sum_le (l := ((G.bk.cs[n].ts.zip ams).take i).map fun e => [((e.1.2.1 : Nat) : Int), e.2].length) (B := 2) fun x hx => by
        obtain ⟨w, _, rfl⟩ := List.mem_map.mp hx
        exact Nat.le_refl 2
      rw [List.length_map, List.length_take, List.length_zip] at h1
      show _ + 1 + 2 ≤ _
      omega
    · rw [upd_same, take_succ hz, List.flatMap_append, List.flatMap_singleton, ← List.cons_append, List.map_append]
      rfl
  · rintro σ' Hk ⟨o1, o2, rfl, e7, hk⟩
    rw [List.take_length] at hk
    refine sj_ret (ev_var rfl) ⟨g', { G with bk := { G.bk with bs := G.bk.bs ++ [y'] } }, hun, rfl, hRep.up (hkeep.trans e7), r, rfl, br, ?_⟩
    rw [hk]
    show some (HO.lst _) = some (HO.lst (((st.bills.length : Int) :: (G.bk.cs[n].c.bidders.zip ams).flatMap fun e => [(e.1.1 : Int), e.2]).map V.int))
    rw [hbl, ← hC.bidders.eq, List.zip_map_left, List.flatMap_map]
    rfl
end
end TB
/-! # The desk: a new desk; the deeds -/
namespace TB
open PySem PySem.Spec PyProof.Rows L2 Evl
open TimberAuction (Lot Bid Sale Contract Delivery Bill)
open TBM
open AuctionSpec (State)

section
variable {K : PySem.W.Frag} {A : Adr} {mg : Str → Option Value} {g g1 : Tg} {H H' : Hp} {G : DeskG} {st : State}
/-- a new desk -/
def NewDesk (A : Adr) : Addr → Hp → Hp → Prop := fun p H H' => ∃ b ca da ba xa pa : Addr, Ins H' p A.Desk (deskF 0 .non b) ∧ Ins H' b A.Books (bookF ca da ba xa pa) ∧ H' ca = some (.lst []) ∧ H' da = some (.lst []) ∧ H' ba = some (.lst []) ∧ H' xa = some (.dK []) ∧ H' pa = some (.lst ((List.replicate 16 (0 : Int)).map V.int)) ∧
  b ≠ p ∧ ca ≠ p ∧ da ≠ p ∧ ba ≠ p ∧ xa ≠ p ∧ pa ≠ p ∧ ca ≠ b ∧ da ≠ b ∧ ba ≠ b ∧ xa ≠ b ∧ pa ≠ b ∧ ca ≠ da ∧ ca ≠ ba ∧ ca ≠ xa ∧ ca ≠ pa ∧ da ≠ ba ∧ da ≠ xa ∧ da ≠ pa ∧ ba ≠ xa ∧ ba ≠ pa ∧ xa ≠ pa ∧
  H b = none ∧ H ca = none ∧ H da = none ∧ H ba = none ∧ H xa = none ∧ H pa = none
theorem newDesk_rep {p : Addr} (h : NewDesk A p H H') (hp : H p = none) : ∃ g G, G.p = p ∧ Rep K A g H' G AuctionSpec.start ∧ ∀ a, H a ≠ none → g a = .no := by
  obtain ⟨b, ca, da, ba, xa, pa, h1, h2, h3, h4, h5, h6, h7, n1, n2, n3, n4, n5, n6, n7, n8, n9, n10, n11, n12, n13, n14, n15, n16, n17, n18, n19, n20, n21, f1, f2, f3, f4, f5, f6⟩ := h
  refine ⟨tagAt (tagAt (tagAt (tagAt (tagAt (tagAt (tagAt (fun _ => .no) p .desk) b .books) ca .cons) da .dels) ba .bills) xa .idx) pa .paid, ⟨p, 0, none, b, ⟨ca, da, ba, xa, pa, [], [], [], [], List.replicate 16 0⟩⟩, rfl, ⟨⟨h1, (fun z hz => by cases hz), ?_, ?_⟩, ?_, ?_⟩, fun a ha => ?_⟩
  · refine ⟨h2, h3, fun y hy => absurd hy (by simp), h4, fun y hy => absurd hy (by simp), h5, fun y hy => absurd hy (by simp), h6, h7, ?_, ?_, ?_, ?_, ?_, tagAt_same, fun i y hy => absurd hy (by simp), fun i y hy => absurd hy (by simp)⟩
    · rw [tagAt_ne n11.symm, tagAt_ne n10.symm, tagAt_ne n9.symm, tagAt_ne n8.symm, tagAt_ne n7.symm, tagAt_same]
    · show tagAt _ pa .paid ca = _
      rw [tagAt_ne n15, tagAt_ne n14, tagAt_ne n13, tagAt_ne n12, tagAt_same]
    · show tagAt _ pa .paid da = _
      rw [tagAt_ne n18, tagAt_ne n17, tagAt_ne n16, tagAt_same]
    · show tagAt _ pa .paid ba = _
      rw [tagAt_ne n20, tagAt_ne n19, tagAt_same]
    · show tagAt _ pa .paid xa = _
      rw [tagAt_ne n21, tagAt_same]
  · show tagAt _ pa .paid p = _
    rw [tagAt_ne n6.symm, tagAt_ne n5.symm, tagAt_ne n4.symm, tagAt_ne n3.symm, tagAt_ne n2.symm, tagAt_ne n1.symm, tagAt_same]
  · refine ⟨by show 0 ≤ 99999; decide, (fun z hz => by cases hz), ⟨by show 0 ≤ 24; decide, fun y hy => absurd hy (by simp), by show 0 ≤ 64; decide, fun y hy => absurd hy (by simp), by show 0 ≤ 48; decide, fun y hy => absurd hy (by simp), ⟨by show 0 ≤ 16; decide, by simp, fun e he => absurd he (by simp)⟩, by simp⟩⟩
  · exact ⟨rfl, rfl, rfl, rfl, rfl, List.Perm.refl _, by simp [AuctionSpec.start]⟩
  · have d : ∀ {x : Addr}, H x = none → a ≠ x := fun hx z => ha (by rw [z]; exact hx)
    rw [tagAt_ne (d f6), tagAt_ne (d f5), tagAt_ne (d f4), tagAt_ne (d f3), tagAt_ne (d f2), tagAt_ne (d f1), tagAt_ne (d hp)]
theorem Rep.kp {H2 : Hp} (h : Rep K A g H G st) (k : Kp K (· ≠ .no) g g1 H H2) : Rep K A g1 H2 G st :=
  ⟨⟨k.ins h.at_.ins (by rw [h.at_.gd]; decide), fun z hz => (h.at_.sale z hz).kp k (fun t ht e => by subst e; exact ht), h.at_.books.kp k (fun t ht e => by subst e; exact ht), by rw [k.tagI h.at_.ins]; exact h.at_.gd⟩, h.wf, h.same⟩
theorem un_sub {H3 : Hp} (e : Ex (un g H) H3) : Ex (un g H) (un g H3) := fun a o h => by
  have hg : g a = .no := un_tag (by rw [h]; simp)
  have := e a o h
  unfold un
  rw [if_pos hg]
  exact this
theorem Pm.sub {H3 : Hp} {p : Addr} {r : State × List Int} {v : V} {Hk : Hp} (e : Ex (un g H) H3) (h : Pm K A g H3 p r v Hk) : Pm K A g H p r v Hk := by
  obtain ⟨g', G', h1, h2, h3, q, h4, h5, h6⟩ := h
  refine ⟨g', G', fun a ha => h1 a ?_, h2, h3, q, h4, fresh_back (un_sub e) h5, h6⟩
  cases hx : un g H a with
  | none => exact absurd hx ha
  | some o => rw [un_sub e a o hx]; simp
end
section
variable {P : Program} {w : World} {K : PySem.W.Frag} {mg : Str → Option Value} {base : Heap} {A : Adr}
def p_Desk_init (A : Adr) : PreJ := fun ws H R => ws = [] ∧ R = NewDesk A
abbrev sp_Desk_init (_ : PySem.W.Frag) (A : Adr) : Sp := spJ A.Desk (p_Desk_init A)
theorem sc_Desk_init : FnScope ["self"] ["self"] (defScope (inClass (top 46) 0)) := ⟨rfl, rfl, rfl, by decide +kernel, rfl, by decide +kernel, by decide +kernel⟩
theorem ok_Desk_init (T : Top K mg A) : MOk P w K mg base 3 A.Desk "__init__" ["self"] (sp_Desk_init K A) := by
  refine mokJ T.mDesk_init sc_Desk_init (fun ws H R ⟨e, _⟩ => by rw [e]; rfl) (fun _ _ _ _ _ _ us hl => match us, hl with | [_], _ => rfl) fun f cdv A' outer s' H E hr => ⟨_, (pss_cons (ps_fld (pv 0) pe_int rfl)
      (pss_cons (ps_fld (pv 0) pe_non rfl)
      (pss_one (ps_fld (pv 0) (pe_new T.cBooks (ok_Books_init T) (hr.mono (by decide)) rfl (pa_cons (pe_k rfl T.k_BIDDERS) pa_nil)) rfl)))), ?_⟩
  rintro p ws dx H0 R hp e h0 ⟨rfl, rfl⟩
  have hless : Ex H0 (less H p) := fun x o hx => by rw [less_ne (ne_of_none hx h0)]; exact e x o hx
  refine sq_fldE T.cDesk.cl T.nDesk_day hp less_self (by show 0 < 1000; decide) (v := .int 0) ev_c (ev_var rfl) (putN [] rfl rfl) ?_
  refine sq_fldE T.cDesk.cl T.nDesk_sale upd_same less_self (by show 1 < 1000; decide) (v := .non) ev_c (ev_var rfl) (putN ["day"] rfl (by decide +kernel)) ?_
  refine Sj.last (sq_fldNE (R := fun v H1 H2 => ∃ b, v = .ref b ∧ H1 b = none ∧ NewBooks A b H1 H2) T.cDesk.cl T.nDesk_books upd_same less_self (by show 2 < 1000; decide) (evn_new (an_of (ea_cons (ev_c (v := .int 16)) ea_nil)) ?_) (ev_var rfl) (fun v => putN ["day", "sale"] rfl (by decide +kernel)) fun v H1 H2 e1 eb e12 ⟨b, ev, nb, ca, da, ba, xa, pa, h1, h2, h3, h4, h5, h6, f2, f3, f4, f5, f6, n7, n8, n9, n10, n11, n12, n13, n14, n15, n16, n17, n18, n19, n20, n21⟩ => ?_)
  · rintro vs H1 H2 e1 e12 rfl
    refine ⟨_, ⟨rfl, rfl⟩, fun p H3 H4 hp hN e24 e34 => ⟨p, rfl, fresh_back e12 hp, ?_⟩⟩
    obtain ⟨ca, da, ba, xa, pa, h1, h2, h3, h4, h5, h6, f2, f3, f4, f5, f6, h⟩ := hN
    exact ⟨ca, da, ba, xa, pa, h1.up e34, e34 _ _ h2, e34 _ _ h3, e34 _ _ h4, e34 _ _ h5, e34 _ _ h6, fresh_back e12 f2, fresh_back e12 f3, fresh_back e12 f4, fresh_back e12 f5, fresh_back e12 f6, h⟩
  subst ev
  have hpk := e1 _ _ upd_same
  have d : ∀ {x : Addr}, H1 x = none → x ≠ p := fun hx z => by rw [z] at hx; rw [hpk] at hx; cases hx
  have f : ∀ {x : Addr}, H1 x = none → H0 x = none := fun hx => fresh_back (hless.trans eb) hx
  obtain ⟨dx2, h1⟩ := h1
  exact sj_next ⟨b, ca, da, ba, xa, pa, ⟨dx, upd_same⟩, ⟨dx2, by rw [upd_ne (d nb)]; exact h1⟩, by rw [upd_ne (d f2)]; exact h2, by rw [upd_ne (d f3)]; exact h3, by rw [upd_ne (d f4)]; exact h4, by rw [upd_ne (d f5)]; exact h5, by rw [upd_ne (d f6)]; exact h6,
    d nb, d f2, d f3, d f4, d f5, d f6, n7, n8, n9, n10, n11, n12, n13, n14, n15, n16, n17, n18, n19, n20, n21, f nb, f f2, f f3, f f4, f f5, f f6⟩
/-! ### the deeds -/
theorem fokM {x : Str} {st : Stmt} {N ps : List Str} {k : Nat} {args : List V → Hp → AuctionSpec.Call → Prop} (M : FnAt K mg x st) (S : FnScope N ps (defScope st)) (len : ∀ ws H c, args ws H c → ws.length + 1 = ps.length)
    (bind : ∀ (kV doc pm : Value) (an : Option Addr) (cdv ct : Value) (us : List Value), us.length = ps.length → bindArgs (PySem.W.fnOf x x (defArgs st) (defBody st) (defScope st) .none kV doc pm an cdv ct) ⟨us, []⟩ = pure (ps.zip us))
    (hbody : ∀ (f : Addr) (cdv : Value) (A' : Around) (outer : List Env) (s : Shared) (H : Hp) (E : XK), Room k (A'.deeper (envOfC x (defScope st) s.heap.objs.size f cdv)) →
      ∃ t, PSs (cxOf CX0 P w K mg base N x (defScope st) f cdv A' outer s H E).nox (defBody st) t ∧ ∀ ws g G st H0 c, Ex H0 H → Rep K A g H0 G st → args ws H0 c → Sj (un g H) t (start N (.ref G.p :: ws)) H0 (fun _ _ => False) (Pm K A g H G.p (AuctionSpec.step st c))) :
    FOk P w K mg base (k + 1) x ps (spM K A args) :=
  fok M S (fun vs H Q E ⟨ws, g, G, st, H0, c, ev, _, _, ha, _⟩ => by rw [ev]; exact len ws H0 c ha) bind fun f cdv A' outer s H vs Q E hr ⟨ws, g, G, st, H0, c, ev, e, hrep, ha, q⟩ => by
    obtain ⟨t, h1, h2⟩ := hbody f cdv A' outer s H E hr
    subst ev
    exact ⟨t, h1, h2 ws g G st H0 c e hrep ha H e un_ex _ (fun _ _ _ _ _ z => z.elim) fun v Hk H' ek eb hv => q v Hk H' eb ek hv⟩
/-- `return desk.m(..)` -/
theorem sj_retM {g : Tg} {H H0 : Hp} {G : DeskG} {st : State} {σ : L2.St} {N : L2.St → Hp → Prop} {m : Str} {args : List V → Hp → AuctionSpec.Call → Prop} {c : AuctionSpec.Call} {ws : List V} {ta : TE} {t : TA} {E : XK} (ho : Ev ta σ H0 (.ref G.p)) (hr : Rep K A g H0 G st)
    (hl : (deskF (G.day : Int) (saleV G.sl) G.b).lookup m = none) (h : EvA t σ H0 ws) (ha : args ws H0 c) : Sj (un g H) (tRet (tMeth A.Desk m (spM K A args) [] E ta t)) σ H0 N (Pm K A g H G.p (AuctionSpec.step st c)) := fun H1 e eb D _ kr =>
  ho H1 e _ fun H2 e2 => let ⟨dx, hd⟩ := hr.at_.ins.up (e.trans e2); ⟨G.p, dx, _, rfl, hd, hl, h H2 (e.trans e2) _ fun H3 e3 =>
    ⟨ws, g, G, st, H0, c, by rw [List.append_nil], (e.trans e2).trans e3, hr, ha, fun v Hk H4 e4 ek hpm => kr v Hk H4 ek ((un_sub ((eb.trans e2).trans e3)).trans e4) (hpm.sub ((eb.trans e2).trans e3))⟩⟩
theorem sj_retIf {B H : Hp} {σ : L2.St} {N : L2.St → Hp → Prop} {Pq : V → Hp → Prop} {b : Bool} {t : TT} {ta tb : TE} (h : EvT t σ H b) (h1 : b = true → Sj B (tRet ta) σ H N Pq) (h2 : b = false → Sj B (tRet tb) σ H N Pq) : Sj B (tRet (tIf t ta tb)) σ H N Pq := fun H1 e eb D kn kr => h H1 e _ fun H2 e2 => by
  cases b with
  | true => exact h1 rfl H2 (e.trans e2) (eb.trans e2) D kn kr
  | false => exact h2 rfl H2 (e.trans e2) (eb.trans e2) D kn kr
end
end TB
/-! # The deeds -/
namespace TB
open PySem PySem.Spec PyProof.Rows L2 Evl
open TimberAuction (Lot Bid Sale Contract Delivery Bill)
open TBM
open AuctionSpec (State)

/-- the numbers and rows of an operation, as they lie -/
inductive SaleArgs (H : Hp) (na ra : Addr) : Nat → AuctionSpec.Call → Prop where
  | c0 (d : Nat) (h : NL H na [d]) : SaleArgs H na ra 0 (.setDay d)
  | c1 (a b c : Nat) (h : NL H na [a, b, c]) : SaleArgs H na ra 1 (.openSale a b c)
  | c2 (r : Nat) (al : Addr) (l : List Nat) (h : NL H na [r]) (hr : H ra = some (.lst [.ref al])) (hl : NL H al l) (ll : l.length ≤ 1000) : SaleArgs H na ra 2 (.addLot r l)
  | c3 (i n : Nat) (h : NL H na [i, n]) : SaleArgs H na ra 3 (.setLimit i n)
  | c4 (al : Addr) (l : List Nat) (ap : Addr) (p : List Nat) (ao : Addr) (o : List Nat) (h : NL H na []) (hr : H ra = some (.lst [.ref al, .ref ap, .ref ao])) (hl : NL H al l) (ll : l.length ≤ 1000) (hp : NL H ap p) (lp : p.length ≤ 1000) (ho : NL H ao o) (lo : o.length ≤ 1000) : SaleArgs H na ra 4 (.placeBid l p o)
  | c5 (k : Nat) (h : NL H na [k]) : SaleArgs H na ra 5 (.withdrawBid k)
  | c6 (h : NL H na []) : SaleArgs H na ra 6 (.listBids)
  | c7 (al : Addr) (l : List Nat) (h : NL H na []) (hr : H ra = some (.lst [.ref al])) (hl : NL H al l) (ll : l.length ≤ 1000) : SaleArgs H na ra 7 (.checkSelection l)
  | c8 (h : NL H na []) : SaleArgs H na ra 8 (.bestSelection)
  | c9 (k : Nat) (h : NL H na [k]) : SaleArgs H na ra 9 (.threshold k)
  | c10 (h : NL H na []) : SaleArgs H na ra 10 (.award)
inductive ConArgs (H : Hp) (na : Addr) : Nat → AuctionSpec.Call → Prop where
  | c11 (x : Nat) (h : NL H na [x]) : ConArgs H na 11 (.getContract x)
  | c12 (x y : Nat) (h : NL H na [x, y]) : ConArgs H na 12 (.setIndex x y)
  | c13 (x y z w : Nat) (h : NL H na [x, y, z, w]) : ConArgs H na 13 (.recordDelivery x y z w)
  | c14 (x y : Nat) (h : NL H na [x, y]) : ConArgs H na 14 (.correctDelivery x y)
  | c15 (x : Nat) (h : NL H na [x]) : ConArgs H na 15 (.closeContract x)
  | c16 (x : Nat) (h : NL H na [x]) : ConArgs H na 16 (.contractValue x)
  | c17 (x : Nat) (h : NL H na [x]) : ConArgs H na 17 (.createBill x)
  | c18 (x : Nat) (h : NL H na [x]) : ConArgs H na 18 (.listBills x)
  | c19 (x y : Nat) (h : NL H na [x, y]) : ConArgs H na 19 (.recordPayment x y)
  | c20 (x : Nat) (h : NL H na [x]) : ConArgs H na 20 (.balance x)
  | c21 (x : Nat) (h : NL H na [x]) : ConArgs H na 21 (.shortfall x)
section
variable {P : Program} {w : World} {K : PySem.W.Frag} {mg : Str → Option Value} {base : Heap} {A : Adr}
def a_sale_deed : List V → Hp → AuctionSpec.Call → Prop := fun ws H c => ∃ (op : Nat) (na ra : Addr), ws = [nV op, .ref na, .ref ra] ∧ SaleArgs H na ra op c
theorem sc_sale_deed : FnScope ["desk", "operation", "numbers", "rows"] ["desk", "operation", "numbers", "rows"] (defScope (top 47)) := ⟨rfl, rfl, rfl, by decide +kernel, rfl, by decide +kernel, by decide +kernel⟩
theorem ok_sale_deed (T : Top K mg A) : FOk P w K mg base 9 "sale_deed" ["desk", "operation", "numbers", "rows"] (spM K A a_sale_deed) := by
  refine fokM T.f_sale_deed sc_sale_deed (fun ws H c ⟨_, _, _, e, _⟩ => by rw [e]; rfl) (fun _ _ _ _ _ _ us hl => match us, hl with | [_, _, _, _], _ => rfl) fun f cdv A' outer s' H E hr => ⟨_, (pss_cons (ps_if (pt_cmpR op_eq (pv 1) pe_int (nomark _)) (pss_one (ps_ret (pe_m (ok_Desk_set_day T) (pv 0) T.cDesk.cl (hr.mono (by decide)) (pa_cons (pe_ix ix_list (pv 2) pe_int (fun _ _ => rfl)) pa_nil)))) pss_nil)
      (pss_cons (ps_if (pt_cmpR op_eq (pv 1) pe_int (nomark _)) (pss_one (ps_ret (pe_m (ok_Desk_open_sale T) (pv 0) T.cDesk.cl (hr.mono (by decide)) (pa_cons (pe_ix ix_list (pv 2) pe_int (fun _ _ => rfl)) (pa_cons (pe_ix ix_list (pv 2) pe_int (fun _ _ => rfl)) (pa_cons (pe_ix ix_list (pv 2) pe_int (fun _ _ => rfl)) pa_nil)))))) pss_nil)
      (pss_cons (ps_if (pt_cmpR op_eq (pv 1) pe_int (nomark _)) (pss_one (ps_ret (pe_m (ok_Desk_add_lot T) (pv 0) T.cDesk.cl (hr.mono (by decide)) (pa_cons (pe_ix ix_list (pv 2) pe_int (fun _ _ => rfl)) (pa_cons (pe_ix ix_list (pv 3) pe_int (fun _ _ => rfl)) pa_nil))))) pss_nil)
      (pss_cons (ps_if (pt_cmpR op_eq (pv 1) pe_int (nomark _)) (pss_one (ps_ret (pe_m (ok_Desk_set_limit T) (pv 0) T.cDesk.cl (hr.mono (by decide)) (pa_cons (pe_ix ix_list (pv 2) pe_int (fun _ _ => rfl)) (pa_cons (pe_ix ix_list (pv 2) pe_int (fun _ _ => rfl)) pa_nil))))) pss_nil)
      (pss_cons (ps_if (pt_cmpR op_eq (pv 1) pe_int (nomark _)) (pss_one (ps_ret (pe_m (ok_Desk_place_bid T) (pv 0) T.cDesk.cl (hr.mono (by decide)) (pa_cons (pe_ix ix_list (pv 3) pe_int (fun _ _ => rfl)) (pa_cons (pe_ix ix_list (pv 3) pe_int (fun _ _ => rfl)) (pa_cons (pe_ix ix_list (pv 3) pe_int (fun _ _ => rfl)) pa_nil)))))) pss_nil)
      (pss_cons (ps_if (pt_cmpR op_eq (pv 1) pe_int (nomark _)) (pss_one (ps_ret (pe_m (ok_Desk_withdraw_bid T) (pv 0) T.cDesk.cl (hr.mono (by decide)) (pa_cons (pe_ix ix_list (pv 2) pe_int (fun _ _ => rfl)) pa_nil)))) pss_nil)
      (pss_cons (ps_if (pt_cmpR op_eq (pv 1) pe_int (nomark _)) (pss_one (ps_ret (pe_m0 (ok_Desk_list_bids T) (pv 0) T.cDesk.cl (hr.mono (by decide))))) pss_nil)
      (pss_cons (ps_if (pt_cmpR op_eq (pv 1) pe_int (nomark _)) (pss_one (ps_ret (pe_m (ok_Desk_check_selection T) (pv 0) T.cDesk.cl (hr.mono (by decide)) (pa_cons (pe_ix ix_list (pv 3) pe_int (fun _ _ => rfl)) pa_nil)))) pss_nil)
      (pss_cons (ps_if (pt_cmpR op_eq (pv 1) pe_int (nomark _)) (pss_one (ps_ret (pe_m0 (ok_Desk_best_selection T) (pv 0) T.cDesk.cl (hr.mono (by decide))))) pss_nil)
      (pss_one (ps_ret (pe_ifExp (pt_cmpR op_eq (pv 1) pe_int (nomark _)) (pe_m (ok_Desk_threshold T) (pv 0) T.cDesk.cl (hr.mono (by decide)) (pa_cons (pe_ix ix_list (pv 2) pe_int (fun _ _ => rfl)) pa_nil)) (pe_m0 (ok_Desk_award T) (pv 0) T.cDesk.cl (hr.mono (by decide))))))))))))))), ?_⟩
  rintro ws g G st H0 c e hR ⟨op, na, ra, rfl, hA⟩
  cases hA with
  | c0 d h =>
    refine sq_ifRet (b := true) (et_test ((ev_eqS (x := nV 0) (y := .int 0) (ev_var rfl) ev_c rfl).to (congrArg V.bl (by decide)))) (fun _ => ?_) fun hc => absurd hc (by decide)
    exact sj_retM (ev_var rfl) hR no_Desk_set_day (ea_cons (ev_ixL (n := 0) (ev_var rfl) ev_c h rfl) ea_nil) ⟨d, rfl, rfl⟩
  | c1 a b c h =>
    refine sq_ifRet (b := false) (et_test ((ev_eqS (x := nV 1) (y := .int 0) (ev_var rfl) ev_c rfl).to (congrArg V.bl (by decide)))) (fun hc => absurd hc (by decide)) fun _ => ?_
    refine sq_ifRet (b := true) (et_test ((ev_eqS (x := nV 1) (y := .int 1) (ev_var rfl) ev_c rfl).to (congrArg V.bl (by decide)))) (fun _ => ?_) fun hc => absurd hc (by decide)
    exact sj_retM (ev_var rfl) hR no_Desk_open_sale (ea_cons (ev_ixL (n := 0) (ev_var rfl) ev_c h rfl) (ea_cons (ev_ixL (n := 1) (ev_var rfl) ev_c h rfl) (ea_cons (ev_ixL (n := 2) (ev_var rfl) ev_c h rfl) ea_nil))) ⟨a, b, c, rfl, rfl⟩
  | c2 r al l h hr hl ll =>
    refine sq_ifRet (b := false) (et_test ((ev_eqS (x := nV 2) (y := .int 0) (ev_var rfl) ev_c rfl).to (congrArg V.bl (by decide)))) (fun hc => absurd hc (by decide)) fun _ => ?_
    refine sq_ifRet (b := false) (et_test ((ev_eqS (x := nV 2) (y := .int 1) (ev_var rfl) ev_c rfl).to (congrArg V.bl (by decide)))) (fun hc => absurd hc (by decide)) fun _ => ?_
    refine sq_ifRet (b := true) (et_test ((ev_eqS (x := nV 2) (y := .int 2) (ev_var rfl) ev_c rfl).to (congrArg V.bl (by decide)))) (fun _ => ?_) fun hc => absurd hc (by decide)
    exact sj_retM (ev_var rfl) hR no_Desk_add_lot (ea_cons (ev_ixL (n := 0) (ev_var rfl) ev_c h rfl) (ea_cons (ev_ixL (n := 0) (ev_var rfl) ev_c hr rfl) ea_nil)) ⟨r, al, l, rfl, hl, ll, rfl⟩
  | c3 i n h =>
    refine sq_ifRet (b := false) (et_test ((ev_eqS (x := nV 3) (y := .int 0) (ev_var rfl) ev_c rfl).to (congrArg V.bl (by decide)))) (fun hc => absurd hc (by decide)) fun _ => ?_
    refine sq_ifRet (b := false) (et_test ((ev_eqS (x := nV 3) (y := .int 1) (ev_var rfl) ev_c rfl).to (congrArg V.bl (by decide)))) (fun hc => absurd hc (by decide)) fun _ => ?_
    refine sq_ifRet (b := false) (et_test ((ev_eqS (x := nV 3) (y := .int 2) (ev_var rfl) ev_c rfl).to (congrArg V.bl (by decide)))) (fun hc => absurd hc (by decide)) fun _ => ?_
    refine sq_ifRet (b := true) (et_test ((ev_eqS (x := nV 3) (y := .int 3) (ev_var rfl) ev_c rfl).to (congrArg V.bl (by decide)))) (fun _ => ?_) fun hc => absurd hc (by decide)
    exact sj_retM (ev_var rfl) hR no_Desk_set_limit (ea_cons (ev_ixL (n := 0) (ev_var rfl) ev_c h rfl) (ea_cons (ev_ixL (n := 1) (ev_var rfl) ev_c h rfl) ea_nil)) ⟨i, n, rfl, rfl⟩
  | c4 al l ap p ao o h hr hl ll hp lp ho lo =>
    refine sq_ifRet (b := false) (et_test ((ev_eqS (x := nV 4) (y := .int 0) (ev_var rfl) ev_c rfl).to (congrArg V.bl (by decide)))) (fun hc => absurd hc (by decide)) fun _ => ?_
    refine sq_ifRet (b := false) (et_test ((ev_eqS (x := nV 4) (y := .int 1) (ev_var rfl) ev_c rfl).to (congrArg V.bl (by decide)))) (fun hc => absurd hc (by decide)) fun _ => ?_
    refine sq_ifRet (b := false) (et_test ((ev_eqS (x := nV 4) (y := .int 2) (ev_var rfl) ev_c rfl).to (congrArg V.bl (by decide)))) (fun hc => absurd hc (by decide)) fun _ => ?_
    refine sq_ifRet (b := false) (et_test ((ev_eqS (x := nV 4) (y := .int 3) (ev_var rfl) ev_c rfl).to (congrArg V.bl (by decide)))) (fun hc => absurd hc (by decide)) fun _ => ?_
    refine sq_ifRet (b := true) (et_test ((ev_eqS (x := nV 4) (y := .int 4) (ev_var rfl) ev_c rfl).to (congrArg V.bl (by decide)))) (fun _ => ?_) fun hc => absurd hc (by decide)
    exact sj_retM (ev_var rfl) hR no_Desk_place_bid (ea_cons (ev_ixL (n := 0) (ev_var rfl) ev_c hr rfl) (ea_cons (ev_ixL (n := 1) (ev_var rfl) ev_c hr rfl) (ea_cons (ev_ixL (n := 2) (ev_var rfl) ev_c hr rfl) ea_nil))) ⟨al, ap, ao, l, p, o, rfl, hl, hp, ho, ll, lp, lo, rfl⟩
  | c5 k h =>
    refine sq_ifRet (b := false) (et_test ((ev_eqS (x := nV 5) (y := .int 0) (ev_var rfl) ev_c rfl).to (congrArg V.bl (by decide)))) (fun hc => absurd hc (by decide)) fun _ => ?_
    refine sq_ifRet (b := false) (et_test ((ev_eqS (x := nV 5) (y := .int 1) (ev_var rfl) ev_c rfl).to (congrArg V.bl (by decide)))) (fun hc => absurd hc (by decide)) fun _ => ?_
    refine sq_ifRet (b := false) (et_test ((ev_eqS (x := nV 5) (y := .int 2) (ev_var rfl) ev_c rfl).to (congrArg V.bl (by decide)))) (fun hc => absurd hc (by decide)) fun _ => ?_
    refine sq_ifRet (b := false) (et_test ((ev_eqS (x := nV 5) (y := .int 3) (ev_var rfl) ev_c rfl).to (congrArg V.bl (by decide)))) (fun hc => absurd hc (by decide)) fun _ => ?_
    refine sq_ifRet (b := false) (et_test ((ev_eqS (x := nV 5) (y := .int 4) (ev_var rfl) ev_c rfl).to (congrArg V.bl (by decide)))) (fun hc => absurd hc (by decide)) fun _ => ?_
    refine sq_ifRet (b := true) (et_test ((ev_eqS (x := nV 5) (y := .int 5) (ev_var rfl) ev_c rfl).to (congrArg V.bl (by decide)))) (fun _ => ?_) fun hc => absurd hc (by decide)
    exact sj_retM (ev_var rfl) hR no_Desk_withdraw_bid (ea_cons (ev_ixL (n := 0) (ev_var rfl) ev_c h rfl) ea_nil) ⟨k, rfl, rfl⟩
  | c6 h =>
    refine sq_ifRet (b := false) (et_test ((ev_eqS (x := nV 6) (y := .int 0) (ev_var rfl) ev_c rfl).to (congrArg V.bl (by decide)))) (fun hc => absurd hc (by decide)) fun _ => ?_
    refine sq_ifRet (b := false) (et_test ((ev_eqS (x := nV 6) (y := .int 1) (ev_var rfl) ev_c rfl).to (congrArg V.bl (by decide)))) (fun hc => absurd hc (by decide)) fun _ => ?_
    refine sq_ifRet (b := false) (et_test ((ev_eqS (x := nV 6) (y := .int 2) (ev_var rfl) ev_c rfl).to (congrArg V.bl (by decide)))) (fun hc => absurd hc (by decide)) fun _ => ?_
    refine sq_ifRet (b := false) (et_test ((ev_eqS (x := nV 6) (y := .int 3) (ev_var rfl) ev_c rfl).to (congrArg V.bl (by decide)))) (fun hc => absurd hc (by decide)) fun _ => ?_
    refine sq_ifRet (b := false) (et_test ((ev_eqS (x := nV 6) (y := .int 4) (ev_var rfl) ev_c rfl).to (congrArg V.bl (by decide)))) (fun hc => absurd hc (by decide)) fun _ => ?_
    refine sq_ifRet (b := false) (et_test ((ev_eqS (x := nV 6) (y := .int 5) (ev_var rfl) ev_c rfl).to (congrArg V.bl (by decide)))) (fun hc => absurd hc (by decide)) fun _ => ?_
    refine sq_ifRet (b := true) (et_test ((ev_eqS (x := nV 6) (y := .int 6) (ev_var rfl) ev_c rfl).to (congrArg V.bl (by decide)))) (fun _ => ?_) fun hc => absurd hc (by decide)
    exact sj_retM (ev_var rfl) hR no_Desk_list_bids ea_nil ⟨rfl, rfl⟩
  | c7 al l h hr hl ll =>
    refine sq_ifRet (b := false) (et_test ((ev_eqS (x := nV 7) (y := .int 0) (ev_var rfl) ev_c rfl).to (congrArg V.bl (by decide)))) (fun hc => absurd hc (by decide)) fun _ => ?_
    refine sq_ifRet (b := false) (et_test ((ev_eqS (x := nV 7) (y := .int 1) (ev_var rfl) ev_c rfl).to (congrArg V.bl (by decide)))) (fun hc => absurd hc (by decide)) fun _ => ?_
    refine sq_ifRet (b := false) (et_test ((ev_eqS (x := nV 7) (y := .int 2) (ev_var rfl) ev_c rfl).to (congrArg V.bl (by decide)))) (fun hc => absurd hc (by decide)) fun _ => ?_
    refine sq_ifRet (b := false) (et_test ((ev_eqS (x := nV 7) (y := .int 3) (ev_var rfl) ev_c rfl).to (congrArg V.bl (by decide)))) (fun hc => absurd hc (by decide)) fun _ => ?_
    refine sq_ifRet (b := false) (et_test ((ev_eqS (x := nV 7) (y := .int 4) (ev_var rfl) ev_c rfl).to (congrArg V.bl (by decide)))) (fun hc => absurd hc (by decide)) fun _ => ?_
    refine sq_ifRet (b := false) (et_test ((ev_eqS (x := nV 7) (y := .int 5) (ev_var rfl) ev_c rfl).to (congrArg V.bl (by decide)))) (fun hc => absurd hc (by decide)) fun _ => ?_
    refine sq_ifRet (b := false) (et_test ((ev_eqS (x := nV 7) (y := .int 6) (ev_var rfl) ev_c rfl).to (congrArg V.bl (by decide)))) (fun hc => absurd hc (by decide)) fun _ => ?_
    refine sq_ifRet (b := true) (et_test ((ev_eqS (x := nV 7) (y := .int 7) (ev_var rfl) ev_c rfl).to (congrArg V.bl (by decide)))) (fun _ => ?_) fun hc => absurd hc (by decide)
    exact sj_retM (ev_var rfl) hR no_Desk_check_selection (ea_cons (ev_ixL (n := 0) (ev_var rfl) ev_c hr rfl) ea_nil) ⟨al, l, rfl, hl, ll, rfl⟩
  | c8 h =>
    refine sq_ifRet (b := false) (et_test ((ev_eqS (x := nV 8) (y := .int 0) (ev_var rfl) ev_c rfl).to (congrArg V.bl (by decide)))) (fun hc => absurd hc (by decide)) fun _ => ?_
    refine sq_ifRet (b := false) (et_test ((ev_eqS (x := nV 8) (y := .int 1) (ev_var rfl) ev_c rfl).to (congrArg V.bl (by decide)))) (fun hc => absurd hc (by decide)) fun _ => ?_
    refine sq_ifRet (b := false) (et_test ((ev_eqS (x := nV 8) (y := .int 2) (ev_var rfl) ev_c rfl).to (congrArg V.bl (by decide)))) (fun hc => absurd hc (by decide)) fun _ => ?_
    refine sq_ifRet (b := false) (et_test ((ev_eqS (x := nV 8) (y := .int 3) (ev_var rfl) ev_c rfl).to (congrArg V.bl (by decide)))) (fun hc => absurd hc (by decide)) fun _ => ?_
    refine sq_ifRet (b := false) (et_test ((ev_eqS (x := nV 8) (y := .int 4) (ev_var rfl) ev_c rfl).to (congrArg V.bl (by decide)))) (fun hc => absurd hc (by decide)) fun _ => ?_
    refine sq_ifRet (b := false) (et_test ((ev_eqS (x := nV 8) (y := .int 5) (ev_var rfl) ev_c rfl).to (congrArg V.bl (by decide)))) (fun hc => absurd hc (by decide)) fun _ => ?_
    refine sq_ifRet (b := false) (et_test ((ev_eqS (x := nV 8) (y := .int 6) (ev_var rfl) ev_c rfl).to (congrArg V.bl (by decide)))) (fun hc => absurd hc (by decide)) fun _ => ?_
    refine sq_ifRet (b := false) (et_test ((ev_eqS (x := nV 8) (y := .int 7) (ev_var rfl) ev_c rfl).to (congrArg V.bl (by decide)))) (fun hc => absurd hc (by decide)) fun _ => ?_
    refine sq_ifRet (b := true) (et_test ((ev_eqS (x := nV 8) (y := .int 8) (ev_var rfl) ev_c rfl).to (congrArg V.bl (by decide)))) (fun _ => ?_) fun hc => absurd hc (by decide)
    exact sj_retM (ev_var rfl) hR no_Desk_best_selection ea_nil ⟨rfl, rfl⟩
  | c9 k h =>
    refine sq_ifRet (b := false) (et_test ((ev_eqS (x := nV 9) (y := .int 0) (ev_var rfl) ev_c rfl).to (congrArg V.bl (by decide)))) (fun hc => absurd hc (by decide)) fun _ => ?_
    refine sq_ifRet (b := false) (et_test ((ev_eqS (x := nV 9) (y := .int 1) (ev_var rfl) ev_c rfl).to (congrArg V.bl (by decide)))) (fun hc => absurd hc (by decide)) fun _ => ?_
    refine sq_ifRet (b := false) (et_test ((ev_eqS (x := nV 9) (y := .int 2) (ev_var rfl) ev_c rfl).to (congrArg V.bl (by decide)))) (fun hc => absurd hc (by decide)) fun _ => ?_
    refine sq_ifRet (b := false) (et_test ((ev_eqS (x := nV 9) (y := .int 3) (ev_var rfl) ev_c rfl).to (congrArg V.bl (by decide)))) (fun hc => absurd hc (by decide)) fun _ => ?_
    refine sq_ifRet (b := false) (et_test ((ev_eqS (x := nV 9) (y := .int 4) (ev_var rfl) ev_c rfl).to (congrArg V.bl (by decide)))) (fun hc => absurd hc (by decide)) fun _ => ?_
    refine sq_ifRet (b := false) (et_test ((ev_eqS (x := nV 9) (y := .int 5) (ev_var rfl) ev_c rfl).to (congrArg V.bl (by decide)))) (fun hc => absurd hc (by decide)) fun _ => ?_
    refine sq_ifRet (b := false) (et_test ((ev_eqS (x := nV 9) (y := .int 6) (ev_var rfl) ev_c rfl).to (congrArg V.bl (by decide)))) (fun hc => absurd hc (by decide)) fun _ => ?_
    refine sq_ifRet (b := false) (et_test ((ev_eqS (x := nV 9) (y := .int 7) (ev_var rfl) ev_c rfl).to (congrArg V.bl (by decide)))) (fun hc => absurd hc (by decide)) fun _ => ?_
    refine sq_ifRet (b := false) (et_test ((ev_eqS (x := nV 9) (y := .int 8) (ev_var rfl) ev_c rfl).to (congrArg V.bl (by decide)))) (fun hc => absurd hc (by decide)) fun _ => ?_
    refine sj_retIf (b := true) (et_test ((ev_eqS (x := nV 9) (y := .int 9) (ev_var rfl) ev_c rfl).to (congrArg V.bl (by decide)))) (fun hc => ?_) fun hc => absurd hc (by decide)
    exact sj_retM (ev_var rfl) hR no_Desk_threshold (ea_cons (ev_ixL (n := 0) (ev_var rfl) ev_c h rfl) ea_nil) ⟨k, rfl, rfl⟩
  | c10 h =>
    refine sq_ifRet (b := false) (et_test ((ev_eqS (x := nV 10) (y := .int 0) (ev_var rfl) ev_c rfl).to (congrArg V.bl (by decide)))) (fun hc => absurd hc (by decide)) fun _ => ?_
    refine sq_ifRet (b := false) (et_test ((ev_eqS (x := nV 10) (y := .int 1) (ev_var rfl) ev_c rfl).to (congrArg V.bl (by decide)))) (fun hc => absurd hc (by decide)) fun _ => ?_
    refine sq_ifRet (b := false) (et_test ((ev_eqS (x := nV 10) (y := .int 2) (ev_var rfl) ev_c rfl).to (congrArg V.bl (by decide)))) (fun hc => absurd hc (by decide)) fun _ => ?_
    refine sq_ifRet (b := false) (et_test ((ev_eqS (x := nV 10) (y := .int 3) (ev_var rfl) ev_c rfl).to (congrArg V.bl (by decide)))) (fun hc => absurd hc (by decide)) fun _ => ?_
    refine sq_ifRet (b := false) (et_test ((ev_eqS (x := nV 10) (y := .int 4) (ev_var rfl) ev_c rfl).to (congrArg V.bl (by decide)))) (fun hc => absurd hc (by decide)) fun _ => ?_
    refine sq_ifRet (b := false) (et_test ((ev_eqS (x := nV 10) (y := .int 5) (ev_var rfl) ev_c rfl).to (congrArg V.bl (by decide)))) (fun hc => absurd hc (by decide)) fun _ => ?_
    refine sq_ifRet (b := false) (et_test ((ev_eqS (x := nV 10) (y := .int 6) (ev_var rfl) ev_c rfl).to (congrArg V.bl (by decide)))) (fun hc => absurd hc (by decide)) fun _ => ?_
    refine sq_ifRet (b := false) (et_test ((ev_eqS (x := nV 10) (y := .int 7) (ev_var rfl) ev_c rfl).to (congrArg V.bl (by decide)))) (fun hc => absurd hc (by decide)) fun _ => ?_
    refine sq_ifRet (b := false) (et_test ((ev_eqS (x := nV 10) (y := .int 8) (ev_var rfl) ev_c rfl).to (congrArg V.bl (by decide)))) (fun hc => absurd hc (by decide)) fun _ => ?_
    refine sj_retIf (b := false) (et_test ((ev_eqS (x := nV 10) (y := .int 9) (ev_var rfl) ev_c rfl).to (congrArg V.bl (by decide)))) (fun hc => absurd hc (by decide)) fun hc => ?_
    exact sj_retM (ev_var rfl) hR no_Desk_award ea_nil ⟨rfl, rfl⟩
def a_contract_deed : List V → Hp → AuctionSpec.Call → Prop := fun ws H c => ∃ (op : Nat) (na : Addr), ws = [nV op, .ref na] ∧ ConArgs H na op c
theorem sc_contract_deed : FnScope ["desk", "operation", "numbers"] ["desk", "operation", "numbers"] (defScope (top 48)) := ⟨rfl, rfl, rfl, by decide +kernel, rfl, by decide +kernel, by decide +kernel⟩
theorem ok_contract_deed (T : Top K mg A) : FOk P w K mg base 9 "contract_deed" ["desk", "operation", "numbers"] (spM K A a_contract_deed) := by
  refine fokM T.f_contract_deed sc_contract_deed (fun ws H c ⟨_, _, e, _⟩ => by rw [e]; rfl) (fun _ _ _ _ _ _ us hl => match us, hl with | [_, _, _], _ => rfl) fun f cdv A' outer s' H E hr => ⟨_, (pss_cons (ps_if (pt_cmpR op_eq (pv 1) pe_int (nomark _)) (pss_one (ps_ret (pe_m (ok_Desk_get_contract T) (pv 0) T.cDesk.cl (hr.mono (by decide)) (pa_cons (pe_ix ix_list (pv 2) pe_int (fun _ _ => rfl)) pa_nil)))) pss_nil)
      (pss_cons (ps_if (pt_cmpR op_eq (pv 1) pe_int (nomark _)) (pss_one (ps_ret (pe_m (ok_Desk_set_index T) (pv 0) T.cDesk.cl (hr.mono (by decide)) (pa_cons (pe_ix ix_list (pv 2) pe_int (fun _ _ => rfl)) (pa_cons (pe_ix ix_list (pv 2) pe_int (fun _ _ => rfl)) pa_nil))))) pss_nil)
      (pss_cons (ps_if (pt_cmpR op_eq (pv 1) pe_int (nomark _)) (pss_one (ps_ret (pe_m (ok_Desk_record_delivery T) (pv 0) T.cDesk.cl (hr.mono (by decide)) (pa_cons (pe_ix ix_list (pv 2) pe_int (fun _ _ => rfl)) (pa_cons (pe_ix ix_list (pv 2) pe_int (fun _ _ => rfl)) (pa_cons (pe_ix ix_list (pv 2) pe_int (fun _ _ => rfl)) (pa_cons (pe_ix ix_list (pv 2) pe_int (fun _ _ => rfl)) pa_nil))))))) pss_nil)
      (pss_cons (ps_if (pt_cmpR op_eq (pv 1) pe_int (nomark _)) (pss_one (ps_ret (pe_m (ok_Desk_correct_delivery T) (pv 0) T.cDesk.cl (hr.mono (by decide)) (pa_cons (pe_ix ix_list (pv 2) pe_int (fun _ _ => rfl)) (pa_cons (pe_ix ix_list (pv 2) pe_int (fun _ _ => rfl)) pa_nil))))) pss_nil)
      (pss_cons (ps_if (pt_cmpR op_eq (pv 1) pe_int (nomark _)) (pss_one (ps_ret (pe_m (ok_Desk_close_contract T) (pv 0) T.cDesk.cl (hr.mono (by decide)) (pa_cons (pe_ix ix_list (pv 2) pe_int (fun _ _ => rfl)) pa_nil)))) pss_nil)
      (pss_cons (ps_if (pt_cmpR op_eq (pv 1) pe_int (nomark _)) (pss_one (ps_ret (pe_m (ok_Desk_contract_value T) (pv 0) T.cDesk.cl (hr.mono (by decide)) (pa_cons (pe_ix ix_list (pv 2) pe_int (fun _ _ => rfl)) pa_nil)))) pss_nil)
      (pss_cons (ps_if (pt_cmpR op_eq (pv 1) pe_int (nomark _)) (pss_one (ps_ret (pe_m (ok_Desk_create_bill T) (pv 0) T.cDesk.cl (hr.mono (by decide)) (pa_cons (pe_ix ix_list (pv 2) pe_int (fun _ _ => rfl)) pa_nil)))) pss_nil)
      (pss_cons (ps_if (pt_cmpR op_eq (pv 1) pe_int (nomark _)) (pss_one (ps_ret (pe_m (ok_Desk_list_bills T) (pv 0) T.cDesk.cl (hr.mono (by decide)) (pa_cons (pe_ix ix_list (pv 2) pe_int (fun _ _ => rfl)) pa_nil)))) pss_nil)
      (pss_cons (ps_if (pt_cmpR op_eq (pv 1) pe_int (nomark _)) (pss_one (ps_ret (pe_m (ok_Desk_record_payment T) (pv 0) T.cDesk.cl (hr.mono (by decide)) (pa_cons (pe_ix ix_list (pv 2) pe_int (fun _ _ => rfl)) (pa_cons (pe_ix ix_list (pv 2) pe_int (fun _ _ => rfl)) pa_nil))))) pss_nil)
      (pss_one (ps_ret (pe_ifExp (pt_cmpR op_eq (pv 1) pe_int (nomark _)) (pe_m (ok_Desk_balance T) (pv 0) T.cDesk.cl (hr.mono (by decide)) (pa_cons (pe_ix ix_list (pv 2) pe_int (fun _ _ => rfl)) pa_nil)) (pe_m (ok_Desk_shortfall T) (pv 0) T.cDesk.cl (hr.mono (by decide)) (pa_cons (pe_ix ix_list (pv 2) pe_int (fun _ _ => rfl)) pa_nil)))))))))))))), ?_⟩
  rintro ws g G st H0 c e hR ⟨op, na, rfl, hA⟩
  cases hA with
  | c11 x h =>
    refine sq_ifRet (b := true) (et_test ((ev_eqS (x := nV 11) (y := .int 11) (ev_var rfl) ev_c rfl).to (congrArg V.bl (by decide)))) (fun _ => ?_) fun hc => absurd hc (by decide)
    exact sj_retM (ev_var rfl) hR no_Desk_get_contract (ea_cons (ev_ixL (n := 0) (ev_var rfl) ev_c h rfl) ea_nil) ⟨x, rfl, rfl⟩
  | c12 x y h =>
    refine sq_ifRet (b := false) (et_test ((ev_eqS (x := nV 12) (y := .int 11) (ev_var rfl) ev_c rfl).to (congrArg V.bl (by decide)))) (fun hc => absurd hc (by decide)) fun _ => ?_
    refine sq_ifRet (b := true) (et_test ((ev_eqS (x := nV 12) (y := .int 12) (ev_var rfl) ev_c rfl).to (congrArg V.bl (by decide)))) (fun _ => ?_) fun hc => absurd hc (by decide)
    exact sj_retM (ev_var rfl) hR no_Desk_set_index (ea_cons (ev_ixL (n := 0) (ev_var rfl) ev_c h rfl) (ea_cons (ev_ixL (n := 1) (ev_var rfl) ev_c h rfl) ea_nil)) ⟨x, y, rfl, rfl⟩
  | c13 x y z w h =>
    refine sq_ifRet (b := false) (et_test ((ev_eqS (x := nV 13) (y := .int 11) (ev_var rfl) ev_c rfl).to (congrArg V.bl (by decide)))) (fun hc => absurd hc (by decide)) fun _ => ?_
    refine sq_ifRet (b := false) (et_test ((ev_eqS (x := nV 13) (y := .int 12) (ev_var rfl) ev_c rfl).to (congrArg V.bl (by decide)))) (fun hc => absurd hc (by decide)) fun _ => ?_
    refine sq_ifRet (b := true) (et_test ((ev_eqS (x := nV 13) (y := .int 13) (ev_var rfl) ev_c rfl).to (congrArg V.bl (by decide)))) (fun _ => ?_) fun hc => absurd hc (by decide)
    exact sj_retM (ev_var rfl) hR no_Desk_record_delivery (ea_cons (ev_ixL (n := 0) (ev_var rfl) ev_c h rfl) (ea_cons (ev_ixL (n := 1) (ev_var rfl) ev_c h rfl) (ea_cons (ev_ixL (n := 2) (ev_var rfl) ev_c h rfl) (ea_cons (ev_ixL (n := 3) (ev_var rfl) ev_c h rfl) ea_nil)))) ⟨x, y, z, w, rfl, rfl⟩
  | c14 x y h =>
    refine sq_ifRet (b := false) (et_test ((ev_eqS (x := nV 14) (y := .int 11) (ev_var rfl) ev_c rfl).to (congrArg V.bl (by decide)))) (fun hc => absurd hc (by decide)) fun _ => ?_
    refine sq_ifRet (b := false) (et_test ((ev_eqS (x := nV 14) (y := .int 12) (ev_var rfl) ev_c rfl).to (congrArg V.bl (by decide)))) (fun hc => absurd hc (by decide)) fun _ => ?_
    refine sq_ifRet (b := false) (et_test ((ev_eqS (x := nV 14) (y := .int 13) (ev_var rfl) ev_c rfl).to (congrArg V.bl (by decide)))) (fun hc => absurd hc (by decide)) fun _ => ?_
    refine sq_ifRet (b := true) (et_test ((ev_eqS (x := nV 14) (y := .int 14) (ev_var rfl) ev_c rfl).to (congrArg V.bl (by decide)))) (fun _ => ?_) fun hc => absurd hc (by decide)
    exact sj_retM (ev_var rfl) hR no_Desk_correct_delivery (ea_cons (ev_ixL (n := 0) (ev_var rfl) ev_c h rfl) (ea_cons (ev_ixL (n := 1) (ev_var rfl) ev_c h rfl) ea_nil)) ⟨x, y, rfl, rfl⟩
  | c15 x h =>
    refine sq_ifRet (b := false) (et_test ((ev_eqS (x := nV 15) (y := .int 11) (ev_var rfl) ev_c rfl).to (congrArg V.bl (by decide)))) (fun hc => absurd hc (by decide)) fun _ => ?_
    refine sq_ifRet (b := false) (et_test ((ev_eqS (x := nV 15) (y := .int 12) (ev_var rfl) ev_c rfl).to (congrArg V.bl (by decide)))) (fun hc => absurd hc (by decide)) fun _ => ?_
    refine sq_ifRet (b := false) (et_test ((ev_eqS (x := nV 15) (y := .int 13) (ev_var rfl) ev_c rfl).to (congrArg V.bl (by decide)))) (fun hc => absurd hc (by decide)) fun _ => ?_
    refine sq_ifRet (b := false) (et_test ((ev_eqS (x := nV 15) (y := .int 14) (ev_var rfl) ev_c rfl).to (congrArg V.bl (by decide)))) (fun hc => absurd hc (by decide)) fun _ => ?_
    refine sq_ifRet (b := true) (et_test ((ev_eqS (x := nV 15) (y := .int 15) (ev_var rfl) ev_c rfl).to (congrArg V.bl (by decide)))) (fun _ => ?_) fun hc => absurd hc (by decide)
    exact sj_retM (ev_var rfl) hR no_Desk_close_contract (ea_cons (ev_ixL (n := 0) (ev_var rfl) ev_c h rfl) ea_nil) ⟨x, rfl, rfl⟩
  | c16 x h =>
    refine sq_ifRet (b := false) (et_test ((ev_eqS (x := nV 16) (y := .int 11) (ev_var rfl) ev_c rfl).to (congrArg V.bl (by decide)))) (fun hc => absurd hc (by decide)) fun _ => ?_
    refine sq_ifRet (b := false) (et_test ((ev_eqS (x := nV 16) (y := .int 12) (ev_var rfl) ev_c rfl).to (congrArg V.bl (by decide)))) (fun hc => absurd hc (by decide)) fun _ => ?_
    refine sq_ifRet (b := false) (et_test ((ev_eqS (x := nV 16) (y := .int 13) (ev_var rfl) ev_c rfl).to (congrArg V.bl (by decide)))) (fun hc => absurd hc (by decide)) fun _ => ?_
    refine sq_ifRet (b := false) (et_test ((ev_eqS (x := nV 16) (y := .int 14) (ev_var rfl) ev_c rfl).to (congrArg V.bl (by decide)))) (fun hc => absurd hc (by decide)) fun _ => ?_
    refine sq_ifRet (b := false) (et_test ((ev_eqS (x := nV 16) (y := .int 15) (ev_var rfl) ev_c rfl).to (congrArg V.bl (by decide)))) (fun hc => absurd hc (by decide)) fun _ => ?_
    refine sq_ifRet (b := true) (et_test ((ev_eqS (x := nV 16) (y := .int 16) (ev_var rfl) ev_c rfl).to (congrArg V.bl (by decide)))) (fun _ => ?_) fun hc => absurd hc (by decide)
    exact sj_retM (ev_var rfl) hR no_Desk_contract_value (ea_cons (ev_ixL (n := 0) (ev_var rfl) ev_c h rfl) ea_nil) ⟨x, rfl, rfl⟩
  | c17 x h =>
    refine sq_ifRet (b := false) (et_test ((ev_eqS (x := nV 17) (y := .int 11) (ev_var rfl) ev_c rfl).to (congrArg V.bl (by decide)))) (fun hc => absurd hc (by decide)) fun _ => ?_
    refine sq_ifRet (b := false) (et_test ((ev_eqS (x := nV 17) (y := .int 12) (ev_var rfl) ev_c rfl).to (congrArg V.bl (by decide)))) (fun hc => absurd hc (by decide)) fun _ => ?_
    refine sq_ifRet (b := false) (et_test ((ev_eqS (x := nV 17) (y := .int 13) (ev_var rfl) ev_c rfl).to (congrArg V.bl (by decide)))) (fun hc => absurd hc (by decide)) fun _ => ?_
    refine sq_ifRet (b := false) (et_test ((ev_eqS (x := nV 17) (y := .int 14) (ev_var rfl) ev_c rfl).to (congrArg V.bl (by decide)))) (fun hc => absurd hc (by decide)) fun _ => ?_
    refine sq_ifRet (b := false) (et_test ((ev_eqS (x := nV 17) (y := .int 15) (ev_var rfl) ev_c rfl).to (congrArg V.bl (by decide)))) (fun hc => absurd hc (by decide)) fun _ => ?_
    refine sq_ifRet (b := false) (et_test ((ev_eqS (x := nV 17) (y := .int 16) (ev_var rfl) ev_c rfl).to (congrArg V.bl (by decide)))) (fun hc => absurd hc (by decide)) fun _ => ?_
    refine sq_ifRet (b := true) (et_test ((ev_eqS (x := nV 17) (y := .int 17) (ev_var rfl) ev_c rfl).to (congrArg V.bl (by decide)))) (fun _ => ?_) fun hc => absurd hc (by decide)
    exact sj_retM (ev_var rfl) hR no_Desk_create_bill (ea_cons (ev_ixL (n := 0) (ev_var rfl) ev_c h rfl) ea_nil) ⟨x, rfl, rfl⟩
  | c18 x h =>
    refine sq_ifRet (b := false) (et_test ((ev_eqS (x := nV 18) (y := .int 11) (ev_var rfl) ev_c rfl).to (congrArg V.bl (by decide)))) (fun hc => absurd hc (by decide)) fun _ => ?_
    refine sq_ifRet (b := false) (et_test ((ev_eqS (x := nV 18) (y := .int 12) (ev_var rfl) ev_c rfl).to (congrArg V.bl (by decide)))) (fun hc => absurd hc (by decide)) fun _ => ?_
    refine sq_ifRet (b := false) (et_test ((ev_eqS (x := nV 18) (y := .int 13) (ev_var rfl) ev_c rfl).to (congrArg V.bl (by decide)))) (fun hc => absurd hc (by decide)) fun _ => ?_
    refine sq_ifRet (b := false) (et_test ((ev_eqS (x := nV 18) (y := .int 14) (ev_var rfl) ev_c rfl).to (congrArg V.bl (by decide)))) (fun hc => absurd hc (by decide)) fun _ => ?_
    refine sq_ifRet (b := false) (et_test ((ev_eqS (x := nV 18) (y := .int 15) (ev_var rfl) ev_c rfl).to (congrArg V.bl (by decide)))) (fun hc => absurd hc (by decide)) fun _ => ?_
    refine sq_ifRet (b := false) (et_test ((ev_eqS (x := nV 18) (y := .int 16) (ev_var rfl) ev_c rfl).to (congrArg V.bl (by decide)))) (fun hc => absurd hc (by decide)) fun _ => ?_
    refine sq_ifRet (b := false) (et_test ((ev_eqS (x := nV 18) (y := .int 17) (ev_var rfl) ev_c rfl).to (congrArg V.bl (by decide)))) (fun hc => absurd hc (by decide)) fun _ => ?_
    refine sq_ifRet (b := true) (et_test ((ev_eqS (x := nV 18) (y := .int 18) (ev_var rfl) ev_c rfl).to (congrArg V.bl (by decide)))) (fun _ => ?_) fun hc => absurd hc (by decide)
    exact sj_retM (ev_var rfl) hR no_Desk_list_bills (ea_cons (ev_ixL (n := 0) (ev_var rfl) ev_c h rfl) ea_nil) ⟨x, rfl, rfl⟩
  | c19 x y h =>
    refine sq_ifRet (b := false) (et_test ((ev_eqS (x := nV 19) (y := .int 11) (ev_var rfl) ev_c rfl).to (congrArg V.bl (by decide)))) (fun hc => absurd hc (by decide)) fun _ => ?_
    refine sq_ifRet (b := false) (et_test ((ev_eqS (x := nV 19) (y := .int 12) (ev_var rfl) ev_c rfl).to (congrArg V.bl (by decide)))) (fun hc => absurd hc (by decide)) fun _ => ?_
    refine sq_ifRet (b := false) (et_test ((ev_eqS (x := nV 19) (y := .int 13) (ev_var rfl) ev_c rfl).to (congrArg V.bl (by decide)))) (fun hc => absurd hc (by decide)) fun _ => ?_
    refine sq_ifRet (b := false) (et_test ((ev_eqS (x := nV 19) (y := .int 14) (ev_var rfl) ev_c rfl).to (congrArg V.bl (by decide)))) (fun hc => absurd hc (by decide)) fun _ => ?_
    refine sq_ifRet (b := false) (et_test ((ev_eqS (x := nV 19) (y := .int 15) (ev_var rfl) ev_c rfl).to (congrArg V.bl (by decide)))) (fun hc => absurd hc (by decide)) fun _ => ?_
    refine sq_ifRet (b := false) (et_test ((ev_eqS (x := nV 19) (y := .int 16) (ev_var rfl) ev_c rfl).to (congrArg V.bl (by decide)))) (fun hc => absurd hc (by decide)) fun _ => ?_
    refine sq_ifRet (b := false) (et_test ((ev_eqS (x := nV 19) (y := .int 17) (ev_var rfl) ev_c rfl).to (congrArg V.bl (by decide)))) (fun hc => absurd hc (by decide)) fun _ => ?_
    refine sq_ifRet (b := false) (et_test ((ev_eqS (x := nV 19) (y := .int 18) (ev_var rfl) ev_c rfl).to (congrArg V.bl (by decide)))) (fun hc => absurd hc (by decide)) fun _ => ?_
    refine sq_ifRet (b := true) (et_test ((ev_eqS (x := nV 19) (y := .int 19) (ev_var rfl) ev_c rfl).to (congrArg V.bl (by decide)))) (fun _ => ?_) fun hc => absurd hc (by decide)
    exact sj_retM (ev_var rfl) hR no_Desk_record_payment (ea_cons (ev_ixL (n := 0) (ev_var rfl) ev_c h rfl) (ea_cons (ev_ixL (n := 1) (ev_var rfl) ev_c h rfl) ea_nil)) ⟨x, y, rfl, rfl⟩
  | c20 x h =>
    refine sq_ifRet (b := false) (et_test ((ev_eqS (x := nV 20) (y := .int 11) (ev_var rfl) ev_c rfl).to (congrArg V.bl (by decide)))) (fun hc => absurd hc (by decide)) fun _ => ?_
    refine sq_ifRet (b := false) (et_test ((ev_eqS (x := nV 20) (y := .int 12) (ev_var rfl) ev_c rfl).to (congrArg V.bl (by decide)))) (fun hc => absurd hc (by decide)) fun _ => ?_
    refine sq_ifRet (b := false) (et_test ((ev_eqS (x := nV 20) (y := .int 13) (ev_var rfl) ev_c rfl).to (congrArg V.bl (by decide)))) (fun hc => absurd hc (by decide)) fun _ => ?_
    refine sq_ifRet (b := false) (et_test ((ev_eqS (x := nV 20) (y := .int 14) (ev_var rfl) ev_c rfl).to (congrArg V.bl (by decide)))) (fun hc => absurd hc (by decide)) fun _ => ?_
    refine sq_ifRet (b := false) (et_test ((ev_eqS (x := nV 20) (y := .int 15) (ev_var rfl) ev_c rfl).to (congrArg V.bl (by decide)))) (fun hc => absurd hc (by decide)) fun _ => ?_
    refine sq_ifRet (b := false) (et_test ((ev_eqS (x := nV 20) (y := .int 16) (ev_var rfl) ev_c rfl).to (congrArg V.bl (by decide)))) (fun hc => absurd hc (by decide)) fun _ => ?_
    refine sq_ifRet (b := false) (et_test ((ev_eqS (x := nV 20) (y := .int 17) (ev_var rfl) ev_c rfl).to (congrArg V.bl (by decide)))) (fun hc => absurd hc (by decide)) fun _ => ?_
    refine sq_ifRet (b := false) (et_test ((ev_eqS (x := nV 20) (y := .int 18) (ev_var rfl) ev_c rfl).to (congrArg V.bl (by decide)))) (fun hc => absurd hc (by decide)) fun _ => ?_
    refine sq_ifRet (b := false) (et_test ((ev_eqS (x := nV 20) (y := .int 19) (ev_var rfl) ev_c rfl).to (congrArg V.bl (by decide)))) (fun hc => absurd hc (by decide)) fun _ => ?_
    refine sj_retIf (b := true) (et_test ((ev_eqS (x := nV 20) (y := .int 20) (ev_var rfl) ev_c rfl).to (congrArg V.bl (by decide)))) (fun hc => ?_) fun hc => absurd hc (by decide)
    exact sj_retM (ev_var rfl) hR no_Desk_balance (ea_cons (ev_ixL (n := 0) (ev_var rfl) ev_c h rfl) ea_nil) ⟨x, rfl, rfl⟩
  | c21 x h =>
    refine sq_ifRet (b := false) (et_test ((ev_eqS (x := nV 21) (y := .int 11) (ev_var rfl) ev_c rfl).to (congrArg V.bl (by decide)))) (fun hc => absurd hc (by decide)) fun _ => ?_
    refine sq_ifRet (b := false) (et_test ((ev_eqS (x := nV 21) (y := .int 12) (ev_var rfl) ev_c rfl).to (congrArg V.bl (by decide)))) (fun hc => absurd hc (by decide)) fun _ => ?_
    refine sq_ifRet (b := false) (et_test ((ev_eqS (x := nV 21) (y := .int 13) (ev_var rfl) ev_c rfl).to (congrArg V.bl (by decide)))) (fun hc => absurd hc (by decide)) fun _ => ?_
    refine sq_ifRet (b := false) (et_test ((ev_eqS (x := nV 21) (y := .int 14) (ev_var rfl) ev_c rfl).to (congrArg V.bl (by decide)))) (fun hc => absurd hc (by decide)) fun _ => ?_
    refine sq_ifRet (b := false) (et_test ((ev_eqS (x := nV 21) (y := .int 15) (ev_var rfl) ev_c rfl).to (congrArg V.bl (by decide)))) (fun hc => absurd hc (by decide)) fun _ => ?_
    refine sq_ifRet (b := false) (et_test ((ev_eqS (x := nV 21) (y := .int 16) (ev_var rfl) ev_c rfl).to (congrArg V.bl (by decide)))) (fun hc => absurd hc (by decide)) fun _ => ?_
    refine sq_ifRet (b := false) (et_test ((ev_eqS (x := nV 21) (y := .int 17) (ev_var rfl) ev_c rfl).to (congrArg V.bl (by decide)))) (fun hc => absurd hc (by decide)) fun _ => ?_
    refine sq_ifRet (b := false) (et_test ((ev_eqS (x := nV 21) (y := .int 18) (ev_var rfl) ev_c rfl).to (congrArg V.bl (by decide)))) (fun hc => absurd hc (by decide)) fun _ => ?_
    refine sq_ifRet (b := false) (et_test ((ev_eqS (x := nV 21) (y := .int 19) (ev_var rfl) ev_c rfl).to (congrArg V.bl (by decide)))) (fun hc => absurd hc (by decide)) fun _ => ?_
    refine sj_retIf (b := false) (et_test ((ev_eqS (x := nV 21) (y := .int 20) (ev_var rfl) ev_c rfl).to (congrArg V.bl (by decide)))) (fun hc => absurd hc (by decide)) fun hc => ?_
    exact sj_retM (ev_var rfl) hR no_Desk_shortfall (ea_cons (ev_ixL (n := 0) (ev_var rfl) ev_c h rfl) ea_nil) ⟨x, rfl, rfl⟩
end
end TB
/-! # The calls as they are handed in -/
namespace TB
open PySem PySem.Spec PyProof.Rows L2 Evl
open TBM
open AuctionSpec (State)
theorem nat_of {d : Int} (h : AuctionNeutral.natural d 32 = true) : AuctionNeutral.nat d = some d.toNat ∧ nV d.toNat = V.int d := by
  unfold AuctionNeutral.natural at h
  obtain ⟨h1, _⟩ := Bool.and_eq_true_iff.mp h
  have h1 : 0 ≤ d := of_decide_eq_true h1
  refine ⟨?_, congrArg V.int (Int.toNat_of_nonneg h1)⟩
  unfold AuctionNeutral.nat
  rw [if_neg (by omega)]
theorem nats_of : ∀ {l : List Int}, l.all (fun z => AuctionNeutral.natural z 32) = true → AuctionNeutral.nats l = some (l.map Int.toNat) ∧ (l.map Int.toNat).map nV = l.map V.int
  | [], _ => ⟨rfl, rfl⟩
  | a :: l, h => by
    rw [List.all_cons, Bool.and_eq_true] at h
    obtain ⟨h1, h2⟩ := nat_of h.1
    obtain ⟨h3, h4⟩ := nats_of h.2
    unfold AuctionNeutral.nats at h3 ⊢
    refine ⟨?_, by rw [List.map_cons, List.map_cons, List.map_cons, h2, h4]⟩
    rw [List.mapM_cons, h1, h3]
    rfl
def rowsAt (H : Hp) (ra : Addr) (rs : List Addr) (xs : List (List Int)) : Prop := H ra = some (.lst (rs.map V.ref)) ∧ Paired (fun r x => H r = some (.lst (x.map V.int))) rs xs
theorem deed_args {H : Hp} {na ra : Addr} {rs : List Addr} {p0 : Int} {is : List Int} {xs : List (List Int)} (h : AuctionNeutral.asked1 ((p0 :: is) :: xs) = true) (hn : H na = some (.lst (is.map V.int))) (hr : rowsAt H ra rs xs) :
    ∃ (op : Nat) (k : AuctionSpec.Call), p0 = (op : Int) ∧ AuctionNeutral.operationOf ((p0 :: is) :: xs) = some k ∧ ((op ≤ 10 ∧ SaleArgs H na ra op k) ∨ (11 ≤ op ∧ op ≤ 21 ∧ ConArgs H na op k)) := by
  obtain ⟨hra, hp⟩ := hr
  unfold AuctionNeutral.asked1 at h
  split at h
  · -- 0
    rename_i d heq
    obtain ⟨⟨rfl, rfl⟩, rfl⟩ : (p0 = 0 ∧ is = [d]) ∧ xs = [] := by simpa using heq
    have qd := h
    obtain ⟨ed, fd⟩ := nat_of qd
    exact ⟨0, _, rfl, by simp only [AuctionNeutral.operationOf, ed]; rfl, .inl ⟨by decide, .c0 d.toNat (show NL H na [d.toNat] from hn.trans (by rw [show ([d] : List Int).map V.int = ([d.toNat] : List Nat).map nV by simp only [List.map_cons, List.map_nil, fd]]))⟩⟩
  · -- 1
    rename_i a b c heq
    obtain ⟨⟨rfl, rfl⟩, rfl⟩ : (p0 = 1 ∧ is = [a, b, c]) ∧ xs = [] := by simpa using heq
    obtain ⟨qa, r0⟩ := Bool.and_eq_true_iff.mp h
    obtain ⟨qb, r1⟩ := Bool.and_eq_true_iff.mp r0
    have qc := r1
    obtain ⟨ea, fa⟩ := nat_of qa
    obtain ⟨eb, fb⟩ := nat_of qb
    obtain ⟨ec, fc⟩ := nat_of qc
    exact ⟨1, _, rfl, by simp only [AuctionNeutral.operationOf, ea, eb, ec]; rfl, .inl ⟨by decide, .c1 a.toNat b.toNat c.toNat (show NL H na [a.toNat, b.toNat, c.toNat] from hn.trans (by rw [show ([a, b, c] : List Int).map V.int = ([a.toNat, b.toNat, c.toNat] : List Nat).map nV by simp only [List.map_cons, List.map_nil, fa, fb, fc]]))⟩⟩
  · -- 2
    rename_i r l heq
    obtain ⟨⟨rfl, rfl⟩, rfl⟩ : (p0 = 2 ∧ is = [r]) ∧ xs = [l] := by simpa using heq
    obtain ⟨qr, r0⟩ := Bool.and_eq_true_iff.mp h
    have ql := r0
    obtain ⟨ql, ll⟩ := Bool.and_eq_true_iff.mp ql
    obtain ⟨el, fl⟩ := nats_of ql
    have ll : l.length ≤ 40 := of_decide_eq_true ll
    obtain ⟨er, fr⟩ := nat_of qr
    cases hp with
    | @cons al _ rsl _ gl tl =>
    cases tl
    exact ⟨2, _, rfl, by simp only [AuctionNeutral.operationOf, er, el]; rfl, .inl ⟨by decide, .c2 r.toNat al (l.map Int.toNat) (show NL H na [r.toNat] from hn.trans (by rw [show ([r] : List Int).map V.int = ([r.toNat] : List Nat).map nV by simp only [List.map_cons, List.map_nil, fr]])) hra (show NL H al (l.map Int.toNat) from gl.trans (by rw [fl])) (by rw [List.length_map]; omega)⟩⟩
  · -- 3
    rename_i i n heq
    obtain ⟨⟨rfl, rfl⟩, rfl⟩ : (p0 = 3 ∧ is = [i, n]) ∧ xs = [] := by simpa using heq
    obtain ⟨qi, r0⟩ := Bool.and_eq_true_iff.mp h
    have qn := r0
    obtain ⟨ei, fi⟩ := nat_of qi
    obtain ⟨en, fn⟩ := nat_of qn
    exact ⟨3, _, rfl, by simp only [AuctionNeutral.operationOf, ei, en]; rfl, .inl ⟨by decide, .c3 i.toNat n.toNat (show NL H na [i.toNat, n.toNat] from hn.trans (by rw [show ([i, n] : List Int).map V.int = ([i.toNat, n.toNat] : List Nat).map nV by simp only [List.map_cons, List.map_nil, fi, fn]]))⟩⟩
  · -- 4
    rename_i l p o heq
    obtain ⟨⟨rfl, rfl⟩, rfl⟩ : (p0 = 4 ∧ is = []) ∧ xs = [l, p, o] := by simpa using heq
    obtain ⟨ql, r0⟩ := Bool.and_eq_true_iff.mp h
    obtain ⟨qp, r1⟩ := Bool.and_eq_true_iff.mp r0
    have qo := r1
    obtain ⟨ql, ll⟩ := Bool.and_eq_true_iff.mp ql
    obtain ⟨el, fl⟩ := nats_of ql
    have ll : l.length ≤ 40 := of_decide_eq_true ll
    obtain ⟨qp, lp⟩ := Bool.and_eq_true_iff.mp qp
    obtain ⟨ep, fp⟩ := nats_of qp
    have lp : p.length ≤ 40 := of_decide_eq_true lp
    obtain ⟨qo, lo⟩ := Bool.and_eq_true_iff.mp qo
    obtain ⟨eo, fo⟩ := nats_of qo
    have lo : o.length ≤ 40 := of_decide_eq_true lo
    cases hp with
    | @cons al _ rsl _ gl tl =>
    cases tl with
    | @cons ap _ rsp _ gp tp =>
    cases tp with
    | @cons ao _ rso _ go to =>
    cases to
    exact ⟨4, _, rfl, by simp only [AuctionNeutral.operationOf, el, ep, eo]; rfl, .inl ⟨by decide, .c4 al (l.map Int.toNat) ap (p.map Int.toNat) ao (o.map Int.toNat) (show NL H na [] from hn.trans (by rw [show ([] : List Int).map V.int = ([] : List Nat).map nV by simp only [List.map_cons, List.map_nil, List.map_nil]])) hra (show NL H al (l.map Int.toNat) from gl.trans (by rw [fl])) (by rw [List.length_map]; omega) (show NL H ap (p.map Int.toNat) from gp.trans (by rw [fp])) (by rw [List.length_map]; omega) (show NL H ao (o.map Int.toNat) from go.trans (by rw [fo])) (by rw [List.length_map]; omega)⟩⟩
  · -- 5
    rename_i k heq
    obtain ⟨⟨rfl, rfl⟩, rfl⟩ : (p0 = 5 ∧ is = [k]) ∧ xs = [] := by simpa using heq
    have qk := h
    obtain ⟨ek, fk⟩ := nat_of qk
    exact ⟨5, _, rfl, by simp only [AuctionNeutral.operationOf, ek]; rfl, .inl ⟨by decide, .c5 k.toNat (show NL H na [k.toNat] from hn.trans (by rw [show ([k] : List Int).map V.int = ([k.toNat] : List Nat).map nV by simp only [List.map_cons, List.map_nil, fk]]))⟩⟩
  · -- 6
    rename_i heq
    obtain ⟨⟨rfl, rfl⟩, rfl⟩ : (p0 = 6 ∧ is = []) ∧ xs = [] := by simpa using heq
    exact ⟨6, _, rfl, rfl, .inl ⟨by decide, .c6 (show NL H na [] from hn.trans (by rw [show ([] : List Int).map V.int = ([] : List Nat).map nV by simp only [List.map_cons, List.map_nil, List.map_nil]]))⟩⟩
  · -- 7
    rename_i l heq
    obtain ⟨⟨rfl, rfl⟩, rfl⟩ : (p0 = 7 ∧ is = []) ∧ xs = [l] := by simpa using heq
    have ql := h
    obtain ⟨ql, ll⟩ := Bool.and_eq_true_iff.mp ql
    obtain ⟨el, fl⟩ := nats_of ql
    have ll : l.length ≤ 40 := of_decide_eq_true ll
    cases hp with
    | @cons al _ rsl _ gl tl =>
    cases tl
    exact ⟨7, _, rfl, by simp only [AuctionNeutral.operationOf, el]; rfl, .inl ⟨by decide, .c7 al (l.map Int.toNat) (show NL H na [] from hn.trans (by rw [show ([] : List Int).map V.int = ([] : List Nat).map nV by simp only [List.map_cons, List.map_nil, List.map_nil]])) hra (show NL H al (l.map Int.toNat) from gl.trans (by rw [fl])) (by rw [List.length_map]; omega)⟩⟩
  · -- 8
    rename_i heq
    obtain ⟨⟨rfl, rfl⟩, rfl⟩ : (p0 = 8 ∧ is = []) ∧ xs = [] := by simpa using heq
    exact ⟨8, _, rfl, rfl, .inl ⟨by decide, .c8 (show NL H na [] from hn.trans (by rw [show ([] : List Int).map V.int = ([] : List Nat).map nV by simp only [List.map_cons, List.map_nil, List.map_nil]]))⟩⟩
  · -- 9
    rename_i k heq
    obtain ⟨⟨rfl, rfl⟩, rfl⟩ : (p0 = 9 ∧ is = [k]) ∧ xs = [] := by simpa using heq
    have qk := h
    obtain ⟨ek, fk⟩ := nat_of qk
    exact ⟨9, _, rfl, by simp only [AuctionNeutral.operationOf, ek]; rfl, .inl ⟨by decide, .c9 k.toNat (show NL H na [k.toNat] from hn.trans (by rw [show ([k] : List Int).map V.int = ([k.toNat] : List Nat).map nV by simp only [List.map_cons, List.map_nil, fk]]))⟩⟩
  · -- 10
    rename_i heq
    obtain ⟨⟨rfl, rfl⟩, rfl⟩ : (p0 = 10 ∧ is = []) ∧ xs = [] := by simpa using heq
    exact ⟨10, _, rfl, rfl, .inl ⟨by decide, .c10 (show NL H na [] from hn.trans (by rw [show ([] : List Int).map V.int = ([] : List Nat).map nV by simp only [List.map_cons, List.map_nil, List.map_nil]]))⟩⟩
  · -- 11
    rename_i x heq
    obtain ⟨⟨rfl, rfl⟩, rfl⟩ : (p0 = 11 ∧ is = [x]) ∧ xs = [] := by simpa using heq
    have qx := h
    obtain ⟨ex, fx⟩ := nat_of qx
    exact ⟨11, _, rfl, by simp only [AuctionNeutral.operationOf, ex]; rfl, .inr ⟨by decide, by decide, .c11 x.toNat (show NL H na [x.toNat] from hn.trans (by rw [show ([x] : List Int).map V.int = ([x.toNat] : List Nat).map nV by simp only [List.map_cons, List.map_nil, fx]]))⟩⟩
  · -- 12
    rename_i x y heq
    obtain ⟨⟨rfl, rfl⟩, rfl⟩ : (p0 = 12 ∧ is = [x, y]) ∧ xs = [] := by simpa using heq
    obtain ⟨qx, r0⟩ := Bool.and_eq_true_iff.mp h
    have qy := r0
    obtain ⟨ex, fx⟩ := nat_of qx
    obtain ⟨ey, fy⟩ := nat_of qy
    exact ⟨12, _, rfl, by simp only [AuctionNeutral.operationOf, ex, ey]; rfl, .inr ⟨by decide, by decide, .c12 x.toNat y.toNat (show NL H na [x.toNat, y.toNat] from hn.trans (by rw [show ([x, y] : List Int).map V.int = ([x.toNat, y.toNat] : List Nat).map nV by simp only [List.map_cons, List.map_nil, fx, fy]]))⟩⟩
  · -- 13
    rename_i x y z w heq
    obtain ⟨⟨rfl, rfl⟩, rfl⟩ : (p0 = 13 ∧ is = [x, y, z, w]) ∧ xs = [] := by simpa using heq
    obtain ⟨qx, r0⟩ := Bool.and_eq_true_iff.mp h
    obtain ⟨qy, r1⟩ := Bool.and_eq_true_iff.mp r0
    obtain ⟨qz, r2⟩ := Bool.and_eq_true_iff.mp r1
    have qw := r2
    obtain ⟨ex, fx⟩ := nat_of qx
    obtain ⟨ey, fy⟩ := nat_of qy
    obtain ⟨ez, fz⟩ := nat_of qz
    obtain ⟨ew, fw⟩ := nat_of qw
    exact ⟨13, _, rfl, by simp only [AuctionNeutral.operationOf, ex, ey, ez, ew]; rfl, .inr ⟨by decide, by decide, .c13 x.toNat y.toNat z.toNat w.toNat (show NL H na [x.toNat, y.toNat, z.toNat, w.toNat] from hn.trans (by rw [show ([x, y, z, w] : List Int).map V.int = ([x.toNat, y.toNat, z.toNat, w.toNat] : List Nat).map nV by simp only [List.map_cons, List.map_nil, fx, fy, fz, fw]]))⟩⟩
  · -- 14
    rename_i x y heq
    obtain ⟨⟨rfl, rfl⟩, rfl⟩ : (p0 = 14 ∧ is = [x, y]) ∧ xs = [] := by simpa using heq
    obtain ⟨qx, r0⟩ := Bool.and_eq_true_iff.mp h
    have qy := r0
    obtain ⟨ex, fx⟩ := nat_of qx
    obtain ⟨ey, fy⟩ := nat_of qy
    exact ⟨14, _, rfl, by simp only [AuctionNeutral.operationOf, ex, ey]; rfl, .inr ⟨by decide, by decide, .c14 x.toNat y.toNat (show NL H na [x.toNat, y.toNat] from hn.trans (by rw [show ([x, y] : List Int).map V.int = ([x.toNat, y.toNat] : List Nat).map nV by simp only [List.map_cons, List.map_nil, fx, fy]]))⟩⟩
  · -- 15
    rename_i x heq
    obtain ⟨⟨rfl, rfl⟩, rfl⟩ : (p0 = 15 ∧ is = [x]) ∧ xs = [] := by simpa using heq
    have qx := h
    obtain ⟨ex, fx⟩ := nat_of qx
    exact ⟨15, _, rfl, by simp only [AuctionNeutral.operationOf, ex]; rfl, .inr ⟨by decide, by decide, .c15 x.toNat (show NL H na [x.toNat] from hn.trans (by rw [show ([x] : List Int).map V.int = ([x.toNat] : List Nat).map nV by simp only [List.map_cons, List.map_nil, fx]]))⟩⟩
  · -- 16
    rename_i x heq
    obtain ⟨⟨rfl, rfl⟩, rfl⟩ : (p0 = 16 ∧ is = [x]) ∧ xs = [] := by simpa using heq
    have qx := h
    obtain ⟨ex, fx⟩ := nat_of qx
    exact ⟨16, _, rfl, by simp only [AuctionNeutral.operationOf, ex]; rfl, .inr ⟨by decide, by decide, .c16 x.toNat (show NL H na [x.toNat] from hn.trans (by rw [show ([x] : List Int).map V.int = ([x.toNat] : List Nat).map nV by simp only [List.map_cons, List.map_nil, fx]]))⟩⟩
  · -- 17
    rename_i x heq
    obtain ⟨⟨rfl, rfl⟩, rfl⟩ : (p0 = 17 ∧ is = [x]) ∧ xs = [] := by simpa using heq
    have qx := h
    obtain ⟨ex, fx⟩ := nat_of qx
    exact ⟨17, _, rfl, by simp only [AuctionNeutral.operationOf, ex]; rfl, .inr ⟨by decide, by decide, .c17 x.toNat (show NL H na [x.toNat] from hn.trans (by rw [show ([x] : List Int).map V.int = ([x.toNat] : List Nat).map nV by simp only [List.map_cons, List.map_nil, fx]]))⟩⟩
  · -- 18
    rename_i x heq
    obtain ⟨⟨rfl, rfl⟩, rfl⟩ : (p0 = 18 ∧ is = [x]) ∧ xs = [] := by simpa using heq
    have qx := h
    obtain ⟨ex, fx⟩ := nat_of qx
    exact ⟨18, _, rfl, by simp only [AuctionNeutral.operationOf, ex]; rfl, .inr ⟨by decide, by decide, .c18 x.toNat (show NL H na [x.toNat] from hn.trans (by rw [show ([x] : List Int).map V.int = ([x.toNat] : List Nat).map nV by simp only [List.map_cons, List.map_nil, fx]]))⟩⟩
  · -- 19
    rename_i x y heq
    obtain ⟨⟨rfl, rfl⟩, rfl⟩ : (p0 = 19 ∧ is = [x, y]) ∧ xs = [] := by simpa using heq
    obtain ⟨qx, r0⟩ := Bool.and_eq_true_iff.mp h
    have qy := r0
    obtain ⟨ex, fx⟩ := nat_of qx
    obtain ⟨ey, fy⟩ := nat_of qy
    exact ⟨19, _, rfl, by simp only [AuctionNeutral.operationOf, ex, ey]; rfl, .inr ⟨by decide, by decide, .c19 x.toNat y.toNat (show NL H na [x.toNat, y.toNat] from hn.trans (by rw [show ([x, y] : List Int).map V.int = ([x.toNat, y.toNat] : List Nat).map nV by simp only [List.map_cons, List.map_nil, fx, fy]]))⟩⟩
  · -- 20
    rename_i x heq
    obtain ⟨⟨rfl, rfl⟩, rfl⟩ : (p0 = 20 ∧ is = [x]) ∧ xs = [] := by simpa using heq
    have qx := h
    obtain ⟨ex, fx⟩ := nat_of qx
    exact ⟨20, _, rfl, by simp only [AuctionNeutral.operationOf, ex]; rfl, .inr ⟨by decide, by decide, .c20 x.toNat (show NL H na [x.toNat] from hn.trans (by rw [show ([x] : List Int).map V.int = ([x.toNat] : List Nat).map nV by simp only [List.map_cons, List.map_nil, fx]]))⟩⟩
  · -- 21
    rename_i x heq
    obtain ⟨⟨rfl, rfl⟩, rfl⟩ : (p0 = 21 ∧ is = [x]) ∧ xs = [] := by simpa using heq
    have qx := h
    obtain ⟨ex, fx⟩ := nat_of qx
    exact ⟨21, _, rfl, by simp only [AuctionNeutral.operationOf, ex]; rfl, .inr ⟨by decide, by decide, .c21 x.toNat (show NL H na [x.toNat] from hn.trans (by rw [show ([x] : List Int).map V.int = ([x.toNat] : List Nat).map nV by simp only [List.map_cons, List.map_nil, fx]]))⟩⟩
  · exact absurd h (by decide)
end TB
/-! # The answers -/
namespace TB
open PySem PySem.Spec PyProof.Rows L2 Evl
open TBM
open AuctionSpec (State)

/-! ### what was handed in, call by call -/
theorem calls_inv : ∀ {f : Nat} {p : Int} {r : List Int} {cs : List (List (List Int))}, PyFlat.calls PyWrtbsa.shape f (p :: r) = some cs →
    ∃ f' n k xs t cs', PyWrtbsa.shape p = some (n, k) ∧ n ≤ r.length ∧ PyFlat.rows k (r.drop n) = some (xs, t) ∧ PyFlat.calls PyWrtbsa.shape f' t = some cs' ∧ cs = ((p :: r.take n) :: xs) :: cs'
  | 0, _, _, _, h => by simp [PyFlat.calls] at h
  | f + 1, p, r, cs, h => by
    unfold PyFlat.calls at h
    cases hc : PyFlat.call PyWrtbsa.shape (p :: r) with
    | none => rw [hc] at h; simp at h
    | some ct =>
      obtain ⟨c, t⟩ := ct
      rw [hc] at h
      simp only at h
      cases hr : PyFlat.calls PyWrtbsa.shape f t with
      | none => rw [hr] at h; simp at h
      | some cs' =>
        rw [hr] at h
        simp only [Option.some.injEq] at h
        unfold PyFlat.call at hc
        simp only at hc
        cases hs : PyWrtbsa.shape p with
        | none => rw [hs] at hc; simp at hc
        | some nk =>
          obtain ⟨n, k⟩ := nk
          rw [hs] at hc
          simp only at hc
          by_cases hn : r.length < n
          · rw [if_pos hn] at hc; simp at hc
          · rw [if_neg hn] at hc
            cases hw : PyFlat.rows k (r.drop n) with
            | none => rw [hw] at hc; simp at hc
            | some xt =>
              obtain ⟨xs, t'⟩ := xt
              rw [hw] at hc
              simp only [Option.some.injEq, Prod.mk.injEq] at hc
              obtain ⟨h1, h2⟩ := hc
              subst h1 h2
              exact ⟨f, n, k, xs, t', cs', rfl, Nat.le_of_not_lt hn, hw, hr, h.symm⟩
theorem calls_nil {f : Nat} {cs : List (List (List Int))} (h : PyFlat.calls PyWrtbsa.shape f [] = some cs) : cs = [] := by
  cases f <;> simpa [PyFlat.calls] using h
theorem rows_inv {k : Nat} {l : List Int} {xs : List (List Int)} {t : List Int} (h : PyFlat.rows (k + 1) l = some (xs, t)) : ∃ n r xs', l = n :: r ∧ 0 ≤ n ∧ n.toNat ≤ r.length ∧ PyFlat.rows k (r.drop n.toNat) = some (xs', t) ∧ xs = r.take n.toNat :: xs' := by
  unfold PyFlat.rows at h
  cases l with
  | nil => simp [PyFlat.row] at h
  | cons n r =>
    unfold PyFlat.row at h
    by_cases hn : 0 ≤ n ∧ n.toNat ≤ r.length
    · simp only [if_pos hn] at h
      cases hw : PyFlat.rows k (r.drop n.toNat) with
      | none => rw [hw] at h; simp at h
      | some xt =>
        obtain ⟨xs', t'⟩ := xt
        rw [hw] at h
        simp only [Option.some.injEq, Prod.mk.injEq] at h
        obtain ⟨h1, h2⟩ := h
        subst h1 h2
        exact ⟨n, r, xs', rfl, hn.1, hn.2, hw, rfl⟩
    · simp only [if_neg hn] at h
      simp at h
theorem rows_zero {l : List Int} {xs : List (List Int)} {t : List Int} (h : PyFlat.rows 0 l = some (xs, t)) : xs = [] ∧ t = l := by
  unfold PyFlat.rows at h
  simp only [Option.some.injEq, Prod.mk.injEq] at h
  exact ⟨h.1.symm, h.2.symm⟩
def numsT : List Int := [1, 3, 1, 2, 0, 1, 0, 0, 0, 1, 0, 1, 2, 4, 2, 1, 1, 1, 1, 2, 1, 1]
def listsT : List Int := [0, 0, 1, 0, 3, 0, 0, 1, 0, 0, 0, 0, 0, 0, 0, 0, 0, 0, 0, 0, 0, 0]
theorem shape_tab : ∀ op, op < 22 → PyWrtbsa.shape ((op : Nat) : Int) = some ((numsT.getD op 0).toNat, (listsT.getD op 0).toNat) ∧ numsT[op]? = some (((numsT.getD op 0).toNat : Nat) : Int) ∧ listsT[op]? = some (((listsT.getD op 0).toNat : Nat) : Int) := by decide
theorem shape_at {p : Int} {n k : Nat} (h : PyWrtbsa.shape p = some (n, k)) : ∃ op : Nat, p = (op : Int) ∧ op < 22 ∧ numsT[op]? = some (n : Int) ∧ listsT[op]? = some (k : Int) := by
  by_cases hp : 0 ≤ p ∧ p < 22
  · obtain ⟨op, rfl⟩ := Int.eq_ofNat_of_zero_le hp.1
    have hop : op < 22 := by omega
    obtain ⟨h1, h2, h3⟩ := shape_tab op hop
    rw [h1] at h
    simp only [Option.some.injEq, Prod.mk.injEq] at h
    rw [h.1] at h2
    rw [h.2] at h3
    exact ⟨op, rfl, hop, h2, h3⟩
  · exfalso
    unfold PyWrtbsa.shape at h
    repeat rw [if_neg (by omega)] at h
    cases h
theorem whole_id (c : List (List Int)) : PyWrtbsa.whole c = c := by
  unfold PyWrtbsa.whole
  split <;> rfl
theorem whole_map (cs : List (List (List Int))) : cs.map PyWrtbsa.whole = cs := by
  rw [show PyWrtbsa.whole = id from funext whole_id, List.map_id]
theorem drop_cons {ns : List Int} {i : Nat} {p : Int} {r : List Int} (h : ns.drop i = p :: r) : i < ns.length ∧ ns[i]? = some p ∧ (∀ j, ns.drop (i + 1 + j) = r.drop j) ∧ ns.length = i + 1 + r.length := by
  have hl : i < ns.length := by
    refine Nat.lt_of_not_le fun hc => ?_
    rw [List.drop_eq_nil_of_le hc] at h
    cases h
  rw [List.drop_eq_getElem_cons hl] at h
  obtain ⟨h1, h2⟩ := List.cons.inj h
  refine ⟨hl, by rw [List.getElem?_eq_getElem hl, h1], fun j => ?_, ?_⟩
  · rw [← h2, List.drop_drop]
  · have := congrArg List.length h2
    rw [List.length_drop] at this
    omega
theorem cut_mid {ns : List Int} {i n : Nat} (h : i + n ≤ ns.length) : cutV (ns.map V.int) (some ((i : Nat) : Int)) (some ((i + n : Nat) : Int)) = ((ns.drop i).take n).map V.int := by
  unfold cutV
  rw [HT.sIx_nat, HT.sIx_nat, List.length_map, Nat.min_eq_left (by omega), Nat.min_eq_left (by omega), ← List.map_drop, ← List.map_take]
  congr 2
  omega
section
variable {K : PySem.W.Frag} {A : Adr} {mg : Str → Option Value} {g g1 : Tg} {B H H' : Hp} {G : DeskG} {st : State} {σ : L2.St} {N : L2.St → Hp → Prop} {P : V → Hp → Prop} {ta ti : TE} {u : TS}
theorem ev_tab {x : Str} {tab : List Int} {op : Nat} {z : Int} (hz : tab[op]? = some z) (hi : Ev ti σ H (nV op)) : Ev (tOp (rIxT K) (tTop K mg x tab) ti) σ H (.int z) :=
  EvP.val (R := isV _) (bindOp1 evp_tTop fun v H1 e1 ⟨a, ev, ha⟩ => by
    subst ev
    exact (ev_ixT (n := op) ev_c (hi.mono e1) ha (by rw [List.getElem?_map, hz]; rfl)).p) fun _ _ h => h
theorem sq_par3 {i j l : Nat} {w : V} {R : V → Hp → Hp → Prop} (ha : EvN ta σ H R) (k : ∀ v f H1 H2 H3, Ex H H1 → Ex H1 H2 → Ex H2 H3 → R v H1 H2 → H2 f = none → H3 f = some (.lst []) → Sj B u (((σ.set i (some v)).set j (some (.ref f))).set l (some w)) H3 N P) :
    Sj B (tSeq (tPar3 i j l (tCons ta (tCons (tLst tNil) (tCons (tC w) tNil)))) u) σ H N P := fun H1 e eb D kn kr => ha H1 e _ fun v H2 e2 hv => (el_nil (σ := σ) (H := H2)) H2 (Ex.refl _) _ fun f H3 nf e3 h3 =>
  ⟨v, .ref f, w, rfl, k v f H1 H2 H3 e e2 e3 hv nf h3 H3 (Ex.refl _) ((eb.trans e2).trans e3) D kn kr⟩
theorem sq_parL {i j : Nat} {xs : List V} (ha : EvL ta σ H xs) (k : ∀ q r H1, H q = none → H r = none → q ≠ r → Ex H H1 → H1 q = some (.lst xs) → H1 r = some (.lst []) → Sj B u ((σ.set i (some (.ref q))).set j (some (.ref r))) H1 N P) :
    Sj B (tSeq (tPar i j (tCons ta (tCons (tLst tNil) tNil))) u) σ H N P := fun H1 e eb D kn kr => ha H1 e _ fun q H2 nq e2 hq => (el_nil (σ := σ) (H := H2)) H2 (Ex.refl _) _ fun r H3 nr e3 hr =>
  ⟨.ref q, .ref r, rfl, k q r H3 (fresh_back e nq) (fresh_back (e.trans e2) nr) (ne_of_none hq nr) ((e.trans e2).trans e3) (e3 _ _ hq) hr H3 (Ex.refl _) ((eb.trans e2).trans e3) D kn kr⟩
/-- answer = deed(desk, ..) -/
theorem sq_callM {args : List V → Hp → AuctionSpec.Call → Prop} {c : AuctionSpec.Call} {ws : List V} {t : TA} {E : XK} {i : Nat} (h : EvA t σ H (.ref G.p :: ws)) (hr : Rep K A g H G st) (ha : args ws H c)
    (k : ∀ v g' G' H2, Ex (un g H) H2 → (∀ a, un g H a ≠ none → g' a = .no) → G'.p = G.p → Rep K A g' H2 G' (AuctionSpec.step st c).1 → (∃ q, v = .ref q ∧ un g H q = none ∧ H2 q = some (.lst ((AuctionSpec.step st c).2.map V.int))) → Sj (fun _ => none) u (σ.set i (some v)) H2 N P) :
    Sj (fun _ => none) (tSeq (tAsg (tCall (spM K A args) [] E t) (gName i)) u) σ H N P := fun H1 e eb D kn kr => h H1 e _ fun H2 e2 => by
  have e02 := e.trans e2
  refine ⟨ws, g, G, st, H, c, by rw [List.append_nil], e02, hr, ha, fun v Hk H3 e3 ek ⟨g', G', h1, h2, h3, q, h4, h5, h6⟩ => ?_⟩
  have eu : Ex (un g H) (un g H2) := un_sub (un_ex.trans e02)
  refine k v g' G' H3 (eu.trans e3) (fun a ha => h1 a ?_) h2 (h3.up ek) ⟨q, h4, fresh_back eu h5, ek _ _ h6⟩ H3 (Ex.refl _) (fun _ _ h => by cases h) D kn kr
  cases hx : un g H a with
  | none => exact absurd hx ha
  | some o => rw [eu a o hx]; simp
/-- the calls' list stands: as it was laid, or a constant -/
def Cal (K : PySem.W.Frag) (g : Tg) (H : Hp) (a : Addr) (xs : List V) (bad : List Addr) : Prop := (Rd H a (.lst xs) ∧ g a = .no ∧ ∀ b ∈ bad, a ≠ b) ∨ ∀ H', SqL K H' a xs
theorem Cal.sq {a : Addr} {xs : List V} {bad : List Addr} (h : Cal K g H a xs bad) : SqL K H a xs := by
  rcases h with h | h
  · exact .inl h.1
  · exact h H
theorem Cal.up {a : Addr} {xs : List V} {bad : List Addr} (h : Cal K g H a xs bad) (e : Ex H H') : Cal K g H' a xs bad := by
  rcases h with h | h
  · exact .inl ⟨ex_rd e h.1, h.2⟩
  · exact .inr h
theorem rd_some {a : Addr} {xs : List V} (h : Rd H a (.lst xs)) : H a ≠ none := by
  rcases h with h | ⟨o, h⟩ <;> rw [h] <;> simp
theorem Cal.more {a b : Addr} {xs : List V} {bad : List Addr} (h : Cal K g H a xs bad) (hb : H b = none) : Cal K g H a xs (b :: bad) := by
  rcases h with h | h
  · refine .inl ⟨h.1, h.2.1, fun x hx => ?_⟩
    rcases List.mem_cons.mp hx with hx | hx
    · rw [hx]
      intro z
      exact rd_some h.1 (by rw [z]; exact hb)
    · exact h.2.2 x hx
  · exact .inr h
theorem Cal.less {a : Addr} {xs : List V} {bad bad' : List Addr} (h : Cal K g H a xs bad) (hb : ∀ x ∈ bad', x ∈ bad) : Cal K g H a xs bad' := by
  rcases h with h | h
  · exact .inl ⟨h.1, h.2.1, fun x hx => h.2.2 x (hb x hx)⟩
  · exact .inr h
theorem Cal.upd {a b : Addr} {xs : List V} {bad : List Addr} {o : HO} (h : Cal K g H a xs bad) (hb : b ∈ bad) : Cal K g (upd H b o) a xs bad := by
  rcases h with h | h
  · refine .inl ⟨?_, h.2⟩
    have hne := h.2.2 b hb
    rcases h.1 with h | ⟨od, h⟩
    · exact .inl (by rw [upd_ne hne]; exact h)
    · exact .inr ⟨od, by rw [upd_ne hne]; exact h⟩
  · exact .inr h
theorem Cal.un {a : Addr} {xs : List V} {bad : List Addr} (h : Cal K g H a xs bad) (e : Ex (un g H) H') (hg : ∀ a, TB.un g H a ≠ none → g1 a = .no) : Cal K g1 H' a xs bad := by
  rcases h with h | h
  · have hu : ∀ o, H a = some o → TB.un g H a = some o := fun o ho => by
      unfold TB.un
      rw [if_pos h.2.1]
      exact ho
    refine .inl ⟨?_, hg a ?_, h.2.2⟩
    · rcases h.1 with h1 | ⟨od, h1⟩
      · exact .inl (e _ _ (hu _ h1))
      · exact .inr ⟨od, e _ _ (hu _ h1)⟩
    · have := rd_some h.1
      cases hx : H a with
      | none => exact absurd hx this
      | some o => rw [hu o hx]; simp
  · exact .inr h
theorem Cal.tag {a b : Addr} {xs : List V} {bad : List Addr} (h : Cal K g H a xs bad) : Cal K (tagAt g b .no) H a xs bad := by
  rcases h with h | h
  · refine .inl ⟨h.1, ?_, h.2.2⟩
    unfold tagAt
    split
    · rfl
    · exact h.2.1
  · exact .inr h
/-- a list that has no tag changes -/
theorem Rep.listUpd {b : Addr} {xs : List V} {o : HO} (h : Rep K A g H G st) (hb : H b = some (.lst xs)) (hg : g b = .no) : Rep K A g (upd H b o) G st := h.kp (kp_upd (Ex.refl _) (fun z => z hg) (rd_lst hb) fun _ _ => rfl)
theorem Rep.tag {b : Addr} (h : Rep K A g H G st) (hb : H b = none) : Rep K A (tagAt g b .no) H G st := h.kp (kp_ex (Ex.refl _) (tag_tagAt (fun _ _ => rfl) hb))
end
end TB
/-! # The answers: the walk -/
namespace TB
open PySem PySem.Spec PyProof.Rows L2 Evl
open TBM
open AuctionSpec (State)

def spAns (K : PySem.W.Frag) : Sp := fun vs H Q _ => ∃ (a : Addr) (ns : List Int), vs = [.ref a] ∧ SqL K H a (ns.map V.int) ∧ ns.length ≤ 7440 ∧ PyWrtbsa.answers_asked ns = true ∧
  ∀ (H' : Hp) (p : Addr), H' p = some (.lst ((PyWrtbsa.answers ns).map V.int)) → Q (.ref p) H'
theorem paired_upd {H : Hp} {ra : Addr} {o : HO} {rs : List Addr} {ys : List (List Int)} (h : Paired (fun r (x : List Int) => H r = some (.lst (x.map V.int))) rs ys) (hne : ∀ b ∈ rs, b ≠ ra) : Paired (fun r (x : List Int) => upd H ra o r = some (.lst (x.map V.int))) rs ys := by
  induction h with
  | nil => exact .nil
  | cons h _ ih => exact .cons (by rw [upd_ne (hne _ List.mem_cons_self)]; exact h) (ih fun b hb => hne b (List.mem_cons_of_mem _ hb))
theorem paired_ex {H H' : Hp} {rs : List Addr} {ys : List (List Int)} (e : Ex H H') (h : Paired (fun r (x : List Int) => H r = some (.lst (x.map V.int))) rs ys) : Paired (fun r (x : List Int) => H' r = some (.lst (x.map V.int))) rs ys := by
  induction h with
  | nil => exact .nil
  | cons h _ ih => exact .cons (e _ _ h) ih
theorem NewDesk.up {A : Adr} {p : Addr} {Ha Hb Hk H2 : Hp} (ea : Ex Ha Hb) (e : Ex Hk H2) (h : NewDesk A p Hb Hk) : NewDesk A p Ha H2 := by
  obtain ⟨b, ca, da, ba, xa, pa, h1, h2, h3, h4, h5, h6, h7, n1, n2, n3, n4, n5, n6, n7, n8, n9, n10, n11, n12, n13, n14, n15, n16, n17, n18, n19, n20, n21, f1, f2, f3, f4, f5, f6⟩ := h
  exact ⟨b, ca, da, ba, xa, pa, h1.up e, h2.up e, e _ _ h3, e _ _ h4, e _ _ h5, e _ _ h6, e _ _ h7, n1, n2, n3, n4, n5, n6, n7, n8, n9, n10, n11, n12, n13, n14, n15, n16, n17, n18, n19, n20, n21, fresh_back ea f1, fresh_back ea f2, fresh_back ea f3, fresh_back ea f4, fresh_back ea f5, fresh_back ea f6⟩
theorem lists_le {op k : Nat} (h : listsT[op]? = some ((k : Nat) : Int)) : k ≤ 3 := by
  have := List.mem_of_getElem? h
  simp [listsT] at this
  omega
section
variable {P : Program} {w : World} {K : PySem.W.Frag} {mg : Str → Option Value} {base : Heap} {A : Adr}
/-- between two calls -/
def WO (K : PySem.W.Frag) (A : Adr) (a p f : Addr) (ns total : List Int) (m : Nat) (σ : L2.St) (Hk : Hp) : Prop :=
  ∃ (i : Nat) (acc : List Int) (rest : List (List (List Int))) (fuel : Nat) (g : Tg) (G : DeskG) (st : State) (o4 o5 o6 o7 : Option V), σ = [some (.ref a), some (.ref p), some (.ref f), some (nV i), o4, o5, o6, o7] ∧ m = rest.length ∧
    PyFlat.calls PyWrtbsa.shape fuel (ns.drop i) = some rest ∧ (∀ c ∈ rest, AuctionNeutral.asked1 c = true) ∧ G.p = p ∧ Rep K A g Hk G st ∧ Cal K g Hk a (ns.map V.int) [f] ∧ Hk f = some (.lst (acc.map V.int)) ∧ g f = .no ∧
    total = acc ++ PyFlat.told (PyFlat.played AuctionNeutral.step st rest)
/-- a def that is called from outside: one function, whatever lies below -/
theorem fokA {x : Str} {st : Stmt} {N ps : List Str} {k : Nat} {sp : Sp} (M : FnAt K mg x st) (S : FnScope N ps (defScope st)) (len : ∀ vs H Q E, sp vs H Q E → vs.length = ps.length)
    (bind : ∀ (kV doc pm : Value) (an : Option Addr) (cdv ct : Value) (us : List Value), us.length = ps.length → bindArgs (PySem.W.fnOf x x (defArgs st) (defBody st) (defScope st) .none kV doc pm an cdv ct) ⟨us, []⟩ = pure (ps.zip us))
    (hbody : ∀ (base : Heap) (f : Addr) (cdv : Value) (A : Around) (outer : List Env) (s : Shared) (H : Hp) (vs : List V) (Q : VK) (E : XK), Room k (A.deeper (envOfC x (defScope st) s.heap.objs.size f cdv)) → sp vs H Q E →
      ∃ t, PSs (cxOf CX0 P w K mg base N x (defScope st) f cdv A outer s H E).nox (defBody st) t ∧ t { nx := fun _ H' => Q .non H', rt := Q } (start N vs) H) :
    ∃ f fd, mg x = some (.ref f) ∧ (∀ (s : Shared) (us : List Value), us.length = ps.length → BindsTo s fd ⟨us, []⟩ (ps.zip us)) ∧ ∀ base : Heap, FnOk P w K mg base CX0 (k + 1) f fd ps sp := by
  obtain ⟨f, fd, F, hm⟩ := M
  refine ⟨f, fd, hm, fun s us hl => ?_, fun base => F.ok S len (hbody base f)⟩
  obtain ⟨oc, od, kV, doc, pm, an, cdv, ct, osl, rfl, lk, hcd⟩ := F.ex
  exact BindsTo.of_eq (bind kV doc pm an cdv ct us hl)
theorem sc_answers : FnScope ["calls", "desk", "found", "at", "operation", "numbers", "rows", "answer"] ["calls"] (defScope (top 49)) := ⟨rfl, rfl, rfl, by decide +kernel, rfl, by decide +kernel, by decide +kernel⟩
theorem ok_answers (T : Top K mg A) : ∃ f fd, mg "answers" = some (.ref f) ∧ (∀ (s : Shared) (us : List Value), us.length = (["calls"] : List Str).length → BindsTo s fd ⟨us, []⟩ ((["calls"] : List Str).zip us)) ∧ ∀ base : Heap, FnOk P w K mg base CX0 10 f fd ["calls"] (spAns K) := by
  refine fokA T.f_answers sc_answers (fun vs H Q E ⟨_, _, e, _⟩ => by rw [e]; rfl) (fun _ _ _ _ _ _ us hl => match us, hl with | [_], _ => rfl) fun base f cdv A' outer s' H vs Q E hr h => ⟨_, (pss_cons (ps_par3 (i := 1) (j := 2) (l := 3) (by rfl) sc_answers.nd rfl rfl rfl (by decide) (by decide) (by decide) rfl rfl rfl (pa_cons (pe_new0 T.cDesk (ok_Desk_init T) (hr.mono (by decide)) rfl) (pa_cons (pe_lst pa_nil) (pa_cons pe_int pa_nil))) (by rfl))
      (pss_cons (ps_while PassesOwn.never (pt_cmpR op_lt (pv 3) (pe_callB cr_lenS (by rfl) T.b_len boot_len (pa_cons (pv 0) pa_nil)) (nomark _)) (pss_cons (ps_set (i := 4) sc_answers.nd rfl (by first | exact Or.inl rfl | exact Or.inr rfl) (pe_ix ix_list (pv 0) (pv 3) (fun _ _ => rfl)))
      (pss_cons (ps_par (i := 5) (j := 6) (by rfl) sc_answers.nd rfl rfl (by decide) rfl rfl (pa_cons (pe_slice sl_list (pv 0) (po_some (pe_op op_add (pv 3) pe_int)) (po_some (pe_op op_add (pe_op op_add (pv 3) pe_int) (pe_ix ix_tup (pe_t rfl T.t_NUMBERS) (pv 4) (fun _ _ => rfl))))) (pa_cons (pe_lst pa_nil) pa_nil)) (by rfl))
      (pss_cons (ps_set (i := 3) sc_answers.nd rfl (by first | exact Or.inl rfl | exact Or.inr rfl) (pe_op op_add (pe_op op_add (pv 3) pe_int) (pe_ix ix_tup (pe_t rfl T.t_NUMBERS) (pv 4) (fun _ _ => rfl))))
      (pss_cons (ps_while PassesOwn.never (pt_cmpR op_lt (pe_callB cr_lenS (by rfl) T.b_len boot_len (pa_cons (pv 6) pa_nil)) (pe_ix ix_tup (pe_t rfl T.t_LISTS) (pv 4) (fun _ _ => rfl)) (nomark _)) (pss_cons (ps_expr (pe_bm PySem.F.plainAttrs_list PySem.F.slot_list_append PySem.F.type_list_append mt_append (pv 6) (pa_cons (pe_slice sl_list (pv 0) (po_some (pe_op op_add (pv 3) pe_int)) (po_some (pe_op op_add (pe_op op_add (pv 3) pe_int) (pe_ix ix_list (pv 0) (pv 3) (fun _ _ => rfl))))) pa_nil)))
      (pss_one (ps_set (i := 3) sc_answers.nd rfl (by first | exact Or.inl rfl | exact Or.inr rfl) (pe_op op_add (pe_op op_add (pv 3) pe_int) (pe_ix ix_list (pv 0) (pv 3) (fun _ _ => rfl)))))))
      (pss_cons (ps_if (pt_cmpR op_le (pv 4) pe_int (nomark _)) (pss_one (ps_set (i := 7) sc_answers.nd rfl (by first | exact Or.inl rfl | exact Or.inr rfl) (pe_f (ok_sale_deed T) (hr.mono (by decide)) rfl (pa_cons (pv 1) (pa_cons (pv 4) (pa_cons (pv 5) (pa_cons (pv 6) pa_nil))))))) (pss_one (ps_set (i := 7) sc_answers.nd rfl (by first | exact Or.inl rfl | exact Or.inr rfl) (pe_f (ok_contract_deed T) (hr.mono (by decide)) rfl (pa_cons (pv 1) (pa_cons (pv 4) (pa_cons (pv 5) pa_nil)))))))
      (pss_cons (ps_expr (pe_bm PySem.F.plainAttrs_list PySem.F.slot_list_append PySem.F.type_list_append mt_append (pv 2) (pa_cons (pe_callB cr_lenS (by rfl) T.b_len boot_len (pa_cons (pv 7) pa_nil)) pa_nil)))
      (pss_one (ps_expr (pe_bm PySem.F.plainAttrs_list PySem.F.slot_list_extend PySem.F.type_list_extend mt_extend (pv 2) (pa_cons (pv 7) pa_nil)))))))))))
      (pss_one (ps_ret (pv 2))))), ?_⟩
  obtain ⟨a, ns, rfl, hs, hlen, hasked, q⟩ := h
  suffices hsj : Sj (fun _ => none) _ (L2.start _ _) H (fun _ _ => False) (fun v Hk => ∃ p, v = .ref p ∧ Hk p = some (.lst ((PyWrtbsa.answers ns).map V.int))) from
    hsj H (Ex.refl H) (fun _ _ h => by cases h) _ (fun _ _ _ _ _ z => z.elim) fun v Hk H2 ek _ ⟨p, ev, hp⟩ => by subst ev; exact q H2 p (ek _ _ hp)
  clear q
  unfold PyWrtbsa.answers_asked at hasked
  cases hraw : PyFlat.calls PyWrtbsa.shape ns.length ns with
  | none => rw [hraw] at hasked; simp at hasked
  | some raw =>
  rw [hraw] at hasked
  simp only [Bool.and_eq_true] at hasked
  obtain ⟨⟨⟨⟨_, _⟩, _⟩, hask⟩, hshort⟩ := hasked
  rw [whole_map] at hask
  have hall : ∀ c ∈ raw, AuctionNeutral.asked1 c = true := by
    unfold AuctionNeutral.asked at hask
    simp only [Bool.and_eq_true] at hask
    exact List.all_eq_true.mp hask.2.1
  have hans : PyWrtbsa.answers ns = PyFlat.told (PyFlat.played AuctionNeutral.step AuctionNeutral.start raw) := by
    unfold PyWrtbsa.answers PyWrtbsa.calls
    rw [hraw]
    simp only
    rw [whole_map]
  have htl : (PyWrtbsa.answers ns).length ≤ 10000000 := of_decide_eq_true hshort
  generalize PyWrtbsa.answers ns = total at *
  refine sq_par3 (R := fun v H1 H2 => ∃ p, v = .ref p ∧ H1 p = none ∧ NewDesk A p H1 H2) (evn_new an_nil fun vs H1 H2 e1 e12 ev => ?_) fun v fa H1 H2 H3 e1 e12 e23 ⟨p, ev, np, hN⟩ nf hf => ?_
  · subst ev
    exact ⟨_, ⟨rfl, rfl⟩, fun p H3 H4 hp hN e24 e34 => ⟨p, rfl, fresh_back e12 hp, hN.up e12 e34⟩⟩
  subst ev
  obtain ⟨g0, G0, hGp, hRep, hg0⟩ := newDesk_rep (K := K) hN np
  have hcal0 : Cal K (tagAt g0 fa .no) H3 a (ns.map V.int) [fa] := by
    rcases hs with hs | hs
    · have h1 : Rd H1 a (.lst (ns.map V.int)) := ex_rd e1 hs
      have h2 : Rd H2 a (.lst (ns.map V.int)) := ex_rd e12 h1
      have hne : a ≠ fa := fun z => rd_some h2 (by rw [z]; exact nf)
      refine .inl ⟨ex_rd e23 h2, ?_, fun b hb => by rw [List.mem_singleton.mp hb]; exact hne⟩
      rw [tagAt_ne hne]
      exact hg0 a (rd_some h1)
    · exact .inr fun H' => .inr hs
  refine sq_while (WO K A a p fa ns total) raw.length ⟨0, [], raw, ns.length, tagAt g0 fa .no, G0, AuctionSpec.start, none, none, none, none, rfl, rfl, by rw [List.drop_zero]; exact hraw, hall, hGp, (hRep.tag nf).up e23, hcal0, hf, tagAt_same, by rw [List.nil_append]; exact hans⟩ ?_
  clear hN np nf hf hcal0 hRep hg0 hGp hans hraw hall hask hshort hs e1 e12 e23
  rintro m σ' Hk ⟨i, acc, rest, fuel, g, G, st, o4, o5, o6, o7, rfl, rfl, hcalls, hask, hGp, hR, hcal, hf, hgf, htot⟩
  refine ⟨decide (i < ns.length), et_test ((ev_I0 (i := (i : Int)) (j := ((ns.length : Nat) : Int)) (ev_var rfl) ((ev_len (ev_var rfl) hcal.sq).to (by rw [List.length_map]))).to (congrArg V.bl (decide_eq_decide.mpr (by omega)))), fun hb => ?_, fun hb => ?_⟩
  · have hi : i < ns.length := of_decide_eq_true hb
    cases hd : ns.drop i with
    | nil =>
      have := congrArg List.length hd
      rw [List.length_drop, List.length_nil] at this
      omega
    | cons pp r =>
    rw [hd] at hcalls
    obtain ⟨f', n, k, xs, t, cs', hsh, hn, hrows, hcs, rfl⟩ := calls_inv hcalls
    obtain ⟨op, rfl, hop, htn, htl2⟩ := shape_at hsh
    obtain ⟨hi1, hi2, hi3, hi4⟩ := drop_cons hd
    subst hGp
    refine sq_asg (v := nV op) (ev_ixS (n := i) (ev_var rfl) (ev_var rfl) hcal.sq (by rw [List.getElem?_map, hi2]; rfl)) ?_
    have hlo : ∀ {σ : L2.St} {H : Hp} {j : Nat}, σ[3]? = some (some (nV j)) → Ev (tOp (rI0 fun i j => .int (i + j)) (tVar 3) (tC (.int 1))) σ H (.int ((j + 1 : Nat) : Int)) := fun {σ H j} h => (ev_I0 (i := (j : Int)) (j := 1) (ev_var h) ev_c).to rfl
    have hhi : ∀ {σ : L2.St} {H : Hp}, σ[3]? = some (some (nV i)) → σ[4]? = some (some (nV op)) → Ev (tOp (rI0 fun i j => .int (i + j)) (tOp (rI0 fun i j => .int (i + j)) (tVar 3) (tC (.int 1))) (tOp (rIxT K) (tTop K mg "NUMBERS" numsT) (tVar 4))) σ H (.int ((i + 1 + n : Nat) : Int)) := fun {σ H} h h' =>
      (ev_I0 (i := ((i + 1 : Nat) : Int)) (j := (n : Int)) (hlo h) (ev_tab htn (ev_var h'))).to rfl
    refine sq_parL (xs := (r.take n).map V.int) (EvL.to (el_sl (lo := some ((i + 1 : Nat) : Int)) (hi := some ((i + 1 + n : Nat) : Int)) (ev_var rfl) (eo_some (hlo rfl)) (eo_some (hhi rfl rfl)) hcal.sq) ?_) fun na ra H1 nna nra hnr e1 hna hra => ?_
    · have h0 := hi3 0
      rw [Nat.add_zero, List.drop_zero] at h0
      rw [cut_mid (by omega), h0]
    refine sq_asg (v := nV (i + 1 + n)) (hhi rfl rfl) ?_
    refine sq_while (fun m σ' Hk => ∃ (j : Nat) (rs : List Addr) (ys xs' : List (List Int)), σ' = [some (.ref a), some (.ref G.p), some (.ref fa), some (nV j), some (nV op), some (.ref na), some (.ref ra), o7] ∧ rs.length + m = k ∧ PyFlat.rows m (ns.drop j) = some (xs', t) ∧ ys ++ xs' = xs ∧
        rowsAt Hk ra rs ys ∧ Rep K A (tagAt g ra .no) Hk G st ∧ Cal K (tagAt g ra .no) Hk a (ns.map V.int) [ra, fa] ∧ Hk na = some (.lst ((r.take n).map V.int)) ∧ Hk fa = some (.lst (acc.map V.int)) ∧ ∀ b ∈ rs, b ≠ ra) k
      ⟨i + 1 + n, [], [], xs, rfl, by simp, by rw [hi3]; exact hrows, rfl, ⟨hra, .nil⟩, (hR.tag nra).up e1, ((hcal.more nra).tag).up e1, hna, e1 _ _ hf, fun b hb => absurd hb (by simp)⟩ ?_
    have hraf : ra ≠ fa := (ne_of_none hf nra).symm
    rintro m σ' Hk2 ⟨j, rs, ys, xs', rfl, hm, hrw, hys, ⟨hra2, hpr⟩, hR2, hcal2, hna2, hf2, hne⟩
    refine ⟨decide (rs.length < k), et_test ((ev_I0 (i := ((rs.length : Nat) : Int)) (j := (k : Int)) ((ev_lenL (ev_var rfl) hra2).to (by rw [List.length_map])) (ev_tab htl2 (ev_var rfl))).to (congrArg V.bl (decide_eq_decide.mpr (by omega)))), fun hb => ?_, fun hb => ?_⟩
    · have hlt : rs.length < k := of_decide_eq_true hb
      cases m with
      | zero => omega
      | succ m =>
      obtain ⟨z, r2, xs2, hd2, hz0, hz1, hrw2, rfl⟩ := rows_inv hrw
      obtain ⟨z', rfl⟩ := Int.eq_ofNat_of_zero_le hz0
      rw [Int.toNat_natCast] at hz1 hrw2
      obtain ⟨hj1, hj2, hj3, hj4⟩ := drop_cons hd2
      have hk3 := lists_le htl2
      have hix : ∀ {σ : L2.St} {H : Hp}, σ[0]? = some (some (.ref a)) → σ[3]? = some (some (nV j)) → Cal K (tagAt g ra .no) H a (ns.map V.int) [ra, fa] → Ev (tOp (rI0 fun i j => .int (i + j)) (tOp (rI0 fun i j => .int (i + j)) (tVar 3) (tC (.int 1))) (tOp (rIxL K) (tVar 0) (tVar 3))) σ H (.int ((j + 1 + z' : Nat) : Int)) := fun {σ H} h h' hc =>
        (ev_I0 (i := ((j + 1 : Nat) : Int)) (j := (z' : Int)) (hlo h') (ev_ixS (n := j) (ev_var h) (ev_var h') hc.sq (by rw [List.getElem?_map, hj2]; rfl))).to rfl
      refine sq_appN (R := isLF ((r2.take z').map V.int)) hra2 rfl (ev_var rfl) (EvL.n (EvL.to (el_sl (lo := some ((j + 1 : Nat) : Int)) (hi := some ((j + 1 + z' : Nat) : Int)) (ev_var rfl) (eo_some (hlo rfl)) (eo_some (hix rfl rfl hcal2)) hcal2.sq) ?_)) (by rw [List.length_map]; omega) fun v H3 H4 e3 _ e34 ⟨q, ev, hq, nq⟩ => ?_
      · have h0 := hj3 0
        rw [Nat.add_zero, List.drop_zero] at h0
        rw [cut_mid (by omega), h0]
      subst ev
      have e24 := e3.trans e34
      have hqra : q ≠ ra := (ne_of_none (e3 _ _ hra2) nq).symm
      have hqfa : q ≠ fa := (ne_of_none (e3 _ _ hf2) nq).symm
      have hnara : na ≠ ra := hnr
      have hcal4 := (hcal2.up e24).upd (b := ra) (o := .lst (rs.map V.ref ++ [.ref q])) List.mem_cons_self
      refine Sj.last (sq_asg (v := nV (j + 1 + z')) (hix rfl rfl hcal4) (sj_next ⟨m, Nat.lt_succ_self m, j + 1 + z', rs ++ [q], ys ++ [r2.take z'], xs2, rfl, by rw [List.length_append, List.length_singleton]; omega, by rw [hj3]; exact hrw2, by rw [List.append_assoc, ← hys, Int.toNat_natCast]; rfl, ⟨?_, ?_⟩, ?_, hcal4, ?_, ?_, ?_⟩))
      · rw [upd_same, List.map_append]
        rfl
      · exact paired_snoc (paired_upd (paired_ex e24 hpr) hne) (by rw [upd_ne hqra]; exact hq)
      · exact (hR2.up e24).listUpd (e24 _ _ hra2) tagAt_same
      · rw [upd_ne hnara]
        exact e24 _ _ hna2
      · rw [upd_ne hraf.symm]
        exact e24 _ _ hf2
      · intro b hb
        rcases List.mem_append.mp hb with hb | hb
        · exact hne b hb
        · rw [List.mem_singleton.mp hb]
          exact hqra
    · have hlt : ¬ rs.length < k := of_decide_eq_false hb
      have hm0 : m = 0 := by omega
      subst hm0
      obtain ⟨h1, h2⟩ := rows_zero hrw
      subst h1 h2
      rw [List.append_nil] at hys
      subst hys
      obtain ⟨op', kc, ep, hoper, hside⟩ := deed_args (hask _ List.mem_cons_self) hna2 ⟨hra2, hpr⟩
      have : op' = op := by omega
      subst this
      have hstepN : AuctionNeutral.step st (((op' : Int) :: r.take n) :: ys) = ((AuctionSpec.step st kc).1, (AuctionSpec.step st kc).2) := by
        unfold AuctionNeutral.step AuctionNeutral.resultValues
        rw [hoper]
      have hplay : total = acc ++ (((AuctionSpec.step st kc).2.length : Int) :: (AuctionSpec.step st kc).2 ++ PyFlat.told (PyFlat.played AuctionNeutral.step (AuctionSpec.step st kc).1 cs')) := by
        have hpl : PyFlat.played AuctionNeutral.step st ((((op' : Int) :: r.take n) :: ys) :: cs') = (AuctionSpec.step st kc).2 :: PyFlat.played AuctionNeutral.step (AuctionSpec.step st kc).1 cs' := by
          conv => lhs; unfold PyFlat.played
          rw [hstepN]
        rw [htot, hpl]
        congr 1
      generalize hsr : AuctionSpec.step st kc = sr at *
      have htlen := congrArg List.length hplay
      simp only [List.length_append, List.length_cons] at htlen
      have hg1f : tagAt g ra .no fa = .no := by
        unfold tagAt
        split
        · rfl
        · exact hgf
      have hunf : un (tagAt g ra .no) Hk2 fa = some (.lst (acc.map V.int)) := by
        unfold un
        rw [if_pos hg1f]
        exact hf2
      -- what comes behind the deed
      have fin : ∀ v g' G' H5, Ex (un (tagAt g ra .no) Hk2) H5 → (∀ x, un (tagAt g ra .no) Hk2 x ≠ none → g' x = .no) → G'.p = G.p → Rep K A g' H5 G' sr.1 → (∃ q, v = V.ref q ∧ un (tagAt g ra .no) Hk2 q = none ∧ H5 q = some (.lst (sr.2.map V.int))) →
          Sj (fun _ => none) (tSeq (tDrop (tBM K "list" rAppend (tVar 2) (tCons (tCB (rLenS K) (tCons (tVar 7) tNil)) tNil))) (tSeq (tDrop (tBM K "list" rExtend (tVar 2) (tCons (tVar 7) tNil))) tNext)) [some (.ref a), some (.ref G.p), some (.ref fa), some (nV j), some (nV op'), some (.ref na), some (.ref ra), some v] H5
            (fun σ2 Hk2 => ∃ m', m' < (((((op' : Int) :: r.take n) :: ys) :: cs').length) ∧ WO K A a G.p fa ns total m' σ2 Hk2) (fun v Hk => ∃ p, v = V.ref p ∧ Hk p = some (.lst (total.map V.int))) := by
        rintro v g' G' H5 eu hg' hp' hR5 ⟨q2, rfl, uq, hq2⟩
        have hf5 : H5 fa = some (.lst (acc.map V.int)) := eu _ _ hunf
        have hq2f : q2 ≠ fa := fun z => by rw [z, hunf] at uq; cases uq
        have hgf' : g' fa = .no := hg' fa (by rw [hunf]; simp)
        have hcal5 := hcal2.un eu hg'
        refine sq_app hf5 rfl (ev_var rfl) (v := nV sr.2.length) ((ev_lenL (ev_var rfl) hq2).to (by rw [List.length_map]; rfl)) (by rw [List.length_map]; omega) ?_
        have hq6 : upd H5 fa (.lst (acc.map V.int ++ [nV sr.2.length])) q2 = some (.lst (sr.2.map V.int)) := by rw [upd_ne hq2f]; exact hq2
        refine sq_extP (xs := acc.map V.int ++ [nV sr.2.length]) (R := fun zs _ => zs = sr.2.map V.int) upd_same rfl (ev_var rfl) (Ev.pp (v := .ref q2) (ev_var rfl) fun H8 e8 => ⟨q2, _, rfl, e8 _ _ hq6, rfl⟩) (fun zs H8 hz => by rw [hz, List.length_append, List.length_map, List.length_map, List.length_singleton]; omega) fun zs H7 e7 hz => ?_
        subst hz
        have hf7 := e7 _ _ upd_same
        refine sj_next ⟨cs'.length, by rw [List.length_cons]; omega, j, acc ++ (sr.2.length : Int) :: sr.2, cs', f', g', G', sr.1, _, _, _, _, rfl, rfl, hcs, fun c hc => hask c (List.mem_cons_of_mem _ hc), hp', ?_, ?_, ?_, hgf', ?_⟩
        · exact ((hR5.listUpd hf5 hgf').up e7).listUpd hf7 hgf'
        · refine Cal.upd ((Cal.upd (Cal.less (bad' := [fa]) hcal5 fun x hx => ?_) List.mem_cons_self).up e7) List.mem_cons_self
          rw [List.mem_singleton.mp hx]
          simp
        · rw [upd_same, List.append_assoc]
          show some (HO.lst (acc.map V.int ++ (nV sr.2.length :: sr.2.map V.int))) = _
          rw [List.map_append, List.map_cons]
          rfl
        · rw [hplay, List.append_assoc]
      refine sq_if (b := decide (op' ≤ 10)) (et_test ((ev_I0 (i := (op' : Int)) (j := 10) (ev_var rfl) ev_c).to (congrArg V.bl (decide_eq_decide.mpr (by omega))))) (fun h10 => ?_) (fun h10 => ?_)
      · have h10 : op' ≤ 10 := of_decide_eq_true h10
        have hS : SaleArgs Hk2 na ra op' kc := by
          rcases hside with h | h
          · exact h.2
          · omega
        refine sq_callM (ws := [nV op', .ref na, .ref ra]) (c := kc) (ea_cons (ev_var rfl) (ea_cons (ev_var rfl) (ea_cons (ev_var rfl) (ea_cons (ev_var rfl) ea_nil)))) hR2 ⟨op', na, ra, rfl, hS⟩ ?_
        rw [hsr]
        exact fin
      · have h10 : ¬ op' ≤ 10 := of_decide_eq_false h10
        have hS : ConArgs Hk2 na op' kc := by
          rcases hside with h | h
          · omega
          · exact h.2.2
        refine sq_callM (ws := [nV op', .ref na]) (c := kc) (ea_cons (ev_var rfl) (ea_cons (ev_var rfl) (ea_cons (ev_var rfl) ea_nil))) hR2 ⟨op', na, rfl, hS⟩ ?_
        rw [hsr]
        exact fin
  · have hi : ¬ i < ns.length := of_decide_eq_false hb
    rw [List.drop_eq_nil_of_le (by omega)] at hcalls
    have := calls_nil hcalls
    subst this
    refine sj_ret (ev_var rfl) ⟨fa, rfl, ?_⟩
    rw [hf, htot]
    congr 3
    exact (List.append_nil acc).symm
theorem fin {h : Heap} {fa : Addr} (X : K.In h) (G : h.Ns mainGlobals mg) (hfa : mg "answers" = some (.ref fa)) (T : Top K mg A) :
    ∃ fd : FuncData, (∀ (s : Shared) (us : List Value), us.length = (["calls"] : List Str).length → BindsTo s fd ⟨us, []⟩ ((["calls"] : List Str).zip us)) ∧ ∀ base : Heap, K.In base → base.Ns mainGlobals mg → FnOk P w K mg base CX0 10 fa fd ["calls"] (spAns K) := by
  obtain ⟨f, fd, h1, h2, h3⟩ := ok_answers (P := P) (w := w) T
  rw [hfa] at h1
  have e : fa = f := Value.ref.inj (Option.some.inj h1)
  subst e
  exact ⟨fd, h2, fun base _ _ => h3 base⟩
end
end TB
open PySem PySem.W PyProof.Rows
set_option maxHeartbeats 16000000 in
theorem PySem.Challenge.cw_timberbids_s01_answers_holds : PySem.Challenge.rw_timberbids_s01_answers.Holds := by
  w_on; k_headS; (case hw => exact ⟨[.list [.int 6]], by decide +kernel, by decide +kernel⟩)
  k_fillS
  refine L2.walk_specK (r := PySem.Challenge.rw_timberbids_s01_answers) (k := 10) (CX := L2.CX0) (ps := ["calls"]) (sp := TB.spAns) (by decide +kernel) rfl rfl ⟨rfl, by decide, by decide⟩ (fun w h Y => PySem.W.kIn_of Y) ?F ?S (fun _ _ _ _ z => z)
  case F =>
    intro w mg fa h Y KX G hmg
    refine' TB.fin KX G hmg (TB.top_mk ?cContract ?nContract_volumes ?nContract_prices ?nContract_bidders ?nContract_value ?nContract_day ?nContract_advance ?nContract_factor ?nContract_is_closed ?mContract_init ?mContract_estimate ?cDelivery ?nDelivery_contract ?nDelivery_day ?nDelivery_grade ?nDelivery_volume ?mDelivery_init ?cBill ?nBill_contract ?nBill_day ?nBill_amounts ?mBill_init ?cBooks ?nBooks_contracts ?nBooks_deliveries ?nBooks_bills ?nBooks_indexes ?nBooks_paid ?mBooks_init ?mBooks_index_of ?mBooks_deliveries_of ?mBooks_delivered ?mBooks_due ?mBooks_parts ?mBooks_bills_of ?mBooks_billed ?mBooks_new_amounts ?mBooks_balance ?mBooks_shortfall ?cLot ?nLot_reserve ?nLot_volumes ?mLot_init ?cBid ?nBid_lots ?nBid_prices ?nBid_bidders ?nBid_is_withdrawn ?mBid_init ?cSale ?nSale_closing_day ?nSale_rule ?nSale_advance ?nSale_lots ?nSale_bids ?nSale_limits ?mSale_init ?mSale_volumes_of ?mSale_value_of ?mSale_reserve_of ?mSale_is_admissible ?mSale_total ?mSale_double_lot ?mSale_busy_bidder ?mSale_bidders_of ?mSale_judged ?mSale_fits ?mSale_longer ?mSale_selections ?mSale_best ?mSale_threshold ?cDesk ?nDesk_day ?nDesk_sale ?nDesk_books ?mDesk_init ?mDesk_is_sealed ?mDesk_is_bid ?mDesk_is_contract ?mDesk_set_day ?mDesk_open_sale ?mDesk_add_lot ?mDesk_set_limit ?mDesk_place_bid ?mDesk_withdraw_bid ?mDesk_list_bids ?mDesk_check_selection ?mDesk_best_selection ?mDesk_threshold ?mDesk_award ?mDesk_get_contract ?mDesk_set_index ?mDesk_record_delivery ?mDesk_correct_delivery ?mDesk_close_contract ?mDesk_contract_value ?mDesk_create_bill ?mDesk_list_bills ?mDesk_record_payment ?mDesk_balance ?mDesk_shortfall ?f_common_of ?f_fraction ?f_plus ?f_times ?f_greater_of ?f_rounded ?f_contract_of ?f_filled ?f_are_grades ?f_are_bidders ?f_has_twice ?f_sale_deed ?f_contract_deed ?f_answers ?k_PLAIN_INDEX ?k_MOST_LIMIT_sales ?k_BIDDERS ?k_GRADES ?k_OUT ?k_MISSING ?k_DONE ?k_NOT_POSSIBLE ?k_FULL ?k_MOST_DAY ?k_MOST_AMOUNT ?k_MOST_VOLUME ?k_MOST_LOTS ?k_MOST_BIDS ?k_MOST_LIMIT_desk ?k_MOST_WEIGHT ?k_MOST_CONTRACTS ?k_MOST_INDEX ?k_MOST_INDEXES ?k_MOST_DELIVERIES ?k_MOST_BILLS ?b_len ?b_sum ?b_max ?b_min ?b_sorted ?b_set ?b_list ?b_int ?b_zip ?b_enumerate ?b_range ?t_NOUGHT ?t_NUMBERS ?t_LISTS)
    (case cContract => refine' TB.ClsAt.of KX G ?a ?pg ?hd ?po ?sa ?mk ?kc; (case a => k_is); (case pg => k_is); (case hd => k_is); (case po => k_is); (case sa => k_is); (case mk => k_is); (case kc => k_is))
    (case nContract_volumes => refine TB.NoAttr.of ?_; k_is)
    (case nContract_prices => refine TB.NoAttr.of ?_; k_is)
    (case nContract_bidders => refine TB.NoAttr.of ?_; k_is)
    (case nContract_value => refine TB.NoAttr.of ?_; k_is)
    (case nContract_day => refine TB.NoAttr.of ?_; k_is)
    (case nContract_advance => refine TB.NoAttr.of ?_; k_is)
    (case nContract_factor => refine TB.NoAttr.of ?_; k_is)
    (case nContract_is_closed => refine TB.NoAttr.of ?_; k_is)
    (case mContract_init => refine' TB.MethAt.of ?a ?i ?l ?c ?k; (case a => k_is); (case i => k_is); (case l => k_is); (case c => k_is); (case k => k_is))
    (case mContract_estimate => refine' TB.MethAt.of ?a ?i ?l ?c ?k; (case a => k_is); (case i => k_is); (case l => k_is); (case c => k_is); (case k => k_is))
    (case cDelivery => refine' TB.ClsAt.of KX G ?a ?pg ?hd ?po ?sa ?mk ?kc; (case a => k_is); (case pg => k_is); (case hd => k_is); (case po => k_is); (case sa => k_is); (case mk => k_is); (case kc => k_is))
    (case nDelivery_contract => refine TB.NoAttr.of ?_; k_is)
    (case nDelivery_day => refine TB.NoAttr.of ?_; k_is)
    (case nDelivery_grade => refine TB.NoAttr.of ?_; k_is)
    (case nDelivery_volume => refine TB.NoAttr.of ?_; k_is)
    (case mDelivery_init => refine' TB.MethAt.of ?a ?i ?l ?c ?k; (case a => k_is); (case i => k_is); (case l => k_is); (case c => k_is); (case k => k_is))
    (case cBill => refine' TB.ClsAt.of KX G ?a ?pg ?hd ?po ?sa ?mk ?kc; (case a => k_is); (case pg => k_is); (case hd => k_is); (case po => k_is); (case sa => k_is); (case mk => k_is); (case kc => k_is))
    (case nBill_contract => refine TB.NoAttr.of ?_; k_is)
    (case nBill_day => refine TB.NoAttr.of ?_; k_is)
    (case nBill_amounts => refine TB.NoAttr.of ?_; k_is)
    (case mBill_init => refine' TB.MethAt.of ?a ?i ?l ?c ?k; (case a => k_is); (case i => k_is); (case l => k_is); (case c => k_is); (case k => k_is))
    (case cBooks => refine' TB.ClsAt.of KX G ?a ?pg ?hd ?po ?sa ?mk ?kc; (case a => k_is); (case pg => k_is); (case hd => k_is); (case po => k_is); (case sa => k_is); (case mk => k_is); (case kc => k_is))
    (case nBooks_contracts => refine TB.NoAttr.of ?_; k_is)
    (case nBooks_deliveries => refine TB.NoAttr.of ?_; k_is)
    (case nBooks_bills => refine TB.NoAttr.of ?_; k_is)
    (case nBooks_indexes => refine TB.NoAttr.of ?_; k_is)
    (case nBooks_paid => refine TB.NoAttr.of ?_; k_is)
    (case mBooks_init => refine' TB.MethAt.of ?a ?i ?l ?c ?k; (case a => k_is); (case i => k_is); (case l => k_is); (case c => k_is); (case k => k_is))
    (case mBooks_index_of => refine' TB.MethAt.of ?a ?i ?l ?c ?k; (case a => k_is); (case i => k_is); (case l => k_is); (case c => k_is); (case k => k_is))
    (case mBooks_deliveries_of => refine' TB.MethAt.of ?a ?i ?l ?c ?k; (case a => k_is); (case i => k_is); (case l => k_is); (case c => k_is); (case k => k_is))
    (case mBooks_delivered => refine' TB.MethAt.of ?a ?i ?l ?c ?k; (case a => k_is); (case i => k_is); (case l => k_is); (case c => k_is); (case k => k_is))
    (case mBooks_due => refine' TB.MethAt.of ?a ?i ?l ?c ?k; (case a => k_is); (case i => k_is); (case l => k_is); (case c => k_is); (case k => k_is))
    (case mBooks_parts => refine' TB.MethAt.of ?a ?i ?l ?c ?k; (case a => k_is); (case i => k_is); (case l => k_is); (case c => k_is); (case k => k_is))
    (case mBooks_bills_of => refine' TB.MethAt.of ?a ?i ?l ?c ?k; (case a => k_is); (case i => k_is); (case l => k_is); (case c => k_is); (case k => k_is))
    (case mBooks_billed => refine' TB.MethAt.of ?a ?i ?l ?c ?k; (case a => k_is); (case i => k_is); (case l => k_is); (case c => k_is); (case k => k_is))
    (case mBooks_new_amounts => refine' TB.MethAt.of ?a ?i ?l ?c ?k; (case a => k_is); (case i => k_is); (case l => k_is); (case c => k_is); (case k => k_is))
    (case mBooks_balance => refine' TB.MethAt.of ?a ?i ?l ?c ?k; (case a => k_is); (case i => k_is); (case l => k_is); (case c => k_is); (case k => k_is))
    (case mBooks_shortfall => refine' TB.MethAt.of ?a ?i ?l ?c ?k; (case a => k_is); (case i => k_is); (case l => k_is); (case c => k_is); (case k => k_is))
    (case cLot => refine' TB.ClsAt.of KX G ?a ?pg ?hd ?po ?sa ?mk ?kc; (case a => k_is); (case pg => k_is); (case hd => k_is); (case po => k_is); (case sa => k_is); (case mk => k_is); (case kc => k_is))
    (case nLot_reserve => refine TB.NoAttr.of ?_; k_is)
    (case nLot_volumes => refine TB.NoAttr.of ?_; k_is)
    (case mLot_init => refine' TB.MethAt.of ?a ?i ?l ?c ?k; (case a => k_is); (case i => k_is); (case l => k_is); (case c => k_is); (case k => k_is))
    (case cBid => refine' TB.ClsAt.of KX G ?a ?pg ?hd ?po ?sa ?mk ?kc; (case a => k_is); (case pg => k_is); (case hd => k_is); (case po => k_is); (case sa => k_is); (case mk => k_is); (case kc => k_is))
    (case nBid_lots => refine TB.NoAttr.of ?_; k_is)
    (case nBid_prices => refine TB.NoAttr.of ?_; k_is)
    (case nBid_bidders => refine TB.NoAttr.of ?_; k_is)
    (case nBid_is_withdrawn => refine TB.NoAttr.of ?_; k_is)
    (case mBid_init => refine' TB.MethAt.of ?a ?i ?l ?c ?k; (case a => k_is); (case i => k_is); (case l => k_is); (case c => k_is); (case k => k_is))
    (case cSale => refine' TB.ClsAt.of KX G ?a ?pg ?hd ?po ?sa ?mk ?kc; (case a => k_is); (case pg => k_is); (case hd => k_is); (case po => k_is); (case sa => k_is); (case mk => k_is); (case kc => k_is))
    (case nSale_closing_day => refine TB.NoAttr.of ?_; k_is)
    (case nSale_rule => refine TB.NoAttr.of ?_; k_is)
    (case nSale_advance => refine TB.NoAttr.of ?_; k_is)
    (case nSale_lots => refine TB.NoAttr.of ?_; k_is)
    (case nSale_bids => refine TB.NoAttr.of ?_; k_is)
    (case nSale_limits => refine TB.NoAttr.of ?_; k_is)
    (case mSale_init => refine' TB.MethAt.of ?a ?i ?l ?c ?k; (case a => k_is); (case i => k_is); (case l => k_is); (case c => k_is); (case k => k_is))
    (case mSale_volumes_of => refine' TB.MethAt.of ?a ?i ?l ?c ?k; (case a => k_is); (case i => k_is); (case l => k_is); (case c => k_is); (case k => k_is))
    (case mSale_value_of => refine' TB.MethAt.of ?a ?i ?l ?c ?k; (case a => k_is); (case i => k_is); (case l => k_is); (case c => k_is); (case k => k_is))
    (case mSale_reserve_of => refine' TB.MethAt.of ?a ?i ?l ?c ?k; (case a => k_is); (case i => k_is); (case l => k_is); (case c => k_is); (case k => k_is))
    (case mSale_is_admissible => refine' TB.MethAt.of ?a ?i ?l ?c ?k; (case a => k_is); (case i => k_is); (case l => k_is); (case c => k_is); (case k => k_is))
    (case mSale_total => refine' TB.MethAt.of ?a ?i ?l ?c ?k; (case a => k_is); (case i => k_is); (case l => k_is); (case c => k_is); (case k => k_is))
    (case mSale_double_lot => refine' TB.MethAt.of ?a ?i ?l ?c ?k; (case a => k_is); (case i => k_is); (case l => k_is); (case c => k_is); (case k => k_is))
    (case mSale_busy_bidder => refine' TB.MethAt.of ?a ?i ?l ?c ?k; (case a => k_is); (case i => k_is); (case l => k_is); (case c => k_is); (case k => k_is))
    (case mSale_bidders_of => refine' TB.MethAt.of ?a ?i ?l ?c ?k; (case a => k_is); (case i => k_is); (case l => k_is); (case c => k_is); (case k => k_is))
    (case mSale_judged => refine' TB.MethAt.of ?a ?i ?l ?c ?k; (case a => k_is); (case i => k_is); (case l => k_is); (case c => k_is); (case k => k_is))
    (case mSale_fits => refine' TB.MethAt.of ?a ?i ?l ?c ?k; (case a => k_is); (case i => k_is); (case l => k_is); (case c => k_is); (case k => k_is))
    (case mSale_longer => refine' TB.MethAt.of ?a ?i ?l ?c ?k; (case a => k_is); (case i => k_is); (case l => k_is); (case c => k_is); (case k => k_is))
    (case mSale_selections => refine' TB.MethAt.of ?a ?i ?l ?c ?k; (case a => k_is); (case i => k_is); (case l => k_is); (case c => k_is); (case k => k_is))
    (case mSale_best => refine' TB.MethAt.of ?a ?i ?l ?c ?k; (case a => k_is); (case i => k_is); (case l => k_is); (case c => k_is); (case k => k_is))
    (case mSale_threshold => refine' TB.MethAt.of ?a ?i ?l ?c ?k; (case a => k_is); (case i => k_is); (case l => k_is); (case c => k_is); (case k => k_is))
    (case cDesk => refine' TB.ClsAt.of KX G ?a ?pg ?hd ?po ?sa ?mk ?kc; (case a => k_is); (case pg => k_is); (case hd => k_is); (case po => k_is); (case sa => k_is); (case mk => k_is); (case kc => k_is))
    (case nDesk_day => refine TB.NoAttr.of ?_; k_is)
    (case nDesk_sale => refine TB.NoAttr.of ?_; k_is)
    (case nDesk_books => refine TB.NoAttr.of ?_; k_is)
    (case mDesk_init => refine' TB.MethAt.of ?a ?i ?l ?c ?k; (case a => k_is); (case i => k_is); (case l => k_is); (case c => k_is); (case k => k_is))
    (case mDesk_is_sealed => refine' TB.MethAt.of ?a ?i ?l ?c ?k; (case a => k_is); (case i => k_is); (case l => k_is); (case c => k_is); (case k => k_is))
    (case mDesk_is_bid => refine' TB.MethAt.of ?a ?i ?l ?c ?k; (case a => k_is); (case i => k_is); (case l => k_is); (case c => k_is); (case k => k_is))
    (case mDesk_is_contract => refine' TB.MethAt.of ?a ?i ?l ?c ?k; (case a => k_is); (case i => k_is); (case l => k_is); (case c => k_is); (case k => k_is))
    (case mDesk_set_day => refine' TB.MethAt.of ?a ?i ?l ?c ?k; (case a => k_is); (case i => k_is); (case l => k_is); (case c => k_is); (case k => k_is))
    (case mDesk_open_sale => refine' TB.MethAt.of ?a ?i ?l ?c ?k; (case a => k_is); (case i => k_is); (case l => k_is); (case c => k_is); (case k => k_is))
    (case mDesk_add_lot => refine' TB.MethAt.of ?a ?i ?l ?c ?k; (case a => k_is); (case i => k_is); (case l => k_is); (case c => k_is); (case k => k_is))
    (case mDesk_set_limit => refine' TB.MethAt.of ?a ?i ?l ?c ?k; (case a => k_is); (case i => k_is); (case l => k_is); (case c => k_is); (case k => k_is))
    (case mDesk_place_bid => refine' TB.MethAt.of ?a ?i ?l ?c ?k; (case a => k_is); (case i => k_is); (case l => k_is); (case c => k_is); (case k => k_is))
    (case mDesk_withdraw_bid => refine' TB.MethAt.of ?a ?i ?l ?c ?k; (case a => k_is); (case i => k_is); (case l => k_is); (case c => k_is); (case k => k_is))
    (case mDesk_list_bids => refine' TB.MethAt.of ?a ?i ?l ?c ?k; (case a => k_is); (case i => k_is); (case l => k_is); (case c => k_is); (case k => k_is))
    (case mDesk_check_selection => refine' TB.MethAt.of ?a ?i ?l ?c ?k; (case a => k_is); (case i => k_is); (case l => k_is); (case c => k_is); (case k => k_is))
    (case mDesk_best_selection => refine' TB.MethAt.of ?a ?i ?l ?c ?k; (case a => k_is); (case i => k_is); (case l => k_is); (case c => k_is); (case k => k_is))
    (case mDesk_threshold => refine' TB.MethAt.of ?a ?i ?l ?c ?k; (case a => k_is); (case i => k_is); (case l => k_is); (case c => k_is); (case k => k_is))
    (case mDesk_award => refine' TB.MethAt.of ?a ?i ?l ?c ?k; (case a => k_is); (case i => k_is); (case l => k_is); (case c => k_is); (case k => k_is))
    (case mDesk_get_contract => refine' TB.MethAt.of ?a ?i ?l ?c ?k; (case a => k_is); (case i => k_is); (case l => k_is); (case c => k_is); (case k => k_is))
    (case mDesk_set_index => refine' TB.MethAt.of ?a ?i ?l ?c ?k; (case a => k_is); (case i => k_is); (case l => k_is); (case c => k_is); (case k => k_is))
    (case mDesk_record_delivery => refine' TB.MethAt.of ?a ?i ?l ?c ?k; (case a => k_is); (case i => k_is); (case l => k_is); (case c => k_is); (case k => k_is))
    (case mDesk_correct_delivery => refine' TB.MethAt.of ?a ?i ?l ?c ?k; (case a => k_is); (case i => k_is); (case l => k_is); (case c => k_is); (case k => k_is))
    (case mDesk_close_contract => refine' TB.MethAt.of ?a ?i ?l ?c ?k; (case a => k_is); (case i => k_is); (case l => k_is); (case c => k_is); (case k => k_is))
    (case mDesk_contract_value => refine' TB.MethAt.of ?a ?i ?l ?c ?k; (case a => k_is); (case i => k_is); (case l => k_is); (case c => k_is); (case k => k_is))
    (case mDesk_create_bill => refine' TB.MethAt.of ?a ?i ?l ?c ?k; (case a => k_is); (case i => k_is); (case l => k_is); (case c => k_is); (case k => k_is))
    (case mDesk_list_bills => refine' TB.MethAt.of ?a ?i ?l ?c ?k; (case a => k_is); (case i => k_is); (case l => k_is); (case c => k_is); (case k => k_is))
    (case mDesk_record_payment => refine' TB.MethAt.of ?a ?i ?l ?c ?k; (case a => k_is); (case i => k_is); (case l => k_is); (case c => k_is); (case k => k_is))
    (case mDesk_balance => refine' TB.MethAt.of ?a ?i ?l ?c ?k; (case a => k_is); (case i => k_is); (case l => k_is); (case c => k_is); (case k => k_is))
    (case mDesk_shortfall => refine' TB.MethAt.of ?a ?i ?l ?c ?k; (case a => k_is); (case i => k_is); (case l => k_is); (case c => k_is); (case k => k_is))
    (case f_common_of => refine' TB.FnAt.of KX G ?a ?l ?c ?k; (case a => k_is); (case l => k_is); (case c => k_is); (case k => k_is))
    (case f_fraction => refine' TB.FnAt.of KX G ?a ?l ?c ?k; (case a => k_is); (case l => k_is); (case c => k_is); (case k => k_is))
    (case f_plus => refine' TB.FnAt.of KX G ?a ?l ?c ?k; (case a => k_is); (case l => k_is); (case c => k_is); (case k => k_is))
    (case f_times => refine' TB.FnAt.of KX G ?a ?l ?c ?k; (case a => k_is); (case l => k_is); (case c => k_is); (case k => k_is))
    (case f_greater_of => refine' TB.FnAt.of KX G ?a ?l ?c ?k; (case a => k_is); (case l => k_is); (case c => k_is); (case k => k_is))
    (case f_rounded => refine' TB.FnAt.of KX G ?a ?l ?c ?k; (case a => k_is); (case l => k_is); (case c => k_is); (case k => k_is))
    (case f_contract_of => refine' TB.FnAt.of KX G ?a ?l ?c ?k; (case a => k_is); (case l => k_is); (case c => k_is); (case k => k_is))
    (case f_filled => refine' TB.FnAt.of KX G ?a ?l ?c ?k; (case a => k_is); (case l => k_is); (case c => k_is); (case k => k_is))
    (case f_are_grades => refine' TB.FnAt.of KX G ?a ?l ?c ?k; (case a => k_is); (case l => k_is); (case c => k_is); (case k => k_is))
    (case f_are_bidders => refine' TB.FnAt.of KX G ?a ?l ?c ?k; (case a => k_is); (case l => k_is); (case c => k_is); (case k => k_is))
    (case f_has_twice => refine' TB.FnAt.of KX G ?a ?l ?c ?k; (case a => k_is); (case l => k_is); (case c => k_is); (case k => k_is))
    (case f_sale_deed => refine' TB.FnAt.of KX G ?a ?l ?c ?k; (case a => k_is); (case l => k_is); (case c => k_is); (case k => k_is))
    (case f_contract_deed => refine' TB.FnAt.of KX G ?a ?l ?c ?k; (case a => k_is); (case l => k_is); (case c => k_is); (case k => k_is))
    (case f_answers => refine' TB.FnAt.of KX G ?a ?l ?c ?k; (case a => k_is); (case l => k_is); (case c => k_is); (case k => k_is))
    (case k_PLAIN_INDEX => refine' TB.IntAt.of KX G ?a; (case a => k_is))
    (case k_MOST_LIMIT_sales => refine' TB.IntAt.of KX G ?a; (case a => k_is))
    (case k_BIDDERS => refine' TB.IntAt.of KX G ?a; (case a => k_is))
    (case k_GRADES => refine' TB.IntAt.of KX G ?a; (case a => k_is))
    (case k_OUT => refine' TB.IntAt.of KX G ?a; (case a => k_is))
    (case k_MISSING => refine' TB.IntAt.of KX G ?a; (case a => k_is))
    (case k_DONE => refine' TB.IntAt.of KX G ?a; (case a => k_is))
    (case k_NOT_POSSIBLE => refine' TB.IntAt.of KX G ?a; (case a => k_is))
    (case k_FULL => refine' TB.IntAt.of KX G ?a; (case a => k_is))
    (case k_MOST_DAY => refine' TB.IntAt.of KX G ?a; (case a => k_is))
    (case k_MOST_AMOUNT => refine' TB.IntAt.of KX G ?a; (case a => k_is))
    (case k_MOST_VOLUME => refine' TB.IntAt.of KX G ?a; (case a => k_is))
    (case k_MOST_LOTS => refine' TB.IntAt.of KX G ?a; (case a => k_is))
    (case k_MOST_BIDS => refine' TB.IntAt.of KX G ?a; (case a => k_is))
    (case k_MOST_LIMIT_desk => refine' TB.IntAt.of KX G ?a; (case a => k_is))
    (case k_MOST_WEIGHT => refine' TB.IntAt.of KX G ?a; (case a => k_is))
    (case k_MOST_CONTRACTS => refine' TB.IntAt.of KX G ?a; (case a => k_is))
    (case k_MOST_INDEX => refine' TB.IntAt.of KX G ?a; (case a => k_is))
    (case k_MOST_INDEXES => refine' TB.IntAt.of KX G ?a; (case a => k_is))
    (case k_MOST_DELIVERIES => refine' TB.IntAt.of KX G ?a; (case a => k_is))
    (case k_MOST_BILLS => refine' TB.IntAt.of KX G ?a; (case a => k_is))
    (case b_len => refine PySem.W.mg_none_of KX G ?_; k_is)
    (case b_sum => refine PySem.W.mg_none_of KX G ?_; k_is)
    (case b_max => refine PySem.W.mg_none_of KX G ?_; k_is)
    (case b_min => refine PySem.W.mg_none_of KX G ?_; k_is)
    (case b_sorted => refine PySem.W.mg_none_of KX G ?_; k_is)
    (case b_set => refine PySem.W.mg_none_of KX G ?_; k_is)
    (case b_list => refine PySem.W.mg_none_of KX G ?_; k_is)
    (case b_int => refine PySem.W.mg_none_of KX G ?_; k_is)
    (case b_zip => refine PySem.W.mg_none_of KX G ?_; k_is)
    (case b_enumerate => refine PySem.W.mg_none_of KX G ?_; k_is)
    (case b_range => refine PySem.W.mg_none_of KX G ?_; k_is)
    (case t_NOUGHT => refine' TB.TupAt.of KX G ?a ?l ?z ?v; (case a => k_is); (case l => k_is); (case z => decide); (case v => rfl))
    (case t_NUMBERS => refine' TB.TupAt.of KX G ?a ?l ?z ?v; (case a => k_is); (case l => k_is); (case z => decide); (case v => rfl))
    (case t_LISTS => refine' TB.TupAt.of KX G ?a ?l ?z ?v; (case a => k_is); (case l => k_is); (case z => decide); (case v => rfl))
  case S =>
    intro K H xs a hO hwi hask hx
    cases hx with
    | cons h1 h2 =>
      cases h2
      cases h1 with
      | lst hs ha =>
        have e := L2.ints_dw a.1 _ ha
        subst e
        have q : ((Codec.inLen 0 7440 a.1 && a.1.all (Codec.inInt 0 4294967295)) && true) = true := hwi
        rw [Bool.and_eq_true, Bool.and_eq_true] at q
        exact ⟨_, a.1, rfl, hs, (Codec.inNat_iff.mp q.1.1).2, hask, fun H' p hp => .lst (L2.SqL.of hp) (L2.dw_ints _)⟩
