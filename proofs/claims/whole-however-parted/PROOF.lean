import PyProof.Rows.All
import Wide.All
import OpenK.AllK
import Wide.FinOn
import KE.KStateDown
import HandS.ForMost
import HandS.Defaults
import HandS.More
import HandS.Head0
import HandS.Head1
import HandS.Head2
import HandS.HeadEnd
import HandS.HeadHook1
import HandS.HeadHook2
import HandS.HeadHook3
import HandS.HeadHook4
import PySem.Challenge.RW_tablebills_k50_whole_however_parted
import KE.KDictPairs
import KE.KDictSum
import KE.DatumOrd
import HandS.SortKw
import HandS.IsInst
import HandS.TupAny
import HandS.Style
import HandS.Zip
import HandS.Deep
import HandS.Set
import HandS.SetKeys
import HandS.Strs
import PyProof.DictUpdate
import PyProof.DictMoreH
import PyProof.Rows.SeqCalls
import KE.KDictZip
import PyProof.CollectWalk
import HandS.ListItems
import HandS.RevTup
import HandS.Evl
set_option Elab.async false
set_option linter.all false
set_option maxRecDepth 100000
set_option maxHeartbeats 4000000
namespace TB
open PySem PySem.Spec PyProof.Rows L2
abbrev PW : Program := PySem.Challenge.pw_tablebills_k50_whole_however_parted
def top (i : Nat) : Stmt := PW.main.body.getD i (.Pass ⟨0, 0, 0, 0⟩)
abbrev s_until : Stmt := top 5
abbrev s_row_of : Stmt := top 8
abbrev s_price : Stmt := top 9
abbrev s_percent_at : Stmt := top 11
abbrev s_cost : Stmt := top 12
abbrev s_up_to : Stmt := top 14
abbrev s_deal : Stmt := top 15
abbrev s_fresh : Stmt := top 20
abbrev s_sits : Stmt := top 21
abbrev s_table_in : Stmt := top 22
abbrev s_state_in : Stmt := top 23
abbrev s_begins : Stmt := top 24
abbrev s_dealt : Stmt := top 25
abbrev s_all_owed : Stmt := top 26
abbrev s_owed_in : Stmt := top 27
abbrev s_asked_at : Stmt := top 28
abbrev s_barring_at : Stmt := top 29
abbrev s_has_item : Stmt := top 30
abbrev s_why_sit : Stmt := top 31
abbrev s_why_move : Stmt := top 32
abbrev s_why_go : Stmt := top 33
abbrev s_why_join : Stmt := top 34
abbrev s_why_ask : Stmt := top 35
abbrev s_why_change : Stmt := top 36
abbrev s_why_fire : Stmt := top 37
abbrev s_why_bring : Stmt := top 38
abbrev s_why_pay : Stmt := top 39
abbrev s_why_take : Stmt := top 40
abbrev s_why_even : Stmt := top 41
abbrev s_do_sit : Stmt := top 42
abbrev s_do_go : Stmt := top 43
abbrev s_do_join : Stmt := top 44
abbrev s_do_ask : Stmt := top 45
abbrev s_do_change : Stmt := top 46
abbrev s_do_fire : Stmt := top 47
abbrev s_do_bring : Stmt := top 48
abbrev s_shift : Stmt := top 49
abbrev s_do_pay : Stmt := top 50
abbrev s_do_take : Stmt := top 51
abbrev s_do_even : Stmt := top 52
abbrev s_walked : Stmt := top 55
abbrev s_idle : Stmt := top 56
abbrev s_world_by : Stmt := top 58
abbrev s_need_seat : Stmt := top 59
abbrev s_to_pay : Stmt := top 60
abbrev s_owes : Stmt := top 61
abbrev s_sums : Stmt := top 62
abbrev s_law_feed : Stmt := top 64
abbrev s_law_draw : Stmt := top 65
abbrev s_law_house : Stmt := top 66
abbrev s_law_cast : Stmt := top 67
abbrev s_law_friends : Stmt := top 68
abbrev s_law_dish_deed : Stmt := top 69
abbrev s_law_deed : Stmt := top 70
abbrev s_law_book : Stmt := top 71
abbrev s_law_next : Stmt := top 72
abbrev s_law_is_parted : Stmt := top 73
abbrev s_law_is_paid : Stmt := top 74
abbrev s_law : Stmt := top 75
def d_until : He.DefD := ⟨("until", none), "until", "until", defArgs s_until, defBody s_until, defScope s_until, [], []⟩
def d_row_of : He.DefD := ⟨("row_of", none), "row_of", "row_of", defArgs s_row_of, defBody s_row_of, defScope s_row_of, [], []⟩
def d_price : He.DefD := ⟨("price", none), "price", "price", defArgs s_price, defBody s_price, defScope s_price, [.int 0], []⟩
def d_percent_at : He.DefD := ⟨("percent_at", none), "percent_at", "percent_at", defArgs s_percent_at, defBody s_percent_at, defScope s_percent_at, [.int 0], []⟩
def d_cost : He.DefD := ⟨("cost", none), "cost", "cost", defArgs s_cost, defBody s_cost, defScope s_cost, [.int 0], []⟩
def d_up_to : He.DefD := ⟨("up_to", none), "up_to", "up_to", defArgs s_up_to, defBody s_up_to, defScope s_up_to, [], []⟩
def d_deal : He.DefD := ⟨("deal", none), "deal", "deal", defArgs s_deal, defBody s_deal, defScope s_deal, [.int 0], []⟩
def d_fresh : He.DefD := ⟨("fresh", none), "fresh", "fresh", defArgs s_fresh, defBody s_fresh, defScope s_fresh, [], []⟩
def d_sits : He.DefD := ⟨("sits", none), "sits", "sits", defArgs s_sits, defBody s_sits, defScope s_sits, [], []⟩
def d_table_in : He.DefD := ⟨("table_in", none), "table_in", "table_in", defArgs s_table_in, defBody s_table_in, defScope s_table_in, [], []⟩
def d_state_in : He.DefD := ⟨("state_in", none), "state_in", "state_in", defArgs s_state_in, defBody s_state_in, defScope s_state_in, [], []⟩
def d_begins : He.DefD := ⟨("begins", none), "begins", "begins", defArgs s_begins, defBody s_begins, defScope s_begins, [], []⟩
def d_dealt : He.DefD := ⟨("dealt", none), "dealt", "dealt", defArgs s_dealt, defBody s_dealt, defScope s_dealt, [], []⟩
def d_all_owed : He.DefD := ⟨("all_owed", none), "all_owed", "all_owed", defArgs s_all_owed, defBody s_all_owed, defScope s_all_owed, [], []⟩
def d_owed_in : He.DefD := ⟨("owed_in", none), "owed_in", "owed_in", defArgs s_owed_in, defBody s_owed_in, defScope s_owed_in, [], []⟩
def d_asked_at : He.DefD := ⟨("asked_at", none), "asked_at", "asked_at", defArgs s_asked_at, defBody s_asked_at, defScope s_asked_at, [], []⟩
def d_barring_at : He.DefD := ⟨("barring_at", none), "barring_at", "barring_at", defArgs s_barring_at, defBody s_barring_at, defScope s_barring_at, [], []⟩
def d_has_item : He.DefD := ⟨("has_item", none), "has_item", "has_item", defArgs s_has_item, defBody s_has_item, defScope s_has_item, [], []⟩
def d_why_sit : He.DefD := ⟨("why_sit", none), "why_sit", "why_sit", defArgs s_why_sit, defBody s_why_sit, defScope s_why_sit, [], []⟩
def d_why_move : He.DefD := ⟨("why_move", none), "why_move", "why_move", defArgs s_why_move, defBody s_why_move, defScope s_why_move, [], []⟩
def d_why_go : He.DefD := ⟨("why_go", none), "why_go", "why_go", defArgs s_why_go, defBody s_why_go, defScope s_why_go, [], []⟩
def d_why_join : He.DefD := ⟨("why_join", none), "why_join", "why_join", defArgs s_why_join, defBody s_why_join, defScope s_why_join, [], []⟩
def d_why_ask : He.DefD := ⟨("why_ask", none), "why_ask", "why_ask", defArgs s_why_ask, defBody s_why_ask, defScope s_why_ask, [], []⟩
def d_why_change : He.DefD := ⟨("why_change", none), "why_change", "why_change", defArgs s_why_change, defBody s_why_change, defScope s_why_change, [], []⟩
def d_why_fire : He.DefD := ⟨("why_fire", none), "why_fire", "why_fire", defArgs s_why_fire, defBody s_why_fire, defScope s_why_fire, [], []⟩
def d_why_bring : He.DefD := ⟨("why_bring", none), "why_bring", "why_bring", defArgs s_why_bring, defBody s_why_bring, defScope s_why_bring, [], []⟩
def d_why_pay : He.DefD := ⟨("why_pay", none), "why_pay", "why_pay", defArgs s_why_pay, defBody s_why_pay, defScope s_why_pay, [], []⟩
def d_why_take : He.DefD := ⟨("why_take", none), "why_take", "why_take", defArgs s_why_take, defBody s_why_take, defScope s_why_take, [], []⟩
def d_why_even : He.DefD := ⟨("why_even", none), "why_even", "why_even", defArgs s_why_even, defBody s_why_even, defScope s_why_even, [], []⟩
def d_do_sit : He.DefD := ⟨("do_sit", none), "do_sit", "do_sit", defArgs s_do_sit, defBody s_do_sit, defScope s_do_sit, [], []⟩
def d_do_go : He.DefD := ⟨("do_go", none), "do_go", "do_go", defArgs s_do_go, defBody s_do_go, defScope s_do_go, [], []⟩
def d_do_join : He.DefD := ⟨("do_join", none), "do_join", "do_join", defArgs s_do_join, defBody s_do_join, defScope s_do_join, [], []⟩
def d_do_ask : He.DefD := ⟨("do_ask", none), "do_ask", "do_ask", defArgs s_do_ask, defBody s_do_ask, defScope s_do_ask, [], []⟩
def d_do_change : He.DefD := ⟨("do_change", none), "do_change", "do_change", defArgs s_do_change, defBody s_do_change, defScope s_do_change, [], []⟩
def d_do_fire : He.DefD := ⟨("do_fire", none), "do_fire", "do_fire", defArgs s_do_fire, defBody s_do_fire, defScope s_do_fire, [], []⟩
def d_do_bring : He.DefD := ⟨("do_bring", none), "do_bring", "do_bring", defArgs s_do_bring, defBody s_do_bring, defScope s_do_bring, [], []⟩
def d_shift : He.DefD := ⟨("shift", none), "shift", "shift", defArgs s_shift, defBody s_shift, defScope s_shift, [], []⟩
def d_do_pay : He.DefD := ⟨("do_pay", none), "do_pay", "do_pay", defArgs s_do_pay, defBody s_do_pay, defScope s_do_pay, [], []⟩
def d_do_take : He.DefD := ⟨("do_take", none), "do_take", "do_take", defArgs s_do_take, defBody s_do_take, defScope s_do_take, [], []⟩
def d_do_even : He.DefD := ⟨("do_even", none), "do_even", "do_even", defArgs s_do_even, defBody s_do_even, defScope s_do_even, [], []⟩
def d_walked : He.DefD := ⟨("walked", none), "walked", "walked", defArgs s_walked, defBody s_walked, defScope s_walked, [], []⟩
def d_idle : He.DefD := ⟨("idle", none), "idle", "idle", defArgs s_idle, defBody s_idle, defScope s_idle, [], []⟩
def d_world_by : He.DefD := ⟨("world_by", none), "world_by", "world_by", defArgs s_world_by, defBody s_world_by, defScope s_world_by, [], []⟩
def d_need_seat : He.DefD := ⟨("need_seat", none), "need_seat", "need_seat", defArgs s_need_seat, defBody s_need_seat, defScope s_need_seat, [], []⟩
def d_to_pay : He.DefD := ⟨("to_pay", none), "to_pay", "to_pay", defArgs s_to_pay, defBody s_to_pay, defScope s_to_pay, [.non], []⟩
def d_owes : He.DefD := ⟨("owes", none), "owes", "owes", defArgs s_owes, defBody s_owes, defScope s_owes, [.non], []⟩
def d_sums : He.DefD := ⟨("sums", none), "sums", "sums", defArgs s_sums, defBody s_sums, defScope s_sums, [], []⟩
def d_law_feed : He.DefD := ⟨("_law_feed", none), "_law_feed", "_law_feed", defArgs s_law_feed, defBody s_law_feed, defScope s_law_feed, [], []⟩
def d_law_draw : He.DefD := ⟨("_law_draw", none), "_law_draw", "_law_draw", defArgs s_law_draw, defBody s_law_draw, defScope s_law_draw, [], []⟩
def d_law_house : He.DefD := ⟨("_law_house", none), "_law_house", "_law_house", defArgs s_law_house, defBody s_law_house, defScope s_law_house, [], []⟩
def d_law_cast : He.DefD := ⟨("_law_cast", none), "_law_cast", "_law_cast", defArgs s_law_cast, defBody s_law_cast, defScope s_law_cast, [], []⟩
def d_law_friends : He.DefD := ⟨("_law_friends", none), "_law_friends", "_law_friends", defArgs s_law_friends, defBody s_law_friends, defScope s_law_friends, [], []⟩
def d_law_dish_deed : He.DefD := ⟨("_law_dish_deed", none), "_law_dish_deed", "_law_dish_deed", defArgs s_law_dish_deed, defBody s_law_dish_deed, defScope s_law_dish_deed, [], []⟩
def d_law_deed : He.DefD := ⟨("_law_deed", none), "_law_deed", "_law_deed", defArgs s_law_deed, defBody s_law_deed, defScope s_law_deed, [], []⟩
def d_law_book : He.DefD := ⟨("_law_book", none), "_law_book", "_law_book", defArgs s_law_book, defBody s_law_book, defScope s_law_book, [], []⟩
def d_law_next : He.DefD := ⟨("_law_next", none), "_law_next", "_law_next", defArgs s_law_next, defBody s_law_next, defScope s_law_next, [], []⟩
def d_law_is_parted : He.DefD := ⟨("_law_is_parted", none), "_law_is_parted", "_law_is_parted", defArgs s_law_is_parted, defBody s_law_is_parted, defScope s_law_is_parted, [], []⟩
def d_law_is_paid : He.DefD := ⟨("_law_is_paid", none), "_law_is_paid", "_law_is_paid", defArgs s_law_is_paid, defBody s_law_is_paid, defScope s_law_is_paid, [], []⟩
def d_law : He.DefD := ⟨("law", none), "law", "law", defArgs s_law, defBody s_law, defScope s_law, [], []⟩
def fns : List He.DefD := [d_until, d_row_of, d_price, d_percent_at, d_cost, d_up_to, d_deal, d_fresh, d_sits, d_table_in, d_state_in, d_begins, d_dealt, d_all_owed, d_owed_in, d_asked_at, d_barring_at, d_has_item, d_why_sit, d_why_move, d_why_go, d_why_join, d_why_ask, d_why_change, d_why_fire, d_why_bring, d_why_pay, d_why_take, d_why_even, d_do_sit, d_do_go, d_do_join, d_do_ask, d_do_change, d_do_fire, d_do_bring, d_shift, d_do_pay, d_do_take, d_do_even, d_walked, d_idle, d_world_by, d_need_seat, d_to_pay, d_owes, d_sums, d_law_feed, d_law_draw, d_law_house, d_law_cast, d_law_friends, d_law_dish_deed, d_law_deed, d_law_book, d_law_next, d_law_is_parted, d_law_is_paid, d_law]
def fas : List He.Fa := [.glo "until", .glo "row_of", .glo "price", .glo "percent_at", .glo "cost", .glo "up_to", .glo "deal", .glo "fresh", .glo "sits", .glo "table_in", .glo "state_in", .glo "begins", .glo "dealt", .glo "all_owed", .glo "owed_in", .glo "asked_at", .glo "barring_at", .glo "has_item", .glo "why_sit", .glo "why_move", .glo "why_go", .glo "why_join", .glo "why_ask", .glo "why_change", .glo "why_fire", .glo "why_bring", .glo "why_pay", .glo "why_take", .glo "why_even", .glo "do_sit", .glo "do_go", .glo "do_join", .glo "do_ask", .glo "do_change", .glo "do_fire", .glo "do_bring", .glo "shift", .glo "do_pay", .glo "do_take", .glo "do_even", .glo "walked", .glo "idle", .glo "world_by", .glo "need_seat", .glo "to_pay", .glo "owes", .glo "sums", .glo "_law_feed", .glo "_law_draw", .glo "_law_house", .glo "_law_cast", .glo "_law_friends", .glo "_law_dish_deed", .glo "_law_deed", .glo "_law_book", .glo "_law_next", .glo "_law_is_parted", .glo "_law_is_paid", .glo "law", .free "list", .free "tuple", .free "len", .free "any", .free "all", .free "sum", .free "max", .free "min", .free "sorted", .free "set", .free "zip", .free "range", .free "dict", .free "enumerate", .free "isinstance", .free "str", .int "MOST_PERCENT" 100, .glo "LIVING", .glo "WANTED", .glo "BROUGHT", .glo "WHYS", .glo "DOES"]
def loose0 : List PySem.Str := ["LostError", "NoItem", "NoSeat", "until", "MOST_PERCENT", "row_of", "price", "percent_at", "cost", "up_to", "deal", "LIVING"]
def loose1 : List PySem.Str := ["WANTED", "BROUGHT", "fresh", "sits", "table_in", "state_in", "begins", "dealt", "all_owed", "owed_in", "asked_at", "barring_at"]
def loose2 : List PySem.Str := ["has_item", "why_sit", "why_move", "why_go", "why_join", "why_ask", "why_change", "why_fire", "why_bring", "why_pay", "why_take", "why_even"]
def loose3 : List PySem.Str := ["do_sit", "do_go", "do_join", "do_ask", "do_change", "do_fire", "do_bring", "shift", "do_pay", "do_take", "do_even", "WHYS"]
def loose4 : List PySem.Str := ["DOES", "walked", "idle", "world_by", "need_seat", "to_pay", "owes", "sums", "_law_feed", "_law_draw", "_law_house", "_law_cast"]
def loose5 : List PySem.Str := ["_law_friends", "_law_dish_deed", "_law_deed", "_law_book", "_law_next", "_law_is_parted", "_law_is_paid"]
def loose : List PySem.Str := loose0 ++ (loose1 ++ (loose2 ++ (loose3 ++ (loose4 ++ (loose5)))))

/-- the address that the written dict x holds at the key k -/
def inDict (x k : Str) (K : PySem.W.Frag) : Addr := match PySem.W.nsIn K (He.ga K x) k with
  | some (some (.ref a)) => a
  | _ => 0
def tupAt (K : PySem.W.Frag) (a : Addr) (vs : List He.Dv) : Bool := match K.lookup a with
  | some ⟨.type c, _, .seq its _, _⟩ => decide (c = "tuple") && (decide (its.size ≤ sizeLine) && He.relAll (vs.map (He.Dv.v K)) its.toList)
  | _ => false
def whys : List (Str × He.Dv) := [("sit", .glo "why_sit"), ("go", .glo "why_go"), ("ask", .glo "why_ask"), ("rush", .glo "why_fire"), ("serve", .glo "why_bring"), ("strike", .glo "why_bring"), ("pay", .glo "why_pay"), ("take", .glo "why_take"), ("even", .glo "why_even")]
def does : List (Str × He.Dv) := [("sit", .glo "do_sit"), ("go", .glo "do_go"), ("ask", .glo "do_ask"), ("rush", .glo "do_fire"), ("serve", .glo "do_bring"), ("strike", .glo "do_bring"), ("pay", .glo "do_pay"), ("take", .glo "do_take"), ("even", .glo "do_even")]
def ex (K : PySem.W.Frag) : Bool := He.tupB K "LIVING" [.str "asked", .str "fired", .str "served"] && (He.valsB K (He.ga K "WHYS") whys && (He.valsB K (He.ga K "DOES") does && (He.valsB K (He.ga K "BROUGHT") [("serve", .str "served"), ("strike", .str "struck")]
  && (He.valsB K (He.ga K "WANTED") [("serve", .adr (inDict "WANTED" "serve")), ("strike", .adr (inDict "WANTED" "strike"))] && (tupAt K (inDict "WANTED" "serve" K) [.str "fired"] && tupAt K (inDict "WANTED" "strike" K) [.str "asked", .str "fired"])))))
def kW : List Str := ["serve", "back", "strike"]
def kD : List Str := ["sit", "move", "go", "join", "ask", "change", "fire", "rush", "serve", "back", "strike", "pay", "take", "even"]
def tabs : List He.Tab := [(fun K => He.ga K "WANTED", kW), (fun K => He.ga K "BROUGHT", kW), (fun K => He.ga K "WHYS", kD), (fun K => He.ga K "DOES", kD)]
abbrev hk : PySem.W.Hook := He.hookX 4 fas fns tabs [] ex
def ob (s : PySem.W.SharedT) : He.AlX := He.obsX 4 fas fns tabs [] ex (HandSHeadRun.getT s)
theorem ob_eq (s : PySem.W.SharedT) : ob s = hk.obs s.abs := He.obsX_eq (HandSHeadRun.getT_eq s)
abbrev R : PySem.W.OpenRow := PySem.W.OpenLaw.row PySem.Challenge.rw_tablebills_k50_whole_however_parted
set_option maxHeartbeats 0 in
theorem run0 (w : World) : HandSHeadRun.RunEq R (PySem.W.view R.prog [75]) hk ob 8000 loose (w.withFollow "special-get-raises" false) := by
  intro os
  kernel_rfl
set_option maxHeartbeats 0 in
theorem run1 (w : World) : HandSHeadRun.RunEq R (PySem.W.view R.prog [75]) hk ob 8000 loose (w.withFollow "special-get-raises" true) := by
  intro os
  kernel_rfl
theorem run : ∀ w : World, HandSHeadRun.RunEq R (PySem.W.view R.prog [75]) hk ob 8000 loose w :=
  PySem.W.byRow2 "special-get-raises" run0 run1
end TB
namespace TB
open PySem PySem.Spec PyProof.Rows L2
/-! ### a call of an expression that gives a def -/
/-- the def at f, called with all its parameters, keeps sp -/
structure CalF (P : Program) (w : World) (K : PySem.W.Frag) (mg : Str → Option Value) (base : Heap) (k : Nat) (f : Addr) (sp : Sp) : Prop where
  ex : ∃ (fd : FuncData) (ps : List Str), FnOk P w K mg base CX0 k f fd ps sp ∧ PySem.W.keepIn K (.ref f) = true ∧ Binds K fd ps []
def tCallF (A : Addr → Sp → Prop) (tf : TE) (t : TA) : TE := fun σ H Q => tf σ H fun y H1 => ∃ (f : Addr) (sp : Sp), y = V.ref f ∧ A f sp ∧ t σ H1 fun vs H2 => sp vs H2 Q E0
section
variable {X : Cx} {k : Nat} {fe e : Expr} {es : List Expr} {tf : TE} {t : TA} {pos : Pos}
theorem pe_callF (hf : PE X fe tf) (hr : Room k X.A) (ha : PA X (e :: es) t)
    (ht : eval (.Call fe (e :: es) [] pos) X.env = (do callWith pos (← eval fe X.env) [] (backTo pos (starEach (e :: es) X.env)) (backToKw pos (keywordEach [] X.env))) := by rfl)
    (he : starEach (e :: es) X.env = (false, eval e X.env) :: starEach es X.env := by rfl)
    (hpl : (backTo pos (starEach es X.env)).any (·.1) = false := by rfl) :
    PE X (.Call fe (e :: es) [] pos) (tCallF (CalF X.prog X.w X.K X.mg X.base k) tf t) := by
  refine ⟨fun pins s σ H Q I h => ?_⟩
  refine Call_ (thn (hf.run pins s σ H _ I h) fun u s1 ⟨y, H1, I1, ry, f, sp, ey, ⟨fd, ps, F, hk, hb⟩, q⟩ => ?_) ht
  subst ey
  obtain rfl : u = Value.ref f := ry
  refine PySem.W.callWith_K (h₀ := X.base) I.ok.mod.kin hk (thn (ha.run pos pins s1 σ H1 _ I1 q) fun us s2 ⟨vs, H2, I2, r, q2⟩ => ⟨I2.kIn, ?_⟩) he hpl
  refine run_fn (sp := sp) (dvs := []) (ds := []) (E := E0) F hr hb .nil pass0 I2 r ?_
  rw [List.append_nil]
  exact q2
end
/-! ### d.update(d2) -/
def rDUpd : V → List V → Hp → VK → Prop := fun x vs H Q => ∃ (a b : Addr) (kvs more : List (Key × V)), x = .ref a ∧ vs = [.ref b] ∧ a ≠ b ∧ H a = some (.dK kvs) ∧ H b = some (.dK more) ∧ kvs.length + more.length ≤ sizeLine ∧ Q .non (upd H a (.dK (mergeK kvs more)))
section
variable {X : Cx}
theorem mt_dupd : MtR X "dict.update" rDUpd := by
  intro pins s σ H x vs v us Q I rx rvs h
  obtain ⟨a, b, kvs, more, rfl, rfl, ne, ha, hb, hz, q⟩ := h
  cases rx
  obtain ⟨u, rfl, ru⟩ := vals1 rvs
  cases ru
  obtain ⟨z1, d1, ws, r1, e1⟩ := dk_of I.hok ha
  obtain ⟨z2, d2, ws2, r2, e2⟩ := dk_of I.hok hb
  refine call_meetsIn PySem.F.slot_dict_update e1.typeIs PySem.F.entry_dict_update (PySem.F.args_dict_update_2 _ _) (meets_dict_update (mixKind X.prog X.w) a b ne d2)
    ⟨ws, ws2, e1, e2, by rw [← r1.length, ← r2.length]; exact hz, fun h' n1 n2 hs => ?_⟩
  have hl : (mergeK kvs more).length ≤ sizeLine := Nat.le_trans (length_mergeK more kvs) hz
  have he : ∃ o, h'.get? a = some o := let ⟨o, _, _, ho, _⟩ := n1; ⟨o, ho⟩
  exact ⟨.non, _, d_write (t' := s.toks) I (by rw [ha]; exact True.intro) hs he (dk_new hl d1 (KV.merge r2 r1) n1), rfl, q⟩
end
/-! ### d.setdefault(t, x), the keys tuples -/
def tDSetT (td ty tx : TE) : TE := fun σ H Q => td σ H fun x H1 => ∃ a, x = .ref a ∧ IsD H1 a ∧ ty σ H1 fun y H2 => tx σ H2 fun z H3 => ∃ (kvs : List (List Key × V)) (k : List Key) (b : Addr),
  H3 a = some (.dT kvs) ∧ y = .ref b ∧ H3 b = some (.tup (k.map kV)) ∧ kvs.length < sizeLine ∧ (∀ v, valV kvs k = some v → Q v H3) ∧ (valV kvs k = none → Q z (upd H3 a (.dT (putK kvs k z))))
theorem d_setT {X : Cx} {pins : List (Addr × Obj)} {σ : L2.St} {H : Hp} {s : Shared} {a b : Addr} {r : Value} {d : V} {k : List Key} {A : Around} {E : Value → Shared → Prop} {kvs : List (List Key × V)} {Q : Value → Shared → Prop}
    (hu : A.units + 1 < cLine) (I : Inv X pins σ H s) (e : H a = some (.dT kvs)) (eb : H b = some (.tup (k.map kV))) (rd : RelV d r) (hl : kvs.length < sizeLine)
    (h1 : ∀ v, valV kvs k = some v → ∀ (w' : Value) (s' : Shared), Inv X pins σ H s' → RelV v w' → Q w' s')
    (h2 : valV kvs k = none → ∀ (w' : Value) (s' : Shared), Inv X pins σ (upd H a (.dT (putK kvs k d))) s' → RelV d w' → Q w' s') :
    wpAny (model X.prog X.w) A (call (.builtin "dict.setdefault") [.ref a, .ref b, r]) Q E s := by
  obtain ⟨z, hd, xs, rel, dd⟩ := dt_of I.hok e
  have hz : xs.length ≤ sizeLine := by rw [← Paired.length rel]; exact z
  have hp : (putK kvs k d).length ≤ sizeLine := by have := length_putK kvs k d; omega
  refine call_setdefault_heap (hsz := hz) (tupleKind_room_in1 hu) (key_of I.hok eb) hd dd (fun p hp => ?_) fun hn h' dd' hs => ?_
  · have q := rel.val k
    rw [hp] at q
    cases q0 : valV kvs k with
    | none => rw [q0] at q; exact (show False from q).elim
    | some v0 => rw [q0] at q; exact h1 v0 q0 _ _ (I.tok _) q
  · have q := rel.val k
    rw [hn] at q
    cases q0 : valV kvs k with
    | some v0 => rw [q0] at q; exact (show False from q).elim
    | none =>
      obtain ⟨o, es, ep, ho, g2, g3, g4, _, g5⟩ := dd'
      refine h2 q0 _ _ (d_write (t' := s.toks + _) I (by rw [e]; exact True.intro) hs ⟨o, ho⟩ ⟨hp, hd, _, (rel.put k eb rd).keeps fun c ys ec => ?_, o, es, ep, ho, g2, g3, g4, g5⟩) rd
      rw [upd_ne (ne_of ec e (fun z => nomatch z))]
      exact ec
theorem pe_dsetT {X : Cx} {o e f : Expr} {td ty tx : TE} {apos cpos : Pos} (hu : X.A.units + 1 < cLine) (ho : PE X o td) (he : PE X e ty) (hf : PE X f tx) (m : M2 X o "setdefault" apos e f cpos) :
    PE X (.Call (.Attribute o "setdefault" apos) [e, f] [] cpos) (tDSetT td ty tx) := by
  refine ⟨fun pins s σ H Q I h => ?_⟩
  refine wpAny_Call_method m.base m.few m.line PySem.F.plainAttrs_dict PySem.F.slot_dict_setdefault PySem.F.type_dict_setdefault (thn (ho.run pins s σ H _ I h) fun u s1 ⟨x, H1, I1, rx, a, ex, d, q1⟩ => ?_)
  subst ex
  obtain rfl : u = Value.ref a := rx
  obtain ⟨t1, t2, _⟩ := isD_at I1 d
  refine ⟨t1, t2, ?_⟩
  rw [m.trees]
  refine Calls.callWith_builtin rfl (Calls.evalArgs_plain (Calls.spliced_cons (thn (he.run pins s1 σ H1 _ I1 q1) fun iv s2 ⟨y, H2, I2, ry, q2⟩ =>
    Calls.spliced_cons (thn (hf.run pins s2 σ H2 _ I2 q2) fun fv s3 ⟨z, H3, I3, rz, kvs, k, b, ea, ey, eb, hl, q3, q4⟩ => Calls.spliced_nil ?_))))
  subst ey
  cases (show iv = Value.ref b from ry)
  exact d_setT hu I3 ea eb rz hl (fun v hv w' s4 I4 rw' => ⟨v, _, I4, rw', q3 v hv⟩) fun hn w' s4 I4 rw' => ⟨z, _, I4, rw', q4 hn⟩
/-! ### dict(t), t a tuple of pairs that is known to have no dict of its own -/
/-- at a: a tuple without attributes, its items the objects at ps -/
def PTup (a : Addr) (ps : List Addr) : HO := .ext fun h => ∃ (o : Obj) (n : Nat), h.get? a = some o ∧ o.cls = .type "tuple" ∧ o.dict = none ∧ o.data = .seq (ps.map Value.ref).toArray n ∧ ps.length ≤ sizeLine
theorem pTup_ok {P : Program} {w : World} {H : Hp} {h : Heap} {a : Addr} {ps : List Addr} (x : ∃ (o : Obj) (n : Nat), h.get? a = some o ∧ o.cls = .type "tuple" ∧ o.dict = none ∧ o.data = .seq (ps.map Value.ref).toArray n ∧ ps.length ≤ sizeLine) :
    ObjOk P w H h a (PTup a ps) := by
  obtain ⟨o, n, h1, h2⟩ := id x
  exact ⟨x, ⟨o, h1⟩, fun g1 g2 y k => let ⟨o, n, q1, q2⟩ := y; ⟨o, n, k o q1, q2⟩⟩
section
variable {X : Cx}
theorem call_tupleP : CallR X (.type "tuple") (fun xs H Q => ∃ (p : Addr) (ps : List Addr), xs = [.ref p] ∧ SqL X.K H p (ps.map V.ref) ∧ ∀ l, H l = none → Q (.ref l) (upd H l (PTup l ps))) := by
  intro pins s σ H xs us Q I r h
  obtain ⟨p, ps, rfl, hq, q⟩ := h
  obtain ⟨u, rfl, rx⟩ := vals1 r
  cases rx
  obtain ⟨its, rv, pl, hz⟩ := I.list hq
  have ei := refs_at rv
  subst ei
  rw [List.length_map] at hz
  refine call_tuple_list pl.isList (fun h' kp => ?_) (by simp only [List.size_toArray, List.length_map] <;> omega)
  have I1 : Inv X pins σ H { s with heap := h' } := I.kept (t' := s.toks) kp
  refine ⟨.ref h'.objs.size, _, I1.laid (t' := s.toks) (o := PTup h'.objs.size ps) (fun b o e => Heap.get?_push_of_some _ e) (Nat.le_refl _) (pTup_ok ⟨_, _, Heap.get?_push_size _ rfl, rfl, rfl, rfl, hz⟩), rfl, q _ (I1.hok.fresh (Nat.le_refl _))⟩
theorem prs_of {pins : List (Addr × Obj)} {σ : L2.St} {H : Hp} {s : Shared} (I : Inv X pins σ H s) : ∀ {ps : List Addr} {kvs : List (Key × V)}, Paired (fun p kv => SqT X.K H p [kV kv.1, kv.2]) ps kvs →
    ∃ (prs : List (Value × Value)) (vs : List (Key × Value)), KV kvs vs ∧ prs.length = ps.length ∧ ∀ (j : Nat) (k v : Value), prs[j]? = some (k, v) → (∃ b, ps[j]? = some b ∧ IsTup s.heap b #[k, v]) ∧ ∃ key, vs[j]? = some (key, v) ∧ keyIs key k = true
  | _, _, .nil => ⟨[], [], .nil, rfl, fun j k v e => by simp at e⟩
  | _, _, .cons (a := p) (b := kv) h t => by
    obtain ⟨prs, vs, r, hl, hp⟩ := prs_of I t
    obtain ⟨its, rv, ht, _⟩ := I.tuple h
    obtain ⟨u, y, ei, ru, ry⟩ := vals2 rv
    subst ei
    refine ⟨(u, y) :: prs, (kv.1, y) :: vs, .cons ⟨rfl, ry⟩ r, by rw [List.length_cons, List.length_cons, hl], fun j k v e => ?_⟩
    cases j with
    | zero =>
      cases (show some (u, y) = some (k, v) from e)
      exact ⟨⟨p, rfl, ht⟩, kv.1, rfl, kV_is (P := X.prog) (w := X.w) ru⟩
    | succ j =>
      obtain ⟨⟨b, e1, e2⟩, key, e3, e4⟩ := hp j k v (by simpa using e)
      exact ⟨⟨b, by simpa using e1, e2⟩, key, by simpa using e3, e4⟩
theorem call_dictPT (hcalm : X.calm = true) : CallR X (.type "dict") (fun xs H Q => ∃ (a : Addr) (ps : List Addr) (kvs : List (Key × V)), xs = [.ref a] ∧ H a = some (PTup a ps) ∧ Paired (fun p kv => SqT X.K H p [kV kv.1, kv.2]) ps kvs ∧
    ∀ p, H p = none → Q (.ref p) (upd H p (.dK (mergeK [] kvs)))) := by
  intro pins s σ H xs us Q I r q
  obtain ⟨a, ps, kvs, ex, hq, hp, q⟩ := q
  subst ex
  obtain ⟨u, eu, rx⟩ := vals1 r
  subst eu
  cases rx
  obtain ⟨⟨o, n, ho, hc, hd, hdat, hz⟩, _⟩ := I.hok a _ hq
  obtain ⟨prs, vs, rel, hl, hpr⟩ := prs_of I hp
  have hlv : vs.length = prs.length := by rw [hl, ← rel.length]; exact (Paired.length hp).symm
  refine PySem.call_dict_pairs (knd := mixKind X.prog X.w) (kvs := vs) (PairArg.tuple a (ps.map Value.ref).toArray (fun j => ps.getD j 0) prs) (I.ok.hd hcalm) ⟨⟨o, n, ho, hc, hd, hdat⟩, by simp [hl], fun j k v e => ?_⟩ ⟨hlv, fun i k v e => (hpr i k v e).2⟩ (by rw [hl]; exact hz) fun h' tk hd' k => ?_
  · obtain ⟨⟨b, e1, e2⟩, _⟩ := hpr j k v e
    have eb : ps.getD j 0 = b := by simp [List.getD, e1]
    exact ⟨by simp [eb, e1], .inl (by show s.heap.IsTuple (ps.getD j 0) #[k, v]; rw [eb]; exact e2)⟩
  · have hm : (s.heap.objs.size == sysModules) = false := beq_eq_false_iff_ne.mpr (Nat.ne_of_gt I.big)
    have hlen : (mergeK [] kvs).length ≤ sizeLine := by
      refine Nat.le_trans (length_mergeK kvs []) ?_
      rw [List.length_nil, Nat.zero_add, rel.length, hlv, hl]
      exact hz
    exact ⟨.ref s.heap.objs.size, upd H s.heap.objs.size (.dK (mergeK [] kvs)), I.laid (t' := tk) (fun b o e => k b o (by simp) e) (Nat.le_refl _) (show ObjOk X.prog X.w _ _ _ (.dK (mergeK [] kvs)) from ⟨hlen, hm, merged [] vs, KV.merge rel .nil, hd'⟩), rfl, q _ (I.hok.fresh (Nat.le_refl _))⟩
end
/-! ### sum(d.values()) -/
def tSumV (te : TE) : TE := fun σ H Q => te σ H fun x H1 => ∃ (d : Addr) (kvs : List (Key × V)) (ns : List Int), x = .ref d ∧ Rd H1 d (.dK kvs) ∧ kvs.map (·.2) = ns.map V.int ∧ Q (.int ns.sum) H1
theorem preSum_get : ∀ (ns : List Int) (n : Nat), n ≤ ns.length → preSum (fun i => ns.getD i 0) n = (ns.take n).sum
  | ns, 0, _ => by simp [preSum]
  | ns, n + 1, h => by
    rw [preSum, preSum_get ns n (by omega), List.take_add_one, List.sum_append]
    have e : ns[n]? = some ns[n] := List.getElem?_eq_getElem (by omega)
    simp [e]
theorem pe_sumV {X : Cx} {e : Expr} {te : TE} {p apos cpos pos : Pos} (hc : X.calm = true) (he : PE X e te) (hg : Gl X "sum") (hm : X.mg "sum" = none)
    (hbase : attributeBase e "values" X.env (eval e X.env) = eval e X.env := by rfl) (hline : (apos.endLine == cpos.line) = true := by rfl)
    (hs : starEach [.Call (.Attribute e "values" apos) [] [] cpos] X.env = (false, eval (.Call (.Attribute e "values" apos) [] [] cpos) X.env) :: starEach [] X.env := by rfl) :
    PE X (.Call (.Name "sum" p) [.Call (.Attribute e "values" apos) [] [] cpos] [] pos) (tSumV te) := by
  refine ⟨fun pins s σ H Q I hq => ?_⟩
  refine Call_ (ld_blt I hg hm boot_sum ?_)
  refine PyProof.Rows.callWith_builtin1 ?_ hs rfl
  rw [hs]
  refine Calls.spliced_cons ?_
  refine wpAny_Call_method (T := "dict") (id := "dict.values") hbase rfl hline F.plainAttrs_dict F.slot_dict_values F.type_dict_values (thn (he.run pins s σ H _ I hq) fun u s1 ⟨x, H1, I1, rx, d, kvs, ns, ex, hd, en, q⟩ => ?_)
  subst ex
  obtain rfl : u = Value.ref d := rx
  obtain ⟨hz, hs0, vs, kv, hdo⟩ := dk_rd I1.hok hd
  obtain ⟨ep, hat⟩ := hdo.dictAt
  have I2 : Inv X pins σ H1 { s1 with heap := s1.heap.push { cls := .type "dict_values", data := .fields #[.ref d] } } := I1.kept (t' := s1.toks) fun b ob q => Heap.get?_push_of_some _ q
  refine ⟨hdo.typeIs, hdo.mapOf.noDict, ?_⟩
  show wpAny _ _ (callWith cpos (.builtin "dict.values") [.ref d] [] []) _ X.xe s1
  refine method_meetsIn F.slot_dict_values F.entry_dict_values rfl (PySem.evalArgs_none ⟨rfl, hdo.typeIs, F.args_dict_values_1 _, _, meets_dict_values (mixKind X.prog X.w) d hs0, ⟨vs, hdo⟩, ?_⟩)
  refine Calls.spliced_nil ?_
  have hnl : ns.length = vs.length := by
    have e1 := congrArg List.length en
    rw [List.length_map, List.length_map] at e1
    rw [← e1, kv.length]
  refine call_sum_walkAnyS ?_
  obtain ⟨oI, St', hit, W, st⟩ := (PySem.W.kdl_values (knd := mixKind X.prog X.w) (r := s1.heap.objs.size) (d := d) (kvs := vs) (ep := ep)).iter X.A.in1 { s1 with heap := s1.heap.push { cls := .type "dict_values", data := .fields #[.ref d] } } (I1.ok.hd hc) ⟨⟨_, Heap.get?_push_size _ rfl, rfl, rfl⟩, hat.push _⟩
  refine hit _ _ ⟨_, _, _, _, vs.length, _, _, fun i => ns.getD i 0, rfl, W.toS, st, fun b hb => ?_, fun i u hu => ?_, fun s' t' hmv => ?_⟩
  · show b < ((s1.heap.push _).push oI).objs.size
    rw [Heap.size_push, Heap.size_push]
    rcases List.mem_cons.mp hb with q1 | q1
    · rw [q1]; exact Nat.lt_of_le_of_lt (Nat.le_of_eq (Heap.size_push ..)) (Nat.lt_succ_self _)
    · rw [List.mem_singleton.mp q1]
      have hlt : d < s1.heap.objs.size := hdo.lt_size
      exact Nat.lt_succ_of_lt (Nat.lt_succ_of_lt hlt)
  · obtain ⟨k, hk⟩ := hu
    have hlt : i < kvs.length := by rw [kv.length]; exact (List.getElem?_eq_some_iff.mp hk).1
    have e1 : kvs[i]? = some kvs[i] := List.getElem?_eq_getElem hlt
    obtain ⟨u2, e2, r2⟩ := kv_get kv e1
    rw [hk] at e2
    cases e2
    have e3 : (kvs.map (·.2))[i]? = some (kvs[i]).2 := by rw [List.getElem?_map, e1] <;> rfl
    rw [en, List.getElem?_map] at e3
    cases e4 : ns[i]? with
    | none => rw [e4] at e3; cases e3
    | some z =>
      rw [e4] at e3
      have e5 : V.int z = (kvs[i]).2 := Option.some.inj e3
      have r3 : RelV (V.int z) u := by rw [e5]; exact r2
      obtain ⟨t, rt⟩ := r3
      exact ⟨t, by rw [rt]; simp [List.getD, e4]⟩
  · have hk2 : ∀ b o, s1.heap.get? b = some o → s'.heap.get? b = some o := fun b o e0 =>
      hmv.heap b o (fun hI => Nat.lt_irrefl _ (Nat.lt_trans (Nat.lt_of_lt_of_eq (Nat.lt_succ_self _) ((List.mem_singleton.mp hI).trans (Heap.size_push ..)).symm) (Heap.lt_size e0))) (Heap.get?_push_of_some _ (Heap.get?_push_of_some _ e0))
    rw [Moved.eq_with hmv]
    have et : preSum (fun i => ns.getD i 0) vs.length = ns.sum := by
      rw [preSum_get ns vs.length (by omega), ← hnl, List.take_length]
    exact ⟨.int ns.sum, H1, I1.kept (t' := s'.toks) hk2, ⟨t', by rw [et]⟩, q⟩
/-! ### max(xs, default=d) -/
def rMaxD (K : PySem.W.Frag) : List V → List V → Hp → VK → Prop := fun xs zs H Q => ∃ (a : Addr) (ns : List Int) (d : Int), xs = [.ref a] ∧ zs = [.int d] ∧ SqL K H a (ns.map V.int) ∧ (ns = [] → Q (.int d) H) ∧
  ∀ (y : Int) (ys : List Int), ns = y :: ys → Q (.int (ys.foldl (fun m z => if m < z then z else m) y)) H
theorem holdAll_ints {h : Heap} : ∀ {ns : List Int} {us : List Value}, Vals (ns.map V.int) us → PySem.W.HoldAll h us ns
  | [], _, .nil => ⟨[], .nil⟩
  | n :: ns, _, .cons r t => by
    obtain ⟨k, rfl⟩ := r
    obtain ⟨as, ra⟩ := holdAll_ints (h := h) t
    exact ⟨[] ++ as, .cons (.int n k) ra⟩
theorem cr_maxD {X : Cx} (hc : X.calm = true) (hu : X.A.units + 8 < cLine) : CallRK X (.builtin "max") ["default"] (rMaxD X.K) := by
  intro pins s σ H xs zs us ws Q I rx rz h
  obtain ⟨a, ns, d, rfl, rfl, hq, q0, q1⟩ := h
  obtain ⟨u, rfl, ru⟩ := vals1 rx
  cases ru
  obtain ⟨w', rfl, rw'⟩ := vals1 rz
  obtain ⟨its, rv, pl, hz⟩ := I.list hq
  refine PySem.W.max_list_datum_default (vs := its.toArray) (xs := ns) (I.ok.hd hc) pl.isList (holdAll_ints rv) (show X.A.units + 1 + 0 < cLine by omega) (fun e h' tk k => ?_) fun y ys i v h' tk e hi hv k => ?_
  · exact ⟨.int d, H, I.kept (t' := tk) k, rw', q0 e⟩
  · obtain ⟨t, rfl⟩ := PySem.W.int_of_holds hv
    have ef : ∀ (l : List Int) (m : Int), l.foldl (fun a y => if PySem.W.DatumOrd.lt a y = true then y else a) m = l.foldl (fun m z => if m < z then z else m) m := by
      intro l
      induction l with
      | nil => intro m; rfl
      | cons z l ih => intro m; rw [List.foldl_cons, List.foldl_cons, ← ih]; congr 1; show (if decide (m < z) = true then z else m) = _; simp
    exact ⟨.int (ys.foldl (fun m z => if m < z then z else m) y), H, I.kept (t' := tk) k, ⟨t, by rw [← ef] <;> rfl⟩, q1 y ys e⟩
/-! ### len(set(xs)), xs a list of one text, so often -/
section
variable {prog : Program} {w : World} {A : Around} {R : Result → Shared → Prop} {I : Addr} {fp wr : List Addr} {G : Array GenState → Array GenState → Prop} {n : Nat} {P : Nat → Value → Prop} {St' : Nat → Shared → Prop}
abbrev nset (led : Bool) : Obj := { cls := .type "set", dict := none, data := .set #[] 0 (.fresh 0 0 led) }
/-- behind i items -/
abbrev SameS (prog : Program) (w : World) (x : Str) (h : Heap) (S : Addr) (i : Nat) : Prop := h.SetOf (PySem.strKind prog w) S (fun k' => decide (0 < i) && decide (k' = x)) (min i 1)
theorem loopSame (W : WalksS prog w A.in1 I fp wr G n P St') (S : Addr) (hSf : S ∉ fp) (x : Str) (hval : ∀ i v, P i v → ∃ t, v = .str x t) :
    ∀ (k i : Nat) (s : Shared), n - i = k → i ≤ n → St' i s → SameS prog w x s.heap S i →
      (∀ s', Moved (S :: wr) G s s' → SameS prog w x s'.heap S n → R (.ok (.ret .none)) s') →
      codeAny (model prog w) A (.builtin "set.update.loop" ⟨[.ref S, .ref I], []⟩) R s := by
  have nw : S ∉ wr := fun h => hSf (W.sub _ h)
  have up : ∀ b ∈ wr, b ∈ S :: wr := fun b hb => List.mem_cons_of_mem _ hb
  intro k
  induction k with
  | zero =>
    intro i s hk hi hst hS hR
    obtain rfl : i = n := by omega
    refine codeAny_builtin PyProof.Rows.F.entry_set_update_loop ?_; rw [Around.under_plainId PyProof.Rows.F.plain_set_update_loop _]
    show wpAny _ A.in1 (pyNext (.ref I) >>= _) _ _ s; refine wpAny_bind (W.done s _ _ hst fun s' hm => ?_)
    obtain ⟨o, es, ep, t, ho, rest⟩ := hS
    exact wpAny_pure (hR s' (hm.mono up) ⟨o, es, ep, t, hm.heap S _ nw ho, rest⟩)
  | succ k ih =>
    intro i s hk hi hst hS hR
    have hlt : i < n := by omega
    refine codeAny_builtin PyProof.Rows.F.entry_set_update_loop ?_; rw [Around.under_plainId PyProof.Rows.F.plain_set_update_loop _]
    show wpAny _ A.in1 (pyNext (.ref I) >>= _) _ _ s; refine wpAny_bind (W.item i s _ _ hlt hst fun v s' hP hst' hm => ?_)
    obtain ⟨t, rfl⟩ := hval i v hP
    have hS' : SameS prog w x s'.heap S i := by obtain ⟨o, es, ep, tb, ho, rest⟩ := hS; exact ⟨o, es, ep, tb, hm.heap S _ nw ho, rest⟩
    show wpAny _ A.in1 (holding [Value.str x t] (setAdd S (.str x t)) >>= _) _ _ s'
    refine wpAny_bind (wpAny_holding ?_)
    unfold setAdd
    refine wpAny_holding (wpAny_bind ((PySem.strKind prog w).pyHash (k := x) (strKind_is _ _ _ _) ?_))
    refine wpAny_setAddHashed_of (knd := PySem.strKind prog w) (s := { s' with toks := s'.toks + 1 }) (strKind_is _ _ _ _) rfl hS' (by unfold scanBound; omega) fun h' hsb hS2 => ?_
    have hSi : SameS prog w x h' S (i + 1) := by
      refine PyProof.Rows.SetOf_congr hS2 (fun k' => ?_) ?_
      · show ((decide (0 < i) && decide (k' = x)) || decide (k' = x)) = (decide (0 < i + 1) && decide (k' = x))
        rw [decide_eq_true (Nat.succ_pos i)]
        cases decide (0 < i) <;> cases decide (k' = x) <;> rfl
      · show (if (decide (0 < i) && decide (x = x)) = true then min i 1 else min i 1 + 1) = min (i + 1) 1
        by_cases h0 : 0 < i
        · rw [if_pos (by simp [h0])]; omega
        · rw [if_neg (by simp [h0])]; omega
    refine wpAny_pure ⟨plainId_quiet PyProof.Rows.F.plain_set_update_loop _, ih (i + 1) _ (by omega) hlt (W.frame _ s' _ _ hst' (Nat.le_succ _) fun b hb o e => ?_) hSi fun s'' hm2 hS3 => ?_⟩
    · rw [hsb.2 b (fun h : b = S => hSf (h ▸ hb))]; exact e
    · refine hR s'' (Moved.trans W.gtrans ((hm.mono up).then_heap (Nat.le_succ _) fun b o hb e => ?_) hm2) hS3
      rw [hsb.2 b (fun h : b = S => hb (h ▸ List.mem_cons_self))]; exact e
end
section
variable {prog : Program} {w : World} {A : Around} {E : Value → Shared → Prop} {s : Shared}
set_option maxHeartbeats 3200000 in
theorem call_set_same {l : Addr} {items : Array Value} {x : Str} {Q : Value → Shared → Prop} (hh : A.handled = none) (hl : s.heap.IsList l items) (hi : ∀ (i : Nat) (v : Value), items[i]? = some v → ∃ t, v = .str x t)
    (h : ∀ (h' : Heap) (tk : Nat), SameS prog w x h' s.heap.objs.size items.size → (∀ b o, b < s.heap.objs.size → s.heap.get? b = some o → h'.get? b = some o) → Q (.ref s.heap.objs.size) { s with heap := h', toks := tk }) :
    wpAny (model prog w) A (call (.type "set") [.ref l]) Q E s := by
  obtain ⟨c, tl, hmro⟩ := PySem.F.called_set.mro
  have hmade := PySem.F.called_set.made; have hsub := PySem.F.called_set.sub
  refine wpAny_call (codeAny_of_tree ?_); show wpAny _ _ (callAny (.type "set") _) _ _ _
  refine wpAny_pure ⟨Code.quiet_builtin _ (by decide +kernel), codeAny_builtin PySem.F.entry_type_call ?_⟩
  rw [Around.under_plain (weight_type_call_type "set" [.ref l] []) rfl]
  have h1 := PySem.F.called_set.notType; have h2 := PySem.F.called_set.canCreate; have hct := PySem.F.typeCall_set_1 (.ref l)
  repeat (any_goals (first | assumption | wp_step))
  refine codeAny_mono (code_set_new_1 (.ref l) (E := E) (Q₁ := fun obj s₁ => ∃ led : Bool, obj = .ref s.heap.objs.size ∧ s₁ = { s with heap := s.heap.push (nset led) }) fun led => ⟨led, rfl, rfl⟩) fun r s₁ hr => ?_
  cases r with
  | error e => exact hr
  | ok fl =>
    cases fl with
    | ret obj =>
      obtain ⟨led, rfl, rfl⟩ := hr
      have hS : (s.heap.push (nset led)).get? s.heap.objs.size = some (nset led) := Heap.get?_push_size _ rfl
      have hT : Shared.TypeIs { s with heap := s.heap.push (nset led) } (.ref s.heap.objs.size) "set" := ⟨_, hS, rfl⟩
      have hli := PySem.F.called_set.init.lookup; have hbi := PySem.F.called_set.init.bind (.ref s.heap.objs.size)
      repeat (any_goals (first | assumption | wp_step))
      refine codeAny_mono (codeAny_call_builtin (R := wants (fun r s₂ => r = .none ∧ ∃ h' tk, s₂ = { s with heap := h', toks := tk } ∧ SameS prog w x h' s.heap.objs.size items.size ∧
          (∀ b o, b < s.heap.objs.size → s.heap.get? b = some o → h'.get? b = some o)) E) PySem.F.called_set.init.plain PySem.F.entry_set_init (check_set_init_1 hT ?_)) fun r₂ s₂ hr₂ => ?_
      · obtain ⟨⟨ocls, odict, odata, oslots⟩, hol, hcl, nl, hdl⟩ := hl
        simp only at hcl hdl
        subst hcl; subst hdl
        have hol' : (s.heap.push (nset led)).get? l = some { cls := .type "list", dict := odict, data := .seq items nl, slots := oslots } := Heap.get?_push_of_some _ hol
        have hsls := PySem.F.sub_list_set; have hslf := PySem.F.sub_list_frozenset
        have hne : (Value.type "list" == Value.type "dict") = false := by decide
        have hl1 : (s.heap.push (nset led)).IsList l items := ⟨_, hol', rfl, nl, rfl⟩
        unfold Builtin.«set.__init__» noKeywords Builtin.Frozenset.updateFrom
        generalize hPI : pyIter = PI
        wp_walk
        subst hPI
        refine wpAny_pyIter_list hl1 (wpAny_bind (wpAny_runValue ?_))
        have hlS : l < s.heap.objs.size := Heap.lt_size hol
        have hh3 : A.in1.in1.in1.handled = none := by simp [hh]
        have hneI : l ≠ (s.heap.push (nset led)).objs.size := by rw [Heap.size_push]; exact Nat.ne_of_lt (Nat.lt_succ_of_lt hlS)
        have hSf : s.heap.objs.size ∉ [(s.heap.push (nset led)).objs.size, l] := by
          rw [Heap.size_push]; simp only [List.mem_cons, List.mem_singleton, List.not_mem_nil, or_false, not_or]; exact ⟨Nat.ne_of_lt (Nat.lt_succ_self _), Nat.ne_of_gt hlS⟩
        refine loopSame ((Walks.list hh3 _ l hneI items).toS) s.heap.objs.size hSf x hi (items.size - 0) 0 _ (by omega) (Nat.zero_le _) ⟨⟨_, Heap.get?_push_size _ rfl, rfl, rfl⟩, (hl1.push _)⟩ ?hS0 ?hR
        case hS0 =>
          have hget : ((s.heap.push (nset led)).push { cls := .type "list_iterator", data := .fields #[.ref l, .int 0 0] }).get? s.heap.objs.size = some (nset led) := Heap.get?_push_of_some _ hS
          exact PyProof.Rows.SetOf_congr ((PyProof.Rows.setObjOf_fresh (knd := PySem.strKind prog w) led).setOf hget (by unfold scanBound; omega)) (fun _ => by simp) rfl
        case hR =>
          intro s' hm hS'
          obtain ⟨h', g', d', tk', os'⟩ := s'
          obtain rfl : g' = s.gens := hm.gens
          obtain rfl : d' = s.drawn := hm.drawn
          obtain rfl : os' = s.os := hm.os
          show wpAny _ _ _ _ _ _; refine wpAny_pure ?_
          show wpAny _ _ (ret Value.none) _ _ _; refine wpAny_pure ⟨rfl, h', tk', rfl, hS', fun b o hb e => ?_⟩
          have hb2 : b ≠ (s.heap.push (nset led)).objs.size := by rw [Heap.size_push]; exact Nat.ne_of_lt (Nat.lt_succ_of_lt hb)
          exact hm.heap b o (by simp only [List.mem_cons, List.mem_singleton, List.not_mem_nil, or_false, not_or]; exact ⟨Nat.ne_of_lt hb, hb2⟩) (Heap.get?_push_of_some _ (Heap.get?_push_of_some _ e))
      · cases r₂ with
        | error e => exact hr₂
        | ok fl₂ =>
          cases fl₂ with
          | ret r =>
            obtain ⟨rfl, h', tk, rfl, hS', hk'⟩ := hr₂
            repeat (any_goals (first | assumption | wp_step))
            exact h _ _ hS' hk'
          | _ => exact hr₂.elim
    | _ => exact hr.elim
end
/-- len(set(xs)) -/
def tLenSame (K : PySem.W.Frag) (ta : TE) : TE := fun σ H Q => ta σ H fun y H1 => ∃ (l : Addr) (x : Str) (n : Nat), y = .ref l ∧ SqL K H1 l (List.replicate n (V.str x)) ∧ Q (.int (min n 1 : Nat)) H1
theorem pe_lenSame {X : Cx} {a : Expr} {ta : TE} {p p2 q pos : Pos} (hc : X.calm = true) (hg : Gl X "len") (hm : X.mg "len" = none) (hg2 : Gl X "set") (hm2 : X.mg "set" = none) (ha : PE X a ta)
    (na : starEach [a] X.env = (false, eval a X.env) :: starEach [] X.env := by rfl) : PE X (.Call (.Name "len" p) [.Call (.Name "set" p2) [a] [] q] [] pos) (tLenSame X.K ta) := by
  refine ⟨fun pins s σ H Q I h => ?_⟩
  refine Call_ (ld_blt I hg hm boot_len (PyProof.Rows.callWith_builtin1 (PyProof.Rows.args_cons ?_ rfl) rfl rfl))
  refine Call_ (ld_blt I hg2 hm2 boot_set ?_)
  refine PyProof.Rows.callWith_type1 (PyProof.Rows.args_cons (thn (ha.run pins s σ H _ I h) fun v s1 ⟨y, H1, I1, r1, q1⟩ => PyProof.Rows.args_nil ?_) na) na rfl
  obtain ⟨l, x, n, rfl, hq, q1⟩ := q1
  cases r1
  obtain ⟨its, r, pl, hz⟩ := I1.list hq
  have hl : its.toArray.size = n := by rw [List.size_toArray, ← r.length, List.length_replicate]
  refine call_set_same (x := x) (I1.ok.hd hc) pl.isList (fun i v hv => ?_) fun h' tk hS hk => ?_
  · have hv' : its[i]? = some v := by simpa using hv
    have hlt : i < (List.replicate n (V.str x)).length := by rw [r.length]; exact (List.getElem?_eq_some_iff.mp hv').1
    have e1 : (List.replicate n (V.str x))[i]? = some (V.str x) := by rw [List.length_replicate] at hlt; simp [hlt]
    obtain ⟨u, hu, ru⟩ := r.get e1
    rw [hv'] at hu
    cases hu
    exact ru
  · refine PyProof.Rows.args_nil ?_
    rw [hl] at hS
    obtain ⟨o, es, ep, t, ho, hex, hd, _, _, _, hf, hn⟩ := hS
    have I2 : Inv X pins σ H1 { s1 with heap := h', toks := tk } := I1.kept fun b o e => hk b o (Heap.lt_size e) e
    refine call_len_set ho hex hd hf (by rw [hn]; omega) ⟨.int (min n 1 : Nat), H1, I2.tok _, ⟨_, by rw [hn]⟩, q1⟩
end TB
namespace TBZ
open PySem PySem.Spec PyProof.Rows
theorem zip_no_len : typeLookup (.type "zip") "__len__" = pure none := by rw [typeLookup_type, builtinLookup_eq_fast]; kernel_rfl
theorem zip_no_hint : typeLookup (.type "zip") "__length_hint__" = pure none := by rw [typeLookup_type, builtinLookup_eq_fast]; kernel_rfl
section
variable {prog : Program} {w : World} {A : Around} {E : Value → Shared → Prop} {s : Shared} {z TI TO T i1 i2 l1 l2 : Addr} {f : Bool} {oT : Obj} {k1 k2 : Nat} {xs ys : Array Value} {x y : Value}
/-- all but these three -/
abbrev Kp (z i1 i2 : Addr) (h h' : Heap) : Prop := ∀ c o, c ≠ z → c ≠ i1 → c ≠ i2 → h.get? c = some o → h'.get? c = some o
theorem held_item {Q : Value → Shared → Prop} (D : ZipApart z TI TO i1 i2 l1 l2) (hz : IsZipHeld s.heap z TI TO T f) (hT : s.heap.get? T = some oT) (hTI : IsPair s.heap TI (.ref i1) (.ref i2))
    (h1 : s.heap.IsTupleIter i1 l1 k1) (h2 : s.heap.IsTupleIter i2 l2 k2) (hl1 : s.heap.IsTuple l1 xs) (hl2 : s.heap.IsTuple l2 ys) (hx : xs[k1]? = some x) (hy : ys[k2]? = some y)
    (hQ : ∀ h', IsZipHeld h' z TI TO T true → h'.IsTupleIter i1 l1 (k1 + 1) → h'.IsTupleIter i2 l2 (k2 + 1) → IsPair h' s.heap.objs.size x y → Kp z i1 i2 s.heap h' → Q (.ref s.heap.objs.size) { s with heap := h' }) :
    wpAny (model prog w) A (Builtin.«zip.__next__» ⟨[.ref z], []⟩) (fun fin s' => ∃ v, fin = .done (.ret v) ∧ Q v s') E s := by
  show wpAny _ _ (field (.ref z) 2 >>= _) _ _ _; refine wpAny_bind (wpAny_field hz rfl (x := .bool false) rfl ?_)
  show wpAny _ _ (field (.ref z) 3 >>= _) _ _ _; refine wpAny_bind (wpAny_field hz rfl (x := .ref TI) rfl (wpAny_bind (wpAny_seqItems hTI rfl ?_)))
  show wpAny _ _ (Builtin.SmallTypes.ownedTupleIsFree (.ref z) >>= _) _ _ _; refine wpAny_bind (wpAny_tupleHeld_zip hz hT fun g1 z1 s1 => ?_)
  simp only [Bool.false_eq_true, if_false]
  refine wpAny_bind ?_
  rw [← Array.forIn_toList]; simp only [List.forIn_cons, List.forIn_nil]
  refine wpAny_bind (wpAny_bind (wpAny_holding ?_))
  show wpAny _ _ (Builtin.SmallTypes.nextOf (.ref i1) >>= _) _ _ _
  refine wpAny_bind (RZ.nextOf_tuple_item (s := { s with heap := g1 }) (h1.extBut s1.extBut D.i1z) (hl1.extBut s1.extBut D.l1z) hx fun g2 h1b s2 => wpAny_pure (wpAny_pure ?_))
  refine wpAny_bind (wpAny_bind (wpAny_holding ?_))
  show wpAny _ _ (Builtin.SmallTypes.nextOf (.ref i2) >>= _) _ _ _
  refine wpAny_bind (RZ.nextOf_tuple_item (s := { s with heap := g2 }) ((h2.extBut s1.extBut D.i2z).extBut s2.extBut D.i12.symm) ((hl2.extBut s1.extBut D.l2z).extBut s2.extBut D.l2i1) hy fun g3 h2b s3 => wpAny_pure (wpAny_pure (wpAny_pure ?_)))
  show wpAny _ _ (newTuple [x, y] >>= _) _ _ _
  refine wpAny_bind (wpAny_newTuple ?_)
  have hsz : g3.objs.size = s.heap.objs.size := by rw [s3.1, s2.1, s1.1]
  have z3 : IsZipHeld g3 z TI TO T true := s3.extBut _ _ D.i2z.symm (s2.extBut _ _ D.i1z.symm z1)
  have hk : Kp z i1 i2 s.heap g3 := fun c o c1 c2 c3 e => s3.extBut _ _ c3 (s2.extBut _ _ c2 (s1.extBut _ _ c1 e))
  have h1c : g3.IsTupleIter i1 l1 (k1 + 1) := h1b.extBut s3.extBut D.i12
  refine wpAny_pure ⟨_, rfl, ?_⟩
  show Q (.ref g3.objs.size) _
  have hp : IsPair (g3.push { cls := .type "tuple", data := .seq #[x, y] }) g3.objs.size x y := Heap.get?_push_size _ rfl
  rw [hsz] at hp ⊢
  exact hQ _ (Heap.get?_push_of_some _ z3) (h1c.at fun o e => Heap.get?_push_of_some _ e) (h2b.at fun o e => Heap.get?_push_of_some _ e) hp fun c o c1 c2 c3 e => Heap.get?_push_of_some _ (hk c o c1 c2 c3 e)
theorem held_end {Q : Fin → Shared → Prop} (hh : A.handled = none) (D : ZipApart z TI TO i1 i2 l1 l2) (hz : IsZipHeld s.heap z TI TO T f) (hT : s.heap.get? T = some oT) (hTI : IsPair s.heap TI (.ref i1) (.ref i2))
    (h1 : s.heap.IsTupleIter i1 l1 k1) (h2 : s.heap.IsTupleIter i2 l2 k2) (hl1 : s.heap.IsTuple l1 xs) (hl2 : s.heap.IsTuple l2 ys) (hend : xs[k1]? = none)
    (hE : ∀ h' e, Kp z i1 i2 s.heap h' → (∃ o, h'.get? e = some o ∧ o.cls = .type "StopIteration") → E (.ref e) { s with heap := h' }) :
    wpAny (model prog w) A (Builtin.«zip.__next__» ⟨[.ref z], []⟩) Q E s := by
  show wpAny _ _ (field (.ref z) 2 >>= _) _ _ _; refine wpAny_bind (wpAny_field hz rfl (x := .bool false) rfl ?_)
  show wpAny _ _ (field (.ref z) 3 >>= _) _ _ _; refine wpAny_bind (wpAny_field hz rfl (x := .ref TI) rfl (wpAny_bind (wpAny_seqItems hTI rfl ?_)))
  show wpAny _ _ (Builtin.SmallTypes.ownedTupleIsFree (.ref z) >>= _) _ _ _; refine wpAny_bind (wpAny_tupleHeld_zip hz hT fun g1 z1 s1 => ?_)
  simp only [Bool.false_eq_true, if_false]
  refine wpAny_bind ?_
  rw [← Array.forIn_toList]; simp only [List.forIn_cons, List.forIn_nil]
  refine wpAny_bind (wpAny_bind (wpAny_holding ?_))
  show wpAny _ _ (Builtin.SmallTypes.nextOf (.ref i1) >>= _) _ _ _
  exact wpAny_bind (RZ.nextOf_tuple_end (s := { s with heap := g1 }) hh (h1.extBut s1.extBut D.i1z) (hl1.extBut s1.extBut D.l1z) hend fun g2 e s2 he => hE g2 e (fun c o c1 c2 _ q => s2 _ _ c2 (s1.extBut _ _ c1 q)) he)
theorem pyNext_held_item {Q : Option Value → Shared → Prop} (D : ZipApart z TI TO i1 i2 l1 l2) (hz : IsZipHeld s.heap z TI TO T f) (hT : s.heap.get? T = some oT) (hTI : IsPair s.heap TI (.ref i1) (.ref i2))
    (h1 : s.heap.IsTupleIter i1 l1 k1) (h2 : s.heap.IsTupleIter i2 l2 k2) (hl1 : s.heap.IsTuple l1 xs) (hl2 : s.heap.IsTuple l2 ys) (hx : xs[k1]? = some x) (hy : ys[k2]? = some y)
    (hQ : ∀ h', IsZipHeld h' z TI TO T true → h'.IsTupleIter i1 l1 (k1 + 1) → h'.IsTupleIter i2 l2 (k2 + 1) → IsPair h' s.heap.objs.size x y → Kp z i1 i2 s.heap h' → Q (some (.ref s.heap.objs.size)) { s with heap := h' }) :
    wpAny (model prog w) A (pyNext (.ref z)) Q E s := by
  have hTy : s.TypeIs (.ref z) "zip" := ⟨_, hz, rfl⟩
  unfold pyNext
  exact wpAny_bind (wpAny_attempt (wpAny_callSpecial?_slot (name := Str.ofString "__next__") hTy F.slot_zip_next (wpAny_call_entry F.slot_zip_next hTy F.entry_zip_next
    (held_item D hz hT hTI h1 h2 hl1 hl2 hx hy fun h' a1 a3 a4 a5 a7 => wpAny_pure (hQ h' a1 a3 a4 a5 a7)) (F.args_zip_next_1 _))))
theorem pyNext_held_end {Q : Option Value → Shared → Prop} (hh : A.handled = none) (D : ZipApart z TI TO i1 i2 l1 l2) (hz : IsZipHeld s.heap z TI TO T f) (hT : s.heap.get? T = some oT) (hTI : IsPair s.heap TI (.ref i1) (.ref i2))
    (h1 : s.heap.IsTupleIter i1 l1 k1) (h2 : s.heap.IsTupleIter i2 l2 k2) (hl1 : s.heap.IsTuple l1 xs) (hl2 : s.heap.IsTuple l2 ys) (hend : xs[k1]? = none)
    (hQ : ∀ h', Kp z i1 i2 s.heap h' → Q none { s with heap := h' }) : wpAny (model prog w) A (pyNext (.ref z)) Q E s := by
  have hTy : s.TypeIs (.ref z) "zip" := ⟨_, hz, rfl⟩
  unfold pyNext
  refine wpAny_bind (wpAny_attempt (wpAny_callSpecial?_slot (name := Str.ofString "__next__") hTy F.slot_zip_next (wpAny_call_entry F.slot_zip_next hTy F.entry_zip_next
    (held_end hh D hz hT hTI h1 h2 hl1 hl2 hend fun h' e hk ⟨o, ho, hc⟩ => ?_) (F.args_zip_next_1 _))))
  refine wpAny_bind (wpAny_isInstance (T := "StopIteration") (b := true) ⟨o, ho, hc⟩ isSubtype_stop ?_)
  exact wpAny_pure (hQ _ hk)
end
/-! ### tuple(zip(t, u)) -/
/-- as: the pairs that came, newer than lo -/
structure ZA (xs ys : Array Value) (lo i : Nat) (as : List Addr) (h : Heap) : Prop where
  len : as.length = i
  low : ∀ a ∈ as, lo ≤ a
  nd : as.Nodup
  pr : ∀ (j : Nat) (a : Addr), as[j]? = some a → ∃ x y, xs[j]? = some x ∧ ys[j]? = some y ∧ IsPair h a x y
theorem ZA.to {xs ys : Array Value} {lo i : Nat} {as : List Addr} {h h' : Heap} (Z : ZA xs ys lo i as h) (k : ∀ a ∈ as, ∀ o, h.get? a = some o → h'.get? a = some o) : ZA xs ys lo i as h' :=
  ⟨Z.len, Z.low, Z.nd, fun j a e => let ⟨x, y, p, q, r⟩ := Z.pr j a e; ⟨x, y, p, q, k a (List.mem_of_getElem? e) _ r⟩⟩
/-- the zip at turn i -/
structure ZM (z TI TO i1 i2 l1 l2 S : Addr) (xs ys : Array Value) (i : Nat) (h : Heap) : Prop where
  ti : IsPair h TI (.ref i1) (.ref i2)
  a1 : h.IsTupleIter i1 l1 i
  a2 : h.IsTupleIter i2 l2 i
  t1 : h.IsTuple l1 xs
  t2 : h.IsTuple l2 ys
  st : (IsZip h z TI TO .none ∧ ∃ a b, IsPair h TO a b) ∨ ∃ (T : Addr) (f : Bool) (oT : Obj), IsZipHeld h z TI TO T f ∧ h.get? T = some oT ∧ T ≠ z ∧ T ≠ i1 ∧ T ≠ i2 ∧ T ≠ S
theorem ZM.but {z TI TO i1 i2 l1 l2 S : Addr} {xs ys : Array Value} {i : Nat} {h h' : Heap} (M : ZM z TI TO i1 i2 l1 l2 S xs ys i h) (k : ∀ c o, c ≠ S → h.get? c = some o → h'.get? c = some o)
    (n1 : S ≠ z) (n2 : S ≠ TI) (n3 : S ≠ TO) (n4 : S ≠ i1) (n5 : S ≠ i2) (n6 : S ≠ l1) (n7 : S ≠ l2) : ZM z TI TO i1 i2 l1 l2 S xs ys i h' := by
  refine ⟨k _ _ n2.symm M.ti, M.a1.at fun o e => k _ o n4.symm e, M.a2.at fun o e => k _ o n5.symm e, M.t1.at fun o e => k _ o n6.symm e, M.t2.at fun o e => k _ o n7.symm e, ?_⟩
  rcases M.st with ⟨q, a, b, p⟩ | ⟨T, f, oT, q, p, r1, r2, r3, r4⟩
  · exact .inl ⟨k _ _ n1.symm q, a, b, k _ _ n3.symm p⟩
  · exact .inr ⟨T, f, oT, k _ _ n1.symm q, k _ _ r4 p, r1, r2, r3, r4⟩
section
variable {prog : Program} {w : World} {A : Around} {E : Value → Shared → Prop} {s : Shared} {z TI TO i1 i2 l1 l2 S : Addr} {xs ys : Array Value} {i : Nat}
/-- all but the zip's own -/
abbrev Kz (z TO i1 i2 : Addr) (h h' : Heap) : Prop := ∀ c o, c ≠ z → c ≠ TO → c ≠ i1 → c ≠ i2 → h.get? c = some o → h'.get? c = some o
theorem ZM.item {Q : Option Value → Shared → Prop} {x y : Value} (D : ZipApart z TI TO i1 i2 l1 l2) (M : ZM z TI TO i1 i2 l1 l2 S xs ys i s.heap) (hx : xs[i]? = some x) (hy : ys[i]? = some y) (hS : S < s.heap.objs.size)
    (hQ : ∀ h', ZM z TI TO i1 i2 l1 l2 S xs ys (i + 1) h' → IsPair h' s.heap.objs.size x y → Kz z TO i1 i2 s.heap h' → Q (some (.ref s.heap.objs.size)) { s with heap := h' }) : wpAny (model prog w) A (pyNext (.ref z)) Q E s := by
  have lt : ∀ {c : Addr} {o : Obj}, s.heap.get? c = some o → s.heap.objs.size ≠ c := fun e => Nat.ne_of_gt (Heap.lt_size e)
  have m1 : s.heap.objs.size ≠ i1 := let ⟨_, e, _⟩ := M.a1; lt e
  have m2 : s.heap.objs.size ≠ i2 := let ⟨_, e, _⟩ := M.a2; lt e
  rcases M.st with ⟨hz, a, b, hTO⟩ | ⟨T, f, oT, hz, hT, r1, r2, r3, r4⟩
  · refine RZ.pyNext_zipT_item D hz M.ti hTO M.a1 M.a2 M.t1 M.t2 hx hy fun h' q1 q2 q3 q4 q5 q6 hk => ?_
    exact hQ h' ⟨hk _ _ D.TIz D.TITO D.TIi1 D.TIi2 M.ti, q3, q4, M.t1.at fun o e => hk _ o D.l1z D.l1TO D.l1i1 D.l1i2 e, M.t2.at fun o e => hk _ o D.l2z D.l2TO D.l2i1 D.l2i2 e, .inr ⟨s.heap.objs.size, false, _, q1, q5, lt hz, m1, m2, Nat.ne_of_gt hS⟩⟩ q5 hk
  · refine pyNext_held_item D hz hT M.ti M.a1 M.a2 M.t1 M.t2 hx hy fun h' q1 q3 q4 q5 hk => ?_
    exact hQ h' ⟨hk _ _ D.TIz D.TIi1 D.TIi2 M.ti, q3, q4, M.t1.at fun o e => hk _ o D.l1z D.l1i1 D.l1i2 e, M.t2.at fun o e => hk _ o D.l2z D.l2i1 D.l2i2 e, .inr ⟨T, true, oT, q1, hk _ _ r1 r2 r3 hT, r1, r2, r3, r4⟩⟩ q5 fun c o c1 _ c3 c4 e => hk c o c1 c3 c4 e
theorem ZM.done {Q : Option Value → Shared → Prop} (hh : A.handled = none) (D : ZipApart z TI TO i1 i2 l1 l2) (M : ZM z TI TO i1 i2 l1 l2 S xs ys i s.heap) (hx : xs[i]? = none)
    (hQ : ∀ h', Kz z TO i1 i2 s.heap h' → Q none { s with heap := h' }) : wpAny (model prog w) A (pyNext (.ref z)) Q E s := by
  rcases M.st with ⟨hz, a, b, hTO⟩ | ⟨T, f, oT, hz, hT, r1, r2, r3, r4⟩
  · exact RZ.pyNext_zipT_end hh D hz M.ti hTO M.a1 M.a2 M.t1 M.t2 (.inl hx) fun h' hk => hQ h' hk
  · exact pyNext_held_end hh D hz hT M.ti M.a1 M.a2 M.t1 M.t2 hx fun h' hk => hQ h' fun c o c1 _ c3 c4 e => hk c o c1 c3 c4 e
end
section
variable {prog : Program} {w : World} {A : Around} {R : Result → Shared → Prop} {z TI TO i1 i2 l1 l2 S : Addr} {xs ys : Array Value}
abbrev lobj (as : List Addr) (c : Nat) : Obj := { cls := .type "list", dict := none, data := .seq (as.map Value.ref).toArray c, slots := #[] }
/-- what the loop may turn -/
abbrev Ko (z TO i1 i2 S : Addr) (h h' : Heap) : Prop := ∀ c o, c ≠ z → c ≠ TO → c ≠ i1 → c ≠ i2 → c ≠ S → h.get? c = some o → h'.get? c = some o
theorem zip_loop (hh : A.handled = none) (D : ZipApart z TI TO i1 i2 l1 l2) (hsz : xs.size = ys.size) (hn : xs.size ≤ sizeLine) (res : Value)
    (n1 : S ≠ z) (n2 : S ≠ TI) (n3 : S ≠ TO) (n4 : S ≠ i1) (n5 : S ≠ i2) (n6 : S ≠ l1) (n7 : S ≠ l2) {lo : Nat} (m1 : z < lo) (m3 : TO < lo) (m4 : i1 < lo) (m5 : i2 < lo) (m6 : S < lo) :
    ∀ (k i : Nat) (as : List Addr) (s : Shared) (c : Nat), xs.size - i = k → i ≤ xs.size → ZM z TI TO i1 i2 l1 l2 S xs ys i s.heap → ZA xs ys lo i as s.heap → lo ≤ s.heap.objs.size → s.heap.get? S = some (lobj as c) →
      (∀ (h' : Heap) (as' : List Addr) (c' : Nat), ZA xs ys lo xs.size as' h' → Ko z TO i1 i2 S s.heap h' → h'.get? S = some (lobj as' c') → R (.ok (.ret res)) { s with heap := h' }) →
      codeAny (model prog w) A (.builtin "list.extend.loop" ⟨[.ref S, .ref z, res], []⟩) R s := by
  intro k
  induction k with
  | zero =>
    intro i as s c hk hi M Z hlo hS hR
    obtain rfl : i = xs.size := by omega
    refine codeAny_builtin F.entry_extend_loop ?_; rw [Around.under_plainId F.plain_extend_loop _]
    show wpAny _ A.in1 (pyNext (.ref z) >>= _) _ _ s
    refine wpAny_bind (M.done hh D (Array.getElem?_eq_none (Nat.le_refl _)) fun h' hk => ?_)
    refine wpAny_pure (hR h' as c (Z.to fun a ha o e => ?_) (fun c o c1 c2 c3 c4 _ e => hk c o c1 c2 c3 c4 e) (hk S _ n1 n3 n4 n5 hS))
    have gt : ∀ {b : Addr}, b < lo → a ≠ b := fun q => Nat.ne_of_gt (Nat.lt_of_lt_of_le q (Z.low a ha))
    exact hk a o (gt m1) (gt m3) (gt m4) (gt m5) e
  | succ k ih =>
    intro i as s c hk hi M Z hlo hS hR
    have hlt : i < xs.size := by omega
    refine codeAny_builtin F.entry_extend_loop ?_; rw [Around.under_plainId F.plain_extend_loop _]
    show wpAny _ A.in1 (pyNext (.ref z) >>= _) _ _ s
    refine wpAny_bind (M.item D (Array.getElem?_eq_getElem hlt) (Array.getElem?_eq_getElem (by omega)) (Heap.lt_size hS) fun h' M' hp hk => ?_)
    have hS' : h'.get? S = some (lobj as c) := hk S _ n1 n3 n4 n5 hS
    have hal : as.length = i := Z.len
    show wpAny _ A.in1 (updateSeq S (·.push (.ref s.heap.objs.size)) >>= _) _ _ _
    refine wpAny_bind ?_
    have ne : s.heap.objs.size ≠ S := Nat.ne_of_gt (Heap.lt_size hS)
    have oth : ∀ c o, c ≠ S → h'.get? c = some o → (h'.update S (Obj.mapSeq (·.push (.ref s.heap.objs.size)))).get? c = some o := fun c o hc e => (Heap.get?_update_other _ _ (Ne.symm hc)).trans e
    have newS : (h'.update S (Obj.mapSeq (·.push (.ref s.heap.objs.size)))).get? S = some (lobj (as ++ [s.heap.objs.size]) _) := (Heap.get?_update_self _ hS' rfl).trans (by simp [Obj.mapSeq, lobj] <;> rfl)
    have Z' : ZA xs ys lo (i + 1) (as ++ [s.heap.objs.size]) (h'.update S (Obj.mapSeq (·.push (.ref s.heap.objs.size)))) := by
      refine ⟨by simp [hal], fun a ha => ?_, ?_, fun j a e => ?_⟩
      · rcases List.mem_append.mp ha with q | q
        · exact Z.low a q
        · rw [List.mem_singleton.mp q]; exact hlo
      · refine List.nodup_append.mpr ⟨Z.nd, by simp, fun a ha b hb => ?_⟩
        rw [List.mem_singleton.mp hb]
        obtain ⟨j, hj, e⟩ := List.mem_iff_getElem.mp ha
        obtain ⟨x, y, _, _, r⟩ := Z.pr j a (by rw [← e]; exact List.getElem?_eq_getElem hj)
        exact Nat.ne_of_lt (Heap.lt_size r)
      · by_cases hj : j < as.length
        · rw [List.getElem?_append_left hj] at e
          obtain ⟨x, y, p, q, r⟩ := Z.pr j a e
          have gt : ∀ {b : Addr}, b < lo → a ≠ b := fun q => Nat.ne_of_gt (Nat.lt_of_lt_of_le q (Z.low a (List.mem_of_getElem? e)))
          exact ⟨x, y, p, q, oth a _ (gt m6) (hk a _ (gt m1) (gt m3) (gt m4) (gt m5) r)⟩
        · rw [List.getElem?_append_right (by omega)] at e
          have hj0 : j - as.length = 0 := by
            cases hq : j - as.length with
            | zero => rfl
            | succ m => rw [hq] at e; simp at e
          rw [hj0] at e
          cases e
          obtain rfl : j = i := by omega
          exact ⟨_, _, Array.getElem?_eq_getElem hlt, Array.getElem?_eq_getElem (by omega), oth _ _ ne hp⟩
    refine wpAny_updateSeq hS' rfl (wpAny_pure ⟨plainId_quiet F.plain_extend_loop _, ih (i + 1) (as ++ [s.heap.objs.size]) _ _ (by omega) hlt (M'.but oth n1 n2 n3 n4 n5 n6 n7) Z' (by
        show lo ≤ (h'.update S _).objs.size
        have q := Heap.lt_size (oth _ _ ne hp)
        exact Nat.le_trans hlo (Nat.le_of_lt q)) newS fun h'' as' c' Z'' hk'' hS'' => ?_⟩) (by simp [hal]; omega) (by simp [hal]; omega)
    exact hR h'' as' c' Z'' (fun c o c1 c2 c3 c4 c5 e => hk'' c o c1 c2 c3 c4 c5 (oth c o c5 (hk c o c1 c2 c3 c4 e))) hS''
end
section
variable {prog : Program} {w : World} {A : Around} {E : Value → Shared → Prop} {s : Shared} {z TI TO i1 i2 l1 l2 : Addr} {xs ys : Array Value}
/-- the zip as it was made -/
structure ZN (z TI TO i1 i2 l1 l2 : Addr) (xs ys : Array Value) (h : Heap) : Prop where
  ti : IsPair h TI (.ref i1) (.ref i2)
  a1 : h.IsTupleIter i1 l1 0
  a2 : h.IsTupleIter i2 l2 0
  t1 : h.IsTuple l1 xs
  t2 : h.IsTuple l2 ys
  zz : IsZip h z TI TO .none
  to : ∃ a b, IsPair h TO a b
abbrev L0 : Obj := { cls := .type "list", data := .seq ([] : List Value).toArray }
set_option maxHeartbeats 400000 in
/-- new: lo, kept: what stood but the zip's own -/
theorem collect_zip {Q : List Value → Shared → Prop} (hh : A.handled = none) (D : ZipApart z TI TO i1 i2 l1 l2) (hsz : xs.size = ys.size) (hn : xs.size ≤ sizeLine) (N : ZN z TI TO i1 i2 l1 l2 xs ys s.heap)
    (hQ : ∀ (h' : Heap) (as : List Addr), ZA xs ys s.heap.objs.size xs.size as h' → Kz z TO i1 i2 s.heap h' → Q (as.map Value.ref) { s with heap := h' }) :
    wpAny (model prog w) A (collect (.ref z)) Q E s := by
  have lt : ∀ {c : Addr} {o : Obj}, s.heap.get? c = some o → c < s.heap.objs.size := fun e => Heap.lt_size e
  have m1 : z < s.heap.objs.size := lt N.zz
  have m2 : TI < s.heap.objs.size := lt N.ti
  have m3 : TO < s.heap.objs.size := let ⟨_, _, e⟩ := N.to; lt e
  have m4 : i1 < s.heap.objs.size := let ⟨_, e, _⟩ := N.a1; lt e
  have m5 : i2 < s.heap.objs.size := let ⟨_, e, _⟩ := N.a2; lt e
  have m6 : l1 < s.heap.objs.size := let ⟨_, e, _⟩ := N.t1; lt e
  have m7 : l2 < s.heap.objs.size := let ⟨_, e, _⟩ := N.t2; lt e
  have gt : ∀ {c : Addr}, c < s.heap.objs.size → s.heap.objs.size ≠ c := fun q => Nat.ne_of_gt q
  have g1 : ∀ {c : Addr}, c < s.heap.objs.size → c < s.heap.objs.size + 1 := fun q => Nat.lt_succ_of_lt q
  have up : ∀ c o, s.heap.get? c = some o → (s.heap.push L0).get? c = some o := fun c o e => Heap.get?_push_of_some _ e
  unfold collect
  refine wpAny_bind (wpAny_runValue (codeAny_builtin F.entry_proto_collect ?_)); rw [Around.under_plainId F.plain_proto_collect _]
  show wpAny _ A.in1 (newList [] >>= fun l => again (.builtin "list.__iadd__" ⟨[l, .ref z], []⟩)) _ _ s; refine wpAny_bind (wpAny_newObj_type ?_)
  refine wpAny_pure ⟨plainId_quiet F.plain_list_iadd _, codeAny_builtin F.entry_list_iadd ?_⟩; rw [Around.under_plainId F.plain_list_iadd _]
  have hT : Shared.TypeIs { s with heap := s.heap.push L0 } (.ref z) "zip" := ⟨_, up _ _ N.zz, rfl⟩
  show wpAny _ A.in1 (Builtin.List.listExtendWith (.ref s.heap.objs.size) (.ref z) (.ref s.heap.objs.size)) _ _ { s with heap := s.heap.push L0 }
  unfold Builtin.List.listExtendWith
  refine wpAny_bind (wpAny_typeOf hT ?_)
  have q1 : Builtin.List.listSameRef (.ref s.heap.objs.size) (.ref z) = false := by simp [Builtin.List.listSameRef, gt m1]
  have q2 : (Value.type "zip" == Value.type "list") = false := by decide
  have q3 : (Value.type "zip" == Value.type "tuple") = false := by decide
  simp only [q1, q2, q3, Bool.or_false, Bool.false_eq_true, if_false]
  refine wpAny_bind (wpAny_pyIter_zip (s := { s with heap := s.heap.push L0 }) (up _ _ N.zz) (wpAny_bind (wpAny_holding ?_)))
  unfold Builtin.List.listLengthHint
  refine wpAny_bind (wpAny_specialOf hT zip_no_len ?_)
  show wpAny _ A.in1 (specialOf (Value.ref z) (Str.ofString "__length_hint__") >>= _) _ _ _; refine wpAny_bind (wpAny_specialOf hT zip_no_hint (wpAny_pure ?_))
  show wpAny _ A.in1 (rule "list.extend.makes-room" >>= fun _ => Builtin.List.listTouch (.ref s.heap.objs.size) >>= fun _ => again (.builtin "list.extend.loop" ⟨[.ref s.heap.objs.size, .ref z, .ref s.heap.objs.size], []⟩)) _ _ _
  refine wpAny_bind (wpAny_rule (wpAny_bind ?_))
  have e1 : (s.heap.push L0).get? s.heap.objs.size = some L0 := Heap.get?_push_size _ rfl
  show wpAny _ A.in1 (updateSeq s.heap.objs.size (·.push .none) >>= fun _ => updateSeq s.heap.objs.size (·.pop)) _ _ _
  refine wpAny_bind (wpAny_updateSeq e1 rfl ?_)
  have e2 := Heap.get?_update_self (Obj.mapSeq (·.push Value.none)) e1 rfl
  refine wpAny_updateSeq e2 rfl ?_
  have e3 := Heap.get?_update_self (Obj.mapSeq (·.pop)) e2 rfl
  have oth : ∀ b o, b ≠ s.heap.objs.size → s.heap.get? b = some o → (((s.heap.push L0).update s.heap.objs.size (Obj.mapSeq (·.push Value.none))).update s.heap.objs.size (Obj.mapSeq (·.pop))).get? b = some o :=
    fun b o hb e => (Heap.get?_update_other _ _ (Ne.symm hb)).trans ((Heap.get?_update_other _ _ (Ne.symm hb)).trans (up _ _ e))
  have ot : ∀ b o, s.heap.get? b = some o → (((s.heap.push L0).update s.heap.objs.size (Obj.mapSeq (·.push Value.none))).update s.heap.objs.size (Obj.mapSeq (·.pop))).get? b = some o := fun b o e => oth b o (Nat.ne_of_lt (Heap.lt_size e)) e
  generalize ((s.heap.push L0).update s.heap.objs.size (Obj.mapSeq (·.push Value.none))).update s.heap.objs.size (Obj.mapSeq (·.pop)) = h2 at ot e3 ⊢
  obtain ⟨c0, e4⟩ : ∃ c, h2.get? s.heap.objs.size = some (lobj [] c) := ⟨_, e3.trans (by simp [Obj.mapSeq, lobj] <;> rfl)⟩
  have M : ZM z TI TO i1 i2 l1 l2 s.heap.objs.size xs ys 0 h2 := ⟨ot _ _ N.ti, N.a1.at fun o e => ot _ o e, N.a2.at fun o e => ot _ o e, N.t1.at fun o e => ot _ o e, N.t2.at fun o e => ot _ o e, .inl ⟨ot _ _ N.zz, let ⟨a, b, e⟩ := N.to; ⟨a, b, ot _ _ e⟩⟩⟩
  have Z0 : ZA xs ys (s.heap.objs.size + 1) 0 [] h2 := ⟨rfl, fun _ h => (by simp at h), List.nodup_nil, fun j a h => (by simp at h)⟩
  refine wpAny_pure ⟨plainId_quiet F.plain_extend_loop _, zip_loop (A := A) hh D hsz hn _ (gt m1) (gt m2) (gt m3) (gt m4) (gt m5) (gt m6) (gt m7) (g1 m1) (g1 m3) (g1 m4) (g1 m5) (Nat.lt_succ_self _)
    xs.size 0 [] { s with heap := h2 } c0 (Nat.sub_zero _) (Nat.zero_le _) M Z0 (Heap.lt_size e4) e4 fun h' as c' Z hk hS => ?_⟩
  show wpAny _ A (load s.heap.objs.size >>= _) _ _ _
  refine wpAny_bind (wpAny_load hS (wpAny_pure ?_))
  refine hQ h' as ⟨Z.len, fun a ha => Nat.le_of_succ_le (Z.low a ha), Z.nd, Z.pr⟩ fun c o c1 c2 c3 c4 e => hk c o c1 c2 c3 c4 (Nat.ne_of_lt (Heap.lt_size e)) (ot _ _ e)
end
section
variable {prog : Program} {w : World} {A : Around} {E : Value → Shared → Prop} {s : Shared} {z TI TO i1 i2 l1 l2 : Addr} {xs ys : Array Value}
/-- behind tuple(zip): the pairs as, the tuple at t -/
abbrev TDone (Q : Value → Shared → Prop) (z TO i1 i2 : Addr) (xs ys : Array Value) (s : Shared) : Prop :=
  ∀ (h' : Heap) (as : List Addr), ZA xs ys s.heap.objs.size xs.size as h' → Kz z TO i1 i2 s.heap h' → Q (.ref h'.objs.size) { s with heap := h'.push { cls := .type "tuple", data := .seq (as.map Value.ref).toArray } }
theorem code_tuple_new_zip {Q₁ : Value → Shared → Prop} (hh : A.handled = none) (D : ZipApart z TI TO i1 i2 l1 l2) (hsz : xs.size = ys.size) (hn : xs.size ≤ sizeLine) (N : ZN z TI TO i1 i2 l1 l2 xs ys s.heap) (h : TDone Q₁ z TO i1 i2 xs ys s) :
    codeAny (model prog w) A (.call (.builtin "tuple.__new__") ⟨[.type "tuple", .ref z], []⟩) (wants Q₁ E) s := by
  refine codeAny_of_tree ?_
  show wpAny _ A.in1 (do checkBuiltinCall "tuple.__new__" ⟨[.type "tuple", .ref z], []⟩; again (.builtin "tuple.__new__" ⟨[.type "tuple", .ref z], []⟩)) _ _ s
  refine wpAny_bind (wpAny_of_eq (F.newCall_tuple_1 _) (wpAny_pure ⟨plainId_quiet F.plain_tuple_new _, codeAny_builtin F.entry_tuple_new ?_⟩)); rw [Around.under_plainId F.plain_tuple_new _]
  have hsub := sub_tuple_self; have hinit := init_tuple_lookup; have hmh := madeHere_tuple
  have hTI : s.TypeIs (.ref z) "zip" := ⟨_, N.zz, rfl⟩
  have hh1 : A.in1.handled = none := hh
  wp_walk using wpAny_typeOf hTI, collect_zip (A := A.in1) hh1 D hsz hn N
  intro h' as Z hk
  show wpAny _ _ (Builtin.Tuple.tupleExact (as.map Value.ref).toArray >>= fun v => ret v) _ _ _
  unfold Builtin.Tuple.tupleExact
  refine wpAny_bind (wpAny_newObj_type (wpAny_pure ?_) (by show (as.map Value.ref).toArray.size ≤ sizeLine; rw [List.size_toArray, List.length_map, Z.len]; exact hn))
  exact h h' as Z hk
theorem call_tuple_zip {Q : Value → Shared → Prop} (hh : A.handled = none) (D : ZipApart z TI TO i1 i2 l1 l2) (hsz : xs.size = ys.size) (hn : xs.size ≤ sizeLine) (N : ZN z TI TO i1 i2 l1 l2 xs ys s.heap) (h : TDone Q z TO i1 i2 xs ys s) :
    wpAny (model prog w) A (call (.type "tuple") [.ref z]) Q E s := by
  refine callType_codes (Q₁ := fun obj s₁ => s₁.TypeIs obj "tuple" ∧ Q obj s₁) F.called_tuple (F.typeCall_tuple_1 _) F.entry_object_init
    (code_tuple_new_zip (A := A.in1) hh D hsz hn N fun h' as Z hk => ⟨⟨_, Heap.get?_push_size _ rfl, rfl⟩, h h' as Z hk⟩) fun obj s₁ h₁ => ?_
  exact ⟨h₁.1, F.args_object_init_2 obj _, object_init_meets F.called_tuple.init.lookup F.called_tuple.made (by decide) prog w A.in1 _ s₁ ⟨h₁.1, rfl, h₁.2⟩⟩
end
end TBZ
namespace TB
open PySem PySem.Spec PyProof.Rows L2 TBZ
/-- the pairs tracked -/
def putP : Hp → List Addr → List (V × V) → Hp
  | H, a :: as, p :: ps => putP (upd H a (.tup [p.1, p.2])) as ps
  | H, _, _ => H
theorem putP_off {b : Addr} : ∀ (as : List Addr) (ps : List (V × V)) (H : Hp), b ∉ as → putP H as ps b = H b
  | [], _, _, _ => rfl
  | _ :: _, [], _, _ => rfl
  | a :: as, p :: ps, H, h => by
    show putP (upd H a (.tup [p.1, p.2])) as ps b = H b
    rw [putP_off as ps _ (fun q => h (List.mem_cons_of_mem _ q)), upd_ne (fun (q : b = a) => h (by rw [q]; exact List.mem_cons_self))]
theorem putP_at : ∀ (as : List Addr) (ps : List (V × V)) (H : Hp), as.length = ps.length → as.Nodup → ∀ (j : Nat) (a : Addr) (p : V × V), as[j]? = some a → ps[j]? = some p → putP H as ps a = some (.tup [p.1, p.2])
  | [], _, _, _, _, j, a, p, e, _ => by simp at e
  | _ :: _, [], _, h, _, _, _, _, _, _ => by cases h
  | a :: as, p :: ps, H, h, hn, j, b, q, e1, e2 => by
    have hn' := List.nodup_cons.mp hn
    show putP (upd H a (.tup [p.1, p.2])) as ps b = some (.tup [q.1, q.2])
    cases j with
    | zero =>
      cases e1; cases e2
      rw [putP_off as ps _ hn'.1, upd_same]
    | succ j => exact putP_at as ps _ (Nat.succ.inj h) hn'.2 j b q (by simpa using e1) (by simpa using e2)
/-- tuple(zip(t, u)) of two tuples of one length -/
def tTupZip (K : PySem.W.Frag) (ta : TA) : TE := fun σ H Q => ta σ H fun vs H1 => ∃ (a b : Addr) (xs ys : List V), vs = [.ref a, .ref b] ∧ SqT K H1 a xs ∧ SqT K H1 b ys ∧ xs.length = ys.length ∧
  ∀ (H' : Hp) (p : Addr) (as : List Addr), (∀ c o, H1 c = some o → H' c = some o) → H1 p = none → H' p = some (.tup (as.map V.ref)) → as.length = xs.length →
    (∀ (j : Nat) (c : Addr) (x y : V), as[j]? = some c → xs[j]? = some x → ys[j]? = some y → H' c = some (.tup [x, y])) → Q (.ref p) H'
theorem pe_tupZip {X : Cx} {e e2 : Expr} {ta : TA} {p p2 q pos : Pos} (hc : X.calm = true) (hg : Gl X "tuple") (hm : X.mg "tuple" = none) (hg2 : Gl X "zip") (hm2 : X.mg "zip" = none) (ha : PA X [e, e2] ta)
    (hs : starEach [e, e2] X.env = (false, eval e X.env) :: starEach [e2] X.env := by rfl) (hpl : (backTo q (starEach [e2] X.env)).any (·.1) = false := by rfl)
    (hs1 : starEach [.Call (.Name "zip" p2) [e, e2] [] q] X.env = (false, eval (.Call (.Name "zip" p2) [e, e2] [] q) X.env) :: starEach [] X.env := by rfl) :
    PE X (.Call (.Name "tuple" p) [.Call (.Name "zip" p2) [e, e2] [] q] [] pos) (tTupZip X.K ta) := by
  refine ⟨fun pins s σ H Q I h => ?_⟩
  refine Call_ (ld_blt I hg hm boot_tuple ?_)
  refine PyProof.Rows.callWith_type1 ?_ hs1 rfl
  rw [hs1]
  refine Calls.spliced_cons ?_
  refine Call_ (ld_blt I hg2 hm2 PyProof.Rows.boot_zip (PyProof.Rows.callWith_type1 (thn (ha.run q pins s σ H _ I h) fun us s1 ⟨vs, H1, I1, r1, q1⟩ => ?_) hs hpl))
  obtain ⟨a, b, xs, ys, rfl, hqx, hqy, hl, q1⟩ := q1
  obtain ⟨u1, u2, rfl, ra, rb⟩ := vals2 r1
  cases ra; cases rb
  obtain ⟨its, rv, p1, hz1⟩ := I1.tuple hqx
  obtain ⟨its2, rv2, p2', hz2⟩ := I1.tuple hqy
  have e1 : its.toArray.size = xs.length := by rw [List.size_toArray]; exact rv.length.symm
  have e2' : its2.toArray.size = ys.length := by rw [List.size_toArray]; exact rv2.length.symm
  obtain ⟨o1, ho1, _⟩ := id p1
  obtain ⟨o2, ho2, _⟩ := id p2'
  refine RZ.call_zipT (show s1.heap.IsTuple a its.toArray from p1) (show s1.heap.IsTuple b its2.toArray from p2') fun h' hz hTI hTO h1 h2 hsz hk => Calls.spliced_nil ?_
  refine call_tuple_zip (I1.ok.hd hc) (PySem.W.ktu_apart s1.heap.objs.size a b (Heap.lt_size ho1) (Heap.lt_size ho2)) (by rw [e1, e2', hl]) (by rw [e1]; exact hz1)
    ⟨hTI, h1, h2, (show s1.heap.IsTuple a its.toArray from p1).at fun o e => hk _ o e, (show s1.heap.IsTuple b its2.toArray from p2').at fun o e => hk _ o e, hz, ⟨_, _, hTO⟩⟩ fun h2' as Z hk2 => ?_
  have n0 : ∀ {c : Addr} {o : Obj}, s1.heap.get? c = some o → ∀ k, c ≠ s1.heap.objs.size + k := fun e k => Nat.ne_of_lt (Nat.lt_of_lt_of_le (Heap.lt_size e) (Nat.le_add_right _ _))
  have kp : ∀ c o, s1.heap.get? c = some o → h2'.get? c = some o := fun c o e => hk2 c o (n0 e 4) (n0 e 3) (n0 e 0) (n0 e 1) (hk c o e)
  have al : as.length = xs.length := Z.len.trans e1
  have fr : ∀ c ∈ as, H1 c = none := fun c hcm => I1.hok.fresh (Nat.le_trans (Nat.le_of_lt (by show s1.heap.objs.size < h'.objs.size; rw [hsz]; exact Nat.lt_add_of_pos_right (by decide))) (Z.low c hcm))
  have I2 : Inv X pins σ H1 { s1 with heap := h2' } := I1.kept (t' := s1.toks) kp
  have zl : (xs.zip ys).length = xs.length := by rw [List.length_zip, ← hl, Nat.min_self]
  have atJ : ∀ (j : Nat) (c : Addr) (x y : V), as[j]? = some c → xs[j]? = some x → ys[j]? = some y → putP H1 as (xs.zip ys) c = some (.tup [x, y]) := fun j c x y q2 q3 q4 =>
    putP_at as (xs.zip ys) H1 (by rw [al, zl]) Z.nd j c (x, y) q2 (by rw [List.getElem?_zip_eq_some]; exact ⟨q3, q4⟩)
  have kpH : ∀ c o, H1 c = some o → putP H1 as (xs.zip ys) c = some o := fun c o e => by
    rw [putP_off as _ _ (fun q => by rw [fr c q] at e; cases e)]
    exact e
  have pairsOk : ∀ c ∈ as, ∃ x y : V, putP H1 as (xs.zip ys) c = some (.tup [x, y]) ∧ ObjOk X.prog X.w (putP H1 as (xs.zip ys)) h2' c (.tup [x, y]) := fun c hcm => by
    obtain ⟨j, hj, ej⟩ := List.mem_iff_getElem.mp hcm
    have ej' : as[j]? = some c := by rw [← ej]; exact List.getElem?_eq_getElem hj
    obtain ⟨u, v, qu, qv, ip⟩ := Z.pr j c ej'
    have hjx : j < xs.length := by rw [← al]; exact hj
    have qx : xs[j]? = some xs[j] := List.getElem?_eq_getElem hjx
    have qy : ys[j]? = some (ys[j]'(by rw [← hl]; exact hjx)) := List.getElem?_eq_getElem _
    obtain ⟨u', qu', ru⟩ := rv.get qx
    obtain ⟨v', qv', rv'⟩ := rv2.get qy
    have eu : u' = u := Option.some.inj (qu'.symm.trans (by simpa using qu))
    have ev : v' = v := Option.some.inj (qv'.symm.trans (by simpa using qv))
    subst eu ev
    exact ⟨_, _, atJ j c _ _ ej' qx qy, by show 2 ≤ sizeLine; decide, [u', v'], .cons ru (.cons rv' .nil), ⟨_, ip, rfl, _, rfl⟩⟩
  have I3 : Inv X pins σ (putP H1 as (xs.zip ys)) { s1 with heap := h2' } := by
    refine I1.call' (ch := []) rfl ⟨fun c o q _ _ _ => kp c o q, fun c o q _ _ _ => ⟨o.slots, kp c o q⟩, fun c o q n _ => ?_, fun c o q _ => ⟨o, kp c o q⟩, fun c xs q => kpH c _ q, fun c o u q => kpH c _ q, fun c ps q => ⟨#[], by rw [kpH c _ q]; simp⟩⟩ (fun c u q => ?_) I1.bare fun c q => by simp at q
    · rw [putP_off as _ _ (fun hcm => absurd (Heap.lt_size q) (Nat.not_lt.mpr (Nat.le_trans (Nat.le_of_lt (by show s1.heap.objs.size < h'.objs.size; rw [hsz]; exact Nat.lt_add_of_pos_right (by decide))) (Z.low c hcm))))]
      exact n
    · by_cases hcm : c ∈ as
      · obtain ⟨x, y, g1, g2⟩ := pairsOk c hcm
        rw [g1] at q
        cases q
        exact g2
      · rw [putP_off as _ _ hcm] at q
        exact (I1.hok c u q).stay (fun d v _ y => kp d v y) (fun d y => kpH d _ y) fun d xs y => kpH d _ y
  have hf : putP H1 as (xs.zip ys) h2'.objs.size = none := I3.hok.fresh (Nat.le_refl _)
  refine ⟨.ref h2'.objs.size, _, I3.laid (t' := s1.toks) (o := .tup (as.map V.ref)) (fun c o e => Heap.get?_push_of_some _ e) (Nat.le_refl _) ⟨by rw [List.length_map, al]; exact hz1, as.map Value.ref, LiI.vals_refs as, ⟨_, Heap.get?_push_size _ rfl, rfl, _, rfl⟩⟩, rfl, ?_⟩
  refine q1 _ h2'.objs.size as (fun c o e => ?_) ?_ upd_same al fun j c x y g1 g2 g3 => ?_
  · rw [upd_ne (ne_of_none (kpH c o e) hf)]; exact kpH c o e
  · cases e : H1 h2'.objs.size with
    | none => rfl
    | some o => rw [kpH _ o e] at hf; cases hf
  · rw [upd_ne (ne_of_none (atJ j c x y g1 g2 g3) hf)]; exact atJ j c x y g1 g2 g3
end TB
namespace TB
open PySem PySem.Spec PyProof.Rows L2
/-! ### dead code -/
theorem pe_dead {X : Cx} {e : Expr} : PE X e (fun _ _ _ => False) := ⟨fun _ _ _ _ _ _ h => h.elim⟩
/-! ### a def by its name -/
structure Cal (P : Program) (w : World) (K : PySem.W.Frag) (mg : Str → Option Value) (base : Heap) (k : Nat) (x : Str) (dvs : List V) (sp : Sp) : Prop where
  ex : ∃ (f : Addr) (fd : FuncData) (ps : List Str) (ds : List Value), FnOk P w K mg base CX0 k f fd ps sp ∧ mg x = some (.ref f) ∧ PySem.W.keepIn K (.ref f) = true ∧ Binds K fd ps ds ∧ Vals dvs ds
section
variable {X : Cx} {k j : Nat} {x : Str} {dvs : List V} {sp : Sp} {e : Expr} {es : List Expr} {t : TA} {p pos : Pos}
theorem pe_cl (c : Cal X.prog X.w X.K X.mg X.base k x dvs sp) (hr : Room j X.A) (ha : PA X (e :: es) t) (hk : k ≤ j := by decide) (hg : Gl X x := by rfl)
    (he : starEach (e :: es) X.env = (false, eval e X.env) :: starEach es X.env := by rfl) (hpl : (backTo pos (starEach es X.env)).any (·.1) = false := by rfl)
    (hdb : (x == ("__debug__" : Str)) = false := by decide) : PE X (.Call (.Name x p) (e :: es) [] pos) (tCall sp dvs E0 t) := by
  obtain ⟨f, fd, ps, ds, F, hm, hkp, hb, hd⟩ := c.ex
  exact pe_call F (hr.mono hk) hg hm hkp hb hd pass0 ha hdb he hpl
theorem pe_cl0 (c : Cal X.prog X.w X.K X.mg X.base k x dvs sp) (hr : Room j X.A) (hk : k ≤ j := by decide) (hg : Gl X x := by rfl)
    (hdb : (x == ("__debug__" : Str)) = false := by decide) : PE X (.Call (.Name x p) [] [] pos) (tCall sp dvs E0 tNil) := by
  obtain ⟨f, fd, ps, ds, F, hm, hkp, hb, hd⟩ := c.ex
  exact pe_call0 F (hr.mono hk) hg hm hkp hb hd pass0 hdb
end
theorem hu8 {A : Around} {k : Nat} (hr : Room k A) : A.units + 8 < cLine := by have := hr.units; omega
/-- the built-ins that the text uses, and its constants -/
structure Free (K : PySem.W.Frag) (mg : Str → Option Value) : Prop where
  list : mg "list" = none
  tuple : mg "tuple" = none
  len : mg "len" = none
  any : mg "any" = none
  all : mg "all" = none
  sum : mg "sum" = none
  max : mg "max" = none
  min : mg "min" = none
  sorted : mg "sorted" = none
  set : mg "set" = none
  zip : mg "zip" = none
  range : mg "range" = none
  dict : mg "dict" = none
  enumerate : mg "enumerate" = none
  isinstance : mg "isinstance" = none
  str : mg "str" = none
  percent : ∃ t, mg "MOST_PERCENT" = some (.int 100 t)
/-! ### heaps that grow -/
abbrev Ex := Evl.Ex
theorem Ex.refl (H : Hp) : Ex H H := fun _ _ h => h
theorem Ex.trans {H H1 H2 : Hp} (a : Ex H H1) (b : Ex H1 H2) : Ex H H2 := fun x o h => b x o (a x o h)
theorem Ex.rd {H H' : Hp} {a : Addr} {u : HO} (e : Ex H H') (h : Rd H a u) : Rd H' a u := Evl.ex_rd e h
theorem Ex.l {K : PySem.W.Frag} {H H' : Hp} {a : Addr} {xs : List V} (e : Ex H H') (h : SqL K H a xs) : SqL K H' a xs := Evl.ex_l e h
theorem Ex.t {K : PySem.W.Frag} {H H' : Hp} {a : Addr} {xs : List V} (e : Ex H H') (h : SqT K H a xs) : SqT K H' a xs := Evl.ex_t e h
theorem Ex.new {H : Hp} {p : Addr} {o : HO} (h : H p = none) : Ex H (upd H p o) := Evl.Ex.new h
theorem Ex.back {H H' : Hp} {p : Addr} (e : Ex H H') (h : H' p = none) : H p = none := Evl.fresh_back e h
theorem Ex.mut {H H' : Hp} {p : Addr} {o : HO} (e : Ex H H') (h : H p = none) : Ex H (upd H' p o) := Evl.Ex.mut e h
/-- tuples stay -/
def TEx (H H' : Hp) : Prop := ∀ a xs, H a = some (.tup xs) → H' a = some (.tup xs)
theorem Ex.tex {H H' : Hp} (e : Ex H H') : TEx H H' := fun a xs h => e a _ h
theorem TEx.refl (H : Hp) : TEx H H := fun _ _ h => h
theorem TEx.trans {H H1 H2 : Hp} (a : TEx H H1) (b : TEx H1 H2) : TEx H H2 := fun x o h => b x o (a x o h)
theorem TEx.mut {H : Hp} {a : Addr} {o o' : HO} (h : H a = some o) (hn : ∀ xs, o ≠ .tup xs) : TEx H (L2.upd H a o') := fun b xs e => by
  rw [upd_ne (fun q => by rw [q, h] at e; exact hn xs (Option.some.inj e))]; exact e
theorem TEx.new {H : Hp} {a : Addr} {o' : HO} (h : H a = none) : TEx H (upd H a o') := (Ex.new h).tex
/-- a new object -/
theorem al {H : Hp} {o : HO} {Q : VK} (h : ∀ p H', H p = none → Ex H H' → H' p = some o → Q (.ref p) H') : ∀ p, H p = none → Q (.ref p) (upd H p o) := fun p hp => h p _ hp (Ex.new hp) upd_same
/-! ### data that never changes: ints, texts, tuples -/
inductive D where
  | int (i : Int) | str (s : Str) | tup (l : List D)
mutual
def Is (H : Hp) (v : V) : D → Prop
  | .int i => v = .int i
  | .str s => v = .str s
  | .tup ds => ∃ a xs, v = .ref a ∧ H a = some (.tup xs) ∧ IsAll H xs ds
def IsAll (H : Hp) : List V → List D → Prop
  | [], [] => True
  | x :: xs, d :: ds => Is H x d ∧ IsAll H xs ds
  | _, _ => False
end
mutual
theorem Is.mono {H H' : Hp} (e : TEx H H') : ∀ {v : V} (d : D), Is H v d → Is H' v d
  | v, .int i, h => by simpa [Is] using h
  | v, .str s, h => by simpa [Is] using h
  | v, .tup ds, h => by
    simp only [Is] at h ⊢
    obtain ⟨a, xs, h1, h2, h3⟩ := h
    exact ⟨a, xs, h1, e _ _ h2, IsAll.mono e ds h3⟩
theorem IsAll.mono {H H' : Hp} (e : TEx H H') : ∀ {vs : List V} (ds : List D), IsAll H vs ds → IsAll H' vs ds
  | [], [], _ => by simp [IsAll]
  | x :: xs, d :: ds, h => by
    simp only [IsAll] at h ⊢
    exact ⟨Is.mono e d h.1, IsAll.mono e ds h.2⟩
  | [], _ :: _, h => by simp [IsAll] at h
  | _ :: _, [], h => by simp [IsAll] at h
end
theorem IsAll.len {H : Hp} : ∀ {vs : List V} {ds : List D}, IsAll H vs ds → vs.length = ds.length
  | [], [], _ => rfl
  | x :: xs, d :: ds, h => by simp only [IsAll] at h; rw [List.length_cons, List.length_cons, h.2.len]
  | [], _ :: _, h => by simp [IsAll] at h
  | _ :: _, [], h => by simp [IsAll] at h
theorem IsAll.get {H : Hp} : ∀ {vs : List V} {ds : List D}, IsAll H vs ds → ∀ {i : Nat} {d : D}, ds[i]? = some d → ∃ v, vs[i]? = some v ∧ Is H v d
  | [], [], _, i, d, e => by simp at e
  | x :: xs, d :: ds, h, 0, d', e => by simp only [IsAll] at h; cases e; exact ⟨x, rfl, h.1⟩
  | x :: xs, d :: ds, h, i + 1, d', e => by simp only [IsAll] at h; exact h.2.get (by simpa using e)
  | [], _ :: _, h, _, _, _ => by simp [IsAll] at h
  | _ :: _, [], h, _, _, _ => by simp [IsAll] at h
theorem IsAll.at {H : Hp} : ∀ {vs : List V} {ds : List D}, IsAll H vs ds → ∀ {i : Nat} {v : V}, vs[i]? = some v → ∃ d, ds[i]? = some d ∧ Is H v d
  | [], [], _, i, d, e => by simp at e
  | x :: xs, d :: ds, h, 0, d', e => by simp only [IsAll] at h; cases e; exact ⟨d, rfl, h.1⟩
  | x :: xs, d :: ds, h, i + 1, d', e => by simp only [IsAll] at h; exact h.2.at (by simpa using e)
  | [], _ :: _, h, _, _, _ => by simp [IsAll] at h
  | _ :: _, [], h, _, _, _ => by simp [IsAll] at h
theorem IsAll.snoc {H : Hp} : ∀ {vs : List V} {ds : List D} {v : V} {d : D}, IsAll H vs ds → Is H v d → IsAll H (vs ++ [v]) (ds ++ [d])
  | [], [], v, d, _, h => by simp [IsAll, h]
  | x :: xs, d' :: ds, v, d, h, g => by simp only [IsAll, List.cons_append] at h ⊢; exact ⟨h.1, h.2.snoc g⟩
  | [], _ :: _, _, _, h, _ => by simp [IsAll] at h
  | _ :: _, [], _, _, h, _ => by simp [IsAll] at h
theorem is_tup {H : Hp} {a : Addr} {xs : List V} {ds : List D} (h : H a = some (.tup xs)) (q : IsAll H xs ds) : Is H (.ref a) (.tup ds) := by simp only [Is]; exact ⟨a, xs, rfl, h, q⟩
theorem is_strs {H : Hp} : ∀ ss : List Str, IsAll H (ss.map V.str) (ss.map D.str)
  | [] => by simp [IsAll]
  | s :: ss => by simp only [List.map_cons, IsAll, Is]; exact ⟨trivial, is_strs ss⟩
theorem Is.strs {H : Hp} {v : V} {ss : List Str} (h : Is H v (.tup (ss.map D.str))) : ∃ a, v = .ref a ∧ H a = some (.tup (ss.map V.str)) := by
  simp only [Is] at h
  obtain ⟨a, xs, h1, h2, h3⟩ := h
  refine ⟨a, h1, ?_⟩
  have e : ∀ (xs : List V) (ss : List Str), IsAll H xs (ss.map D.str) → xs = ss.map V.str := by
    intro xs ss
    induction ss generalizing xs with
    | nil => intro q; cases xs with
      | nil => rfl
      | cons _ _ => simp [IsAll] at q
    | cons s ss ih => intro q; cases xs with
      | nil => simp [IsAll] at q
      | cons x xs => simp only [List.map_cons, IsAll, Is] at q; rw [q.1, ih xs q.2]; rfl
  rw [← e xs ss h3]; exact h2
/-- an item -/
theorem ix_is {K : PySem.W.Frag} {H : Hp} {v : V} {ds : List D} {i : Nat} {d : D} {Q : VK} (h : Is H v (.tup ds)) (e : ds[i]? = some d) (q : ∀ x, Is H x d → Q x H) : rIxT K v (.int (i : Int)) H Q := by
  simp only [Is] at h
  obtain ⟨a, xs, h1, h2, h3⟩ := h
  obtain ⟨x, ex, hx⟩ := h3.get e
  exact ⟨a, xs, (i : Int), x, h1, rfl, SqT.of h2, atI_nat ex, q x hx⟩
theorem ix_last {K : PySem.W.Frag} {H : Hp} {v : V} {ds : List D} {d : D} {Q : VK} (h : Is H v (.tup (ds ++ [d]))) (q : ∀ x, Is H x d → Q x H) : rIxT K v (.int (-1)) H Q := by
  simp only [Is] at h
  obtain ⟨a, xs, h1, h2, h3⟩ := h
  have el : xs.length = ds.length + 1 := by rw [h3.len]; simp
  obtain ⟨x, ex, hx⟩ := h3.get (i := ds.length) (d := d) (by simp)
  have e2 : atI xs (-1) = some x := by
    unfold atI ixN
    rw [if_neg (by decide), if_pos (by omega)]
    show xs[((-1 : Int) + (xs.length : Int)).toNat]? = some x
    rw [show ((-1 : Int) + (xs.length : Int)).toNat = ds.length by omega]
    exact ex
  exact ⟨a, xs, -1, x, h1, rfl, SqT.of h2, e2, q x hx⟩
/-! ### steps -/
section
variable {σ : L2.St} {H : Hp} {Q : VK} {v x y : V} {ta tb te tx : TE} {t u : TT} {r : R2} {D' : Ends} {s1 s2 : TS} {i : Nat} {g : TG} {ts tr : TA}
theorem i_seq (h : s1 { D' with nx := s2 D' } σ H) : tSeq s1 s2 D' σ H := h
theorem i_asg (h : te σ H fun x H1 => g x σ H1 D'.nx) : tAsg te g D' σ H := h
theorem i_gN {Q : L2.St → Hp → Prop} (h : Q (σ.set i (some v)) H) : gName i v σ H Q := h
theorem i_ret (h : te σ H D'.rt) : tRet te D' σ H := h
theorem i_drop (h : te σ H fun _ H1 => D'.nx σ H1) : tDrop te D' σ H := h
theorem i_next (h : D'.nx σ H) : tNext D' σ H := h
theorem i_ifS (h : t σ H fun b H1 => if b = true then s1 D' σ H1 else s2 D' σ H1) : tIfS t s1 s2 D' σ H := h
theorem i_var (h : σ[i]? = some (some v)) (q : Q v H) : tVar i σ H Q := ⟨v, h, q⟩
theorem i_c (q : Q v H) : tC v σ H Q := q
theorem i_op (h : ta σ H fun x H1 => tb σ H1 fun y H2 => r x y H2 Q) : tOp r ta tb σ H Q := h
theorem i_test {Q : Bool → Hp → Prop} (h : te σ H fun x H' => ∃ k, x = .bl k ∧ Q k H') : tTest te σ H Q := h
theorem i_B {Q : Bool → Hp → Prop} (h : te σ H fun x H' => ∃ k, x = .bl k ∧ Q k H') : tB te σ H Q := h
theorem i_if (h : t σ H fun c H1 => if c = true then ta σ H1 Q else tb σ H1 Q) : tIf t ta tb σ H Q := h
theorem i_and {Q : Bool → Hp → Prop} (h : t σ H fun c H1 => if c = true then u σ H1 Q else Q false H1) : tAnd t u σ H Q := h
theorem i_or {Q : Bool → Hp → Prop} (h : t σ H fun c H1 => if c = true then Q true H1 else u σ H1 Q) : tOr t u σ H Q := h
theorem i_not {Q : Bool → Hp → Prop} (h : t σ H fun c H1 => Q (!c) H1) : tNot t σ H Q := h
theorem i_cons {Q : List V → Hp → Prop} (h : te σ H fun x H1 => tr σ H1 fun xs H2 => Q (x :: xs) H2) : tCons te tr σ H Q := h
theorem i_nil {Q : List V → Hp → Prop} (h : Q [] H) : tNil σ H Q := h
theorem i_CB {r : List V → Hp → VK → Prop} (h : ts σ H fun vs H1 => r vs H1 Q) : tCB r ts σ H Q := h
theorem i_dget {ty : TE} (h : te σ H fun x H1 => ty σ H1 fun y H2 => ∃ a v, x = .ref a ∧ DGet H2 a y (some v) ∧ Q v H2) : tDGet te ty σ H Q := h
theorem i_call {sp : Sp} {dvs : List V} {E : XK} (h : ts σ H fun vs H1 => sp (vs ++ dvs) H1 Q E) : tCall sp dvs E ts σ H Q := h
theorem i_tup (h : ts σ H fun xs H1 => xs.length ≤ sizeLine ∧ ∀ p, H1 p = none → Q (.ref p) (upd H1 p (.tup xs))) : tTup ts σ H Q := h
theorem i_lst (h : ts σ H fun xs H1 => xs.length ≤ sizeLine ∧ ∀ p, H1 p = none → Q (.ref p) (upd H1 p (.lst xs))) : tLst ts σ H Q := h
theorem i_BM {K : PySem.W.Frag} {T : String} {r : V → List V → Hp → VK → Prop} (h : te σ H fun x H1 => tyV K T x H1 ∧ ts σ H1 fun xs H2 => r x xs H2 Q) : tBM K T r te ts σ H Q := h
theorem i_un {r : V → Hp → VK → Prop} (h : te σ H fun x H1 => r x H1 Q) : tUn r te σ H Q := h
/-- ints -/
theorem i_I0 {f : Int → Int → V} {a b : Int} (q : Q (f a b) H) : rI0 f (.int a) (.int b) H Q := ⟨a, b, rfl, rfl, q⟩
theorem i_I {C : Int → Int → Prop} {f : Int → Int → V} {a b : Int} (c : C a b) (q : Q (f a b) H) : rI C f (.int a) (.int b) H Q := ⟨a, b, rfl, rfl, c, q⟩
theorem i_bl {Q : Bool → Prop} {b : Bool} (q : Q b) : ∃ k, V.bl b = .bl k ∧ Q k := ⟨b, rfl, q⟩
/-- a dict's item -/
theorem g_s {a : Addr} {kvs : List (Key × V)} {z : Str} (h : Rd H a (.dK kvs)) (hv : valV kvs (Sum.inr z) = some v) (q : Q v H) : ∃ a' v', V.ref a = .ref a' ∧ DGet H a' (.str z) (some v') ∧ Q v' H :=
  ⟨a, v, rfl, .inl ⟨kvs, Sum.inr z, h, rfl, hv.symm⟩, q⟩
theorem g_i {a : Addr} {kvs : List (Key × V)} {z : Int} (h : Rd H a (.dK kvs)) (hv : valV kvs (Sum.inl z) = some v) (q : Q v H) : ∃ a' v', V.ref a = .ref a' ∧ DGet H a' (.int z) (some v') ∧ Q v' H :=
  ⟨a, v, rfl, .inl ⟨kvs, Sum.inl z, h, rfl, hv.symm⟩, q⟩
end
theorem sz {n : Nat} (h : n ≤ 100000) : n ≤ sizeLine := Nat.le_trans h (by decide)
theorem szl {n : Nat} (h : n < 100000) : n < sizeLine := Nat.lt_of_lt_of_le h (by decide)
end TB
namespace TB
open PySem PySem.Spec PyProof.Rows L2
/-! ### tables of pairs -/
section
variable {κ : Type} [DecidableEq κ] {α : Type}
def aget (l : List (κ × α)) (k : κ) : Option α := (l.find? fun p => decide (p.1 = k)).map (·.2)
def aput (l : List (κ × α)) (k : κ) (v : α) : List (κ × α) := if (l.any fun p => decide (p.1 = k)) = true then l.map fun p => if p.1 = k then (p.1, v) else p else l ++ [(k, v)]
def keys (l : List (κ × α)) : List κ := l.map (·.1)
theorem aget_nil (k : κ) : aget ([] : List (κ × α)) k = none := rfl
theorem aget_cons (p : κ × α) (l : List (κ × α)) (k : κ) : aget (p :: l) k = if p.1 = k then some p.2 else aget l k := by
  unfold aget
  rw [List.find?_cons]
  by_cases h : p.1 = k <;> simp [h]
theorem any_aget (l : List (κ × α)) (k : κ) : (l.any fun p => decide (p.1 = k)) = (aget l k).isSome := by
  induction l with
  | nil => rfl
  | cons p l ih => rw [List.any_cons, ih, aget_cons]; by_cases h : p.1 = k <;> simp [h]
theorem aget_map (l : List (κ × α)) (k j : κ) (v : α) : aget (l.map fun p => if p.1 = k then (p.1, v) else p) j = if j = k then (aget l k).map fun _ => v else aget l j := by
  induction l with
  | nil => simp [aget_nil]
  | cons p l ih =>
    rw [List.map_cons, aget_cons, ih, aget_cons, aget_cons]
    by_cases h : p.1 = k
    · by_cases h2 : j = k
      · subst h2; simp [h]
      · have h3 : ¬ k = j := fun q => h2 q.symm
        simp [h, h2, h3]
    · by_cases h2 : j = k
      · subst h2; simp [h]
      · by_cases h4 : p.1 = j <;> simp [h, h2, h4]
theorem aget_snoc (l : List (κ × α)) (k j : κ) (v : α) : aget (l ++ [(k, v)]) j = (aget l j).or (if k = j then some v else none) := by
  induction l with
  | nil => rw [List.nil_append, aget_cons, aget_nil]; rfl
  | cons p l ih =>
    rw [List.cons_append, aget_cons, aget_cons, ih]
    by_cases h : p.1 = j <;> simp [h]
theorem aget_put (l : List (κ × α)) (k j : κ) (v : α) : aget (aput l k v) j = if j = k then some v else aget l j := by
  unfold aput
  by_cases h : (l.any fun p => decide (p.1 = k)) = true
  · rw [if_pos h, aget_map]
    rw [any_aget] at h
    by_cases h2 : j = k
    · rw [if_pos h2, if_pos h2]
      cases e : aget l k with
      | none => rw [e] at h; simp at h
      | some x => rfl
    · rw [if_neg h2, if_neg h2]
  · rw [if_neg h, aget_snoc]
    rw [any_aget] at h
    by_cases h2 : j = k
    · subst h2
      cases e : aget l j with
      | none => simp
      | some x => rw [e] at h; simp at h
    · have h3 : ¬ k = j := fun q => h2 q.symm
      rw [if_neg h2, if_neg h3]
      cases aget l j <;> rfl
theorem aget_mem {l : List (κ × α)} {k : κ} {v : α} (h : aget l k = some v) : (k, v) ∈ l := by
  induction l with
  | nil => simp [aget_nil] at h
  | cons p l ih =>
    rw [aget_cons] at h
    by_cases e : p.1 = k
    · rw [if_pos e] at h
      obtain ⟨p1, p2⟩ := p
      simp only [Option.some.injEq] at h e
      subst h e
      exact List.mem_cons_self
    · rw [if_neg e] at h
      exact List.mem_cons_of_mem _ (ih h)
theorem aget_of_mem {l : List (κ × α)} {k : κ} {v : α} (nd : (keys l).Nodup) (h : (k, v) ∈ l) : aget l k = some v := by
  induction l with
  | nil => simp at h
  | cons p l ih =>
    rw [aget_cons]
    have nd' := List.nodup_cons.mp (show (p.1 :: keys l).Nodup from nd)
    rcases List.mem_cons.mp h with e | h
    · subst e; simp
    · have hne : ¬ p.1 = k := fun e => nd'.1 (by rw [e]; exact List.mem_map.mpr ⟨(k, v), h, rfl⟩)
      rw [if_neg hne]; exact ih nd'.2 h
theorem aget_none {l : List (κ × α)} {k : κ} : aget l k = none ↔ k ∉ keys l := by
  induction l with
  | nil => simp [aget_nil, keys]
  | cons p l ih =>
    rw [aget_cons]
    show _ ↔ k ∉ p.1 :: keys l
    by_cases e : p.1 = k
    · simp [e]
    · have e2 : ¬ k = p.1 := fun q => e q.symm
      rw [if_neg e, ih]; simp [e2]
theorem aget_some_iff {l : List (κ × α)} {k : κ} : (∃ v, aget l k = some v) ↔ k ∈ keys l := by
  cases h : aget l k with
  | none => simp [aget_none.mp h]
  | some v => simp only [Option.some.injEq, exists_eq', true_iff]; exact List.mem_map.mpr ⟨_, aget_mem h, rfl⟩
theorem keys_put (l : List (κ × α)) (k : κ) (v : α) : keys (aput l k v) = if k ∈ keys l then keys l else keys l ++ [k] := by
  unfold aput
  by_cases h : (l.any fun p => decide (p.1 = k)) = true
  · rw [if_pos h]
    have hm : k ∈ keys l := by
      obtain ⟨p, hp, e⟩ := List.any_eq_true.mp h
      exact List.mem_map.mpr ⟨p, hp, of_decide_eq_true e⟩
    rw [if_pos hm]
    unfold keys
    rw [List.map_map]
    refine List.map_congr_left fun p _ => ?_
    show (if p.1 = k then (p.1, v) else p).1 = p.1
    by_cases e : p.1 = k <;> simp [e]
  · rw [if_neg h]
    have hm : k ∉ keys l := fun q => by
      obtain ⟨p, hp, e⟩ := List.mem_map.mp q
      exact h (List.any_eq_true.mpr ⟨p, hp, decide_eq_true e⟩)
    rw [if_neg hm]
    simp [keys]
theorem nd_put {l : List (κ × α)} (k : κ) (v : α) (h : (keys l).Nodup) : (keys (aput l k v)).Nodup := by
  rw [keys_put]
  by_cases e : k ∈ keys l
  · rw [if_pos e]; exact h
  · rw [if_neg e]; exact nd_snoc h e
theorem mem_put {l : List (κ × α)} {k : κ} {v : α} {p : κ × α} (h : p ∈ aput l k v) : p = (k, v) ∨ p ∈ l := by
  unfold aput at h
  by_cases e : (l.any fun p => decide (p.1 = k)) = true
  · rw [if_pos e] at h
    obtain ⟨q, hq, eq⟩ := List.mem_map.mp h
    by_cases e2 : q.1 = k
    · rw [if_pos e2] at eq; left; rw [← eq, e2]
    · rw [if_neg e2] at eq; right; rw [← eq]; exact hq
  · rw [if_neg e] at h
    rcases List.mem_append.mp h with q | q
    · exact .inr q
    · exact .inl (List.mem_singleton.mp q)
theorem len_put (l : List (κ × α)) (k : κ) (v : α) : (aput l k v).length ≤ l.length + 1 := by
  unfold aput
  by_cases e : (l.any fun p => decide (p.1 = k)) = true
  · rw [if_pos e, List.length_map]; omega
  · rw [if_neg e, List.length_append]; simp
theorem aput_new {l : List (κ × α)} {k : κ} (v : α) (h : k ∉ keys l) : aput l k v = l ++ [(k, v)] := by
  unfold aput
  rw [if_neg fun q => ?_]
  obtain ⟨p, hp, e⟩ := List.any_eq_true.mp q
  exact h (List.mem_map.mpr ⟨p, hp, of_decide_eq_true e⟩)
/-- a dict's pairs that say such a table -/
theorem valV_enc {γ : Type} [DecidableEq γ] (g : κ → γ) (inj : ∀ a b, g a = g b → a = b) (f : α → V) (l : List (κ × α)) (k : κ) : valV (l.map fun p => (g p.1, f p.2)) (g k) = (aget l k).map f := by
  induction l with
  | nil => rfl
  | cons p l ih =>
    rw [List.map_cons, aget_cons]
    by_cases e : p.1 = k
    · rw [if_pos e, valV_pos (by rw [e])]; rfl
    · rw [if_neg e, valV_neg (fun q => e (inj _ _ q)), ih]
theorem putK_enc {γ : Type} [DecidableEq γ] (g : κ → γ) (inj : ∀ a b, g a = g b → a = b) (f : α → V) (l : List (κ × α)) (k : κ) (v : α) : putK (l.map fun p => (g p.1, f p.2)) (g k) (f v) = (aput l k v).map fun p => (g p.1, f p.2) := by
  have ea : ((l.map fun p => (g p.1, f p.2)).any fun kv => decide (kv.1 = g k)) = l.any fun p => decide (p.1 = k) := by
    rw [valV_any, valV_enc g inj, any_aget]; cases aget l k <;> rfl
  unfold putK aput
  rw [ea]
  by_cases e : (l.any fun p => decide (p.1 = k)) = true
  · rw [if_pos e, if_pos e, List.map_map, List.map_map]
    refine List.map_congr_left fun p _ => ?_
    show (if g p.1 = g k then (g p.1, f v) else (g p.1, f p.2)) = (g (if p.1 = k then (p.1, v) else p).1, f (if p.1 = k then (p.1, v) else p).2)
    by_cases e2 : p.1 = k
    · rw [if_pos e2, if_pos (by rw [e2])]
    · rw [if_neg e2, if_neg fun q => e2 (inj _ _ q)]
  · rw [if_neg e, if_neg e, List.map_append]; rfl
end
theorem inr_inj (a b : Str) (h : (Sum.inr a : Key) = Sum.inr b) : a = b := Sum.inr.inj h
theorem inl_inj (a b : Int) (h : (Sum.inl a : Key) = Sum.inl b) : a = b := Sum.inl.inj h
/-! ### what the program does, over plain data -/
structure House where
  menu : List (Str × Int × List (Int × Int))
  offs : List (List Str × Int × Int × Int)
  wait : Int
  fires : Int
def priceD (p : Int × Int) : D := .tup [.int p.1, .int p.2]
def rowD (r : Str × Int × List (Int × Int)) : D := .tup [.str r.1, .int r.2.1, .tup (r.2.2.map priceD)]
def offD (o : List Str × Int × Int × Int) : D := .tup [.tup (o.1.map D.str), .int o.2.1, .int o.2.2.1, .int o.2.2.2]
def menuD (m : List (Str × Int × List (Int × Int))) : D := .tup (m.map rowD)
def offsD (m : List (List Str × Int × Int × Int)) : D := .tup (m.map offD)
def House.d (h : House) : D := .tup [menuD h.menu, offsD h.offs, .int h.wait, .int h.fires]
def priceAt (ps : List (Int × Int)) (m : Int) : Int := match (ps.filter fun p => decide (p.1 ≤ m)).getLast? with
  | some p => p.2
  | none => 0
def maxD : List Int → Int
  | [] => 0
  | y :: ys => ys.foldl (fun m z => if m < z then z else m) y
def offHolds (item : Str) (m : Int) (o : List Str × Int × Int × Int) : Bool := decide (item ∈ o.1) && (decide (o.2.1 ≤ m) && decide (m < o.2.2.1))
def percentAt (offs : List (List Str × Int × Int × Int)) (item : Str) (m : Int) : Int := maxD ((offs.filter (offHolds item m)).map fun o => o.2.2.2)
def rowAt (menu : List (Str × Int × List (Int × Int))) (item : Str) : Option (Str × Int × List (Int × Int)) := menu.find? fun r => decide (r.1 = item)
def costAt (h : House) (item : Str) (m : Int) : Int := match rowAt h.menu item with
  | some r => priceAt r.2.2 m - priceAt r.2.2 m * percentAt h.offs item m / 100
  | none => 0
/-- a house as the law makes them -/
structure House.Ok (h : House) : Prop where
  ne : h.menu ≠ []
  few : h.menu.length ≤ 4
  first : ∀ r ∈ h.menu, ∃ p ∈ r.2.2, p.1 ≤ 0
  small : ∀ r ∈ h.menu, r.2.2.length ≤ 2
  pence : ∀ r ∈ h.menu, ∀ p ∈ r.2.2, 0 ≤ p.2 ∧ p.2 ≤ 6000
  fewO : h.offs.length ≤ 2
  items : ∀ o ∈ h.offs, o.1.length ≤ 4
  pct : ∀ o ∈ h.offs, 0 ≤ o.2.2.2 ∧ o.2.2.2 ≤ 100
inductive Deed where
  | sit (s t : Str) | go (s : Str) | ask (d : Int) (item : Str) (c : Int) (ss : List Str) | rush (t : Str) (c : Int) | serve (d : Int) | strike (d : Int)
  | pay (s : Str) (p : Int) | take (s o : Str) (p : Int) | even (ss : List Str)
def Deed.d : Deed → D
  | .sit s t => .tup [.str "sit", .str s, .str t]
  | .go s => .tup [.str "go", .str s]
  | .ask d item c ss => .tup [.str "ask", .int d, .str item, .int c, .tup (ss.map D.str)]
  | .rush t c => .tup [.str "rush", .str t, .int c]
  | .serve d => .tup [.str "serve", .int d]
  | .strike d => .tup [.str "strike", .int d]
  | .pay s p => .tup [.str "pay", .str s, .int p]
  | .take s o p => .tup [.str "take", .str s, .str o, .int p]
  | .even ss => .tup [.str "even", .tup (ss.map D.str)]
structure Page where
  minute : Int
  number : Int
  deed : Deed
def nameD (m n : Int) : D := .tup [.int m, .int n]
def Page.d (p : Page) : D := .tup [nameD p.minute p.number, p.deed.d]
def bookD (ps : List Page) : D := .tup (ps.map Page.d)
structure Dish where
  seats : List Str
  item : Str
  course : Int
  cost : Int
  state : Str
structure St where
  tables : List (Str × Str) := []
  dishes : List (Int × Dish) := []
  paid : List (Str × Int) := []
  moved : List (Str × Int) := []
  evens : Int := 0
  idle : List ((Int × Int) × Str) := []
def up (n h e : Int) : Int := (e - h + n - 1) / n
def dealL (c : Int) (n : Nat) (b : Int) : List Int := (List.range n).map fun (h : Nat) => up n h (b + c) - up n h b
/-- what the dishes of just these seats come to -/
def begAt (ds : List (Int × Dish)) (ss : List Str) : Int := ((ds.filter fun q => decide (q.2.seats = ss)).map fun q => q.2.cost).sum
def living (s : Str) : Bool := decide (s = "asked") || (decide (s = "fired") || decide (s = "served"))
/-- what s has of the pairs -/
def tot (l : List (Str × Int)) (s : Str) : Int := (l.map fun p => if p.1 = s then p.2 else 0).sum
def dealt (x : Dish) (b : Int) : List (Str × Int) := x.seats.zip (dealL x.cost x.seats.length b)
def shares : List (Int × Dish) → List (Int × Dish) → Str → Int
  | _, [], _ => 0
  | pre, q :: r, s => (if living q.2.state = true then tot (dealt q.2 (begAt pre q.2.seats)) s else 0) + shares (pre ++ [q]) r s
def base (st : St) (s : Str) : Int := (aget st.moved s).getD 0 - (aget st.paid s).getD 0
def owed (st : St) (s : Str) : Int := base st s + shares [] st.dishes s
def sits (st : St) (s : Str) : Bool := !decide ((aget st.tables s).getD "" = "")
def tableIn (st : St) (x : Dish) : Option Str := (x.seats.find? (sits st)).map fun s => (aget st.tables s).getD ""
def stateIn (st : St) (d : Int) : Option Str := (aget st.dishes d).map (·.state)
def isAsked (st : St) (t : Str) (c : Int) (x : Dish) : Bool := decide (tableIn st x = some t) && (decide (x.course = c) && decide (x.state = "asked"))
def hasItem (h : House) (item : Str) : Bool := h.menu.any fun r => decide (r.1 = item)
def why (h : House) (st : St) : Deed → Str
  | .sit s _ => if sits st s = true then "here" else ""
  | .go s => if sits st s = true then (if owed st s ≠ 0 then "owes" else "") else "gone"
  | .ask d item _ ss => if (aget st.dishes d).isSome = true then "known" else if hasItem h item = true then (if ss.all (sits st) = true then "" else "gone") else "item"
  | .rush t c => if (st.dishes.any fun q => isAsked st t c q.2) = true then "" else "empty"
  | .serve d => if stateIn st d = some ("fired" : Str) then "" else "dish"
  | .strike d => if stateIn st d = some ("asked" : Str) ∨ stateIn st d = some ("fired" : Str) then "" else "dish"
  | .pay s p => if sits st s = true then (if owed st s < p then "much" else "") else "gone"
  | .take s o p => if sits st s = true ∧ sits st o = true then (if owed st o < p then "much" else "") else "gone"
  | .even ss => if ss.all (sits st) = true then (if (ss.map (owed st)).sum < 0 then "below" else "") else "gone"
def shift (m : List (Str × Int)) (s : Str) (p : Int) : List (Str × Int) := aput m s ((aget m s).getD 0 + p)
def evenMoved (ow : Str → Int) : List (Str × Int) → List (Str × Int) → List (Str × Int)
  | m, [] => m
  | m, (s, p) :: r => evenMoved ow (if p = ow s then m else shift m s (p - ow s)) r
def setState (ds : List (Int × Dish)) (d : Int) (z : Str) : List (Int × Dish) := ds.map fun q => if q.1 = d then (q.1, { q.2 with state := z }) else q
def doIt (h : House) (st : St) (m : Int) : Deed → St
  | .sit s t => { st with tables := aput st.tables s t }
  | .go s => { st with tables := aput st.tables s "" }
  | .ask d item c ss => { st with dishes := aput st.dishes d ⟨ss, item, c, costAt h item m, "asked"⟩ }
  | .rush t c => { st with dishes := st.dishes.map fun q => if isAsked st t c q.2 = true then (q.1, { q.2 with state := "fired" }) else q }
  | .serve d => { st with dishes := setState st.dishes d "served" }
  | .strike d => { st with dishes := setState st.dishes d "struck" }
  | .pay s p => { st with paid := aput st.paid s ((aget st.paid s).getD 0 + p) }
  | .take s o p => { st with moved := shift (shift st.moved s p) o (0 - p) }
  | .even ss => { st with moved := evenMoved (owed st) st.moved (ss.zip (dealL ((ss.map (owed st)).sum) ss.length st.evens)), evens := st.evens + 1 }
def step (h : House) (st : St) (pg : Page) : St := if why h st pg.deed = "" then doIt h st pg.minute pg.deed else { st with idle := st.idle ++ [((pg.minute, pg.number), why h st pg.deed)] }
def walk (h : House) (ps : List Page) : St := ps.foldl (step h) {}
/-- what the seats owe, in the order of the tables -/
def allOwed (st : St) : List (Str × Int) := st.tables.map fun p => (p.1, owed st p.1)
end TB
namespace TB
open PySem PySem.Spec PyProof.Rows L2
/-- a def that the head says -/
structure Dn (K : PySem.W.Frag) (mg : Str → Option Value) (d : He.DefD) : Prop where
  ex : ∃ (f : Addr) (fd : FuncData), FunD K d.name d.qual d.params d.body d.scope (d.dvs K) (d.kws K) f fd ∧ mg d.name = some (.ref f)
section
variable {P : Program} {w : World} {K : PySem.W.Frag} {mg : Str → Option Value} {base : Heap} {k : Nat}
theorem Dn.cal {d : He.DefD} (h : Dn K mg d) {N ps : List Str} {dvs : List V} {sp : Sp} (S : FnScope N ps d.scope) (len : ∀ vs H Q E, sp vs H Q E → vs.length = ps.length)
    (hb : ∀ f fd, FunD K d.name d.qual d.params d.body d.scope (d.dvs K) (d.kws K) f fd → ∃ ds, Vals dvs ds ∧ Binds K fd ps ds)
    (hbody : ∀ (f : Addr) (cdv : Value) (A : Around) (outer : List Env) (s : Shared) (H : Hp) (vs : List V) (Q : VK) (E : XK), Room k (A.deeper (envOfC d.qual d.scope s.heap.objs.size f cdv)) → sp vs H Q E →
      ∃ t, PSs (cxOf CX0 P w K mg base N d.qual d.scope f cdv A outer s H E) d.body t ∧ t { nx := fun _ H' => Q .non H', rt := Q } (start N vs) H) : Cal P w K mg base (k + 1) d.name dvs sp := by
  obtain ⟨f, fd, F, g⟩ := h.ex
  obtain ⟨ds, hv, hB⟩ := hb f fd F
  exact ⟨f, fd, ps, ds, F.ok S len (hbody f), g, F.kp, hB, hv⟩
end
/-! ### comprehensions that only add to the heap -/
section
variable {α : Type} {K : PySem.W.Frag} {g : TG} {tt : TT} {te : TE} {vs : List Nat} {σ : L2.St} {H H1 : Hp} {D a : Addr} {Qd : Hp → Prop}
theorem filter_snoc (p : α → Bool) (f : α → V) (l : List α) (x : α) : ((l ++ [x]).filter p).map f = if p x = true then (l.filter p).map f ++ [f x] else (l.filter p).map f := by
  rw [List.filter_append, List.map_append]
  by_cases h : p x = true
  · rw [if_pos h]; simp [h]
  · rw [if_neg h]; simp [h]
theorem take_snoc {l : List α} {i : Nat} {x : α} (h : l[i]? = some x) : l.take (i + 1) = l.take i ++ [x] := by
  rw [List.take_add_one, h]; rfl
def Acc (H : Hp) (D : Addr) (ds : List α) (p : α → Bool) (f : α → V) (i : Nat) (H' : Hp) : Prop := Ex H H' ∧ H' D = some (.lst (((ds.take i).filter p).map f))
theorem Acc.next {ds : List α} {p : α → Bool} {f : α → V} {i : Nat} {d : α} {H' : Hp} {B : L2.St → Hp → (Bool → Hp → Prop) → Prop} {σ2 : L2.St}
    (hD : H D = none) (hn : ds.length ≤ 100000) (hd : ds[i]? = some d) (ac : Acc H D ds p f i H') :
    (p d = true → ∀ H4, Ex H' H4 → ∃ acc, H4 D = some (.lst acc) ∧ acc.length < sizeLine ∧ Acc H D ds p f (i + 1) (upd H4 D (.lst (acc ++ [f d])))) ∧ (p d = false → ∀ H4, Ex H' H4 → Acc H D ds p f (i + 1) H4) := by
  obtain ⟨e, k⟩ := ac
  refine ⟨fun hp H4 e4 => ⟨_, e4 D _ k, ?_, ?_, ?_⟩, fun hp H4 e4 => ⟨e.trans e4, ?_⟩⟩
  · rw [List.length_map]
    exact szl (Nat.lt_of_le_of_lt (Nat.le_trans (List.length_filter_le _ _) (by rw [List.length_take]; omega : _ ≤ i)) (by have := (List.getElem?_eq_some_iff.mp hd).1; omega))
  · exact Ex.mut (e.trans e4) hD
  · rw [upd_same, take_snoc hd, filter_snoc, if_pos hp]
  · rw [e4 D _ k, take_snoc hd, filter_snoc, if_neg (by rw [hp]; decide)]
theorem lc_rangeE {lo : Int} {n : Nat} (p : Nat → Bool) (f : Nat → V) (hD : H D = none) (hn : n ≤ 100000)
    (hs : ∀ i H' (Kt : VK) (Ks : Hp → Prop), i < n → Ex H H' → (p i = true → ∀ H4, Ex H' H4 → Kt (f i) H4) → (p i = false → ∀ H4, Ex H' H4 → Ks H4) → g (.int (lo + i)) (wipe σ vs) H' fun σ2 H2 => wipe σ2 vs = wipe σ vs ∧ tt σ2 H2 fun b H3 => if b = true then te σ2 H3 Kt else Ks H3)
    (hd : ∀ H', Ex H H' → H' D = some (.lst (((List.range n).filter p).map f)) → Qd H') :
    ∃ W : Nat → Nat → Hp → Prop, (∃ m, W 0 m (upd H D (.lst []))) ∧ ∀ i m H, W i m H →
      ((Itr lo n).stop i H ∧ Qd H) ∨ ((Itr lo n).go i H ∧ ∃ Nx : Hp → Prop, (∀ H', Nx H' → ∃ m', m' < m ∧ W (i + 1) m' H') ∧ ∀ x H', (Itr lo n).yld i H x H' → g x (wipe σ vs) H' fun σ2 H2 => wipe σ2 vs = wipe σ vs ∧ tt σ2 H2 fun b H3 =>
        if b = true then te σ2 H3 fun y H4 => ∃ acc, H4 D = some (.lst acc) ∧ acc.length < sizeLine ∧ Nx (upd H4 D (.lst (acc ++ [y]))) else Nx H3) := by
  refine lc_range (Acc H D (List.range n) p f) ⟨Ex.new hD, upd_same⟩ (fun i H' hi ac => ?_) fun H' ac => hd H' ac.1 (by have := ac.2; rwa [List.take_of_length_le (by rw [List.length_range]; omega)] at this)
  have hx : (List.range n)[i]? = some i := by rw [List.getElem?_range hi]
  obtain ⟨a1, a2⟩ := Acc.next (B := fun _ _ _ => True) (σ2 := []) hD (by rw [List.length_range]; exact hn) hx ac
  exact hs i H' _ _ hi ac.1 a1 a2
theorem lc_listE {xs : List V} (ds : List α) (p : α → Bool) (f : α → V) (hl : xs.length = ds.length) (hq : SqL K H a xs) (hD : H D = none) (hn : ds.length ≤ 100000)
    (hs : ∀ (i : Nat) (x : V) (d : α) (H' : Hp) (Kt : VK) (Ks : Hp → Prop), xs[i]? = some x → ds[i]? = some d → Ex H H' → (p d = true → ∀ H4, Ex H' H4 → Kt (f d) H4) → (p d = false → ∀ H4, Ex H' H4 → Ks H4) → g x (wipe σ vs) H' fun σ2 H2 => wipe σ2 vs = wipe σ vs ∧ tt σ2 H2 fun b H3 => if b = true then te σ2 H3 Kt else Ks H3)
    (hd : ∀ H', Ex H H' → H' D = some (.lst ((ds.filter p).map f)) → Qd H') :
    ∃ W : Nat → Nat → Hp → Prop, (∃ m, W 0 m (upd H D (.lst []))) ∧ ∀ i m H, W i m H →
      ((Itl K a).stop i H ∧ Qd H) ∨ ((Itl K a).go i H ∧ ∃ Nx : Hp → Prop, (∀ H', Nx H' → ∃ m', m' < m ∧ W (i + 1) m' H') ∧ ∀ x H', (Itl K a).yld i H x H' → g x (wipe σ vs) H' fun σ2 H2 => wipe σ2 vs = wipe σ vs ∧ tt σ2 H2 fun b H3 =>
        if b = true then te σ2 H3 fun y H4 => ∃ acc, H4 D = some (.lst acc) ∧ acc.length < sizeLine ∧ Nx (upd H4 D (.lst (acc ++ [y]))) else Nx H3) := by
  refine lc_list (Acc H D ds p f) ⟨Ex.new hD, upd_same⟩ (fun i H' _ ac => ac.1.l hq) (fun i x H' hx ac => ?_) fun H' ac => hd H' ac.1 (by have := ac.2; rwa [List.take_of_length_le (by omega)] at this)
  have hi : i < ds.length := by rw [← hl]; exact (List.getElem?_eq_some_iff.mp hx).1
  obtain ⟨a1, a2⟩ := Acc.next (B := fun _ _ _ => True) (σ2 := []) hD hn (List.getElem?_eq_getElem hi) ac
  exact hs i x _ H' _ _ hx (List.getElem?_eq_getElem hi) ac.1 a1 a2
theorem lc_tupE {xs : List V} (ds : List α) (p : α → Bool) (f : α → V) (hl : xs.length = ds.length) (hq : SqT K H a xs) (hD : H D = none) (hn : ds.length ≤ 100000)
    (hs : ∀ (i : Nat) (x : V) (d : α) (H' : Hp) (Kt : VK) (Ks : Hp → Prop), xs[i]? = some x → ds[i]? = some d → Ex H H' → (p d = true → ∀ H4, Ex H' H4 → Kt (f d) H4) → (p d = false → ∀ H4, Ex H' H4 → Ks H4) → g x (wipe σ vs) H' fun σ2 H2 => wipe σ2 vs = wipe σ vs ∧ tt σ2 H2 fun b H3 => if b = true then te σ2 H3 Kt else Ks H3)
    (hd : ∀ H', Ex H H' → H' D = some (.lst ((ds.filter p).map f)) → Qd H') :
    ∃ W : Nat → Nat → Hp → Prop, (∃ m, W 0 m (upd H D (.lst []))) ∧ ∀ i m H, W i m H →
      ((Itt K a).stop i H ∧ Qd H) ∨ ((Itt K a).go i H ∧ ∃ Nx : Hp → Prop, (∀ H', Nx H' → ∃ m', m' < m ∧ W (i + 1) m' H') ∧ ∀ x H', (Itt K a).yld i H x H' → g x (wipe σ vs) H' fun σ2 H2 => wipe σ2 vs = wipe σ vs ∧ tt σ2 H2 fun b H3 =>
        if b = true then te σ2 H3 fun y H4 => ∃ acc, H4 D = some (.lst acc) ∧ acc.length < sizeLine ∧ Nx (upd H4 D (.lst (acc ++ [y]))) else Nx H3) := by
  refine lc_tup (Acc H D ds p f) ⟨Ex.new hD, upd_same⟩ (fun i H' _ ac => ac.1.t hq) (fun i x H' hx ac => ?_) fun H' ac => hd H' ac.1 (by have := ac.2; rwa [List.take_of_length_le (by omega)] at this)
  have hi : i < ds.length := by rw [← hl]; exact (List.getElem?_eq_some_iff.mp hx).1
  obtain ⟨a1, a2⟩ := Acc.next (B := fun _ _ _ => True) (σ2 := []) hD hn (List.getElem?_eq_getElem hi) ac
  exact hs i x _ H' _ _ hx (List.getElem?_eq_getElem hi) ac.1 a1 a2
/-- the ends of a tuple's target -/
theorem i_gtup {v : V} {n : Nat} {t : TGs} {Q : L2.St → Hp → Prop} {ds : List TB.D} (h : Is H v (.tup ds)) (hn : ds.length = n) (q : ∀ xs, IsAll H xs ds → t xs σ H Q) : gTup K n t v σ H Q := by
  simp only [Is] at h
  obtain ⟨a, xs, h1, h2, h3⟩ := h
  exact ⟨a, xs, h1, SqT.of h2, by rw [h3.len, hn], q xs h3⟩
theorem isAll2 {vs : List V} {d1 d2 : TB.D} (h : IsAll H vs [d1, d2]) : ∃ x y, vs = [x, y] ∧ Is H x d1 ∧ Is H y d2 := by
  match vs, h with
  | [x, y], h => simp only [IsAll, and_true] at h; exact ⟨x, y, rfl, h⟩
  | [], h => simp [IsAll] at h
  | [_], h => simp [IsAll] at h
  | _ :: _ :: _ :: _, h => simp [IsAll] at h
theorem isAll4 {vs : List V} {d1 d2 d3 d4 : TB.D} (h : IsAll H vs [d1, d2, d3, d4]) : ∃ x y z u, vs = [x, y, z, u] ∧ Is H x d1 ∧ Is H y d2 ∧ Is H z d3 ∧ Is H u d4 := by
  match vs, h with
  | [x, y, z, u], h => simp only [IsAll, and_true] at h; exact ⟨x, y, z, u, rfl, h⟩
  | [], h => simp [IsAll] at h
  | [_], h => simp [IsAll] at h
  | [_, _], h => simp [IsAll] at h
  | [_, _, _], h => simp [IsAll] at h
  | _ :: _ :: _ :: _ :: _ :: _, h => simp [IsAll] at h
end
/-! ### rules that name the frame (for blocks) -/
section
variable {X : Cx} {pos : Pos}
theorem pg_tupK (K : PySem.W.Frag) (hK : X.K = K) {es : List Expr} {k : Nat} {t : TGs} {n : Nat} (hc : X.calm = true) (h : PGs X es t)
    (hn : (assignEach es X.env).length = n := by rfl) (hst : (assignEach es X.env).findIdx? (·.1) = none := by rfl) : PG X (.Tuple es k pos) (gTup K n t) := hK ▸ pg_tup hc h hn hst
theorem op_inK (K : PySem.W.Frag) (hK : X.K = K) : OpR X (compareOp .In) (rIn K false) := hK ▸ op_in_seq
theorem op_notInK (K : PySem.W.Frag) (hK : X.K = K) : OpR X (compareOp .NotIn) (rIn K true) := hK ▸ op_notIn_seq
theorem call_lenK (K : PySem.W.Frag) (hK : X.K = K) : CallR X (.builtin "len") (fun xs H Q => ∃ p ys, xs = [.ref p] ∧ (SqL K H p ys ∨ SqT K H p ys) ∧ Q (.int ys.length) H) := hK ▸ call_len_seq
theorem ix_tupK (K : PySem.W.Frag) (hK : X.K = K) : IxR X (rIxT K) := hK ▸ ix_tup
theorem ix_listK (K : PySem.W.Frag) (hK : X.K = K) : IxR X (rIxL K) := hK ▸ ix_list
end
/-! ### more steps -/
section
variable {σ : L2.St} {H : Hp} {Q : VK} {v x y : V} {ta tb tc te tx td ty tv : TE} {t u : TT} {r r' : R2} {D' : Ends} {s1 s2 : TS} {i : Nat} {g : TG} {ts tr : TA} {K : PySem.W.Frag} {wi : TI} {R : It → Hp → Prop} {vs : List Nat}
theorem i_for {tb : TS} (h : wi σ H fun J H1 => ∃ W : Nat → Nat → L2.St → Hp → Prop, (∃ m, W 0 m σ H1) ∧ ∀ i m σ H, W i m σ H →
    (J.stop i H ∧ D'.nx σ H) ∨ (J.go i H ∧ ∃ N : L2.St → Hp → Prop, (∀ σ' H', N σ' H' → ∃ m', m' < m ∧ W (i + 1) m' σ' H') ∧ ∀ x H', J.yld i H x H' → g x σ H' fun σ2 H2 => tb { D' with nx := N, ct := N, bk := D'.nx } σ2 H2)) : tFor wi g tb D' σ H := h
theorem i_lc (h : wi σ H fun J H1 => ∀ D, H1 D = none → ∃ W : Nat → Nat → Hp → Prop, (∃ m, W 0 m (upd H1 D (.lst []))) ∧ ∀ i m H, W i m H →
    (J.stop i H ∧ Q (.ref D) H) ∨ (J.go i H ∧ ∃ Nx : Hp → Prop, (∀ H', Nx H' → ∃ m', m' < m ∧ W (i + 1) m' H') ∧ ∀ x H', J.yld i H x H' → g x (wipe σ vs) H' fun σ2 H2 => wipe σ2 vs = wipe σ vs ∧ t σ2 H2 fun b H3 =>
      if b = true then te σ2 H3 fun y H4 => ∃ acc, H4 D = some (.lst acc) ∧ acc.length < sizeLine ∧ Nx (upd H4 D (.lst (acc ++ [y]))) else Nx H3)) : tLc wi g t te vs σ H Q := h
theorem i_itup (h : te σ H fun x H1 => ∃ a, x = .ref a ∧ (∃ xs, SqT K H1 a xs) ∧ R (Itt K a) H1) : iTup K te σ H R := h
theorem i_ilst (h : te σ H fun x H1 => ∃ a, x = .ref a ∧ (∃ xs, SqL K H1 a xs) ∧ R (Itl K a) H1) : iList K te σ H R := h
theorem i_rng1 (h : ts σ H fun vs H1 => ∃ j : Int, vs = [.int j] ∧ -(2 ^ 62) ≤ j ∧ j < 2 ^ 62 ∧ R (Itr 0 j.toNat) H1) : iRng1 ts σ H R := h
theorem i_enum (h : ts σ H fun vs H1 => ∃ a xs, vs = [.ref a] ∧ SqL K H1 a xs ∧ R (Ite K a) H1) : iEnum K ts σ H R := h
theorem i_keys (h : td σ H fun x H1 => ∃ d o, x = .ref d ∧ ((∃ kvs, H1 d = some (.frz o (.dK kvs)) ∧ R (Itk d o kvs) H1) ∨ ∃ kvs, H1 d = some (.frz o (.dT kvs)) ∧ R (Itkt d o kvs) H1)) : iKeys td σ H R := h
theorem i_chain (h : ta σ H fun x H1 => tb σ H1 fun y H2 => r x y H2 fun z H3 => ∃ k, z = .bl k ∧ (if k = true then tc σ H3 fun w' H4 => r' y w' H4 Q else Q (.bl false) H3)) : tChain r r' ta tb tc σ H Q := h
theorem i_sl {r : V → Option Int → Option Int → Hp → VK → Prop} {tl th : TO} (h : te σ H fun x H1 => tl σ H1 fun l H2 => th σ H2 fun u H3 => r x l u H3 Q) : tSl r te tl th σ H Q := h
theorem i_noPart {Q : Option Int → Hp → Prop} (h : Q none H) : tNoPart σ H Q := h
theorem i_part {Q : Option Int → Hp → Prop} (h : te σ H fun x H1 => ∃ i, x = .int i ∧ Q (some i) H1) : tPart te σ H Q := h
theorem i_someI {Q : Int → Prop} {j : Int} (h : Q j) : ∃ i, V.int j = .int i ∧ Q i := ⟨j, rfl, h⟩
theorem i_par {j : Nat} (h : ts σ H fun vs H1 => ∃ v w, vs = [v, w] ∧ D'.nx ((σ.set i (some v)).set j (some w)) H1) : tPar i j ts D' σ H := h
theorem i_par2 {v w : V} {N : V → V → Prop} (h : N v w) : ∃ v' w', [v, w] = [v', w'] ∧ N v' w' := ⟨v, w, rfl, h⟩
theorem i_items (h : td σ H fun x H1 => ∃ d o kvs, x = .ref d ∧ H1 d = some (.frz o (.dK kvs)) ∧ R (Iti d o kvs) H1) : iItems td σ H R := h
theorem i_vals (h : td σ H fun x H1 => ∃ d o kvs, x = .ref d ∧ H1 d = some (.frz o (.dK kvs)) ∧ R (Itd d o kvs) H1) : iVals td σ H R := h
theorem i_lock (d : Addr) {u : HO} (hd : H d = some u) (m : Mut (some u)) (h : ∀ od, s1 ⟨fun σ' H' => H' d = some (.frz od u) ∧ D'.nx σ' (upd H' d u), fun v H' => H' d = some (.frz od u) ∧ D'.rt v (upd H' d u), fun σ' H' => H' d = some (.frz od u) ∧ D'.bk σ' (upd H' d u), fun σ' H' => H' d = some (.frz od u) ∧ D'.ct σ' (upd H' d u)⟩ σ (upd H d (.frz od u))) : tLock s1 D' σ H := ⟨d, u, hd, m, h⟩
theorem i_lockE (d : Addr) {u : HO} (hd : H d = some u) (m : Mut (some u)) (h : ∀ od, te σ (upd H d (.frz od u)) fun v H' => H' d = some (.frz od u) ∧ Q v (upd H' d u)) : tLockE te σ H Q := ⟨d, u, hd, m, h⟩
theorem i_dget2 (h : td σ H fun x H1 => ∃ a, x = .ref a ∧ IsD H1 a ∧ ty σ H1 fun y H2 => tx σ H2 fun z H3 => ∃ o, DGet H3 a y o ∧ Q (o.getD z) H3) : tDGet2 td ty tx σ H Q := h
theorem i_din (h : ty σ H fun y H1 => td σ H1 fun x H2 => ∃ a o, x = .ref a ∧ DGet H2 a y o ∧ Q (.bl o.isSome) H2) : tDIn ty td σ H Q := h
theorem i_dnotin (h : ty σ H fun y H1 => td σ H1 fun x H2 => ∃ a o, x = .ref a ∧ DGet H2 a y o ∧ Q (.bl (!o.isSome)) H2) : tDNotIn ty td σ H Q := h
theorem i_dput (h : tv σ H fun v H1 => td σ H1 fun x H2 => ty σ H2 fun y H3 => ∃ a H4, x = .ref a ∧ DPut H3 a y v H4 ∧ D'.nx σ H4) : sDPut td ty tv D' σ H := h
theorem i_daug {rd : V → V → Hp → VK → Prop} (h : td σ H fun x H1 => ty σ H1 fun y H2 => ∃ a v, x = .ref a ∧ DGet H2 a y (some v) ∧ tv σ H2 fun y2 H3 => rd v y2 H3 fun z H4 => ∃ H5, DPut H4 a y z H5 ∧ D'.nx σ H5) : sDAug td ty tv rd D' σ H := h
theorem i_yes {Q : Bool → Hp → Prop} (h : Q true H) : tYes σ H Q := h
theorem i_add {a b : Int} (q : Q (.int (a + b)) H) : rAdd (.int a) (.int b) H Q := ⟨a, b, rfl, rfl, q⟩
theorem i_eqs {a b : Str} (q : Q (.bl (decide (a = b))) H) : rEq (.str a) (.str b) H Q := ⟨rfl, by rwa [show decide (V.str a = V.str b) = decide (a = b) by simp]⟩
theorem i_eqi {a b : Int} (q : Q (.bl (decide (a = b))) H) : rEq (.int a) (.int b) H Q := ⟨rfl, by rwa [show decide (V.int a = V.int b) = decide (a = b) by simp]⟩
theorem i_nes {a b : Str} (q : Q (.bl (!decide (a = b))) H) : rNe (.str a) (.str b) H Q := ⟨rfl, by rwa [show decide (V.str a = V.str b) = decide (a = b) by simp]⟩
theorem i_nei {a b : Int} (q : Q (.bl (!decide (a = b))) H) : rNe (.int a) (.int b) H Q := ⟨rfl, by rwa [show decide (V.int a = V.int b) = decide (a = b) by simp]⟩
theorem i_gcons {t : TG} {u : TGs} {v : V} {r : List V} {Q : L2.St → Hp → Prop} (h : t v σ H fun σ' H' => u r σ' H' Q) : gCons t u (v :: r) σ H Q := ⟨v, r, rfl, h⟩
theorem i_gnil {Q : L2.St → Hp → Prop} (h : Q σ H) : gNil [] σ H Q := ⟨rfl, h⟩
theorem i_newK (h : ∀ p H', H p = none → Ex H H' → H' p = some (.dK []) → Q (.ref p) H') : tDNewK σ H Q := fun p hp => h p _ hp (Ex.new hp) upd_same
theorem unlock {H H2 : Hp} {d : Addr} {u : HO} {od : Obj} (hd : H d = some u) (e : Ex (upd H d (.frz od u)) H2) : Ex H (upd H2 d u) := fun x o h => by
  by_cases q : x = d
  · subst q; rw [upd_same, ← h, hd]
  · rw [upd_ne q]; exact e x o (by rw [upd_ne q]; exact h)
/-- what may be read stays so -/
structure Rx (H H' : Hp) : Prop where
  rd : ∀ a u, Rd H a u → Rd H' a u
  tp : TEx H H'
theorem Rx.refl (H : Hp) : Rx H H := ⟨fun _ _ h => h, TEx.refl H⟩
theorem Rx.trans {H1 H2 H3 : Hp} (a : Rx H1 H2) (b : Rx H2 H3) : Rx H1 H3 := ⟨fun x u h => b.rd x u (a.rd x u h), a.tp.trans b.tp⟩
theorem Ex.rx {H H' : Hp} (e : Ex H H') : Rx H H' := ⟨fun a u h => e.rd h, e.tex⟩
theorem Rx.lock {H : Hp} {d : Addr} {u : HO} {od : Obj} (hd : H d = some u) (hm : Mut (some u)) (ht : ∀ xs, u ≠ .tup xs) (hf : ∀ o v, u ≠ .frz o v) : Rx H (upd H d (.frz od u)) := by
  refine ⟨fun a w h => ?_, TEx.mut hd ht⟩
  by_cases q : a = d
  · subst q
    rcases h with h | ⟨o, h⟩
    · rw [hd] at h; cases h; exact .inr ⟨od, upd_same⟩
    · rw [hd] at h; cases h; exact absurd rfl (hf _ _)
  · rcases h with h | ⟨o, h⟩
    · exact .inl (by rw [upd_ne q]; exact h)
    · exact .inr ⟨o, by rw [upd_ne q]; exact h⟩
theorem Rx.lockK {H : Hp} {d : Addr} {kvs : List (Key × V)} {od : Obj} (hd : H d = some (.dK kvs)) : Rx H (upd H d (.frz od (.dK kvs))) := Rx.lock hd trivial (fun _ => by simp) (fun _ _ => by simp)
theorem i_ckw {f : List V → List V → Hp → VK → Prop} {tk : TA} (h : ts σ H fun vs H1 => tk σ H1 fun zs H2 => f vs zs H2 Q) : tCKw f ts tk σ H Q := h
theorem inV_strs (z : Str) (zs : List Str) : inV (.str z) (zs.map V.str) = decide (z ∈ zs) := by
  unfold inV
  rw [List.any_map, Bool.eq_iff_iff, List.any_eq_true, decide_eq_true_eq]
  simp [eqV]
theorem inV_ints (z : Int) (zs : List Int) : inV (.int z) (zs.map V.int) = decide (z ∈ zs) := by
  unfold inV
  rw [List.any_map, Bool.eq_iff_iff, List.any_eq_true, decide_eq_true_eq]
  simp [eqV]
theorem i_inS {a : Addr} {z : Str} {zs : List Str} (h : SqL K H a (zs.map V.str) ∨ SqT K H a (zs.map V.str)) (q : Q (.bl (decide (z ∈ zs))) H) : rIn K false (.str z) (.ref a) H Q :=
  ⟨a, _, rfl, h, rfl, by simp [flatV], by rw [if_neg (by decide), inV_strs]; exact q⟩
theorem i_ninS {a : Addr} {z : Str} {zs : List Str} (h : SqL K H a (zs.map V.str) ∨ SqT K H a (zs.map V.str)) (q : Q (.bl (!decide (z ∈ zs))) H) : rIn K true (.str z) (.ref a) H Q :=
  ⟨a, _, rfl, h, rfl, by simp [flatV], by rw [if_pos rfl, inV_strs]; exact q⟩
theorem i_inI {a : Addr} {z : Int} {zs : List Int} (h : SqL K H a (zs.map V.int) ∨ SqT K H a (zs.map V.int)) (q : Q (.bl (decide (z ∈ zs))) H) : rIn K false (.int z) (.ref a) H Q :=
  ⟨a, _, rfl, h, rfl, by simp [flatV], by rw [if_neg (by decide), inV_ints]; exact q⟩
theorem i_ninI {a : Addr} {z : Int} {zs : List Int} (h : SqL K H a (zs.map V.int) ∨ SqT K H a (zs.map V.int)) (q : Q (.bl (!decide (z ∈ zs))) H) : rIn K true (.int z) (.ref a) H Q :=
  ⟨a, _, rfl, h, rfl, by simp [flatV], by rw [if_pos rfl, inV_ints]; exact q⟩
theorem i_rU {f : Int → V} {j : Int} (q : Q (f j) H) : rU f (.int j) H Q := ⟨j, rfl, q⟩
theorem i_newT (h : ∀ p H', H p = none → Ex H H' → H' p = some (.dT []) → Q (.ref p) H') : tDNewT σ H Q := fun p hp => h p _ hp (Ex.new hp) upd_same
def Both (Q : VK) (E : List (List Key × V)) (k : List Key) (z : V) (a : Addr) (H : Hp) : Prop := (∀ v, valV E k = some v → Q v H) ∧ (valV E k = none → Q z (upd H a (.dT (putK E k z))))
theorem i_dsetT (h : td σ H fun x H1 => ∃ a, x = .ref a ∧ IsD H1 a ∧ ty σ H1 fun y H2 => tx σ H2 fun z H3 => ∃ (kvs : List (List Key × V)) (k : List Key) (b : Addr),
  H3 a = some (.dT kvs) ∧ y = .ref b ∧ H3 b = some (.tup (k.map kV)) ∧ kvs.length < sizeLine ∧ Both Q kvs k z a H3) : tDSetT td ty tx σ H Q := h
theorem i_tupZip (h : ts σ H fun vs H1 => ∃ (a b : Addr) (xs ys : List V), vs = [.ref a, .ref b] ∧ SqT K H1 a xs ∧ SqT K H1 b ys ∧ xs.length = ys.length ∧
  ∀ (H' : Hp) (p : Addr) (as : List Addr), (∀ c o, H1 c = some o → H' c = some o) → H1 p = none → H' p = some (.tup (as.map V.ref)) → as.length = xs.length →
    (∀ (j : Nat) (c : Addr) (x y : V), as[j]? = some c → xs[j]? = some x → ys[j]? = some y → H' c = some (.tup [x, y])) → Q (.ref p) H') : tTupZip K ts σ H Q := h
theorem i_lenSame (h : ta σ H fun y H1 => ∃ (l : Addr) (x : Str) (n : Nat), y = .ref l ∧ SqL K H1 l (List.replicate n (V.str x)) ∧ Q (.int (min n 1 : Nat)) H1) : tLenSame K ta σ H Q := h
theorem i_sumV (h : ta σ H fun x H1 => ∃ (d : Addr) (kvs : List (Key × V)) (ns : List Int), x = .ref d ∧ Rd H1 d (.dK kvs) ∧ kvs.map (·.2) = ns.map V.int ∧ Q (.int ns.sum) H1) : tSumV ta σ H Q := h
theorem i_zipA (h : ts σ H fun vs H1 => ∃ a b xs ys, vs = [.ref a, .ref b] ∧ ((SqL K H1 a xs ∧ SqL K H1 b ys ∧ R (Itz K a b) H1) ∨ (SqT K H1 a xs ∧ SqT K H1 b ys ∧ R (RZ.ItzT K a b) H1))) : RZ.iZipA K ts σ H R := h
theorem i_disp {trs : List (TE × TE)} (h : ∀ p, H p = none → tPairs trs σ (upd H p (.dK [])) fun ps H2 => H2 p = some (.dK []) ∧ ∃ kvs : List (Key × V), ps = kvs.map (fun kv => (kV kv.1, kv.2)) ∧ kvs.length ≤ 15 ∧ Q (.ref p) (upd H2 p (.dK (mergeK [] kvs)))) : tDisp trs σ H Q := h
theorem i_pnil {Q : List (V × V) → Hp → Prop} (h : Q [] H) : tPairs [] σ H Q := h
theorem i_pcons {Q : List (V × V) → Hp → Prop} {r : List (TE × TE)} (h : ta σ H fun x H1 => tb σ H1 fun y H2 => tPairs r σ H2 fun ps H3 => Q ((x, y) :: ps) H3) : tPairs ((ta, tb) :: r) σ H Q := h
theorem i_wp {σ σ' : L2.St} {vs : List Nat} {P : Prop} (e : wipe σ vs = wipe σ' vs) (h : P) : wipe σ vs = wipe σ' vs ∧ P := ⟨e, h⟩
theorem i_tt {P P' : Prop} (h : P) : if true = true then P else P' := h
theorem i_ff {P P' : Prop} (h : P') : if false = true then P else P' := by rw [if_neg (by decide)]; exact h
theorem i_ite {b : Bool} {P P' : Prop} (h1 : b = true → P) (h2 : b = false → P') : if b = true then P else P' := by cases b <;> simp_all
theorem filter_all {α : Type} (l : List α) : (l.filter fun _ => true) = l := List.filter_eq_self.mpr fun _ _ => rfl
/-! ### walks over frozen dicts -/
theorem for_itk {kvs : List (Key × V)} {d : Addr} {o : Obj} {tb : TS} (Pv : Nat → L2.St → Hp → Prop) (h0 : Pv 0 σ H) (hl : ∀ i σ H, Pv i σ H → H d = some (.frz o (.dK kvs)))
    (hs : ∀ i k v σ H, kvs[i]? = some (k, v) → Pv i σ H → g (kV k) σ H fun σ2 H2 => tb { D' with nx := Pv (i + 1), ct := Pv (i + 1), bk := D'.nx } σ2 H2) (hd : ∀ σ H, Pv kvs.length σ H → D'.nx σ H) :
    ∃ W : Nat → Nat → L2.St → Hp → Prop, (∃ m, W 0 m σ H) ∧ ∀ i m σ H, W i m σ H →
      ((Itk d o kvs).stop i H ∧ D'.nx σ H) ∨ ((Itk d o kvs).go i H ∧ ∃ N : L2.St → Hp → Prop, (∀ σ' H', N σ' H' → ∃ m', m' < m ∧ W (i + 1) m' σ' H') ∧ ∀ x H', (Itk d o kvs).yld i H x H' → g x σ H' fun σ2 H2 => tb { D' with nx := N, ct := N, bk := D'.nx } σ2 H2) := by
  refine ⟨fun i m σ H => m = kvs.length - i ∧ i ≤ kvs.length ∧ Pv i σ H, ⟨_, rfl, Nat.zero_le _, h0⟩, ?_⟩
  rintro i m σ H ⟨rfl, hi, p⟩
  have q := hl i σ H p
  by_cases hlt : i < kvs.length
  · refine .inr ⟨⟨q, hlt⟩, Pv (i + 1), fun σ' H' p' => ⟨kvs.length - (i + 1), by omega, rfl, hlt, p'⟩, fun x H' y => ?_⟩
    obtain ⟨rfl, k, v, hk, rfl⟩ := y
    exact hs i k v σ _ hk p
  · have e : i = kvs.length := by omega
    subst e
    exact .inl ⟨⟨q, Nat.le_refl _⟩, hd _ _ p⟩
theorem for_iti {kvs : List (Key × V)} {d : Addr} {o : Obj} {tb : TS} (Pv : Nat → L2.St → Hp → Prop) (h0 : Pv 0 σ H) (hl : ∀ i σ H, Pv i σ H → H d = some (.frz o (.dK kvs)))
    (hs : ∀ i k v σ H T, kvs[i]? = some (k, v) → Pv i σ H → H T = none → g (.ref T) σ (upd H T (.tup [kV k, v])) fun σ2 H2 => tb { D' with nx := Pv (i + 1), ct := Pv (i + 1), bk := D'.nx } σ2 H2) (hd : ∀ σ H, Pv kvs.length σ H → D'.nx σ H) :
    ∃ W : Nat → Nat → L2.St → Hp → Prop, (∃ m, W 0 m σ H) ∧ ∀ i m σ H, W i m σ H →
      ((Iti d o kvs).stop i H ∧ D'.nx σ H) ∨ ((Iti d o kvs).go i H ∧ ∃ N : L2.St → Hp → Prop, (∀ σ' H', N σ' H' → ∃ m', m' < m ∧ W (i + 1) m' σ' H') ∧ ∀ x H', (Iti d o kvs).yld i H x H' → g x σ H' fun σ2 H2 => tb { D' with nx := N, ct := N, bk := D'.nx } σ2 H2) := by
  refine ⟨fun i m σ H => m = kvs.length - i ∧ i ≤ kvs.length ∧ Pv i σ H, ⟨_, rfl, Nat.zero_le _, h0⟩, ?_⟩
  rintro i m σ H ⟨rfl, hi, p⟩
  have q := hl i σ H p
  by_cases hlt : i < kvs.length
  · refine .inr ⟨⟨q, hlt⟩, Pv (i + 1), fun σ' H' p' => ⟨kvs.length - (i + 1), by omega, rfl, hlt, p'⟩, fun x H' y => ?_⟩
    obtain ⟨T, k, v, hk, rfl, hT, rfl⟩ := y
    exact hs i k v σ _ T hk p hT
  · have e : i = kvs.length := by omega
    subst e
    exact .inl ⟨⟨q, Nat.le_refl _⟩, hd _ _ p⟩
theorem lc_it {J : It} {D : Addr} {Qd : Hp → Prop} {kvs : List (Key × V)} {d : Addr} {o : Obj} {F : Key × V → V}
    (hgo : ∀ i H, H d = some (.frz o (.dK kvs)) → i < kvs.length → J.go i H) (hst : ∀ i H, H d = some (.frz o (.dK kvs)) → kvs.length ≤ i → J.stop i H) (hy : ∀ i H x H', J.yld i H x H' → H' = H ∧ ∃ q, kvs[i]? = some q ∧ x = F q)
    (p : Key × V → Bool) (f : Key × V → V) (hq : H d = some (.frz o (.dK kvs))) (hD : H D = none) (hn : kvs.length ≤ 100000)
    (hs : ∀ (i : Nat) (q : Key × V) (H' : Hp) (Kt : VK) (Ks : Hp → Prop), kvs[i]? = some q → Ex H H' → (p q = true → ∀ H4, Ex H' H4 → Kt (f q) H4) → (p q = false → ∀ H4, Ex H' H4 → Ks H4) → g (F q) (wipe σ vs) H' fun σ2 H2 => wipe σ2 vs = wipe σ vs ∧ t σ2 H2 fun b H3 => if b = true then te σ2 H3 Kt else Ks H3)
    (hd : ∀ H', Ex H H' → H' D = some (.lst ((kvs.filter p).map f)) → Qd H') :
    ∃ W : Nat → Nat → Hp → Prop, (∃ m, W 0 m (upd H D (.lst []))) ∧ ∀ i m H, W i m H →
      (J.stop i H ∧ Qd H) ∨ (J.go i H ∧ ∃ Nx : Hp → Prop, (∀ H', Nx H' → ∃ m', m' < m ∧ W (i + 1) m' H') ∧ ∀ x H', J.yld i H x H' → g x (wipe σ vs) H' fun σ2 H2 => wipe σ2 vs = wipe σ vs ∧ t σ2 H2 fun b H3 =>
        if b = true then te σ2 H3 fun y H4 => ∃ acc, H4 D = some (.lst acc) ∧ acc.length < sizeLine ∧ Nx (upd H4 D (.lst (acc ++ [y]))) else Nx H3) := by
  refine ⟨fun i m H' => m = kvs.length - i ∧ i ≤ kvs.length ∧ Acc H D kvs p f i H', ⟨_, rfl, Nat.zero_le _, Ex.new hD, upd_same⟩, ?_⟩
  rintro i m H' ⟨rfl, hi, ac⟩
  have q := ac.1 _ _ hq
  by_cases hlt : i < kvs.length
  · refine .inr ⟨hgo i H' q hlt, Acc H D kvs p f (i + 1), fun H' p' => ⟨kvs.length - (i + 1), by omega, rfl, hlt, p'⟩, fun x H2 y => ?_⟩
    obtain ⟨rfl, z, hz, rfl⟩ := hy _ _ _ _ y
    obtain ⟨a1, a2⟩ := Acc.next (B := fun _ _ _ => True) (σ2 := []) hD hn hz ac
    exact hs i z _ _ _ hz ac.1 a1 a2
  · have e : i = kvs.length := by omega
    subst e
    exact .inl ⟨hst _ H' q (Nat.le_refl _), hd H' ac.1 (by have := ac.2; rwa [List.take_of_length_le (Nat.le_refl _)] at this)⟩
theorem lc_itk {D : Addr} {Qd : Hp → Prop} {kvs : List (Key × V)} {d : Addr} {o : Obj}
    (p : Key × V → Bool) (f : Key × V → V) (hq : H d = some (.frz o (.dK kvs))) (hD : H D = none) (hn : kvs.length ≤ 100000)
    (hs : ∀ (i : Nat) (q : Key × V) (H' : Hp) (Kt : VK) (Ks : Hp → Prop), kvs[i]? = some q → Ex H H' → (p q = true → ∀ H4, Ex H' H4 → Kt (f q) H4) → (p q = false → ∀ H4, Ex H' H4 → Ks H4) → g (kV q.1) (wipe σ vs) H' fun σ2 H2 => wipe σ2 vs = wipe σ vs ∧ t σ2 H2 fun b H3 => if b = true then te σ2 H3 Kt else Ks H3)
    (hd : ∀ H', Ex H H' → H' D = some (.lst ((kvs.filter p).map f)) → Qd H') :
    ∃ W : Nat → Nat → Hp → Prop, (∃ m, W 0 m (upd H D (.lst []))) ∧ ∀ i m H, W i m H →
      ((Itk d o kvs).stop i H ∧ Qd H) ∨ ((Itk d o kvs).go i H ∧ ∃ Nx : Hp → Prop, (∀ H', Nx H' → ∃ m', m' < m ∧ W (i + 1) m' H') ∧ ∀ x H', (Itk d o kvs).yld i H x H' → g x (wipe σ vs) H' fun σ2 H2 => wipe σ2 vs = wipe σ vs ∧ t σ2 H2 fun b H3 =>
        if b = true then te σ2 H3 fun y H4 => ∃ acc, H4 D = some (.lst acc) ∧ acc.length < sizeLine ∧ Nx (upd H4 D (.lst (acc ++ [y]))) else Nx H3) :=
  lc_it (F := fun q => kV q.1) (fun i H h hi => ⟨h, hi⟩) (fun i H h hi => ⟨h, hi⟩) (fun i H x H' y => by obtain ⟨e, k, v, hk, rfl⟩ := y; exact ⟨e, (k, v), hk, rfl⟩) p f hq hD hn hs hd
theorem lc_itd {D : Addr} {Qd : Hp → Prop} {kvs : List (Key × V)} {d : Addr} {o : Obj}
    (p : Key × V → Bool) (f : Key × V → V) (hq : H d = some (.frz o (.dK kvs))) (hD : H D = none) (hn : kvs.length ≤ 100000)
    (hs : ∀ (i : Nat) (q : Key × V) (H' : Hp) (Kt : VK) (Ks : Hp → Prop), kvs[i]? = some q → Ex H H' → (p q = true → ∀ H4, Ex H' H4 → Kt (f q) H4) → (p q = false → ∀ H4, Ex H' H4 → Ks H4) → g q.2 (wipe σ vs) H' fun σ2 H2 => wipe σ2 vs = wipe σ vs ∧ t σ2 H2 fun b H3 => if b = true then te σ2 H3 Kt else Ks H3)
    (hd : ∀ H', Ex H H' → H' D = some (.lst ((kvs.filter p).map f)) → Qd H') :
    ∃ W : Nat → Nat → Hp → Prop, (∃ m, W 0 m (upd H D (.lst []))) ∧ ∀ i m H, W i m H →
      ((Itd d o kvs).stop i H ∧ Qd H) ∨ ((Itd d o kvs).go i H ∧ ∃ Nx : Hp → Prop, (∀ H', Nx H' → ∃ m', m' < m ∧ W (i + 1) m' H') ∧ ∀ x H', (Itd d o kvs).yld i H x H' → g x (wipe σ vs) H' fun σ2 H2 => wipe σ2 vs = wipe σ vs ∧ t σ2 H2 fun b H3 =>
        if b = true then te σ2 H3 fun y H4 => ∃ acc, H4 D = some (.lst acc) ∧ acc.length < sizeLine ∧ Nx (upd H4 D (.lst (acc ++ [y]))) else Nx H3) :=
  lc_it (F := fun q => q.2) (fun i H h hi => ⟨h, hi⟩) (fun i H h hi => ⟨h, hi⟩) (fun i H x H' y => by obtain ⟨e, k, hk⟩ := y; exact ⟨e, (k, x), hk, rfl⟩) p f hq hD hn hs hd
end
/-! ### == of lists of ints -/
theorem lay_ints (l : List Int) : PyData.canLayAll0 (l.map PyData.int) = true := by
  induction l with
  | nil => rfl
  | cons x l ih => simp [PyData.canLayAll0, PyData.canLay0, ih]
theorem depth_ints (l : List Int) : PyData.depthAll (l.map PyData.int) ≤ 1 := by
  induction l with
  | nil => simp [PyData.depthAll]
  | cons x l ih => simp [PyData.depthAll, PyData.depth]; omega
theorem shaped_ints (l : List Int) : SeqAt.shaped (.list (l.map PyData.int)) = true := by
  have h1 := depth_ints l
  have h2 : PyData.depth (.list (l.map PyData.int)) ≤ 64 := by simp only [PyData.depth]; omega
  show (PyData.canLay0 (.list (l.map PyData.int)) && decide (PyData.depth (.list (l.map PyData.int)) ≤ 64)) = true
  rw [Bool.and_eq_true]
  exact ⟨by simp only [PyData.canLay0]; exact lay_ints l, decide_eq_true h2⟩
theorem shaped_intsT (l : List Int) : SeqAt.shaped (.tuple (l.map PyData.int)) = true := by
  have h1 := depth_ints l
  have h2 : PyData.depth (.tuple (l.map PyData.int)) ≤ 64 := by simp only [PyData.depth]; omega
  show (PyData.canLay0 (.tuple (l.map PyData.int)) && decide (PyData.depth (.tuple (l.map PyData.int)) ≤ 64)) = true
  rw [Bool.and_eq_true]
  exact ⟨by simp only [PyData.canLay0]; exact lay_ints l, decide_eq_true h2⟩
theorem eqv_nil (l : List Int) : PyData.eqv (.list (l.map PyData.int)) (.list []) = decide (l = []) := by
  cases l <;> simp [PyData.eqv, PyData.eqvAll]
theorem eqvAll_ints (l m : List Int) : PyData.eqvAll (l.map PyData.int) (m.map PyData.int) = decide (l = m) := by
  induction l generalizing m with
  | nil => cases m <;> simp [PyData.eqvAll]
  | cons x l ih =>
    cases m with
    | nil => simp [PyData.eqvAll]
    | cons y m => simp [PyData.eqvAll, PyData.eqv, ih]; rw [Bool.eq_iff_iff]; simp
theorem dp_ints {K : PySem.W.Frag} {H : Hp} (l : List Int) : DpAll K H (l.map V.int) (l.map PyData.int) := by
  induction l with
  | nil => exact .nil
  | cons x l ih => exact .cons (.int x) ih
theorem i_eqN {K : PySem.W.Frag} {H : Hp} {a b : Addr} {l : List Int} {Q : VK} (h : SqL K H a (l.map V.int)) (h2 : SqL K H b []) (q : Q (.bl (decide (l = []))) H) : rEqD K (.ref a) (.ref b) H Q :=
  ⟨_, _, .lst h (dp_ints l), .lst h2 .nil, shaped_ints l, shaped_ints [], by rw [eqv_nil]; exact q⟩
theorem i_neN {K : PySem.W.Frag} {H : Hp} {a b : Addr} {l : List Int} {Q : VK} (h : SqL K H a (l.map V.int)) (h2 : SqL K H b []) (q : Q (.bl (!decide (l = []))) H) : rNeD K (.ref a) (.ref b) H Q :=
  ⟨_, _, .lst h (dp_ints l), .lst h2 .nil, shaped_ints l, shaped_ints [], by rw [eqv_nil]; exact q⟩
theorem i_eqT {K : PySem.W.Frag} {H : Hp} {a b : Addr} {l m : List Int} {Q : VK} (h : SqT K H a (l.map V.int)) (h2 : SqT K H b (m.map V.int)) (q : Q (.bl (decide (l = m))) H) : rEqD K (.ref a) (.ref b) H Q :=
  ⟨_, _, .tup h (dp_ints l), .tup h2 (dp_ints m), shaped_intsT l, shaped_intsT m, by simp only [PyData.eqv, eqvAll_ints]; exact q⟩
end TB
namespace TB
open PySem PySem.Spec PyProof.Rows L2
theorem i_par3 {i j l : Nat} {ta : TA} {D' : Ends} {σ : L2.St} {H : Hp} (h : ta σ H fun vs H1 => ∃ v w u, vs = [v, w, u] ∧ D'.nx (((σ.set i (some v)).set j (some w)).set l (some u)) H1) : tPar3 i j l ta D' σ H := h
theorem i_par33 {v w u : V} {N : V → V → V → Prop} (h : N v w u) : ∃ v' w' u', [v, w, u] = [v', w', u'] ∧ N v' w' u' := ⟨v, w, u, rfl, h⟩
local macro_rules | `(tactic| walk_at "go1") => `(tactic| first
  | with_reducible apply i_seq | with_reducible apply i_asg | with_reducible apply i_gN | with_reducible apply i_ret | with_reducible apply i_drop | with_reducible apply i_next | with_reducible apply i_ifS
  | ((with_reducible refine i_var (v := ?vv) ?hh ?qq); (case hh => rfl))
  | with_reducible apply i_c | with_reducible apply i_op | with_reducible apply i_test | with_reducible apply i_B | with_reducible apply i_if | with_reducible apply i_and | with_reducible apply i_or | with_reducible apply i_not
  | with_reducible apply i_cons | with_reducible apply i_nil | with_reducible apply i_CB | with_reducible apply i_dget | with_reducible apply i_call | with_reducible apply i_BM | with_reducible apply i_un
  | with_reducible apply i_I0
  | ((with_reducible refine i_I ?cc ?qq); (case cc => exact ⟨by decide, by decide⟩)) | ((with_reducible refine i_I ?cc ?qq); (case cc => exact ⟨by omega, by omega⟩)) | ((with_reducible refine i_I ?cc ?qq); (case cc => omega)) | ((with_reducible refine i_I ?cc ?qq); (case cc => exact Or.inl ⟨by omega, by omega⟩)) | ((with_reducible refine i_I ?cc ?qq); (case cc => exact Or.inr ⟨by omega, by omega⟩)) | ((with_reducible refine i_I ?cc ?qq); (case cc => exact ⟨by decide, by decide, by decide⟩))
  | with_reducible apply i_bl | with_reducible apply i_for | with_reducible apply i_lc | with_reducible apply i_itup | with_reducible apply i_ilst | with_reducible apply i_rng1 | with_reducible apply i_enum | with_reducible apply i_keys | with_reducible apply i_items | with_reducible apply i_vals
  | with_reducible apply i_dget2 | with_reducible apply i_din | with_reducible apply i_dnotin | with_reducible apply i_dput | with_reducible apply i_daug | with_reducible apply i_yes | with_reducible apply i_add
  | with_reducible apply i_newT | with_reducible apply i_dsetT | with_reducible apply i_tupZip | with_reducible apply i_lenSame | with_reducible apply i_sumV | with_reducible apply i_zipA | with_reducible apply i_disp | with_reducible apply i_pnil | with_reducible apply i_pcons | with_reducible apply i_par3 | with_reducible apply i_par33 | with_reducible apply i_ckw | with_reducible apply i_rU | with_reducible apply i_chain | with_reducible apply i_sl | with_reducible apply i_noPart | with_reducible apply i_part | with_reducible apply i_someI | with_reducible apply i_par | with_reducible apply i_par2
  | ((with_reducible refine i_wp ?ee ?qq); (case ee => kernel_rfl)) | with_reducible apply i_tt | with_reducible apply i_ff
  | with_reducible apply i_eqs | with_reducible apply i_eqi | with_reducible apply i_nes | with_reducible apply i_nei | with_reducible apply i_gcons | with_reducible apply i_gnil | with_reducible apply i_newK)
local macro_rules | `(tactic| walk_at "go") => `(tactic| repeat walk_at "go1")

abbrev N_row_of : List Str := ["menu", "item", "row"]
abbrev P_row_of : List Str := ["menu", "item"]
theorem sc_row_of : FnScope N_row_of P_row_of (defScope s_row_of) := ⟨rfl, rfl, rfl, by decide +kernel, rfl, by decide +kernel, by decide +kernel⟩
abbrev N_up_to : List Str := ["many", "hand", "end"]
abbrev P_up_to : List Str := ["many", "hand", "end"]
theorem sc_up_to : FnScope N_up_to P_up_to (defScope s_up_to) := ⟨rfl, rfl, rfl, by decide +kernel, rfl, by decide +kernel, by decide +kernel⟩
abbrev N_deal : List Str := ["pence", "many", "begun", "hand"]
abbrev P_deal : List Str := ["pence", "many", "begun"]
theorem sc_deal : FnScope N_deal P_deal (defScope s_deal) := ⟨rfl, rfl, rfl, by decide +kernel, rfl, by decide +kernel, by decide +kernel⟩
section
variable {P : Program} {w : World} {K : PySem.W.Frag} {mg : Str → Option Value} {base : Heap} {k : Nat}
def sp_up_to : Sp := fun vs H Q _ => ∃ n h e : Int, vs = [.int n, .int h, .int e] ∧ 0 < n ∧ n < 1073741824 ∧ Q (.int (up n h e)) H
theorem ok_up_to (d : Dn K mg d_up_to) : Cal P w K mg base 1 "up_to" [] sp_up_to := by
  refine d.cal sc_up_to (fun vs H Q E h => ?_) (fun f fd F => ⟨[], .nil, F.bindsN fun _ _ _ _ _ _ us hl => match us, hl with | [_, _, _], _ => rfl⟩) fun f cdv A outer s H vs Q E hr h => ⟨_, PSs.nox (pss_one (ps_ret (pe_op op_fdiv (pe_op op_sub (pe_op op_add (pe_op op_sub (pv 2) (pv 1)) (pv 0)) pe_int) (pv 0)))), ?_⟩
  · obtain ⟨_, _, _, rfl, _⟩ := h; rfl
  · obtain ⟨n, h, e, rfl, n0, n1, q⟩ := h
    walk_at "go"
    exact q
def sp_deal : Sp := fun vs H Q _ => ∃ (c : Int) (n : Nat) (b : Int), vs = [.int c, .int n, .int b] ∧ 0 < n ∧ n < 1000 ∧ ∀ H' p, Ex H H' → H' p = some (.tup ((dealL c n b).map V.int)) → Q (.ref p) H'
theorem ok_deal (d : Dn K mg d_deal) (T : Free K mg) (c_up_to : Cal P w K mg base 1 "up_to" [] sp_up_to) : Cal P w K mg base 2 "deal" [] sp_deal := by
  refine d.cal sc_deal (fun vs H Q E h => ?_) (fun f fd F => F.binds1 3 1 (List.cons_ne_nil _ _) rfl fun _ _ _ _ _ _ _ us its hl hi => match us, hl, its, hi with | [_, _, _], _, [_], _ => ⟨_, rfl, rfl⟩) fun f cdv A outer s H vs Q E hr h => ⟨_, PSs.nox (pss_one (ps_ret (pe_callTy call_tuple_of rfl T.tuple boot_tuple (pa_cons (pe_lc rfl sc_deal.nd (pi_range1 rfl T.range (pa_cons (pv 1) pa_nil)) (blkOk_by (own := [("hand", 3)]) (N := N_deal) (sc := defScope s_deal) (by decide +kernel)) (fun _ _ _ _ _ => (pg_name (i := 3) sc_deal.nd rfl (Or.inl rfl))) (fun _ _ _ _ _ => pts_nil) (fun _ _ _ _ _ => (pe_op op_sub (pe_cl c_up_to hr (pa_cons (pv 1) (pa_cons (pv 3) (pa_cons (pe_op op_add (pv 2) (pv 0)) pa_nil)))) (pe_cl c_up_to hr (pa_cons (pv 1) (pa_cons (pv 3) (pa_cons (pv 2) pa_nil))))))) pa_nil)))), ?_⟩
  · obtain ⟨_, _, _, rfl, _⟩ := h; rfl
  · obtain ⟨c, n, b, rfl, n0, n1, q⟩ := h
    walk_at "go"
    refine ⟨_, rfl, by omega, by omega, fun D hD => lc_rangeE (fun _ => true) (fun h => .int (up n h (b + c) - up n h b)) hD (by omega) (fun i H' Kt Ks hi e ht _ => ?_) fun H' e hl => ?_⟩
    · walk_at "go"
      refine ⟨_, _, _, rfl, by omega, by omega, ?_⟩
      walk_at "go"
      refine ⟨_, _, _, rfl, by omega, by omega, ?_⟩
      walk_at "go"
      rw [Int.zero_add]
      exact ht rfl _ (Ex.refl _)
    · walk_at "go"
      refine ⟨D, _, rfl, .inl ⟨SqL.of hl, fun p hp => ?_⟩⟩
      refine q _ p (e.trans (Ex.new hp)) ?_
      rw [upd_same]
      unfold dealL
      rw [List.map_map, filter_all]
      rfl
def sp_row_of (K : PySem.W.Frag) : Sp := fun vs H Q _ => ∃ (m : V) (menu : List (Str × Int × List (Int × Int))) (item : Str) (r : Str × Int × List (Int × Int)), vs = [m, .str item] ∧ Is H m (menuD menu) ∧ rowAt menu item = some r ∧ ∀ x, Is H x (rowD r) → Q x H
theorem ok_row_of (d : Dn K mg d_row_of) : Cal P w K mg base 1 "row_of" [] (sp_row_of K) := by
  refine d.cal sc_row_of (fun vs H Q E h => ?_) (fun f fd F => ⟨[], .nil, F.bindsN fun _ _ _ _ _ _ us hl => match us, hl with | [_, _], _ => rfl⟩) fun f cdv A outer s H vs Q E hr h => ⟨_, PSs.nox (pss_cons (ps_for PassesOwn.never rfl (pi_tup (pv 0)) (pg_name (i := 2) sc_row_of.nd rfl (Or.inl rfl)) (pss_one (ps_if (pt_cmpR op_eq (pe_ix ix_tup (pv 2) pe_int (fun _ _ => rfl)) (pv 1) (nomark _)) (pss_one (ps_ret (pv 2))) pss_nil))) (pss_one ps_never)), ?_⟩
  · obtain ⟨_, _, _, _, rfl, _⟩ := h; rfl
  · obtain ⟨m, menu, item, r, rfl, hm, hr, q⟩ := h
    unfold menuD at hm
    simp only [Is] at hm
    obtain ⟨a, xs, rfl, ha, hx⟩ := hm
    walk_at "go"
    refine ⟨a, rfl, ⟨xs, SqT.of ha⟩, for_tup (xs := xs) (fun i σ H' => H' = H ∧ (∃ z, σ = [some (.ref a), some (.str item), z]) ∧ rowAt (menu.drop i) item = some r) ⟨rfl, ⟨_, rfl⟩, hr⟩ (fun i σ H' _ h => ?_) (fun i x σ H' hx' h => ?_) fun σ H' h => ?_⟩
    · obtain ⟨rfl, _⟩ := h; exact SqT.of ha
    · obtain ⟨rfl, ⟨z, rfl⟩, h3⟩ := h
      obtain ⟨d', hd', hi⟩ := hx.at hx'
      rw [List.getElem?_map] at hd'
      obtain ⟨row, hrow, rfl⟩ := Option.map_eq_some_iff.mp hd'
      have hlt := (List.getElem?_eq_some_iff.mp hrow).1
      have hdr : menu.drop i = row :: menu.drop (i + 1) := by rw [List.drop_eq_getElem_cons hlt]; rw [List.getElem?_eq_getElem hlt] at hrow; rw [Option.some.inj hrow]
      walk_at "go"
      refine ix_is (i := 0) hi rfl fun n hn => ?_
      simp only [Is] at hn
      subst hn
      walk_at "go"
      rw [hdr] at h3
      unfold rowAt at h3
      rw [List.find?_cons] at h3
      by_cases e : row.1 = item
      · rw [decide_eq_true e] at h3 ⊢
        cases h3
        walk_at "go"
        exact q x hi
      · rw [decide_eq_false e] at h3 ⊢
        walk_at "go"
        exact ⟨rfl, ⟨_, rfl⟩, h3⟩
    · obtain ⟨rfl, _, h3⟩ := h
      rw [hx.len, List.length_map, List.drop_length] at h3
      exact absurd h3 (by simp [rowAt])
abbrev N_price : List Str := ["menu", "item", "minute", "prices", "begin", "pence"]
abbrev P_price : List Str := ["menu", "item", "minute"]
theorem sc_price : FnScope N_price P_price (defScope s_price) := ⟨rfl, rfl, rfl, by decide +kernel, rfl, by decide +kernel, by decide +kernel⟩
def sp_price (K : PySem.W.Frag) : Sp := fun vs H Q _ => ∃ (m : V) (menu : List (Str × Int × List (Int × Int))) (item : Str) (t : Int) (r : Str × Int × List (Int × Int)), vs = [m, .str item, .int t] ∧ Is H m (menuD menu) ∧ rowAt menu item = some r ∧
  r.2.2.length ≤ 1000 ∧ (∃ p ∈ r.2.2, p.1 ≤ t) ∧ ∀ H', Ex H H' → Q (.int (priceAt r.2.2 t)) H'
theorem last_map {α : Type} (f : α → V) : ∀ (l : List α), l ≠ [] → ∃ x, l.getLast? = some x ∧ atI (l.map f) (-1) = some (f x) := by
  intro l h
  refine ⟨l.getLast h, List.getLast?_eq_some_getLast h, ?_⟩
  have hl : 0 < l.length := List.length_pos_iff.mpr h
  unfold atI ixN
  rw [List.length_map, if_neg (by decide), if_pos (by omega)]
  show (l.map f)[((-1 : Int) + (l.length : Int)).toNat]? = _
  rw [show ((-1 : Int) + (l.length : Int)).toNat = l.length - 1 by omega, List.getElem?_map, ← List.getLast?_eq_getElem?, List.getLast?_eq_some_getLast h]; rfl
theorem ok_price (d : Dn K mg d_price) (c_row_of : Cal P w K mg base 1 "row_of" [] (sp_row_of K)) : Cal P w K mg base 2 "price" [] (sp_price K) := by
  refine d.cal sc_price (fun vs H Q E h => ?_) (fun f fd F => F.binds1 3 1 (List.cons_ne_nil _ _) rfl fun _ _ _ _ _ _ _ us its hl hi => match us, hl, its, hi with | [_, _, _], _, [_], _ => ⟨_, rfl, rfl⟩) fun f cdv A outer s H vs Q E hr h => ⟨_, PSs.nox (pss_cons (ps_set (i := 3) sc_price.nd rfl (Or.inl rfl) (pe_ix ix_tup (pe_cl c_row_of hr (pa_cons (pv 0) (pa_cons (pv 1) pa_nil))) pe_int (fun _ _ => rfl))) (pss_one (ps_ret (pe_ix ix_list (pe_lc rfl sc_price.nd (pi_tup (pv 3)) (blkOk_by (own := [("begin", 4), ("pence", 5)]) (N := N_price) (sc := defScope s_price) (by decide +kernel)) (fun _ _ _ _ _ => (pg_tupK (n := 2) K rfl rfl (pgs_cons (pg_name (i := 4) sc_price.nd rfl (Or.inl rfl)) (pgs_cons (pg_name (i := 5) sc_price.nd rfl (Or.inl rfl)) pgs_nil)))) (fun _ _ _ _ _ => (pts_one (pt_cmpR op_le (pv 4) (pv 2) (nomark _)))) (fun _ _ _ _ _ => (pv 5))) (pe_un un_neg pe_int) (fun _ _ => rfl))))), ?_⟩
  · obtain ⟨_, _, _, _, _, rfl, _⟩ := h; rfl
  · obtain ⟨m, menu, item, t, r, rfl, hm, hrow, hlen, hp, q⟩ := h
    walk_at "go"
    refine ⟨m, menu, item, r, rfl, hm, hrow, fun x hx => ?_⟩
    walk_at "go"
    refine ix_is (i := 2) hx rfl fun y hy => ?_
    simp only [Is] at hy
    obtain ⟨a, xs, rfl, ha, hxs⟩ := hy
    walk_at "go"
    refine ⟨a, rfl, ⟨xs, SqT.of ha⟩, fun D hD => lc_tupE r.2.2 (fun p => decide (p.1 ≤ t)) (fun p => .int p.2) (by rw [hxs.len, List.length_map]) (SqT.of ha) hD (by omega) (fun i x p H' Kt Ks hx hd e ht hf => ?_) fun H' e hl => ?_⟩
    · obtain ⟨z, hz, hi⟩ := hxs.get (i := i) (d := priceD p) (by rw [List.getElem?_map, hd]; rfl)
      rw [hx] at hz
      cases hz
      refine i_gtup (Is.mono e.tex _ hi) rfl fun ys hys => ?_
      obtain ⟨y1, y2, rfl, h1, h2⟩ := isAll2 hys
      simp only [Is] at h1 h2
      subst h1 h2
      walk_at "go"
      by_cases e : p.1 ≤ t
      · rw [decide_eq_true e] at ht ⊢
        walk_at "go"
        exact ht rfl _ (Ex.refl _)
      · rw [decide_eq_false e] at hf ⊢
        walk_at "go"
        exact hf rfl _ (Ex.refl _)
    · walk_at "go"
      have hne : r.2.2.filter (fun p => decide (p.1 ≤ t)) ≠ [] := by
        obtain ⟨p, hp, hpt⟩ := hp
        exact List.ne_nil_of_mem (List.mem_filter.mpr ⟨hp, decide_eq_true hpt⟩)
      obtain ⟨x, h1, h2⟩ := last_map (fun p : Int × Int => V.int p.2) _ hne
      refine ⟨D, _, _, _, rfl, rfl, SqL.of hl, h2, ?_⟩
      have := q H' e
      unfold priceAt at this
      rw [h1] at this
      exact this
abbrev N_percent_at : List Str := ["offs", "item", "minute", "own", "items", "begin", "until", "percent"]
abbrev P_percent_at : List Str := ["offs", "item", "minute"]
theorem sc_percent_at : FnScope N_percent_at P_percent_at (defScope s_percent_at) := ⟨rfl, rfl, rfl, by decide +kernel, rfl, by decide +kernel, by decide +kernel⟩
def sp_percent_at (K : PySem.W.Frag) : Sp := fun vs H Q _ => ∃ (o : V) (offs : List (List Str × Int × Int × Int)) (item : Str) (t : Int), vs = [o, .str item, .int t] ∧ Is H o (offsD offs) ∧ offs.length ≤ 1000 ∧ ∀ H', Ex H H' → Q (.int (percentAt offs item t)) H'
theorem ok_percent_at (d : Dn K mg d_percent_at) (T : Free K mg) : Cal P w K mg base 1 "percent_at" [] (sp_percent_at K) := by
  refine d.cal sc_percent_at (fun vs H Q E h => ?_) (fun f fd F => F.binds1 3 1 (List.cons_ne_nil _ _) rfl fun _ _ _ _ _ _ _ us its hl hi => match us, hl, its, hi with | [_, _, _], _, [_], _ => ⟨_, rfl, rfl⟩) fun f cdv A outer s H vs Q E hr h => ⟨_, PSs.nox (pss_cons (ps_setLc (i := 3) rfl sc_percent_at.nd rfl rfl (sw_true rfl rfl rfl (by decide +kernel)) (pi_tup (pv 0)) (blkOk_by (own := [("items", 4), ("begin", 5), ("until", 6), ("percent", 7)]) (N := N_percent_at) (sc := defScope s_percent_at) (by decide +kernel)) (fun _ _ _ _ _ => (pg_tupK (n := 4) K rfl rfl (pgs_cons (pg_name (i := 4) sc_percent_at.nd rfl (Or.inl rfl)) (pgs_cons (pg_name (i := 5) sc_percent_at.nd rfl (Or.inl rfl)) (pgs_cons (pg_name (i := 6) sc_percent_at.nd rfl (Or.inl rfl)) (pgs_cons (pg_name (i := 7) sc_percent_at.nd rfl (Or.inl rfl)) pgs_nil)))))) (fun _ _ _ _ _ => (pts_one (PW.pt (pw_and (pt_cmpR (op_inK K rfl) (pv 1) (pv 4) (by rfl)) (pw_and1 (pt_chain op_le op_lt (pv 5) (pv 2) (pv 6))))))) (fun _ _ _ _ _ => (pv 7))) (pss_one (ps_ret (pe_callBK (cr_maxD rfl (hu8 hr)) rfl T.max boot_max (pa_cons (pv 3) pa_nil) (pk_cons pe_int pk_nil))))), ?_⟩
  · obtain ⟨_, _, _, _, rfl, _⟩ := h; rfl
  · obtain ⟨o, offs, item, t, rfl, ho, hlen, q⟩ := h
    unfold offsD at ho
    simp only [Is] at ho
    obtain ⟨a, xs, rfl, ha, hxs⟩ := ho
    walk_at "go"
    refine ⟨a, rfl, ⟨xs, SqT.of ha⟩, fun D hD => lc_tupE offs (offHolds item t) (fun p => .int p.2.2.2) (by rw [hxs.len, List.length_map]) (SqT.of ha) hD (by omega) (fun i x p H' Kt Ks hx hd e ht hf => ?_) fun H' e hl => ?_⟩
    · obtain ⟨z, hz, hi⟩ := hxs.get (i := i) (d := offD p) (by rw [List.getElem?_map, hd]; rfl)
      rw [hx] at hz
      cases hz
      refine i_gtup (Is.mono e.tex _ hi) rfl fun ys hys => ?_
      obtain ⟨y1, y2, y3, y4, rfl, h1, h2, h3, h4⟩ := isAll4 hys
      obtain ⟨b, rfl, hb⟩ := Is.strs h1
      simp only [Is] at h2 h3 h4
      subst h2 h3 h4
      walk_at "go"
      refine i_inS (.inr (SqT.of hb)) ?_
      walk_at "go"
      unfold offHolds at ht hf
      by_cases e1 : item ∈ p.1
      · rw [decide_eq_true e1] at ht hf ⊢
        walk_at "go"
        by_cases e2 : p.2.1 ≤ t
        · rw [decide_eq_true e2] at ht hf ⊢
          walk_at "go"
          by_cases e3 : t < p.2.2.1
          · rw [decide_eq_true e3] at ht hf ⊢
            walk_at "go"
            exact ht rfl _ (Ex.refl _)
          · rw [decide_eq_false e3] at ht hf ⊢
            walk_at "go"
            exact hf rfl _ (Ex.refl _)
        · rw [decide_eq_false e2] at ht hf ⊢
          walk_at "go"
          exact hf rfl _ (Ex.refl _)
      · rw [decide_eq_false e1] at ht hf ⊢
        walk_at "go"
        exact hf rfl _ (Ex.refl _)
    · walk_at "go"
      have qq := q H' e
      unfold percentAt at qq
      refine ⟨D, ((offs.filter (offHolds item t)).map fun o => o.2.2.2), 0, rfl, rfl, SqL.of (by rw [List.map_map]; exact hl), fun z => ?_, fun y ys z => ?_⟩
      · rw [z] at qq; exact qq
      · rw [z] at qq; exact qq
abbrev N_cost : List Str := ["menu", "offs", "item", "minute", "whole"]
abbrev P_cost : List Str := ["menu", "offs", "item", "minute"]
theorem sc_cost : FnScope N_cost P_cost (defScope s_cost) := ⟨rfl, rfl, rfl, by decide +kernel, rfl, by decide +kernel, by decide +kernel⟩
def sp_cost (K : PySem.W.Frag) : Sp := fun vs H Q _ => ∃ (m o : V) (h : House) (item : Str) (t : Int) (r : Str × Int × List (Int × Int)), vs = [m, o, .str item, .int t] ∧ Is H m (menuD h.menu) ∧ Is H o (offsD h.offs) ∧ rowAt h.menu item = some r ∧
  h.Ok ∧ 0 ≤ t ∧ ∀ H', Ex H H' → Q (.int (costAt h item t)) H'
theorem rowAt_mem {menu : List (Str × Int × List (Int × Int))} {item : Str} {r : Str × Int × List (Int × Int)} (h : rowAt menu item = some r) : r ∈ menu := List.mem_of_find?_eq_some h
theorem priceAt_range {h : House} (ok : h.Ok) {r : Str × Int × List (Int × Int)} (hr : r ∈ h.menu) (t : Int) : 0 ≤ priceAt r.2.2 t ∧ priceAt r.2.2 t ≤ 6000 := by
  unfold priceAt
  cases e : (r.2.2.filter fun p => decide (p.1 ≤ t)).getLast? with
  | none => exact ⟨by decide, by decide⟩
  | some p => exact ok.pence r hr p (List.mem_filter.mp (List.mem_of_getLast? e)).1
theorem maxD_range {l : List Int} (h : ∀ x ∈ l, 0 ≤ x ∧ x ≤ 100) : 0 ≤ maxD l ∧ maxD l ≤ 100 := by
  have key : ∀ (l : List Int) (m : Int), (0 ≤ m ∧ m ≤ 100) → (∀ x ∈ l, 0 ≤ x ∧ x ≤ 100) → 0 ≤ l.foldl (fun m z => if m < z then z else m) m ∧ l.foldl (fun m z => if m < z then z else m) m ≤ 100 := by
    intro l
    induction l with
    | nil => intro m hm _; exact hm
    | cons y l ih =>
      intro m hm hl
      rw [List.foldl_cons]
      refine ih _ ?_ fun x hx => hl x (List.mem_cons_of_mem _ hx)
      by_cases e : m < y
      · rw [if_pos e]; exact hl y List.mem_cons_self
      · rw [if_neg e]; exact hm
  cases l with
  | nil => exact ⟨by decide, by decide⟩
  | cons y l => exact key l y (h y List.mem_cons_self) fun x hx => h x (List.mem_cons_of_mem _ hx)
theorem percentAt_range {h : House} (ok : h.Ok) (item : Str) (t : Int) : 0 ≤ percentAt h.offs item t ∧ percentAt h.offs item t ≤ 100 := by
  refine maxD_range fun x hx => ?_
  obtain ⟨o, ho, rfl⟩ := List.mem_map.mp hx
  exact ok.pct o (List.mem_filter.mp ho).1
theorem costAt_range {h : House} (ok : h.Ok) (item : Str) (t : Int) : 0 ≤ costAt h item t ∧ costAt h item t ≤ 6000 := by
  unfold costAt
  cases e : rowAt h.menu item with
  | none => exact ⟨Int.le_refl 0, by show (0 : Int) ≤ 6000; decide⟩
  | some r =>
    show 0 ≤ priceAt r.2.2 t - priceAt r.2.2 t * percentAt h.offs item t / 100 ∧ priceAt r.2.2 t - priceAt r.2.2 t * percentAt h.offs item t / 100 ≤ 6000
    obtain ⟨a1, a2⟩ := priceAt_range ok (rowAt_mem e) t
    obtain ⟨b1, b2⟩ := percentAt_range ok item t
    generalize priceAt r.2.2 t = x at *
    generalize percentAt h.offs item t = y at *
    have h1 : 0 ≤ x * y := Int.mul_nonneg a1 b1
    have h2 : x * y ≤ x * 100 := Int.mul_le_mul_of_nonneg_left b2 a1
    omega
theorem ok_cost (d : Dn K mg d_cost) (T : Free K mg) (c_price : Cal P w K mg base 2 "price" [] (sp_price K)) (c_percent_at : Cal P w K mg base 1 "percent_at" [] (sp_percent_at K)) : Cal P w K mg base 3 "cost" [] (sp_cost K) := by
  refine d.cal sc_cost (fun vs H Q E h => ?_) (fun f fd F => F.binds1 4 1 (List.cons_ne_nil _ _) rfl fun _ _ _ _ _ _ _ us its hl hi => match us, hl, its, hi with | [_, _, _, _], _, [_], _ => ⟨_, rfl, rfl⟩) fun f cdv A outer s H vs Q E hr h => ⟨_, PSs.nox (pss_cons (ps_set (i := 4) sc_cost.nd rfl (Or.inl rfl) (pe_cl c_price hr (pa_cons (pv 0) (pa_cons (pv 2) (pa_cons (pv 3) pa_nil))))) (pss_one (ps_ret (pe_op op_sub (pv 4) (pe_op op_fdiv (pe_op op_mul (pv 4) (pe_cl c_percent_at hr (pa_cons (pv 1) (pa_cons (pv 2) (pa_cons (pv 3) pa_nil))))) (pe_glob (v := .int 100) rfl T.percent.choose_spec ⟨_, rfl⟩)))))), ?_⟩
  · obtain ⟨_, _, _, _, _, _, rfl, _⟩ := h; rfl
  · obtain ⟨m, o, h, item, t, r, rfl, hm, ho, hrow, ok, t0, q⟩ := h
    walk_at "go"
    obtain ⟨a1, a2⟩ := priceAt_range ok (rowAt_mem hrow) t
    have hrm := rowAt_mem hrow
    refine ⟨m, h.menu, item, t, r, rfl, hm, hrow, by have := ok.small r hrm; omega, ?_, fun H1 e1 => ?_⟩
    · obtain ⟨p, hp, h0⟩ := ok.first r hrm
      exact ⟨p, hp, by omega⟩
    walk_at "go"
    refine ⟨o, h.offs, item, t, rfl, Is.mono e1.tex _ ho, by have := ok.fewO; omega, fun H2 e2 => ?_⟩
    refine i_I (.inl ⟨by omega, by omega⟩) ?_
    walk_at "go"
    have qq := q H2 (e1.trans e2)
    unfold costAt at qq
    rw [hrow] at qq
    exact qq
end

/-! ### the module's tables -/
structure Tb (w : World) (K : PySem.W.Frag) (mg : Str → Option Value) extends Free K mg where
  aLIVING : Addr
  gLIVING : mg "LIVING" = some (.ref aLIVING)
  living : ∀ H, SqT K H aLIVING ((["asked", "fired", "served"] : List Str).map V.str)
  aWANTED : Addr
  gWANTED : mg "WANTED" = some (.ref aWANTED)
  wServe : Addr
  kServe : KDct K w aWANTED "serve" (.ref wServe)
  tServe : ∀ H, SqT K H wServe ((["fired"] : List Str).map V.str)
  wStrike : Addr
  kStrike : KDct K w aWANTED "strike" (.ref wStrike)
  tStrike : ∀ H, SqT K H wStrike ((["asked", "fired"] : List Str).map V.str)
  aBROUGHT : Addr
  gBROUGHT : mg "BROUGHT" = some (.ref aBROUGHT)
  bServe : KDct K w aBROUGHT "serve" (.str "served")
  bStrike : KDct K w aBROUGHT "strike" (.str "struck")
  aWHYS : Addr
  gWHYS : mg "WHYS" = some (.ref aWHYS)
  whys : ∀ q ∈ ([("sit", "why_sit"), ("go", "why_go"), ("ask", "why_ask"), ("rush", "why_fire"), ("serve", "why_bring"), ("strike", "why_bring"), ("pay", "why_pay"), ("take", "why_take"), ("even", "why_even")] : List (Str × Str)), ∃ f, KDct K w aWHYS q.1 (.ref f) ∧ mg q.2 = some (.ref f)
  aDOES : Addr
  gDOES : mg "DOES" = some (.ref aDOES)
  does : ∀ q ∈ ([("sit", "do_sit"), ("go", "do_go"), ("ask", "do_ask"), ("rush", "do_fire"), ("serve", "do_bring"), ("strike", "do_bring"), ("pay", "do_pay"), ("take", "do_take"), ("even", "do_even")] : List (Str × Str)), ∃ f, KDct K w aDOES q.1 (.ref f) ∧ mg q.2 = some (.ref f)
/-! ### the world in the heap -/
structure WA where
  w : Addr
  t : Addr
  d : Addr
  p : Addr
  m : Addr
  r : Addr
  i : Addr
  h : Addr
  f : Addr
  row : Int → Addr
  st : Int → Addr
  nm : Int → V
  hist : Int → Addr
def worldK (A : WA) (ev : Int) : List (Key × V) := [(.inr "tables", .ref A.t), (.inr "dishes", .ref A.d), (.inr "paid", .ref A.p), (.inr "moved", .ref A.m), (.inr "evens", .int ev), (.inr "rows", .ref A.r), (.inr "idle", .ref A.i), (.inr "histories", .ref A.h), (.inr "firings", .ref A.f)]
def tabK (l : List (Str × Str)) : List (Key × V) := l.map fun p => (Sum.inr p.1, V.str p.2)
def penK (l : List (Str × Int)) : List (Key × V) := l.map fun p => (Sum.inr p.1, V.int p.2)
def dishK (A : WA) (l : List (Int × Dish)) : List (Key × V) := l.map fun q => (Sum.inl q.1, V.ref (A.row q.1))
def rowK (A : WA) (q : Int × Dish) : List (Key × V) := [(.inr "seats", .ref (A.st q.1)), (.inr "item", .str q.2.item), (.inr "course", .int q.2.course), (.inr "cost", .int q.2.cost), (.inr "state", .str q.2.state), (.inr "name", A.nm q.1)]
structure WS (R : Addr → HO → Prop) (H : Hp) (A : WA) (s : St) : Prop where
  w : R A.w (.dK (worldK A s.evens))
  t : R A.t (.dK (tabK s.tables))
  d : R A.d (.dK (dishK A s.dishes))
  p : R A.p (.dK (penK s.paid))
  m : R A.m (.dK (penK s.moved))
  row : ∀ q ∈ s.dishes, R (A.row q.1) (.dK (rowK A q))
  st : ∀ q ∈ s.dishes, H (A.st q.1) = some (.tup (q.2.seats.map V.str))
abbrev WR (H : Hp) (A : WA) (s : St) : Prop := WS (fun a o => H a = some o) H A s
abbrev WQ (H : Hp) (A : WA) (s : St) : Prop := WS (Rd H) H A s
theorem WR.q {H : Hp} {A : WA} {s : St} (W : WR H A s) : WQ H A s := ⟨.inl W.w, .inl W.t, .inl W.d, .inl W.p, .inl W.m, fun q h => .inl (W.row q h), W.st⟩
theorem WQ.rx {H H' : Hp} {A : WA} {s : St} (W : WQ H A s) (r : Rx H H') : WQ H' A s :=
  ⟨r.rd _ _ W.w, r.rd _ _ W.t, r.rd _ _ W.d, r.rd _ _ W.p, r.rd _ _ W.m, fun q h => r.rd _ _ (W.row q h), fun q h => r.tp _ _ (W.st q h)⟩
theorem WR.ex {H H' : Hp} {A : WA} {s : St} (W : WR H A s) (e : Ex H H') : WR H' A s :=
  ⟨e _ _ W.w, e _ _ W.t, e _ _ W.d, e _ _ W.p, e _ _ W.m, fun q h => e _ _ (W.row q h), fun q h => e _ _ (W.st q h)⟩
section
variable {H : Hp} {A : WA} {s : St} {Q : V → Prop} {ev : Int} {q : Int × Dish} {v : V}
theorem gS {a : Addr} {kvs : List (Key × V)} {z : Str} (h : Rd H a (.dK kvs)) (hv : valV kvs (Sum.inr z) = some v) (q : Q v) : ∃ a' v', V.ref a = .ref a' ∧ DGet H a' (.str z) (some v') ∧ Q v' :=
  ⟨a, v, rfl, .inl ⟨kvs, Sum.inr z, h, rfl, hv.symm⟩, q⟩
theorem gI {a : Addr} {kvs : List (Key × V)} {z : Int} (h : Rd H a (.dK kvs)) (hv : valV kvs (Sum.inl z) = some v) (q : Q v) : ∃ a' v', V.ref a = .ref a' ∧ DGet H a' (.int z) (some v') ∧ Q v' :=
  ⟨a, v, rfl, .inl ⟨kvs, Sum.inl z, h, rfl, hv.symm⟩, q⟩
theorem gD {a : Addr} {kvs : List (Key × V)} {z : Str} {d : V} (h : Rd H a (.dK kvs)) (hv : (valV kvs (Sum.inr z)).getD d = v) (q : Q v) : ∃ o, DGet H a (.str z) o ∧ Q (o.getD d) :=
  ⟨_, .inl ⟨kvs, Sum.inr z, h, rfl, rfl⟩, by rw [hv]; exact q⟩
theorem isD {a : Addr} {kvs : List (Key × V)} (h : Rd H a (.dK kvs)) : IsD H a := .inl ⟨kvs, h⟩
theorem w_t (W : WQ H A s) (q : Q (.ref A.t)) : ∃ a v, V.ref A.w = .ref a ∧ DGet H a (.str "tables") (some v) ∧ Q v := gS W.w (by kernel_rfl) q
theorem w_d (W : WQ H A s) (q : Q (.ref A.d)) : ∃ a v, V.ref A.w = .ref a ∧ DGet H a (.str "dishes") (some v) ∧ Q v := gS W.w (by kernel_rfl) q
theorem w_p (W : WQ H A s) (q : Q (.ref A.p)) : ∃ a v, V.ref A.w = .ref a ∧ DGet H a (.str "paid") (some v) ∧ Q v := gS W.w (by kernel_rfl) q
theorem w_m (W : WQ H A s) (q : Q (.ref A.m)) : ∃ a v, V.ref A.w = .ref a ∧ DGet H a (.str "moved") (some v) ∧ Q v := gS W.w (by kernel_rfl) q
theorem w_e (W : WQ H A s) (q : Q (.int s.evens)) : ∃ a v, V.ref A.w = .ref a ∧ DGet H a (.str "evens") (some v) ∧ Q v := gS W.w (by kernel_rfl) q
theorem w_r (W : WQ H A s) (q : Q (.ref A.r)) : ∃ a v, V.ref A.w = .ref a ∧ DGet H a (.str "rows") (some v) ∧ Q v := gS W.w (by kernel_rfl) q
theorem w_i (W : WQ H A s) (q : Q (.ref A.i)) : ∃ a v, V.ref A.w = .ref a ∧ DGet H a (.str "idle") (some v) ∧ Q v := gS W.w (by kernel_rfl) q
theorem w_h (W : WQ H A s) (q : Q (.ref A.h)) : ∃ a v, V.ref A.w = .ref a ∧ DGet H a (.str "histories") (some v) ∧ Q v := gS W.w (by kernel_rfl) q
theorem w_f (W : WQ H A s) (q : Q (.ref A.f)) : ∃ a v, V.ref A.w = .ref a ∧ DGet H a (.str "firings") (some v) ∧ Q v := gS W.w (by kernel_rfl) q
theorem r_seats (r : Rd H (A.row q.1) (.dK (rowK A q))) {Q : V → Prop} (z : Q (.ref (A.st q.1))) : ∃ a v, V.ref (A.row q.1) = .ref a ∧ DGet H a (.str "seats") (some v) ∧ Q v := gS r (by kernel_rfl) z
theorem r_course (r : Rd H (A.row q.1) (.dK (rowK A q))) {Q : V → Prop} (z : Q (.int q.2.course)) : ∃ a v, V.ref (A.row q.1) = .ref a ∧ DGet H a (.str "course") (some v) ∧ Q v := gS r (by kernel_rfl) z
theorem r_cost (r : Rd H (A.row q.1) (.dK (rowK A q))) {Q : V → Prop} (z : Q (.int q.2.cost)) : ∃ a v, V.ref (A.row q.1) = .ref a ∧ DGet H a (.str "cost") (some v) ∧ Q v := gS r (by kernel_rfl) z
theorem r_state (r : Rd H (A.row q.1) (.dK (rowK A q))) {Q : V → Prop} (z : Q (.str q.2.state)) : ∃ a v, V.ref (A.row q.1) = .ref a ∧ DGet H a (.str "state") (some v) ∧ Q v := gS r (by kernel_rfl) z
theorem dish_get {l : List (Int × Dish)} (d : Int) : valV (dishK A l) (Sum.inl d) = (aget l d).map fun _ => V.ref (A.row d) := by
  induction l with
  | nil => rfl
  | cons p l ih =>
    show valV ((Sum.inl p.1, V.ref (A.row p.1)) :: dishK A l) (Sum.inl d) = _
    rw [aget_cons]
    by_cases e : p.1 = d
    · rw [if_pos e, valV_pos (by rw [e]), e]; rfl
    · rw [if_neg e, valV_neg (fun q => e (inl_inj _ _ q)), ih]
theorem tab_get (l : List (Str × Str)) (z : Str) : valV (tabK l) (Sum.inr z) = (aget l z).map V.str := valV_enc _ inr_inj _ l z
theorem pen_get (l : List (Str × Int)) (z : Str) : valV (penK l) (Sum.inr z) = (aget l z).map V.int := valV_enc _ inr_inj _ l z
theorem tab_getD (l : List (Str × Str)) (z u : Str) : (valV (tabK l) (Sum.inr z)).getD (.str u) = .str ((aget l z).getD u) := by rw [tab_get]; cases aget l z <;> rfl
theorem pen_getD (l : List (Str × Int)) (z : Str) (u : Int) : (valV (penK l) (Sum.inr z)).getD (.int u) = .int ((aget l z).getD u) := by rw [pen_get]; cases aget l z <;> rfl
/-- world["dishes"][dish] -/
theorem g_dish (W : WQ H A s) {d : Int} {x : Dish} (h : aget s.dishes d = some x) (q : Q (.ref (A.row d))) : ∃ a v, V.ref A.d = .ref a ∧ DGet H a (.int d) (some v) ∧ Q v := gI W.d (by rw [dish_get, h]; rfl) q
end
section
variable {P : Program} {w : World} {K : PySem.W.Frag} {mg : Str → Option Value} {base : Heap} {k : Nat}
abbrev N_sits : List Str := ["world", "seat"]
abbrev P_sits : List Str := ["world", "seat"]
theorem sc_sits : FnScope N_sits P_sits (defScope s_sits) := ⟨rfl, rfl, rfl, by decide +kernel, rfl, by decide +kernel, by decide +kernel⟩
def sp_sits : Sp := fun vs H Q _ => ∃ (A : WA) (st : St) (z : Str), vs = [.ref A.w, .str z] ∧ WR H A st ∧ Q (.bl (sits st z)) H
theorem ok_sits (d : Dn K mg d_sits) : Cal P w K mg base 1 "sits" [] sp_sits := by
  refine d.cal sc_sits (fun vs H Q E h => ?_) (fun f fd F => ⟨[], .nil, F.bindsN fun _ _ _ _ _ _ us hl => match us, hl with | [_, _], _ => rfl⟩) fun f cdv A outer s H vs Q E hr h => have hu := hu_of hr; ⟨_, PSs.nox (pss_one (ps_ret (pe_cmpR op_ne (pe_dget2 hu (pe_dget hu (pv 0) pe_str (fun _ _ => rfl)) (pv 1) pe_str ⟨rfl, rfl, rfl, rfl⟩) pe_str (nomark _)))), ?_⟩
  · obtain ⟨_, _, _, rfl, _⟩ := h; rfl
  · obtain ⟨A, st, z, rfl, W, q⟩ := h
    have W' := W.q
    walk_at "go"
    refine w_t W' ⟨_, rfl, isD W'.t, ?_⟩
    walk_at "go"
    refine ⟨_, .inl ⟨_, Sum.inr z, W'.t, rfl, rfl⟩, ?_⟩
    rw [tab_getD]
    walk_at "go"
    exact q
abbrev N_state_in : List Str := ["world", "dish"]
abbrev P_state_in : List Str := ["world", "dish"]
theorem sc_state_in : FnScope N_state_in P_state_in (defScope s_state_in) := ⟨rfl, rfl, rfl, by decide +kernel, rfl, by decide +kernel, by decide +kernel⟩
def stateV : Option Str → V
  | some z => .str z
  | none => .non
def sp_state_in : Sp := fun vs H Q _ => ∃ (A : WA) (st : St) (d : Int), vs = [.ref A.w, .int d] ∧ WR H A st ∧ Q (stateV (stateIn st d)) H
theorem ok_state_in (d : Dn K mg d_state_in) : Cal P w K mg base 1 "state_in" [] sp_state_in := by
  refine d.cal sc_state_in (fun vs H Q E h => ?_) (fun f fd F => ⟨[], .nil, F.bindsN fun _ _ _ _ _ _ us hl => match us, hl with | [_, _], _ => rfl⟩) fun f cdv A outer s H vs Q E hr h => have hu := hu_of hr; ⟨_, PSs.nox (pss_one (ps_ret (pe_ifExp (pt_cmp (pc_din hu (pv 1) (pe_dget hu (pv 0) pe_str (fun _ _ => rfl)))) (pe_dget hu (pe_dget hu (pe_dget hu (pv 0) pe_str (fun _ _ => rfl)) (pv 1) (fun _ _ => rfl)) pe_str (fun _ _ => rfl)) pe_non))), ?_⟩
  · obtain ⟨_, _, _, rfl, _⟩ := h; rfl
  · obtain ⟨A, st, dd, rfl, W, q⟩ := h
    have W' := W.q
    walk_at "go"
    refine w_d W' ⟨_, _, rfl, .inl ⟨_, Sum.inl dd, W'.d, rfl, rfl⟩, ?_⟩
    walk_at "go"
    rw [dish_get]
    unfold stateIn at q
    cases e : aget st.dishes dd with
    | none =>
      rw [e] at q
      walk_at "go"
      exact q
    | some x =>
      rw [e] at q
      show (if true = true then _ else _)
      walk_at "go"
      refine w_d W' ?_
      walk_at "go"
      refine g_dish W' e ?_
      walk_at "go"
      exact r_state (W'.row (dd, x) (aget_mem e)) q
abbrev N_table_in : List Str := ["world", "dish", "seat"]
abbrev P_table_in : List Str := ["world", "dish"]
theorem sc_table_in : FnScope N_table_in P_table_in (defScope s_table_in) := ⟨rfl, rfl, rfl, by decide +kernel, rfl, by decide +kernel, by decide +kernel⟩
def sp_table_in (K : PySem.W.Frag) : Sp := fun vs H Q _ => ∃ (A : WA) (st : St) (d : Int) (x : Dish), vs = [.ref A.w, .int d] ∧ WR H A st ∧ aget st.dishes d = some x ∧ Q (stateV (tableIn st x)) H
theorem ok_table_in (d : Dn K mg d_table_in) (c_sits : Cal P w K mg base 1 "sits" [] sp_sits) : Cal P w K mg base 2 "table_in" [] (sp_table_in K) := by
  refine d.cal sc_table_in (fun vs H Q E h => ?_) (fun f fd F => ⟨[], .nil, F.bindsN fun _ _ _ _ _ _ us hl => match us, hl with | [_, _], _ => rfl⟩) fun f cdv A outer s H vs Q E hr h => have hu := hu_of hr; ⟨_, PSs.nox (pss_cons (ps_for PassesOwn.never rfl (pi_tup (pe_dget hu (pe_dget hu (pe_dget hu (pv 0) pe_str (fun _ _ => rfl)) (pv 1) (fun _ _ => rfl)) pe_str (fun _ _ => rfl))) (pg_name (i := 2) sc_table_in.nd rfl (Or.inl rfl)) (pss_one (ps_if (pt_val (pe_cl c_sits hr (pa_cons (pv 0) (pa_cons (pv 2) pa_nil)))) (pss_one (ps_ret (pe_dget hu (pe_dget hu (pv 0) pe_str (fun _ _ => rfl)) (pv 2) (fun _ _ => rfl)))) pss_nil))) (pss_one (ps_ret pe_non))), ?_⟩
  · obtain ⟨_, _, _, _, rfl, _⟩ := h; rfl
  · obtain ⟨A, st, dd, x, rfl, W, e, q⟩ := h
    have W' := W.q
    have hst := W'.st (dd, x) (aget_mem e)
    walk_at "go"
    refine w_d W' ?_
    walk_at "go"
    refine g_dish W' e ?_
    walk_at "go"
    refine r_seats (W'.row (dd, x) (aget_mem e)) ?_
    refine ⟨_, rfl, ⟨_, SqT.of hst⟩, for_tup (xs := x.seats.map V.str) (fun i σ H' => H' = H ∧ (∃ z, σ = [some (.ref A.w), some (.int dd), z]) ∧ (x.seats.drop i).find? (sits st) = x.seats.find? (sits st)) ⟨rfl, ⟨_, rfl⟩, rfl⟩ (fun i σ H' _ h => ?_) (fun i y σ H' hy h => ?_) fun σ H' h => ?_⟩
    · obtain ⟨rfl, _⟩ := h; exact SqT.of hst
    · obtain ⟨rfl, ⟨z, rfl⟩, h3⟩ := h
      rw [List.getElem?_map] at hy
      obtain ⟨seat, hs, rfl⟩ := Option.map_eq_some_iff.mp hy
      have hlt := (List.getElem?_eq_some_iff.mp hs).1
      have hdr : x.seats.drop i = seat :: x.seats.drop (i + 1) := by rw [List.drop_eq_getElem_cons hlt]; rw [List.getElem?_eq_getElem hlt] at hs; rw [Option.some.inj hs]
      rw [hdr, List.find?_cons] at h3
      walk_at "go"
      refine ⟨A, st, seat, rfl, W, ?_⟩
      walk_at "go"
      cases e2 : sits st seat with
      | true =>
        rw [e2] at h3
        walk_at "go"
        refine w_t W' ?_
        walk_at "go"
        unfold tableIn at q
        rw [← h3] at q
        unfold sits at e2
        cases e3 : aget st.tables seat with
        | none => rw [e3] at e2; simp at e2
        | some t =>
          refine gS W'.t (by rw [tab_get, e3]; rfl) ?_
          simp only [Option.map_some, e3] at q
          exact q
      | false =>
        rw [e2] at h3
        walk_at "go"
        exact ⟨rfl, ⟨_, rfl⟩, h3⟩
    · obtain ⟨rfl, ⟨z, rfl⟩, h3⟩ := h
      rw [List.length_map, List.drop_length] at h3
      walk_at "go"
      unfold tableIn at q
      rw [← h3] at q
      exact q
end

structure St.Ok (s : St) : Prop where
  ndT : (keys s.tables).Nodup
  ndD : (keys s.dishes).Nodup
  fewT : s.tables.length ≤ 20
  fewD : s.dishes.length ≤ 50
  fewP : s.paid.length ≤ 100
  fewM : s.moved.length ≤ 100
  seats : ∀ q ∈ s.dishes, q.2.seats ≠ [] ∧ q.2.seats.Nodup ∧ q.2.seats.length ≤ 12 ∧ ∀ z ∈ q.2.seats, z ∈ keys s.tables
  cost : ∀ q ∈ s.dishes, 0 ≤ q.2.cost ∧ q.2.cost ≤ 6000
/-! ### where dishes begin -/
theorem begAt_snoc (ds : List (Int × Dish)) (q : Int × Dish) (ss : List Str) : begAt (ds ++ [q]) ss = begAt ds ss + if q.2.seats = ss then q.2.cost else 0 := by
  unfold begAt
  rw [List.filter_append, List.map_append, List.sum_append]
  by_cases h : q.2.seats = ss <;> simp [h]
def pairsD (l : List (Str × Int)) : D := .tup (l.map fun p => .tup [.str p.1, .int p.2])
def shareAt (pre : List (Int × Dish)) (q : Int × Dish) (s : Str) : Int := if living q.2.state = true then tot (dealt q.2 (begAt pre q.2.seats)) s else 0
theorem shares_snoc (l : List (Int × Dish)) (q : Int × Dish) (s : Str) : ∀ pre, shares pre (l ++ [q]) s = shares pre l s + shareAt (pre ++ l) q s := by
  induction l with
  | nil => intro pre; rw [List.nil_append, shares, shares, List.append_nil]; unfold shareAt shares; rw [Int.add_comm]
  | cons x l ih => intro pre; rw [List.cons_append, shares, shares, ih, List.append_assoc, List.singleton_append, Int.add_assoc]
theorem tot_snoc (l : List (Str × Int)) (p : Str × Int) (s : Str) : tot (l ++ [p]) s = tot l s + if p.1 = s then p.2 else 0 := by
  unfold tot; rw [List.map_append, List.sum_append]; simp
theorem putLen {κ : Type} [DecidableEq κ] (c : List (κ × V)) (k : κ) (x : V) : (putK c k x).length ≤ c.length + 1 := by
  unfold putK
  by_cases h : (c.any fun kv => decide (kv.1 = k)) = true
  · rw [if_pos h, List.length_map]; omega
  · rw [if_neg h, List.length_append]; simp
theorem dset_both {Q : VK} {E : List (List Key × V)} {k : List Key} {a : Addr} {H : Hp} {z : V} (hE : H a = some (.dT E))
    (h : ∀ H5 E5 v5, H5 a = some (.dT E5) → (∀ b, b ≠ a → H5 b = H b) → E5.length ≤ E.length + 1 → valV E5 k = some v5 → (∀ ss, (valV E5 ss).getD z = (valV E ss).getD z) → Q v5 H5) :
    Both Q E k z a H := by
  refine ⟨fun v hv => h H E v hE (fun _ _ => rfl) (by omega) hv fun _ => rfl, fun hv => h _ _ z upd_same (fun b hb => upd_ne hb) (putLen E k z) ?_ fun ss => ?_⟩
  · rw [valV_put, if_pos rfl]
  · rw [valV_put]
    by_cases e : ss = k
    · rw [if_pos e, e, hv]; rfl
    · rw [if_neg e]
theorem ex_lock {H H' : Hp} (d : Addr) (o : HO) (e : Ex H H') : Ex (upd H d o) (upd H' d o) := fun x v h => by
  by_cases q : x = d
  · subst q; rw [upd_same] at h ⊢; exact h
  · rw [upd_ne q] at h ⊢; exact e x v h
theorem keyT (ss : List Str) : (ss.map (Sum.inr : Str → Key)).map kV = ss.map V.str := by rw [List.map_map]; rfl
theorem inr_list_inj {a b : List Str} (h : a.map (Sum.inr : Str → Key) = b.map Sum.inr) : a = b := by
  induction a generalizing b with
  | nil => cases b with
    | nil => rfl
    | cons y b => simp at h
  | cons x a ih => cases b with
    | nil => simp at h
    | cons y b => simp only [List.map_cons, List.cons.injEq, Sum.inr.injEq] at h; rw [h.1, ih h.2]
section
variable {P : Program} {w : World} {K : PySem.W.Frag} {mg : Str → Option Value} {base : Heap} {k : Nat}
abbrev N_begins : List Str := ["world", "ends", "found", "dish", "row"]
abbrev P_begins : List Str := ["world"]
theorem sc_begins : FnScope N_begins P_begins (defScope s_begins) := ⟨rfl, rfl, rfl, by decide +kernel, rfl, by decide +kernel, by decide +kernel⟩
def sp_begins : Sp := fun vs H Q _ => ∃ (A : WA) (st : St), vs = [.ref A.w] ∧ WR H A st ∧ st.Ok ∧ ∀ H' p F, Ex H H' → H p = none → H' p = some (.dK F) →
  (∀ j q, st.dishes[j]? = some q → valV F (Sum.inl q.1) = some (.int (begAt (st.dishes.take j) q.2.seats))) → Q (.ref p) H'
def BegI (H : Hp) (A : WA) (st : St) (o : Obj) (e p : Addr) (i : Nat) (σ : L2.St) (H' : Hp) : Prop := ∃ (E : List (List Key × V)) (F : List (Key × V)) (z1 z2 : Option V), σ = [some (.ref A.w), some (.ref e), some (.ref p), z1, z2] ∧
  Ex (upd H A.d (.frz o (.dK (dishK A st.dishes)))) H' ∧ H' e = some (.dT E) ∧ H' p = some (.dK F) ∧ E.length ≤ 2 * i ∧ F.length ≤ i ∧ (∀ ss : List Str, (valV E (ss.map Sum.inr)).getD (.int 0) = .int (begAt (st.dishes.take i) ss)) ∧
  (∀ j q, j < i → st.dishes[j]? = some q → valV F (Sum.inl q.1) = some (.int (begAt (st.dishes.take j) q.2.seats)))
theorem ok_begins (d : Dn K mg d_begins) : Cal P w K mg base 1 "begins" [] sp_begins := by
  refine d.cal sc_begins (fun vs H Q E h => ?_) (fun f fd F => ⟨[], .nil, F.bindsN fun _ _ _ _ _ _ us hl => match us, hl with | [_], _ => rfl⟩) fun f cdv A outer s H vs Q E hr h => have hu := hu_of hr; ⟨_, PSs.nox (pss_cons (ps_par (i := 1) (j := 2) rfl sc_begins.nd (by rfl) (by rfl) (by decide) (by rfl) (by rfl) (pa_cons pe_dnewT (pa_cons pe_dnewK pa_nil)) (by rfl)) (pss_cons (ps_lock (ps_for PassesOwn.never rfl (pi_items (pe_dget hu (pv 0) pe_str (fun _ _ => rfl))) (pg_tup (n := 2) rfl (pgs_cons (pg_name (i := 3) sc_begins.nd rfl (Or.inl rfl)) (pgs_cons (pg_name (i := 4) sc_begins.nd rfl (Or.inl rfl)) pgs_nil))) (pss_cons (ps_dput hu (pv 2) (pv 3) (pe_dsetT hu (pv 1) (pe_dget hu (pv 4) pe_str (fun _ _ => rfl)) pe_int ⟨rfl, rfl, rfl, rfl⟩) rfl) (pss_one (ps_daug hu (pv 1) (pe_dget hu (pv 4) pe_str (fun _ _ => rfl)) (pe_dget hu (pv 4) pe_str (fun _ _ => rfl)) in_add (fun _ _ _ => rfl)))))) (pss_one (ps_ret (pv 2))))), ?_⟩
  · obtain ⟨_, _, rfl, _⟩ := h; rfl
  · obtain ⟨A, st, rfl, W, ok, q⟩ := h
    walk_at "go"
    intro e H1 he e1 h1
    walk_at "go"
    intro p H2 hp e2 h2
    walk_at "go"
    have W2 : WR H2 A st := (W.ex e1).ex e2
    refine i_lock A.d W2.d trivial fun o => ?_
    walk_at "go"
    have W3 := W2.q.rx (Rx.lockK (od := o) W2.d)
    have W0 := W.q.rx (Rx.lockK (od := o) W.d)
    refine w_d W3 ⟨A.d, o, _, rfl, upd_same, for_iti (BegI H A st o e p) ?_ (fun i σ H' h => ?_) (fun i k v σ H' T hk h hT => ?_) fun σ H' h => ?_⟩
    · have ne1 : e ≠ A.d := fun z => by rw [z, W.d] at he; exact absurd he (by simp)
      have ne2 : p ≠ A.d := fun z => by rw [z, (W.ex e1).d] at hp; exact absurd hp (by simp)
      exact ⟨[], [], _, _, rfl, ex_lock _ _ (e1.trans e2), by rw [upd_ne ne1]; exact e2 _ _ h1, by rw [upd_ne ne2]; exact h2, Nat.le_refl _, Nat.le_refl _, fun ss => rfl, fun j q hj => absurd hj (by omega)⟩
    · obtain ⟨E, F, z1, z2, rfl, ex, _⟩ := h
      exact ex _ _ upd_same
    · obtain ⟨E, F, z1, z2, rfl, ex, hE, hF, lE, lF, gE, gF⟩ := h
      have hk' : (dishK A st.dishes)[i]? = some (k, v) := hk
      unfold dishK at hk'
      rw [List.getElem?_map] at hk'
      obtain ⟨q1, hq, hkv⟩ := Option.map_eq_some_iff.mp hk'
      cases hkv
      have hm : q1 ∈ st.dishes := List.mem_of_getElem? hq
      have hi : i < 50 := by have := (List.getElem?_eq_some_iff.mp hq).1; have := ok.fewD; omega
      have ex2 := ex.trans (Ex.new (o := HO.tup [kV (Sum.inl q1.1), V.ref (A.row q1.1)]) hT)
      generalize hH4 : upd H' T (HO.tup [kV (Sum.inl q1.1), V.ref (A.row q1.1)]) = H4 at ex2 ⊢
      have hT4 : H4 T = some (.tup [kV (Sum.inl q1.1), V.ref (A.row q1.1)]) := by rw [← hH4]; exact upd_same
      have k4 : Ex H' H4 := by rw [← hH4]; exact Ex.new hT
      have hE4 := k4 _ _ hE
      have hF4 := k4 _ _ hF
      have W4 : WQ H4 A st := (W0.rx ex2.rx)
      refine ⟨T, _, rfl, SqT.of hT4, rfl, ?_⟩
      walk_at "go"
      refine ⟨e, rfl, .inr ⟨E, .inl hE4⟩, ?_⟩
      walk_at "go"
      refine r_seats (W4.row q1 hm) ?_
      walk_at "go"
      have hst := W4.st q1 hm
      have ne : p ≠ e := fun z => by rw [z, h1] at hp; exact absurd hp (by simp)
      have base_e : (upd H A.d (.frz o (.dK (dishK A st.dishes)))) e = none := by
        have ne1 : e ≠ A.d := fun z => by rw [z, W.d] at he; exact absurd he (by simp)
        rw [upd_ne ne1]; exact he
      have base_p : (upd H A.d (.frz o (.dK (dishK A st.dishes)))) p = none := by
        have ne2 : p ≠ A.d := fun z => by rw [z, (W.ex e1).d] at hp; exact absurd hp (by simp)
        rw [upd_ne ne2]; exact e1.back hp
      refine ⟨E, q1.2.seats.map Sum.inr, A.st q1.1, hE4, rfl, by rw [keyT]; exact hst, szl (by omega), ?_⟩
      refine dset_both (z := .int 0) hE4 fun H5 E5 v5 hE5 h5 l5 g5 o5 => ?_
      have hv5 : v5 = .int (begAt (st.dishes.take i) q1.2.seats) := by
        have := o5 (q1.2.seats.map Sum.inr)
        rw [g5, gE] at this
        exact this
      subst hv5
      have hF5 : H5 p = some (.dK F) := by rw [h5 p ne]; exact hF4
      have ex5 : Ex (upd H A.d (.frz o (.dK (dishK A st.dishes)))) H5 := fun x u hx => by
        have nx : x ≠ e := fun z => by rw [z, base_e] at hx; exact absurd hx (by simp)
        rw [h5 x nx]; exact ex2 x u hx
      walk_at "go"
      refine ⟨p, _, rfl, DPut.k (k := Sum.inl q1.1) hF5 (szl (by omega)), ?_⟩
      walk_at "go"
      have ex6 := Ex.mut (o := .dK (putK F (Sum.inl q1.1) (.int (begAt (st.dishes.take i) q1.2.seats)))) ex5 base_p
      have W6 := W0.rx ex6.rx
      refine r_seats (W6.row q1 hm) ?_
      refine ⟨e, _, rfl, .inr ⟨E5, q1.2.seats.map Sum.inr, _, .inl (by rw [upd_ne (Ne.symm ne)]; exact hE5), rfl, by rw [keyT]; exact W6.st q1 hm, g5.symm⟩, ?_⟩
      walk_at "go"
      refine r_cost (W6.row q1 hm) ?_
      walk_at "go"
      refine ⟨_, .inr ⟨E5, q1.2.seats.map Sum.inr, _, by rw [upd_ne (Ne.symm ne)]; exact hE5, rfl, by rw [keyT]; exact W6.st q1 hm, szl (by omega), rfl⟩, ?_⟩
      refine ⟨_, _, _, _, rfl, Ex.mut ex6 base_e, upd_same, by rw [upd_ne ne]; exact upd_same, Nat.le_trans (putLen _ _ _) (by omega), Nat.le_trans (putLen _ _ _) (by omega), fun ss => ?_, fun j q2 hj hq2 => ?_⟩
      · rw [valV_put, take_snoc hq, begAt_snoc]
        by_cases ess : ss = q1.2.seats
        · subst ess
          rw [if_pos rfl, if_pos rfl]; rfl
        · rw [if_neg fun z => ess (inr_list_inj z), if_neg fun z => ess z.symm, o5, gE, Int.add_zero]
      · rw [valV_put]
        by_cases ej : j = i
        · subst ej
          rw [hq] at hq2
          cases hq2
          rw [if_pos rfl]
        · have hji : j < i := by omega
          rw [if_neg fun z => ?_]
          · exact gF j q2 hji hq2
          · have z := inl_inj _ _ z
            have a1 : (keys st.dishes)[j]? = some q2.1 := by unfold keys; rw [List.getElem?_map, hq2]; rfl
            have a2 : (keys st.dishes)[i]? = some q1.1 := by unfold keys; rw [List.getElem?_map, hq]; rfl
            have hjl := (List.getElem?_eq_some_iff.mp a1).1
            rw [← z] at a2
            exact ej ((List.getElem?_inj hjl ok.ndD).mp (a1.trans a2.symm))
    · obtain ⟨E, F, z1, z2, rfl, ex, hE, hF, lE, lF, gE, gF⟩ := h
      refine ⟨ex _ _ upd_same, ?_⟩
      walk_at "go"
      have e3 : Ex H (upd H' A.d (.dK (dishK A st.dishes))) := unlock W.d ex
      have ne2 : p ≠ A.d := fun z => by rw [z, (W.ex e1).d] at hp; exact absurd hp (by simp)
      refine q _ p F e3 (e1.back hp) (by rw [upd_ne ne2]; exact hF) fun j q hj => gF j q ?_ hj
      have := (List.getElem?_eq_some_iff.mp hj).1
      unfold dishK
      rw [List.length_map]; exact this
abbrev N_dealt : List Str := ["row", "begun"]
abbrev P_dealt : List Str := ["row", "begun"]
theorem sc_dealt : FnScope N_dealt P_dealt (defScope s_dealt) := ⟨rfl, rfl, rfl, by decide +kernel, rfl, by decide +kernel, by decide +kernel⟩
def sp_dealt : Sp := fun vs H Q _ => ∃ (A : WA) (q : Int × Dish) (b : Int), vs = [.ref (A.row q.1), .int b] ∧ Rd H (A.row q.1) (.dK (rowK A q)) ∧ H (A.st q.1) = some (.tup (q.2.seats.map V.str)) ∧ q.2.seats ≠ [] ∧ q.2.seats.length ≤ 100 ∧
  ∀ H' p, Ex H H' → Is H' (.ref p) (pairsD (dealt q.2 b)) → Q (.ref p) H'
theorem isAll_of {H : Hp} : ∀ {vs : List V} {ds : List D}, vs.length = ds.length → (∀ (j : Nat) (v : V) (d : D), vs[j]? = some v → ds[j]? = some d → Is H v d) → IsAll H vs ds
  | [], [], _, _ => by simp [IsAll]
  | x :: xs, d :: ds, hl, h => by
    simp only [IsAll]
    exact ⟨h 0 x d rfl rfl, isAll_of (by simpa using hl) fun j v e hv he => h (j + 1) v e (by simpa using hv) (by simpa using he)⟩
  | [], _ :: _, hl, _ => by simp at hl
  | _ :: _, [], hl, _ => by simp at hl
theorem dealL_len (c : Int) (n : Nat) (b : Int) : (dealL c n b).length = n := by unfold dealL; rw [List.length_map, List.length_range]
theorem is_pairs {H : Hp} {p : Addr} {as : List Addr} {ss : List Str} {ns : List Int} (hp : H p = some (.tup (as.map V.ref))) (hl : as.length = ss.length) (hn : ns.length = ss.length)
    (h : ∀ (j : Nat) (c : Addr) (x : Str) (y : Int), as[j]? = some c → ss[j]? = some x → ns[j]? = some y → H c = some (.tup [.str x, .int y])) : Is H (.ref p) (pairsD (ss.zip ns)) := by
  unfold pairsD
  refine is_tup hp (isAll_of (by rw [List.length_map, List.length_map, List.length_zip, hl, hn]; omega) fun j v d hv hd => ?_)
  rw [List.getElem?_map] at hv hd
  obtain ⟨c, hc, rfl⟩ := Option.map_eq_some_iff.mp hv
  obtain ⟨xy, hxy, rfl⟩ := Option.map_eq_some_iff.mp hd
  obtain ⟨hx, hy⟩ := List.getElem?_zip_eq_some.mp hxy
  exact is_tup (h j c _ _ hc hx hy) (by simp [IsAll, Is])
theorem ok_dealt (d : Dn K mg d_dealt) (T : Free K mg) (c_deal : Cal P w K mg base 2 "deal" [] sp_deal) : Cal P w K mg base 3 "dealt" [] sp_dealt := by
  refine d.cal sc_dealt (fun vs H Q E h => ?_) (fun f fd F => ⟨[], .nil, F.bindsN fun _ _ _ _ _ _ us hl => match us, hl with | [_, _], _ => rfl⟩) fun f cdv A outer s H vs Q E hr h => have hu := hu_of hr; ⟨_, PSs.nox (pss_one (ps_ret (pe_tupZip rfl rfl T.tuple rfl T.zip (pa_cons (pe_dget hu (pv 0) pe_str (fun _ _ => rfl)) (pa_cons (pe_cl c_deal hr (pa_cons (pe_dget hu (pv 0) pe_str (fun _ _ => rfl)) (pa_cons (pe_callB call_len_seq rfl T.len boot_len (pa_cons (pe_dget hu (pv 0) pe_str (fun _ _ => rfl)) pa_nil)) (pa_cons (pv 1) pa_nil)))) pa_nil))))), ?_⟩
  · obtain ⟨_, _, _, rfl, _⟩ := h; rfl
  · obtain ⟨A, q, b, rfl, hR, hS, hne, hlen, qq⟩ := h
    walk_at "go"
    refine r_seats hR ?_
    walk_at "go"
    refine r_cost hR ?_
    walk_at "go"
    refine r_seats hR ?_
    walk_at "go"
    refine ⟨_, _, rfl, .inr (SqT.of hS), ?_⟩
    walk_at "go"
    rw [List.length_map]
    refine ⟨_, _, _, rfl, List.length_pos_iff.mpr hne, by omega, fun H1 p e1 hp => ?_⟩
    walk_at "go"
    refine ⟨_, _, _, _, rfl, SqT.of (e1 _ _ hS), SqT.of hp, by rw [List.length_map, List.length_map, dealL_len], fun H2 p2 as e2 hp2 h2 l2 z => ?_⟩
    refine qq H2 p2 (e1.trans e2) (is_pairs h2 (by rw [l2, List.length_map]) (dealL_len _ _ _) fun j c x y hc hx hy => z j c _ _ hc (by rw [List.getElem?_map, hx]; rfl) (by rw [List.getElem?_map, hy]; rfl))
/-! ### what all owe -/
def penF (ks : List (Str × Str)) (f : Str → Int) : List (Str × Int) := ks.map fun p => (p.1, f p.1)
theorem keys_penF (ks : List (Str × Str)) (f : Str → Int) : keys (penF ks f) = keys ks := by unfold keys penF; rw [List.map_map]; rfl
theorem penF_get {ks : List (Str × Str)} {f : Str → Int} {z : Str} (h : z ∈ keys ks) : aget (penF ks f) z = some (f z) := by
  induction ks with
  | nil => simp [keys] at h
  | cons p ks ih =>
    show aget ((p.1, f p.1) :: penF ks f) z = _
    rw [aget_cons]
    by_cases e : p.1 = z
    · subst e; rw [if_pos rfl]
    · rw [if_neg e]
      exact ih ((List.mem_cons.mp (show z ∈ p.1 :: keys ks from h)).resolve_left fun q => e q.symm)
theorem penF_put {ks : List (Str × Str)} {f : Str → Int} {z : Str} (v : Int) (h : z ∈ keys ks) : aput (penF ks f) z v = penF ks fun s => if s = z then v else f s := by
  unfold aput
  rw [if_pos]
  · unfold penF
    rw [List.map_map]
    refine List.map_congr_left fun p _ => ?_
    show (if p.1 = z then (p.1, v) else (p.1, f p.1)) = (p.1, if p.1 = z then v else f p.1)
    by_cases e : p.1 = z <;> simp [e]
  · obtain ⟨p, hp, e⟩ := List.mem_map.mp h
    exact List.any_eq_true.mpr ⟨(p.1, f p.1), List.mem_map.mpr ⟨p, hp, rfl⟩, decide_eq_true e⟩
theorem penF_snoc (ks : List (Str × Str)) (p : Str × Str) (f : Str → Int) : penF (ks ++ [p]) f = penF ks f ++ [(p.1, f p.1)] := by unfold penF; rw [List.map_append]; rfl
theorem pen_put (l : List (Str × Int)) (z : Str) (v : Int) : putK (penK l) (Sum.inr z) (.int v) = penK (aput l z v) := putK_enc _ inr_inj V.int l z v
abbrev N_all_owed : List Str := ["world", "found", "begun", "seat", "dish", "row", "pence"]
abbrev P_all_owed : List Str := ["world"]
theorem sc_all_owed : FnScope N_all_owed P_all_owed (defScope s_all_owed) := ⟨rfl, rfl, rfl, by decide +kernel, rfl, by decide +kernel, by decide +kernel⟩
def sp_all_owed (K : PySem.W.Frag) : Sp := fun vs H Q _ => ∃ (A : WA) (st : St), vs = [.ref A.w] ∧ WR H A st ∧ st.Ok ∧ ∀ H' p, Ex H H' → H p = none → H' p = some (.dK (penK (allOwed st))) → Q (.ref p) H'
theorem ok_all_owed (d : Dn K mg d_all_owed) (T : Tb w K mg) (c_begins : Cal P w K mg base 1 "begins" [] sp_begins) (c_dealt : Cal P w K mg base 3 "dealt" [] sp_dealt) : Cal P w K mg base 4 "all_owed" [] (sp_all_owed K) := by
  refine d.cal sc_all_owed (fun vs H Q E h => ?_) (fun f fd F => ⟨[], .nil, F.bindsN fun _ _ _ _ _ _ us hl => match us, hl with | [_], _ => rfl⟩) fun f cdv A outer s H vs Q E hr h => have hu := hu_of hr; ⟨_, PSs.nox (pss_cons (ps_set (i := 1) sc_all_owed.nd rfl (Or.inl rfl) pe_dnewK) (pss_cons (ps_set (i := 2) sc_all_owed.nd rfl (Or.inl rfl) (pe_cl c_begins hr (pa_cons (pv 0) pa_nil))) (pss_cons (ps_lock (ps_for PassesOwn.never rfl (pi_keys (pe_dget hu (pv 0) pe_str (fun _ _ => rfl))) (pg_name (i := 3) sc_all_owed.nd rfl (Or.inl rfl)) (pss_one (ps_dput hu (pv 1) (pv 3) (pe_op op_sub (pe_dget2 hu (pe_dget hu (pv 0) pe_str (fun _ _ => rfl)) (pv 3) pe_int ⟨rfl, rfl, rfl, rfl⟩) (pe_dget2 hu (pe_dget hu (pv 0) pe_str (fun _ _ => rfl)) (pv 3) pe_int ⟨rfl, rfl, rfl, rfl⟩)) rfl)))) (pss_cons (ps_lock (ps_for PassesOwn.never rfl (pi_items (pe_dget hu (pv 0) pe_str (fun _ _ => rfl))) (pg_tup (n := 2) rfl (pgs_cons (pg_name (i := 4) sc_all_owed.nd rfl (Or.inl rfl)) (pgs_cons (pg_name (i := 5) sc_all_owed.nd rfl (Or.inl rfl)) pgs_nil))) (pss_one (ps_if (pt_cmpR op_in_seq (pe_dget hu (pv 5) pe_str (fun _ _ => rfl)) (pe_glob (v := .ref T.aLIVING) rfl T.gLIVING rfl) (by rfl)) (pss_one (ps_for PassesOwn.never rfl (pi_tup (pe_cl c_dealt hr (pa_cons (pv 5) (pa_cons (pe_dget hu (pv 2) (pv 4) (fun _ _ => rfl)) pa_nil)))) (pg_tup (n := 2) rfl (pgs_cons (pg_name (i := 3) sc_all_owed.nd rfl (Or.inl rfl)) (pgs_cons (pg_name (i := 6) sc_all_owed.nd rfl (Or.inl rfl)) pgs_nil))) (pss_one (ps_daug hu (pv 1) (pv 3) (pv 6) in_add (fun _ _ _ => rfl))))) pss_nil)))) (pss_one (ps_ret (pv 1))))))), ?_⟩
  · obtain ⟨_, _, rfl, _⟩ := h; rfl
  · obtain ⟨A, st, rfl, W, ok, q⟩ := h
    walk_at "go"
    intro p H1 hp e1 h1
    walk_at "go"
    refine ⟨A, st, rfl, W.ex e1, ok, fun H2 b F e2 hb h2 hF => ?_⟩
    walk_at "go"
    have e12 : Ex H H2 := e1.trans e2
    have W2 : WR H2 A st := W.ex e12
    have npb : b ≠ p := fun z => by rw [z, h1] at hb; exact absurd hb (by simp)
    have base_p : ∀ (d : Addr) (o1 o2 : HO), H d = some o1 → (upd H d o2) p = none := fun d o1 o2 h => by
      have hd : p ≠ d := fun z => by rw [z, h] at hp; exact absurd hp (by simp)
      rw [upd_ne hd]; exact hp
    have base_b : ∀ (d : Addr) (o1 : HO), H d = some o1 → b ≠ d := fun d o1 h z => by
      rw [z, e1 _ _ h] at hb; exact absurd hb (by simp)
    have h2p : H2 p = some (.dK []) := e2 _ _ h1
    refine i_lock A.t W2.t trivial fun o => ?_
    walk_at "go"
    have W3 := W2.q.rx (Rx.lockK (od := o) W2.t)
    have W0 := W.q.rx (Rx.lockK (od := o) W.t)
    refine w_t W3 ⟨A.t, o, rfl, .inl ⟨_, upd_same, for_itk (fun i σ H' => (∃ z1 z2 z3 z4, σ = [some (.ref A.w), some (.ref p), some (.ref b), z1, z2, z3, z4]) ∧ Ex (upd H A.t (.frz o (.dK (tabK st.tables)))) H' ∧ H' b = some (.dK F) ∧ H' p = some (.dK (penK (penF (st.tables.take i) (TB.base st))))) ?_ (fun i σ H' h => ?_) (fun i k v σ H' hk h => ?_) fun σ H' h => ?_⟩⟩
    · exact ⟨⟨_, _, _, _, rfl⟩, ex_lock _ _ e12, by rw [upd_ne (base_b _ _ W.t)]; exact h2, by rw [upd_ne fun z => by rw [z, W.t] at hp; exact absurd hp (by simp)]; exact h2p⟩
    · exact h.2.1 _ _ upd_same
    · obtain ⟨⟨z1, z2, z3, z4, rfl⟩, ex, hb', hp'⟩ := h
      unfold tabK at hk
      rw [List.getElem?_map] at hk
      obtain ⟨pr, hpr, hkv⟩ := Option.map_eq_some_iff.mp hk
      cases hkv
      have W4 := W0.rx ex.rx
      have hi : i < 20 := by have := (List.getElem?_eq_some_iff.mp hpr).1; have := ok.fewT; omega
      walk_at "go"
      refine w_m W4 ⟨_, rfl, isD W4.m, ?_⟩
      walk_at "go"
      refine ⟨_, .inl ⟨_, Sum.inr pr.1, W4.m, rfl, rfl⟩, ?_⟩
      rw [pen_getD]
      walk_at "go"
      refine w_p W4 ⟨_, rfl, isD W4.p, ?_⟩
      walk_at "go"
      refine ⟨_, .inl ⟨_, Sum.inr pr.1, W4.p, rfl, rfl⟩, ?_⟩
      rw [pen_getD]
      walk_at "go"
      refine ⟨p, _, rfl, DPut.k (k := Sum.inr pr.1) hp' (szl (by unfold penK penF; rw [List.length_map, List.length_map, List.length_take]; omega)), ?_⟩
      refine ⟨⟨_, _, _, _, rfl⟩, Ex.mut ex (base_p _ _ _ W.t), by rw [upd_ne npb]; exact hb', ?_⟩
      rw [upd_same, pen_put, aput_new, take_snoc hpr, penF_snoc]
      · rfl
      · rw [keys_penF]
        intro hm
        obtain ⟨p2, hp2, e2⟩ := List.mem_map.mp hm
        obtain ⟨j, hj, ej⟩ := List.getElem_of_mem hp2
        rw [List.length_take] at hj
        rw [List.getElem_take] at ej
        have a1 : (keys st.tables)[j]? = some pr.1 := by unfold keys; rw [List.getElem?_map, List.getElem?_eq_getElem (by omega), ej]; exact congrArg some e2
        have a2 : (keys st.tables)[i]? = some pr.1 := by unfold keys; rw [List.getElem?_map, hpr]; rfl
        have := (List.getElem?_inj (List.getElem?_eq_some_iff.mp a1).1 ok.ndT).mp (a1.trans a2.symm)
        omega
    · obtain ⟨⟨z1, z2, z3, z4, rfl⟩, ex, hb', hp'⟩ := h
      refine ⟨ex _ _ upd_same, ?_⟩
      have e3 := unlock W.t ex
      have hb3 : (upd H' A.t (.dK (tabK st.tables))) b = some (.dK F) := by rw [upd_ne (base_b _ _ W.t)]; exact hb'
      have hp3 : (upd H' A.t (.dK (tabK st.tables))) p = some (.dK (penK (penF st.tables (TB.base st)))) := by
        rw [upd_ne fun z => by rw [z, W.t] at hp; exact absurd hp (by simp), hp']
        unfold tabK
        rw [List.length_map, List.take_of_length_le (Nat.le_refl _)]
      generalize hH5 : upd H' A.t (.dK (tabK st.tables)) = H5 at e3 hb3 hp3 ⊢
      clear hH5
      walk_at "go"
      have W5 := W.ex e3
      refine i_lock A.d W5.d trivial fun o => ?_
      walk_at "go"
      have W6 := W5.q.rx (Rx.lockK (od := o) W5.d)
      have W0 := W.q.rx (Rx.lockK (od := o) W.d)
      refine w_d W6 ⟨A.d, o, _, rfl, upd_same, for_iti (fun i σ H' => (∃ z1 z2 z3 z4, σ = [some (.ref A.w), some (.ref p), some (.ref b), z1, z2, z3, z4]) ∧ Ex (upd H A.d (.frz o (.dK (dishK A st.dishes)))) H' ∧ H' b = some (.dK F) ∧ H' p = some (.dK (penK (penF st.tables fun s => TB.base st s + shares [] (st.dishes.take i) s)))) ?_ (fun i σ H' h => ?_) (fun i k v σ H' T' hk h hT => ?_) fun σ H' h => ?_⟩
      · refine ⟨⟨_, _, _, _, rfl⟩, ex_lock _ _ e3, by rw [upd_ne (base_b _ _ W.d)]; exact hb3, ?_⟩
        rw [upd_ne fun z => by rw [z, W.d] at hp; exact absurd hp (by simp), hp3]
        simp only [List.take_zero, shares, Int.add_zero]
      · exact h.2.1 _ _ upd_same
      · obtain ⟨⟨z1, z2, z3, z4, rfl⟩, ex, hb', hp'⟩ := h
        unfold dishK at hk
        rw [List.getElem?_map] at hk
        obtain ⟨q1, hq, hkv⟩ := Option.map_eq_some_iff.mp hk
        cases hkv
        have hm : q1 ∈ st.dishes := List.mem_of_getElem? hq
        obtain ⟨sne, snd, sln, sin⟩ := ok.seats q1 hm
        have hi : i < 50 := by have := (List.getElem?_eq_some_iff.mp hq).1; have := ok.fewD; omega
        have k4 := Ex.new (o := HO.tup [kV (Sum.inl q1.1), V.ref (A.row q1.1)]) hT
        generalize hH4 : upd H' T' (HO.tup [kV (Sum.inl q1.1), V.ref (A.row q1.1)]) = H4 at k4 ⊢
        have hT4 : H4 T' = some (.tup [kV (Sum.inl q1.1), V.ref (A.row q1.1)]) := by rw [← hH4]; exact upd_same
        have ex4 := ex.trans k4
        have hb4 := k4 _ _ hb'
        have hp4 := k4 _ _ hp'
        have W4 : WQ H4 A st := W0.rx ex4.rx
        refine ⟨T', _, rfl, SqT.of hT4, rfl, ?_⟩
        walk_at "go"
        refine r_state (W4.row q1 hm) ?_
        walk_at "go"
        refine i_inS (.inr (T.living H4)) ?_
        walk_at "go"
        have hlv : decide (q1.2.state ∈ (["asked", "fired", "served"] : List Str)) = living q1.2.state := by
          unfold living
          rw [Bool.eq_iff_iff]
          simp
        rw [hlv]
        cases hliv : living q1.2.state with
        | false =>
          walk_at "go"
          refine ⟨⟨_, _, _, _, rfl⟩, ex4, hb4, ?_⟩
          rw [hp4]
          unfold penF
          simp only [take_snoc hq, shares_snoc, shareAt, hliv, Bool.false_eq_true, if_false, Int.add_zero]
        | true =>
          walk_at "go"
          refine gI (.inl hb4) (hF i q1 hq) ?_
          refine ⟨A, q1, _, rfl, W4.row q1 hm, W4.st q1 hm, sne, by omega, fun H6 pp e6 hpp => ?_⟩
          unfold pairsD at hpp
          simp only [Is] at hpp
          obtain ⟨pa, ps, epa, hpa, hps⟩ := hpp
          cases epa
          refine ⟨_, rfl, ⟨_, SqT.of hpa⟩, for_tup (xs := ps) (fun j σ H' => (∃ z1 z2 z3, σ = [some (.ref A.w), some (.ref p), some (.ref b), z1, z2, some (.ref (A.row q1.1)), z3]) ∧ Ex (upd H A.d (.frz o (.dK (dishK A st.dishes)))) H' ∧ H' b = some (.dK F) ∧ H' pp = some (.tup ps) ∧ IsAll H' ps ((dealt q1.2 (begAt (st.dishes.take i) q1.2.seats)).map fun p => .tup [.str p.1, .int p.2]) ∧
            H' p = some (.dK (penK (penF st.tables fun s => TB.base st s + shares [] (st.dishes.take i) s + tot ((dealt q1.2 (begAt (st.dishes.take i) q1.2.seats)).take j) s)))) ?_ (fun j σ H' _ h => ?_) (fun j x σ H' hx h => ?_) fun σ H' h => ?_⟩
          · refine ⟨⟨_, _, _, rfl⟩, ex4.trans e6, e6 _ _ hb4, hpa, hps, ?_⟩
            rw [e6 _ _ hp4]
            simp only [List.take_zero, tot, List.map_nil, List.sum_nil, Int.add_zero]
          · exact SqT.of h.2.2.2.1
          · obtain ⟨⟨y1, y2, y3, rfl⟩, ex7, hb7, hpp7, hps7, hp7⟩ := h
            obtain ⟨dd, hdd, hxd⟩ := hps7.at hx
            rw [List.getElem?_map] at hdd
            obtain ⟨pr, hpr, rfl⟩ := Option.map_eq_some_iff.mp hdd
            refine i_gtup hxd rfl fun ys hys => ?_
            obtain ⟨u1, u2, rfl, hu1, hu2⟩ := isAll2 hys
            simp only [Is] at hu1 hu2
            subst hu1 hu2
            have hz : pr.1 ∈ keys st.tables := sin _ (List.of_mem_zip (List.mem_of_getElem? hpr)).1
            walk_at "go"
            refine ⟨p, .int _, rfl, .inl ⟨_, Sum.inr pr.1, .inl hp7, rfl, (by rw [pen_get, penF_get hz]; rfl)⟩, ?_⟩
            walk_at "go"
            refine ⟨_, DPut.k (k := Sum.inr pr.1) hp7 (szl (by unfold penK penF; rw [List.length_map, List.length_map]; have := ok.fewT; omega)), ?_⟩
            have npp : pp ≠ p := fun z => by rw [z, hp7] at hpp7; cases hpp7
            have ppH : (upd H A.d (.frz o (.dK (dishK A st.dishes)))) p = none := base_p _ _ _ W.d
            refine ⟨⟨_, _, _, rfl⟩, Ex.mut ex7 ppH, by rw [upd_ne npb]; exact hb7, by rw [upd_ne npp]; exact hpp7, ?_, ?_⟩
            · exact IsAll.mono (TEx.mut hp7 fun _ => by simp) _ hps7
            · rw [upd_same, pen_put, penF_put _ hz]
              refine congrArg some (congrArg HO.dK (congrArg penK ?_))
              unfold penF
              refine List.map_congr_left fun t _ => ?_
              simp only [take_snoc hpr, tot_snoc]
              by_cases e9 : t.1 = pr.1
              · rw [if_pos e9, if_pos e9.symm, e9, Int.add_assoc]
              · rw [if_neg e9, if_neg fun z => e9 z.symm, Int.add_zero]
          · obtain ⟨⟨y1, y2, y3, rfl⟩, ex7, hb7, hpp7, hps7, hp7⟩ := h
            refine ⟨⟨_, _, _, _, rfl⟩, ex7, hb7, ?_⟩
            rw [hp7]
            rw [hps7.len, List.length_map, List.take_of_length_le (Nat.le_refl _)]
            unfold penF
            simp only [take_snoc hq, shares_snoc, shareAt, hliv, if_true, List.nil_append, Int.add_assoc]
      · obtain ⟨⟨z1, z2, z3, z4, rfl⟩, ex, hb', hp'⟩ := h
        refine ⟨ex _ _ upd_same, ?_⟩
        walk_at "go"
        refine q _ p (unlock W.d ex) hp ?_
        rw [upd_ne fun z => by rw [z, W.d] at hp; exact absurd hp (by simp), hp']
        unfold dishK
        rw [List.length_map, List.take_of_length_le (Nat.le_refl _)]
        rfl
abbrev N_owed_in : List Str := ["world", "seat"]
abbrev P_owed_in : List Str := ["world", "seat"]
theorem sc_owed_in : FnScope N_owed_in P_owed_in (defScope s_owed_in) := ⟨rfl, rfl, rfl, by decide +kernel, rfl, by decide +kernel, by decide +kernel⟩
def sp_owed_in (K : PySem.W.Frag) : Sp := fun vs H Q _ => ∃ (A : WA) (st : St) (z : Str), vs = [.ref A.w, .str z] ∧ WR H A st ∧ st.Ok ∧ z ∈ keys st.tables ∧ ∀ H', Ex H H' → Q (.int (owed st z)) H'
theorem ok_owed_in (d : Dn K mg d_owed_in) (c_all_owed : Cal P w K mg base 4 "all_owed" [] (sp_all_owed K)) : Cal P w K mg base 5 "owed_in" [] (sp_owed_in K) := by
  refine d.cal sc_owed_in (fun vs H Q E h => ?_) (fun f fd F => ⟨[], .nil, F.bindsN fun _ _ _ _ _ _ us hl => match us, hl with | [_, _], _ => rfl⟩) fun f cdv A outer s H vs Q E hr h => have hu := hu_of hr; ⟨_, PSs.nox (pss_one (ps_ret (pe_dget2 hu (pe_cl c_all_owed hr (pa_cons (pv 0) pa_nil)) (pv 1) pe_int ⟨rfl, rfl, rfl, rfl⟩))), ?_⟩
  · obtain ⟨_, _, _, rfl, _⟩ := h; rfl
  · obtain ⟨A, st, z, rfl, W, ok, hz, q⟩ := h
    walk_at "go"
    refine ⟨A, st, rfl, W, ok, fun H' p e _ hp => ?_⟩
    walk_at "go"
    refine ⟨p, rfl, isD (.inl hp), ?_⟩
    walk_at "go"
    refine ⟨_, .inl ⟨_, Sum.inr z, .inl hp, rfl, rfl⟩, ?_⟩
    rw [pen_getD]
    have : allOwed st = penF st.tables (owed st) := rfl
    rw [this, penF_get hz]
    exact q H' e
end

section
variable {K : PySem.W.Frag} {H : Hp} {v : V} {ds : List D} {i : Nat} {Q : VK} {s : Str} {n : Int}
theorem is_str (h : Is H v (.str s)) : v = .str s := by simpa [Is] using h
theorem is_int (h : Is H v (.int n)) : v = .int n := by simpa [Is] using h
theorem ix_isS (h : Is H v (.tup ds)) (e : ds[i]? = some (.str s)) (q : Q (.str s) H) : rIxT K v (.int (i : Int)) H Q := ix_is h e fun x hx => by rw [is_str hx]; exact q
theorem ix_isI (h : Is H v (.tup ds)) (e : ds[i]? = some (.int n)) (q : Q (.int n) H) : rIxT K v (.int (i : Int)) H Q := ix_is h e fun x hx => by rw [is_int hx]; exact q
end
theorem sits_key {st : St} {z : Str} (h : sits st z = true) : ∃ t, aget st.tables z = some t ∧ z ∈ keys st.tables := by
  cases e : aget st.tables z with
  | none => unfold sits at h; rw [e] at h; simp at h
  | some t => exact ⟨t, rfl, aget_some_iff.mp ⟨t, e⟩⟩
def Pre (st : St) : Deed → Prop
  | .ask _ _ _ ss => ss ≠ [] ∧ ss.length ≤ 12 ∧ ∃ t, ∀ z ∈ ss, sits st z = true → aget st.tables z = some t
  | .even ss => ss ≠ [] ∧ ss.length ≤ 12
  | _ => True
def sp_why (K : PySem.W.Frag) (c : Deed → Prop) : Sp := fun vs H Q _ => ∃ (hv : V) (hs : House) (A : WA) (st : St) (dv : V) (dd : Deed), vs = [hv, .ref A.w, dv] ∧ Is H hv hs.d ∧ Is H dv dd.d ∧ WR H A st ∧ st.Ok ∧ hs.Ok ∧ Pre st dd ∧ c dd ∧
  ∀ H', Ex H H' → Q (.str (why hs st dd)) H'
section
variable {P : Program} {w : World} {K : PySem.W.Frag} {mg : Str → Option Value} {base : Heap} {k : Nat}
theorem stateV_eq (a : Option Str) (b : Str) : decide (stateV a = V.str b) = decide (a = some b) := by
  cases a <;> simp [stateV]
theorem i_eqSt {a : Option Str} {b : Str} {H : Hp} {Q : VK} (q : Q (.bl (decide (a = some b))) H) : rEq (stateV a) (.str b) H Q := ⟨by cases a <;> rfl, by rw [stateV_eq]; exact q⟩
theorem inV_state (o : Option Str) (zs : List Str) : inV (stateV o) (zs.map V.str) = decide (∃ z ∈ zs, o = some z) := by
  cases o with
  | none =>
    rw [Bool.eq_iff_iff, decide_eq_true_eq]
    unfold inV
    rw [List.any_map, List.any_eq_true]
    constructor
    · rintro ⟨x, _, h⟩; exact absurd h (by simp [stateV, eqV])
    · rintro ⟨z, _, h⟩; exact absurd h (by simp)
  | some x =>
    show inV (.str x) (zs.map V.str) = _
    rw [inV_strs]
    refine decide_eq_decide.mpr ⟨fun h => ⟨x, h, rfl⟩, ?_⟩
    rintro ⟨z, hz, e⟩
    rw [Option.some.inj e]; exact hz
theorem dishK_keys (A : WA) (l : List (Int × Dish)) : (dishK A l).map (·.1) = (keys l).map Sum.inl := by unfold dishK keys; rw [List.map_map, List.map_map]; rfl
abbrev N_asked_at : List Str := ["world", "table", "course", "found", "dish"]
abbrev P_asked_at : List Str := ["world", "table", "course"]
theorem sc_asked_at : FnScope N_asked_at P_asked_at (defScope s_asked_at) := ⟨rfl, rfl, rfl, by decide +kernel, rfl, by decide +kernel, by decide +kernel⟩
def sp_asked_at : Sp := fun vs H Q _ => ∃ (A : WA) (st : St) (t : Str) (c : Int), vs = [.ref A.w, .str t, .int c] ∧ WR H A st ∧ st.Ok ∧
  ∀ (H' : Hp) (p : Addr) (l : List Int), Ex H H' → H p = none → H' p = some (.lst (l.map V.int)) → l.length ≤ 50 → (∀ d, d ∈ l ↔ ∃ x, aget st.dishes d = some x ∧ isAsked st t c x = true) → Q (.ref p) H'
theorem ok_asked_at (d : Dn K mg d_asked_at) (T : Tb w K mg) (c_table_in : Cal P w K mg base 2 "table_in" [] (sp_table_in K)) (c_state_in : Cal P w K mg base 1 "state_in" [] sp_state_in) : Cal P w K mg base 3 "asked_at" [] sp_asked_at := by
  refine d.cal sc_asked_at (fun vs H Q E h => ?_) (fun f fd F => ⟨[], .nil, F.bindsN fun _ _ _ _ _ _ us hl => match us, hl with | [_, _, _], _ => rfl⟩) fun f cdv A outer s H vs Q E hr h => have hu := hu_of hr; ⟨_, PSs.nox (pss_cons (ps_setLc (i := 3) rfl sc_asked_at.nd rfl rfl (sw_true rfl rfl rfl (by decide +kernel)) (pi_list (pe_callB (call_sortedDI rfl) rfl T.sorted boot_sorted (pa_cons (pe_dget hu (pv 0) pe_str (fun _ _ => rfl)) pa_nil))) (blkOk_by (own := [("dish", 4)]) (N := N_asked_at) (sc := defScope s_asked_at) (by decide +kernel)) (fun _ _ _ _ _ => (pg_name (i := 4) sc_asked_at.nd rfl (Or.inl rfl))) (fun _ _ _ _ _ => (pts_one (pt_cmpR op_eq (pe_cl c_table_in hr (pa_cons (pv 0) (pa_cons (pv 4) pa_nil))) (pv 1) (nomark _)))) (fun _ _ _ _ _ => (pv 4))) (pss_cons (ps_setLc (i := 3) rfl sc_asked_at.nd rfl rfl (sw_true rfl rfl rfl (by decide +kernel)) (pi_list (pv 3)) (blkOk_by (own := [("dish", 4)]) (N := N_asked_at) (sc := defScope s_asked_at) (by decide +kernel)) (fun _ _ _ _ _ => (pg_name (i := 4) sc_asked_at.nd rfl (Or.inl rfl))) (fun _ _ _ _ _ => (pts_one (pt_cmpR op_eq (pe_dget hu (pe_dget hu (pe_dget hu (pv 0) pe_str (fun _ _ => rfl)) (pv 4) (fun _ _ => rfl)) pe_str (fun _ _ => rfl)) (pv 2) (nomark _)))) (fun _ _ _ _ _ => (pv 4))) (pss_one (ps_ret (pe_lc rfl sc_asked_at.nd (pi_list (pv 3)) (blkOk_by (own := [("dish", 4)]) (N := N_asked_at) (sc := defScope s_asked_at) (by decide +kernel)) (fun _ _ _ _ _ => (pg_name (i := 4) sc_asked_at.nd rfl (Or.inl rfl))) (fun _ _ _ _ _ => (pts_one (pt_cmpR op_eq (pe_cl c_state_in hr (pa_cons (pv 0) (pa_cons (pv 4) pa_nil))) pe_str (nomark _)))) (fun _ _ _ _ _ => (pv 4))))))), ?_⟩
  · obtain ⟨_, _, _, _, rfl, _⟩ := h; rfl
  · obtain ⟨A, st, t, c, rfl, W, ok, q⟩ := h
    walk_at "go"
    refine w_d W.q ?_
    walk_at "go"
    refine ⟨A.d, _, keys st.dishes, rfl, .inl W.d, dishK_keys _ _, by unfold keys; rw [List.length_map]; have := ok.fewD; omega, fun ys a0 hperm _ ha0 => ?_⟩
    have e0 := Ex.new (o := HO.lst (ys.map V.int)) ha0
    have h0 : (upd H a0 (HO.lst (ys.map V.int))) a0 = some (.lst (ys.map V.int)) := upd_same
    generalize upd H a0 (HO.lst (ys.map V.int)) = H0 at e0 h0 ⊢
    have hlen : ys.length ≤ 50 := by rw [hperm.length_eq]; unfold keys; rw [List.length_map]; exact ok.fewD
    have hmem : ∀ d ∈ ys, ∃ x, aget st.dishes d = some x := fun d hd => aget_some_iff.mpr (hperm.mem_iff.mp hd)
    let X : Int → Dish := fun d => (aget st.dishes d).getD ⟨[], "", 0, 0, ""⟩
    have hX : ∀ d x, aget st.dishes d = some x → X d = x := fun d x h => by show (aget st.dishes d).getD _ = x; rw [h]; rfl
    have W0 := W.ex e0
    refine ⟨a0, rfl, ⟨_, SqL.of h0⟩, fun D hD => lc_listE ys (fun d => decide (tableIn st (X d) = some t)) V.int (by rw [List.length_map]) (SqL.of h0) hD (by omega) (fun i x dd H1 Kt Ks hx hdd e1 ht hf => ?_) fun H1 e1 h1 => ?_⟩
    · rw [List.getElem?_map, hdd] at hx
      cases hx
      obtain ⟨x, hxx⟩ := hmem dd (List.mem_of_getElem? hdd)
      walk_at "go"
      refine ⟨A, st, dd, x, rfl, W0.ex e1, hxx, ?_⟩
      walk_at "go"
      refine i_eqSt ?_
      rw [← hX dd x hxx]
      walk_at "go"
      cases e : decide (tableIn st (X dd) = some t) with
      | true => walk_at "go"; exact ht e _ (Ex.refl _)
      | false => walk_at "go"; exact hf e _ (Ex.refl _)
    walk_at "go"
    have W1 := W0.ex e1
    have hlen1 : (ys.filter fun d => decide (tableIn st (X d) = some t)).length ≤ 50 := Nat.le_trans (List.length_filter_le _ _) hlen
    have hmem1 : ∀ d ∈ (ys.filter fun d => decide (tableIn st (X d) = some t)), ∃ x, aget st.dishes d = some x := fun d hd => hmem d (List.mem_filter.mp hd).1
    have hin1 : ∀ d, d ∈ (ys.filter fun d => decide (tableIn st (X d) = some t)) ↔ ∃ x, aget st.dishes d = some x ∧ tableIn st x = some t := fun d => by
      rw [List.mem_filter, hperm.mem_iff, ← aget_some_iff, decide_eq_true_eq]
      constructor
      · rintro ⟨⟨x, hx⟩, h⟩; rw [hX d x hx] at h; exact ⟨x, hx, h⟩
      · rintro ⟨x, hx, h⟩; exact ⟨⟨x, hx⟩, by rw [hX d x hx]; exact h⟩
    generalize (ys.filter fun d => decide (tableIn st (X d) = some t)) = y1 at h1 hlen1 hmem1 hin1
    refine ⟨D, rfl, ⟨_, SqL.of h1⟩, fun D2 hD2 => lc_listE y1 (fun d => decide ((X d).course = c)) V.int (by rw [List.length_map]) (SqL.of h1) hD2 (by omega) (fun i x dd H2 Kt Ks hx hdd e2 ht hf => ?_) fun H2 e2 h2 => ?_⟩
    · rw [List.getElem?_map, hdd] at hx
      cases hx
      obtain ⟨x, hxx⟩ := hmem1 dd (List.mem_of_getElem? hdd)
      have W2 := (W1.ex e2).q
      walk_at "go"
      refine w_d W2 ?_
      walk_at "go"
      refine g_dish W2 hxx ?_
      walk_at "go"
      refine r_course (W2.row (dd, x) (aget_mem hxx)) ?_
      walk_at "go"
      show (if decide (x.course = c) = true then _ else _)
      rw [← hX dd x hxx]
      cases e : decide ((X dd).course = c) with
      | true => walk_at "go"; exact ht e _ (Ex.refl _)
      | false => walk_at "go"; exact hf e _ (Ex.refl _)
    walk_at "go"
    have W2 := W1.ex e2
    have hlen2 : (y1.filter fun d => decide ((X d).course = c)).length ≤ 50 := Nat.le_trans (List.length_filter_le _ _) hlen1
    have hin2 : ∀ d, d ∈ (y1.filter fun d => decide ((X d).course = c)) ↔ ∃ x, aget st.dishes d = some x ∧ tableIn st x = some t ∧ x.course = c := fun d => by
      rw [List.mem_filter, hin1, decide_eq_true_eq]
      constructor
      · rintro ⟨⟨x, hx, h'⟩, h⟩; rw [hX d x hx] at h; exact ⟨x, hx, h', h⟩
      · rintro ⟨x, hx, h', h⟩; exact ⟨⟨x, hx, h'⟩, by rw [hX d x hx]; exact h⟩
    generalize (y1.filter fun d => decide ((X d).course = c)) = y2 at h2 hlen2 hin2
    refine ⟨D2, rfl, ⟨_, SqL.of h2⟩, fun D3 hD3 => lc_listE y2 (fun d => decide (stateIn st d = some ("asked" : Str))) V.int (by rw [List.length_map]) (SqL.of h2) hD3 (by omega) (fun i x dd H3 Kt Ks hx hdd e3 ht hf => ?_) fun H3 e3 h3 => ?_⟩
    · rw [List.getElem?_map, hdd] at hx
      cases hx
      walk_at "go"
      refine ⟨A, st, dd, rfl, W2.ex e3, ?_⟩
      walk_at "go"
      refine i_eqSt ?_
      walk_at "go"
      refine i_ite (fun e => ?_) fun e => ?_
      · walk_at "go"; exact ht e _ (Ex.refl _)
      · walk_at "go"; exact hf e _ (Ex.refl _)
    refine q H3 D3 _ (((e0.trans e1).trans e2).trans e3) (((e0.trans e1).trans e2).back hD3) h3 (Nat.le_trans (List.length_filter_le _ _) hlen2) fun d => ?_
    rw [List.mem_filter, hin2, decide_eq_true_eq]
    unfold stateIn isAsked
    constructor
    · rintro ⟨⟨x, hx, a1, a2⟩, h⟩
      rw [hx] at h
      have h : x.state = "asked" := by simpa using h
      exact ⟨x, hx, by simp [a1, a2, h]⟩
    · rintro ⟨x, hx, h⟩
      simp only [Bool.and_eq_true, decide_eq_true_eq] at h
      exact ⟨⟨x, hx, h.1, h.2.1⟩, by rw [hx]; simp [h.2.2]⟩
abbrev N_barring_at : List Str := ["world", "table", "course", "found", "dish"]
abbrev P_barring_at : List Str := ["world", "table", "course"]
theorem sc_barring_at : FnScope N_barring_at P_barring_at (defScope s_barring_at) := ⟨rfl, rfl, rfl, by decide +kernel, rfl, by decide +kernel, by decide +kernel⟩
def sp_barring_at : Sp := fun vs H Q _ => ∃ (A : WA) (st : St) (t : Str) (c : Int), vs = [.ref A.w, .str t, .int c] ∧ WR H A st ∧ st.Ok ∧
  ∀ H' p l, Ex H H' → H' p = some (.lst l) → l.length ≤ 50 → Q (.ref p) H'
theorem ok_barring_at (d : Dn K mg d_barring_at) (T : Tb w K mg) (c_table_in : Cal P w K mg base 2 "table_in" [] (sp_table_in K)) (c_state_in : Cal P w K mg base 1 "state_in" [] sp_state_in) : Cal P w K mg base 3 "barring_at" [] sp_barring_at := by
  refine d.cal sc_barring_at (fun vs H Q E h => ?_) (fun f fd F => ⟨[], .nil, F.bindsN fun _ _ _ _ _ _ us hl => match us, hl with | [_, _, _], _ => rfl⟩) fun f cdv A outer s H vs Q E hr h => have hu := hu_of hr; ⟨_, PSs.nox (pss_cons (ps_setLc (i := 3) rfl sc_barring_at.nd rfl rfl (sw_true rfl rfl rfl (by decide +kernel)) (pi_list (pe_callB (call_sortedDI rfl) rfl T.sorted boot_sorted (pa_cons (pe_dget hu (pv 0) pe_str (fun _ _ => rfl)) pa_nil))) (blkOk_by (own := [("dish", 4)]) (N := N_barring_at) (sc := defScope s_barring_at) (by decide +kernel)) (fun _ _ _ _ _ => (pg_name (i := 4) sc_barring_at.nd rfl (Or.inl rfl))) (fun _ _ _ _ _ => (pts_one (pt_cmpR op_eq (pe_cl c_table_in hr (pa_cons (pv 0) (pa_cons (pv 4) pa_nil))) (pv 1) (nomark _)))) (fun _ _ _ _ _ => (pv 4))) (pss_cons (ps_setLc (i := 3) rfl sc_barring_at.nd rfl rfl (sw_true rfl rfl rfl (by decide +kernel)) (pi_list (pv 3)) (blkOk_by (own := [("dish", 4)]) (N := N_barring_at) (sc := defScope s_barring_at) (by decide +kernel)) (fun _ _ _ _ _ => (pg_name (i := 4) sc_barring_at.nd rfl (Or.inl rfl))) (fun _ _ _ _ _ => (pts_one (pt_cmpR op_lt (pe_dget hu (pe_dget hu (pe_dget hu (pv 0) pe_str (fun _ _ => rfl)) (pv 4) (fun _ _ => rfl)) pe_str (fun _ _ => rfl)) (pv 2) (nomark _)))) (fun _ _ _ _ _ => (pv 4))) (pss_one (ps_ret (pe_lc rfl sc_barring_at.nd (pi_list (pv 3)) (blkOk_by (own := [("dish", 4)]) (N := N_barring_at) (sc := defScope s_barring_at) (by decide +kernel)) (fun _ _ _ _ _ => (pg_name (i := 4) sc_barring_at.nd rfl (Or.inl rfl))) (fun _ _ _ _ _ => (pts_one (pt_cmpR (op_inK K rfl) (pe_cl c_state_in hr (pa_cons (pv 0) (pa_cons (pv 4) pa_nil))) (pe_tup (pa_cons pe_str (pa_cons pe_str pa_nil))) (by rfl)))) (fun _ _ _ _ _ => (pv 4))))))), ?_⟩
  · obtain ⟨_, _, _, _, rfl, _⟩ := h; rfl
  · obtain ⟨A, st, t, c, rfl, W, ok, q⟩ := h
    walk_at "go"
    refine w_d W.q ?_
    walk_at "go"
    refine ⟨A.d, _, keys st.dishes, rfl, .inl W.d, dishK_keys _ _, by unfold keys; rw [List.length_map]; have := ok.fewD; omega, fun ys a0 hperm _ ha0 => ?_⟩
    have e0 := Ex.new (o := HO.lst (ys.map V.int)) ha0
    have h0 : (upd H a0 (HO.lst (ys.map V.int))) a0 = some (.lst (ys.map V.int)) := upd_same
    generalize upd H a0 (HO.lst (ys.map V.int)) = H0 at e0 h0 ⊢
    have hlen : ys.length ≤ 50 := by rw [hperm.length_eq]; unfold keys; rw [List.length_map]; exact ok.fewD
    have hmem : ∀ d ∈ ys, ∃ x, aget st.dishes d = some x := fun d hd => aget_some_iff.mpr (hperm.mem_iff.mp hd)
    let X : Int → Dish := fun d => (aget st.dishes d).getD ⟨[], "", 0, 0, ""⟩
    have hX : ∀ d x, aget st.dishes d = some x → X d = x := fun d x h => by show (aget st.dishes d).getD _ = x; rw [h]; rfl
    have W0 := W.ex e0
    refine ⟨a0, rfl, ⟨_, SqL.of h0⟩, fun D hD => lc_listE ys (fun d => decide (tableIn st (X d) = some t)) V.int (by rw [List.length_map]) (SqL.of h0) hD (by omega) (fun i x dd H1 Kt Ks hx hdd e1 ht hf => ?_) fun H1 e1 h1 => ?_⟩
    · rw [List.getElem?_map, hdd] at hx
      cases hx
      obtain ⟨x, hxx⟩ := hmem dd (List.mem_of_getElem? hdd)
      walk_at "go"
      refine ⟨A, st, dd, x, rfl, W0.ex e1, hxx, ?_⟩
      walk_at "go"
      refine i_eqSt ?_
      rw [← hX dd x hxx]
      walk_at "go"
      cases e : decide (tableIn st (X dd) = some t) with
      | true => walk_at "go"; exact ht e _ (Ex.refl _)
      | false => walk_at "go"; exact hf e _ (Ex.refl _)
    walk_at "go"
    have W1 := W0.ex e1
    have hlen1 : (ys.filter fun d => decide (tableIn st (X d) = some t)).length ≤ 50 := Nat.le_trans (List.length_filter_le _ _) hlen
    have hmem1 : ∀ d ∈ (ys.filter fun d => decide (tableIn st (X d) = some t)), ∃ x, aget st.dishes d = some x := fun d hd => hmem d (List.mem_filter.mp hd).1
    generalize (ys.filter fun d => decide (tableIn st (X d) = some t)) = y1 at h1 hlen1 hmem1
    refine ⟨D, rfl, ⟨_, SqL.of h1⟩, fun D2 hD2 => lc_listE y1 (fun d => decide ((X d).course < c)) V.int (by rw [List.length_map]) (SqL.of h1) hD2 (by omega) (fun i x dd H2 Kt Ks hx hdd e2 ht hf => ?_) fun H2 e2 h2 => ?_⟩
    · rw [List.getElem?_map, hdd] at hx
      cases hx
      obtain ⟨x, hxx⟩ := hmem1 dd (List.mem_of_getElem? hdd)
      have W2 := (W1.ex e2).q
      walk_at "go"
      refine w_d W2 ?_
      walk_at "go"
      refine g_dish W2 hxx ?_
      walk_at "go"
      refine r_course (W2.row (dd, x) (aget_mem hxx)) ?_
      walk_at "go"
      show (if decide (x.course < c) = true then _ else _)
      rw [← hX dd x hxx]
      cases e : decide ((X dd).course < c) with
      | true => walk_at "go"; exact ht e _ (Ex.refl _)
      | false => walk_at "go"; exact hf e _ (Ex.refl _)
    walk_at "go"
    have W2 := W1.ex e2
    have hlen2 : (y1.filter fun d => decide ((X d).course < c)).length ≤ 50 := Nat.le_trans (List.length_filter_le _ _) hlen1
    generalize (y1.filter fun d => decide ((X d).course < c)) = y2 at h2 hlen2
    refine ⟨D2, rfl, ⟨_, SqL.of h2⟩, fun D3 hD3 => lc_listE y2 (fun d => inV (stateV (stateIn st d)) [.str "asked", .str "fired"]) V.int (by rw [List.length_map]) (SqL.of h2) hD3 (by omega) (fun i x dd H3 Kt Ks hx hdd e3 ht hf => ?_) fun H3 e3 h3 => ?_⟩
    · rw [List.getElem?_map, hdd] at hx
      cases hx
      walk_at "go"
      refine ⟨A, st, dd, rfl, W2.ex e3, ?_⟩
      walk_at "go"
      refine i_tup ?_
      walk_at "go"
      refine ⟨sz (by decide), fun p hp => ⟨p, _, rfl, .inr (SqT.of upd_same), by cases stateIn st dd <;> rfl, rfl, ?_⟩⟩
      rw [if_neg (by decide)]
      walk_at "go"
      cases e : inV (stateV (stateIn st dd)) [.str "asked", .str "fired"] with
      | true => walk_at "go"; exact ht e _ (Ex.new hp)
      | false => walk_at "go"; exact hf e _ (Ex.new hp)
    exact q H3 D3 _ (((e0.trans e1).trans e2).trans e3) h3 (by rw [List.length_map]; exact Nat.le_trans (List.length_filter_le _ _) hlen2)
abbrev N_has_item : List Str := ["house", "item", "row"]
abbrev P_has_item : List Str := ["house", "item"]
theorem sc_has_item : FnScope N_has_item P_has_item (defScope s_has_item) := ⟨rfl, rfl, rfl, by decide +kernel, rfl, by decide +kernel, by decide +kernel⟩
def sp_has_item (K : PySem.W.Frag) : Sp := fun vs H Q _ => ∃ (hv : V) (hs : House) (item : Str), vs = [hv, .str item] ∧ Is H hv hs.d ∧ hs.Ok ∧ ∀ H', Ex H H' → Q (.bl (hasItem hs item)) H'
theorem ok_has_item (d : Dn K mg d_has_item) (T : Tb w K mg) : Cal P w K mg base 1 "has_item" [] (sp_has_item K) := by
  refine d.cal sc_has_item (fun vs H Q E h => ?_) (fun f fd F => ⟨[], .nil, F.bindsN fun _ _ _ _ _ _ us hl => match us, hl with | [_, _], _ => rfl⟩) fun f cdv A outer s H vs Q E hr h => have hu := hu_of hr; ⟨_, PSs.nox (pss_one (ps_ret (pe_callB (cr_any rfl) rfl T.any boot_any (pa_cons (pe_lc rfl sc_has_item.nd (pi_tup (pe_ix ix_tup (pv 0) pe_int (fun _ _ => rfl))) (blkOk_by (own := [("row", 2)]) (N := N_has_item) (sc := defScope s_has_item) (by decide +kernel)) (fun _ _ _ _ _ => (pg_name (i := 2) sc_has_item.nd rfl (Or.inl rfl))) (fun _ _ _ _ _ => pts_nil) (fun _ _ _ _ _ => (pe_cmpR op_eq (pe_ix (ix_tupK K rfl) (pv 2) pe_int (fun _ _ => rfl)) (pv 1) (nomark _)))) pa_nil)))), ?_⟩
  · obtain ⟨_, _, _, rfl, _⟩ := h; rfl
  · obtain ⟨hv, hs, item, rfl, hh, ok, q⟩ := h
    walk_at "go"
    refine ix_is (i := 0) hh rfl fun x hx => ?_
    unfold menuD at hx
    simp only [Is] at hx
    obtain ⟨a, xs, rfl, ha, hxs⟩ := hx
    refine ⟨a, rfl, ⟨_, SqT.of ha⟩, fun D hD => lc_tupE hs.menu (fun _ => true) (fun r => .bl (decide (r.1 = item))) (by rw [hxs.len, List.length_map]) (SqT.of ha) hD (by have := ok.few; omega) (fun i x r H' Kt Ks hx hd e ht _ => ?_) fun H' e hl => ?_⟩
    · obtain ⟨z, hz, hi⟩ := hxs.get (i := i) (d := rowD r) (by rw [List.getElem?_map, hd]; rfl)
      rw [hx] at hz
      cases hz
      walk_at "go"
      refine ix_isS (i := 0) (Is.mono e.tex _ hi) rfl ?_
      walk_at "go"
      exact ht rfl _ (Ex.refl _)
    · walk_at "go"
      refine ⟨D, hs.menu.map (fun r => decide (r.1 = item)), rfl, SqL.of (by rw [hl, filter_all, List.map_map]; rfl), ?_⟩
      have := q H' e
      unfold hasItem at this
      rw [List.any_map]
      exact this
theorem i_allB {l : List Bool} {a : Addr} {H : Hp} {Q : VK} (h : H a = some (.lst (l.map V.bl))) (q : Q (.bl (l.all id)) H) : rAll K [.ref a] H Q := ⟨a, l, rfl, SqL.of h, q⟩
abbrev N_why_sit : List Str := ["house", "world", "deed"]
abbrev P_why_sit : List Str := ["house", "world", "deed"]
theorem sc_why_sit : FnScope N_why_sit P_why_sit (defScope s_why_sit) := ⟨rfl, rfl, rfl, by decide +kernel, rfl, by decide +kernel, by decide +kernel⟩
theorem ok_why_sit (d : Dn K mg d_why_sit) (c_sits : Cal P w K mg base 1 "sits" [] sp_sits) : Cal P w K mg base 2 "why_sit" [] (sp_why K fun dd => ∃ s t, dd = .sit s t) := by
  refine d.cal sc_why_sit (fun vs H Q E h => ?_) (fun f fd F => ⟨[], .nil, F.bindsN fun _ _ _ _ _ _ us hl => match us, hl with | [_, _, _], _ => rfl⟩) fun f cdv A outer s H vs Q E hr h => have hu := hu_of hr; ⟨_, PSs.nox (pss_one (ps_ret (pe_ifExp (pt_val (pe_cl c_sits hr (pa_cons (pv 1) (pa_cons (pe_ix ix_tup (pv 2) pe_int (fun _ _ => rfl)) pa_nil)))) pe_str pe_str))), ?_⟩
  · obtain ⟨_, _, _, _, _, _, rfl, _⟩ := h; rfl
  · obtain ⟨hv, hs, A, st, dv, dd, rfl, hh, hd, W, ok, hok, pre, ⟨z, t, rfl⟩, q⟩ := h
    walk_at "go"
    refine ix_isS (i := 1) hd rfl ?_
    walk_at "go"
    refine ⟨A, st, z, rfl, W, ?_⟩
    walk_at "go"
    have := q H (Ex.refl H)
    simp only [why] at this
    refine i_ite (fun e => ?_) fun e => ?_
    · rw [if_pos e] at this; exact this
    · rw [if_neg (by rw [e]; decide)] at this; exact this
abbrev N_why_go : List Str := ["house", "world", "deed"]
abbrev P_why_go : List Str := ["house", "world", "deed"]
theorem sc_why_go : FnScope N_why_go P_why_go (defScope s_why_go) := ⟨rfl, rfl, rfl, by decide +kernel, rfl, by decide +kernel, by decide +kernel⟩
theorem ok_why_go (d : Dn K mg d_why_go) (c_sits : Cal P w K mg base 1 "sits" [] sp_sits) (c_owed_in : Cal P w K mg base 5 "owed_in" [] (sp_owed_in K)) : Cal P w K mg base 6 "why_go" [] (sp_why K fun dd => ∃ s, dd = .go s) := by
  refine d.cal sc_why_go (fun vs H Q E h => ?_) (fun f fd F => ⟨[], .nil, F.bindsN fun _ _ _ _ _ _ us hl => match us, hl with | [_, _, _], _ => rfl⟩) fun f cdv A outer s H vs Q E hr h => have hu := hu_of hr; ⟨_, PSs.nox (pss_cons (ps_if (pt_not (pt_val (pe_cl c_sits hr (pa_cons (pv 1) (pa_cons (pe_ix ix_tup (pv 2) pe_int (fun _ _ => rfl)) pa_nil))))) (pss_one (ps_ret pe_str)) pss_nil) (pss_one (ps_ret (pe_ifExp (pt_cmpR op_ne (pe_cl c_owed_in hr (pa_cons (pv 1) (pa_cons (pe_ix ix_tup (pv 2) pe_int (fun _ _ => rfl)) pa_nil))) pe_int (nomark _)) pe_str pe_str)))), ?_⟩
  · obtain ⟨_, _, _, _, _, _, rfl, _⟩ := h; rfl
  · obtain ⟨hv, hs, A, st, dv, dd, rfl, hh, hd, W, ok, hok, pre, ⟨z, rfl⟩, q⟩ := h
    walk_at "go"
    refine ix_isS (i := 1) hd rfl ?_
    walk_at "go"
    refine ⟨A, st, z, rfl, W, ?_⟩
    walk_at "go"
    simp only [why] at q
    refine i_ite (fun e => ?_) fun e => ?_
    · have e : sits st z = false := by simpa using e
      rw [if_neg (by rw [e]; decide)] at q
      walk_at "go"
      exact q H (Ex.refl H)
    · have e : sits st z = true := by simpa using e
      rw [if_pos e] at q
      obtain ⟨t, _, hz⟩ := sits_key e
      walk_at "go"
      refine ix_isS (i := 1) hd rfl ?_
      walk_at "go"
      refine ⟨A, st, z, rfl, W, ok, hz, fun H1 e1 => ?_⟩
      walk_at "go"
      have := q H1 e1
      refine i_ite (fun e => ?_) fun e => ?_
      · rw [if_pos (by simpa using e)] at this; exact this
      · rw [if_neg (by simpa using e)] at this; exact this
abbrev N_why_pay : List Str := ["house", "world", "deed"]
abbrev P_why_pay : List Str := ["house", "world", "deed"]
theorem sc_why_pay : FnScope N_why_pay P_why_pay (defScope s_why_pay) := ⟨rfl, rfl, rfl, by decide +kernel, rfl, by decide +kernel, by decide +kernel⟩
theorem ok_why_pay (d : Dn K mg d_why_pay) (c_sits : Cal P w K mg base 1 "sits" [] sp_sits) (c_owed_in : Cal P w K mg base 5 "owed_in" [] (sp_owed_in K)) : Cal P w K mg base 6 "why_pay" [] (sp_why K fun dd => ∃ s p, dd = .pay s p) := by
  refine d.cal sc_why_pay (fun vs H Q E h => ?_) (fun f fd F => ⟨[], .nil, F.bindsN fun _ _ _ _ _ _ us hl => match us, hl with | [_, _, _], _ => rfl⟩) fun f cdv A outer s H vs Q E hr h => have hu := hu_of hr; ⟨_, PSs.nox (pss_cons (ps_if (pt_not (pt_val (pe_cl c_sits hr (pa_cons (pv 1) (pa_cons (pe_ix ix_tup (pv 2) pe_int (fun _ _ => rfl)) pa_nil))))) (pss_one (ps_ret pe_str)) pss_nil) (pss_one (ps_ret (pe_ifExp (pt_cmpR op_gt (pe_ix ix_tup (pv 2) pe_int (fun _ _ => rfl)) (pe_cl c_owed_in hr (pa_cons (pv 1) (pa_cons (pe_ix ix_tup (pv 2) pe_int (fun _ _ => rfl)) pa_nil))) (nomark _)) pe_str pe_str)))), ?_⟩
  · obtain ⟨_, _, _, _, _, _, rfl, _⟩ := h; rfl
  · obtain ⟨hv, hs, A, st, dv, dd, rfl, hh, hd, W, ok, hok, pre, ⟨z, p, rfl⟩, q⟩ := h
    walk_at "go"
    refine ix_isS (i := 1) hd rfl ?_
    walk_at "go"
    refine ⟨A, st, z, rfl, W, ?_⟩
    walk_at "go"
    simp only [why] at q
    refine i_ite (fun e => ?_) fun e => ?_
    · have e : sits st z = false := by simpa using e
      rw [if_neg (by rw [e]; decide)] at q
      walk_at "go"
      exact q H (Ex.refl H)
    · have e : sits st z = true := by simpa using e
      rw [if_pos e] at q
      obtain ⟨t, _, hz⟩ := sits_key e
      walk_at "go"
      refine ix_isI (i := 2) hd rfl ?_
      walk_at "go"
      refine ix_isS (i := 1) hd rfl ?_
      walk_at "go"
      refine ⟨A, st, z, rfl, W, ok, hz, fun H1 e1 => ?_⟩
      walk_at "go"
      have := q H1 e1
      refine i_ite (fun e => ?_) fun e => ?_
      · rw [if_pos (by simpa using e)] at this; exact this
      · rw [if_neg (by simpa using e)] at this; exact this
abbrev N_why_take : List Str := ["house", "world", "deed"]
abbrev P_why_take : List Str := ["house", "world", "deed"]
theorem sc_why_take : FnScope N_why_take P_why_take (defScope s_why_take) := ⟨rfl, rfl, rfl, by decide +kernel, rfl, by decide +kernel, by decide +kernel⟩
theorem ok_why_take (d : Dn K mg d_why_take) (c_sits : Cal P w K mg base 1 "sits" [] sp_sits) (c_owed_in : Cal P w K mg base 5 "owed_in" [] (sp_owed_in K)) : Cal P w K mg base 6 "why_take" [] (sp_why K fun dd => ∃ s o p, dd = .take s o p) := by
  refine d.cal sc_why_take (fun vs H Q E h => ?_) (fun f fd F => ⟨[], .nil, F.bindsN fun _ _ _ _ _ _ us hl => match us, hl with | [_, _, _], _ => rfl⟩) fun f cdv A outer s H vs Q E hr h => have hu := hu_of hr; ⟨_, PSs.nox (pss_cons (ps_if (PW.pt (pw_or (pt_not (pt_val (pe_cl c_sits hr (pa_cons (pv 1) (pa_cons (pe_ix ix_tup (pv 2) pe_int (fun _ _ => rfl)) pa_nil))))) (pw_or1 (pt_not (pt_val (pe_cl c_sits hr (pa_cons (pv 1) (pa_cons (pe_ix ix_tup (pv 2) pe_int (fun _ _ => rfl)) pa_nil)))))))) (pss_one (ps_ret pe_str)) pss_nil) (pss_one (ps_ret (pe_ifExp (pt_cmpR op_gt (pe_ix ix_tup (pv 2) pe_int (fun _ _ => rfl)) (pe_cl c_owed_in hr (pa_cons (pv 1) (pa_cons (pe_ix ix_tup (pv 2) pe_int (fun _ _ => rfl)) pa_nil))) (nomark _)) pe_str pe_str)))), ?_⟩
  · obtain ⟨_, _, _, _, _, _, rfl, _⟩ := h; rfl
  · obtain ⟨hv, hs, A, st, dv, dd, rfl, hh, hd, W, ok, hok, pre, ⟨z, o, p, rfl⟩, q⟩ := h
    simp only [why] at q
    walk_at "go"
    refine ix_isS (i := 1) hd rfl ?_
    walk_at "go"
    refine ⟨A, st, z, rfl, W, ?_⟩
    walk_at "go"
    refine i_ite (fun e => ?_) fun e => ?_
    · have e : sits st z = false := by simpa using e
      rw [if_neg (by rw [e]; simp)] at q
      walk_at "go"
      exact q H (Ex.refl H)
    · have e : sits st z = true := by simpa using e
      walk_at "go"
      refine ix_isS (i := 2) hd rfl ?_
      walk_at "go"
      refine ⟨A, st, o, rfl, W, ?_⟩
      walk_at "go"
      refine i_ite (fun e2 => ?_) fun e2 => ?_
      · have e2 : sits st o = false := by simpa using e2
        rw [if_neg (by rw [e2]; simp)] at q
        walk_at "go"
        exact q H (Ex.refl H)
      · have e2 : sits st o = true := by simpa using e2
        rw [if_pos ⟨e, e2⟩] at q
        obtain ⟨t, _, hz⟩ := sits_key e2
        walk_at "go"
        refine ix_isI (i := 3) hd rfl ?_
        walk_at "go"
        refine ix_isS (i := 2) hd rfl ?_
        walk_at "go"
        refine ⟨A, st, o, rfl, W, ok, hz, fun H1 e1 => ?_⟩
        walk_at "go"
        have := q H1 e1
        refine i_ite (fun e => ?_) fun e => ?_
        · rw [if_pos (by simpa using e)] at this; exact this
        · rw [if_neg (by simpa using e)] at this; exact this
abbrev N_why_fire : List Str := ["house", "world", "deed"]
abbrev P_why_fire : List Str := ["house", "world", "deed"]
theorem sc_why_fire : FnScope N_why_fire P_why_fire (defScope s_why_fire) := ⟨rfl, rfl, rfl, by decide +kernel, rfl, by decide +kernel, by decide +kernel⟩
theorem ok_why_fire (d : Dn K mg d_why_fire) (c_asked_at : Cal P w K mg base 3 "asked_at" [] sp_asked_at) (c_barring_at : Cal P w K mg base 3 "barring_at" [] sp_barring_at) : Cal P w K mg base 4 "why_fire" [] (sp_why K fun dd => ∃ t c, dd = .rush t c) := by
  refine d.cal sc_why_fire (fun vs H Q E h => ?_) (fun f fd F => ⟨[], .nil, F.bindsN fun _ _ _ _ _ _ us hl => match us, hl with | [_, _, _], _ => rfl⟩) fun f cdv A outer s H vs Q E hr h => have hu := hu_of hr; ⟨_, PSs.nox (pss_cons (ps_if (pt_cmpR (op_eqD hr.units) (pe_cl c_asked_at hr (pa_cons (pv 1) (pa_cons (pe_ix ix_tup (pv 2) pe_int (fun _ _ => rfl)) (pa_cons (pe_ix ix_tup (pv 2) pe_int (fun _ _ => rfl)) pa_nil)))) (pe_lst pa_nil) (nomark _)) (pss_one (ps_ret pe_str)) pss_nil) (pss_one (ps_ret (pe_ifExp (PW.pt (pw_and (pt_cmpR op_eq (pe_ix ix_tup (pv 2) pe_int (fun _ _ => rfl)) pe_str (nomark _)) (pw_and1 (pt_cmpR (op_neD hr.units) (pe_cl c_barring_at hr (pa_cons (pv 1) (pa_cons (pe_ix ix_tup (pv 2) pe_int (fun _ _ => rfl)) (pa_cons (pe_ix ix_tup (pv 2) pe_int (fun _ _ => rfl)) pa_nil)))) (pe_lst pa_nil) (nomark _))))) pe_str pe_str)))), ?_⟩
  · obtain ⟨_, _, _, _, _, _, rfl, _⟩ := h; rfl
  · obtain ⟨hv, hs, A, st, dv, dd, rfl, hh, hd, W, ok, hok, pre, ⟨t, c, rfl⟩, q⟩ := h
    simp only [why] at q
    walk_at "go"
    refine ix_isS (i := 1) hd rfl ?_
    walk_at "go"
    refine ix_isI (i := 2) hd rfl ?_
    walk_at "go"
    refine ⟨A, st, t, c, rfl, W, ok, fun H1 p l e1 _ h1 _ hl => ?_⟩
    walk_at "go"
    refine i_lst ?_
    walk_at "go"
    refine ⟨sz (by decide), fun p2 hp2 => i_eqN (SqL.of (Ex.new hp2 _ _ h1)) (SqL.of upd_same) ?_⟩
    have e2 := Ex.new (o := HO.lst []) hp2
    generalize upd H1 p2 (HO.lst []) = H2 at e2 ⊢
    walk_at "go"
    have hl2 : decide (l = []) = !(st.dishes.any fun q => isAsked st t c q.2) := by
      rw [Bool.eq_iff_iff, decide_eq_true_eq]
      constructor
      · rintro rfl
        rw [Bool.not_eq_true', Bool.eq_false_iff]
        intro h
        obtain ⟨q1, hq1, hq2⟩ := List.any_eq_true.mp h
        have := (hl q1.1).mpr ⟨q1.2, aget_of_mem ok.ndD hq1, hq2⟩
        simp at this
      · intro h
        rw [Bool.not_eq_true', Bool.eq_false_iff] at h
        refine List.eq_nil_iff_forall_not_mem.mpr fun d hd' => h ?_
        obtain ⟨x, hx, hx2⟩ := (hl d).mp hd'
        exact List.any_eq_true.mpr ⟨(d, x), aget_mem hx, hx2⟩
    refine i_ite (fun e => ?_) fun e => ?_
    · rw [hl2] at e
      rw [if_neg (by simpa using e)] at q
      walk_at "go"
      exact q H2 (e1.trans e2)
    · rw [hl2] at e
      rw [if_pos (by simpa using e)] at q
      walk_at "go"
      refine ix_isS (i := 0) (Is.mono (e1.trans e2).tex _ hd) rfl ?_
      walk_at "go"
      refine i_ite (fun e => absurd e (by decide)) fun e => ?_
      walk_at "go"
      exact q H2 (e1.trans e2)
abbrev N_why_bring : List Str := ["house", "world", "deed"]
abbrev P_why_bring : List Str := ["house", "world", "deed"]
theorem sc_why_bring : FnScope N_why_bring P_why_bring (defScope s_why_bring) := ⟨rfl, rfl, rfl, by decide +kernel, rfl, by decide +kernel, by decide +kernel⟩
theorem ok_why_bring (d : Dn K mg d_why_bring) (T : Tb w K mg) (c_state_in : Cal P w K mg base 1 "state_in" [] sp_state_in) : Cal P w K mg base 2 "why_bring" [] (sp_why K fun dd => (∃ d, dd = .serve d) ∨ ∃ d, dd = .strike d) := by
  refine d.cal sc_why_bring (fun vs H Q E h => ?_) (fun f fd F => ⟨[], .nil, F.bindsN fun _ _ _ _ _ _ us hl => match us, hl with | [_, _, _], _ => rfl⟩) fun f cdv A outer s H vs Q E hr h => have hu := hu_of hr; ⟨_, PSs.nox (pss_one (ps_ret (pe_ifExp (pt_cmpR op_in_seq (pe_cl c_state_in hr (pa_cons (pv 1) (pa_cons (pe_ix ix_tup (pv 2) pe_int (fun _ _ => rfl)) pa_nil))) (pe_ix ix_kdict (pe_glob (v := .ref T.aWANTED) rfl T.gWANTED rfl) (pe_ix ix_tup (pv 2) pe_int (fun _ _ => rfl)) (fun _ _ => rfl)) (by rfl)) pe_str pe_str))), ?_⟩
  · obtain ⟨_, _, _, _, _, _, rfl, _⟩ := h; rfl
  · obtain ⟨hv, hs, A, st, dv, dd, rfl, hh, hd, W, ok, hok, pre, cc, q⟩ := h
    rcases cc with ⟨d, rfl⟩ | ⟨d, rfl⟩
    · simp only [why] at q
      walk_at "go"
      refine ix_isI (i := 1) hd rfl ?_
      walk_at "go"
      refine ⟨A, st, d, rfl, W, ?_⟩
      walk_at "go"
      refine ix_isS (i := 0) hd rfl ?_
      refine ⟨_, _, _, rfl, rfl, T.kServe, ?_⟩
      refine ⟨_, _, rfl, .inr (T.tServe H), by cases stateIn st d <;> rfl, rfl, ?_⟩
      rw [if_neg (by decide)]
      walk_at "go"
      have hin : inV (stateV (stateIn st d)) ((["fired"] : List Str).map V.str) = decide (stateIn st d = some ("fired" : Str)) := by
        rw [inV_state]
        exact decide_eq_decide.mpr (by simp)
      rw [hin]
      have := q H (Ex.refl H)
      refine i_ite (fun e => ?_) fun e => ?_
      · rw [if_pos (by simpa using e)] at this; exact this
      · rw [if_neg (by simpa using e)] at this; exact this
    · simp only [why] at q
      walk_at "go"
      refine ix_isI (i := 1) hd rfl ?_
      walk_at "go"
      refine ⟨A, st, d, rfl, W, ?_⟩
      walk_at "go"
      refine ix_isS (i := 0) hd rfl ?_
      refine ⟨_, _, _, rfl, rfl, T.kStrike, ?_⟩
      refine ⟨_, _, rfl, .inr (T.tStrike H), by cases stateIn st d <;> rfl, rfl, ?_⟩
      rw [if_neg (by decide)]
      walk_at "go"
      have hin : inV (stateV (stateIn st d)) ((["asked", "fired"] : List Str).map V.str) = decide (stateIn st d = some ("asked" : Str) ∨ stateIn st d = some ("fired" : Str)) := by
        rw [inV_state]
        exact decide_eq_decide.mpr (by simp)
      rw [hin]
      have := q H (Ex.refl H)
      refine i_ite (fun e => ?_) fun e => ?_
      · rw [if_pos (by simpa using e)] at this; exact this
      · rw [if_neg (by simpa using e)] at this; exact this
abbrev N_why_even : List Str := ["house", "world", "deed", "owed", "seat"]
abbrev P_why_even : List Str := ["house", "world", "deed"]
theorem sc_why_even : FnScope N_why_even P_why_even (defScope s_why_even) := ⟨rfl, rfl, rfl, by decide +kernel, rfl, by decide +kernel, by decide +kernel⟩
theorem ok_why_even (d : Dn K mg d_why_even) (T : Tb w K mg) (c_sits : Cal P w K mg base 1 "sits" [] sp_sits) (c_all_owed : Cal P w K mg base 4 "all_owed" [] (sp_all_owed K)) : Cal P w K mg base 5 "why_even" [] (sp_why K fun dd => ∃ ss, dd = .even ss) := by
  refine d.cal sc_why_even (fun vs H Q E h => ?_) (fun f fd F => ⟨[], .nil, F.bindsN fun _ _ _ _ _ _ us hl => match us, hl with | [_, _, _], _ => rfl⟩) fun f cdv A outer s H vs Q E hr h => have hu := hu_of hr; ⟨_, PSs.nox (pss_cons (ps_if (pt_not (pt_val (pe_callB (cr_all rfl) rfl T.all boot_all (pa_cons (pe_lc rfl sc_why_even.nd (pi_tup (pe_ix ix_tup (pv 2) pe_int (fun _ _ => rfl))) (blkOk_by (own := [("seat", 4)]) (N := N_why_even) (sc := defScope s_why_even) (by decide +kernel)) (fun _ _ _ _ _ => (pg_name (i := 4) sc_why_even.nd rfl (Or.inl rfl))) (fun _ _ _ _ _ => pts_nil) (fun _ _ _ _ _ => (pe_cl c_sits hr (pa_cons (pv 1) (pa_cons (pv 4) pa_nil))))) pa_nil)))) (pss_one (ps_ret pe_str)) pss_nil) (pss_cons (ps_set (i := 3) sc_why_even.nd rfl (Or.inr rfl) (pe_cl c_all_owed hr (pa_cons (pv 1) pa_nil))) (pss_one (ps_ret (pe_ifExp (pt_cmpR op_lt (pe_callB (cr_sum rfl) rfl T.sum boot_sum (pa_cons (pe_lc rfl sc_why_even.nd (pi_tup (pe_ix ix_tup (pv 2) pe_int (fun _ _ => rfl))) (blkOk_by (own := [("seat", 4)]) (N := N_why_even) (sc := defScope s_why_even) (by decide +kernel)) (fun _ _ _ _ _ => (pg_name (i := 4) sc_why_even.nd rfl (Or.inl rfl))) (fun _ _ _ _ _ => pts_nil) (fun _ _ _ _ _ => (pe_dget hu (pv 3) (pv 4) (fun _ _ => rfl)))) pa_nil)) pe_int (nomark _)) pe_str pe_str))))), ?_⟩
  · obtain ⟨_, _, _, _, _, _, rfl, _⟩ := h; rfl
  · obtain ⟨hv, hs, A, st, dv, dd, rfl, hh, hd, W, ok, hok, pre, ⟨ss, rfl⟩, q⟩ := h
    obtain ⟨sne, slen⟩ := pre
    simp only [why] at q
    walk_at "go"
    refine ix_is (i := 1) hd rfl fun x hx => ?_
    obtain ⟨a, rfl, ha⟩ := Is.strs hx
    refine ⟨a, rfl, ⟨_, SqT.of ha⟩, fun D hD => lc_tupE ss (fun _ => true) (fun z => .bl (sits st z)) (by rw [List.length_map]) (SqT.of ha) hD (by omega) (fun i x z H' Kt Ks hx hz e ht _ => ?_) fun H1 e1 h1 => ?_⟩
    · rw [List.getElem?_map, hz] at hx
      cases hx
      walk_at "go"
      refine ⟨A, st, z, rfl, W.ex e, ?_⟩
      exact ht rfl _ (Ex.refl _)
    walk_at "go"
    rw [filter_all] at h1
    refine i_allB (l := ss.map (sits st)) (by rw [h1, List.map_map]; rfl) ?_
    walk_at "go"
    rw [List.all_map]
    have hall : ss.all (id ∘ sits st) = ss.all (sits st) := rfl
    rw [hall]
    have W1 := W.ex e1
    refine i_ite (fun e => ?_) fun e => ?_
    · rw [if_neg (by simpa using e)] at q
      walk_at "go"
      exact q H1 e1
    · have e : ss.all (sits st) = true := by simpa using e
      rw [if_pos e] at q
      walk_at "go"
      refine ⟨A, st, rfl, W1, ok, fun H2 p e2 hp h2 => ?_⟩
      walk_at "go"
      refine ix_is (i := 1) (Is.mono (e1.trans e2).tex _ hd) rfl fun x hx => ?_
      obtain ⟨a, rfl, ha⟩ := Is.strs hx
      refine ⟨a, rfl, ⟨_, SqT.of ha⟩, fun D hD => lc_tupE ss (fun _ => true) (fun z => .int (owed st z)) (by rw [List.length_map]) (SqT.of ha) hD (by omega) (fun i x z H' Kt Ks hx hz e3 ht _ => ?_) fun H3 e3 h3 => ?_⟩
      · rw [List.getElem?_map, hz] at hx
        cases hx
        walk_at "go"
        have hzz := List.all_eq_true.mp e z (List.mem_of_getElem? hz)
        obtain ⟨t, _, hk⟩ := sits_key hzz
        have hao : allOwed st = penF st.tables (owed st) := rfl
        refine gS (.inl (e3 _ _ h2)) (by rw [pen_get, hao, penF_get hk]; rfl) ?_
        exact ht rfl _ (Ex.refl _)
      · walk_at "go"
        rw [filter_all] at h3
        refine ⟨D, ss.map (owed st), rfl, SqL.of (by rw [h3, List.map_map]; rfl), ?_⟩
        walk_at "go"
        have := q H3 ((e1.trans e2).trans e3)
        refine i_ite (fun e => ?_) fun e => ?_
        · rw [if_pos (by simpa using e)] at this; exact this
        · rw [if_neg (by simpa using e)] at this; exact this
abbrev N_why_ask : List Str := ["house", "world", "deed", "seat"]
abbrev P_why_ask : List Str := ["house", "world", "deed"]
theorem sc_why_ask : FnScope N_why_ask P_why_ask (defScope s_why_ask) := ⟨rfl, rfl, rfl, by decide +kernel, rfl, by decide +kernel, by decide +kernel⟩
theorem ok_why_ask (d : Dn K mg d_why_ask) (T : Tb w K mg) (c_sits : Cal P w K mg base 1 "sits" [] sp_sits) (c_has_item : Cal P w K mg base 1 "has_item" [] (sp_has_item K)) : Cal P w K mg base 2 "why_ask" [] (sp_why K fun dd => ∃ d item c ss, dd = .ask d item c ss) := by
  refine d.cal sc_why_ask (fun vs H Q E h => ?_) (fun f fd F => ⟨[], .nil, F.bindsN fun _ _ _ _ _ _ us hl => match us, hl with | [_, _, _], _ => rfl⟩) fun f cdv A outer s H vs Q E hr h => have hu := hu_of hr; ⟨_, PSs.nox (pss_cons (ps_if (pt_cmp (pc_din hu (pe_ix ix_tup (pv 2) pe_int (fun _ _ => rfl)) (pe_dget hu (pv 1) pe_str (fun _ _ => rfl)))) (pss_one (ps_ret pe_str)) pss_nil) (pss_cons (ps_if (pt_not (pt_val (pe_cl c_has_item hr (pa_cons (pv 0) (pa_cons (pe_ix ix_tup (pv 2) pe_int (fun _ _ => rfl)) pa_nil))))) (pss_one (ps_ret pe_str)) pss_nil) (pss_cons (ps_if (pt_not (pt_val (pe_callB (cr_all rfl) rfl T.all boot_all (pa_cons (pe_lc rfl sc_why_ask.nd (pi_tup (pe_ix ix_tup (pv 2) pe_int (fun _ _ => rfl))) (blkOk_by (own := [("seat", 3)]) (N := N_why_ask) (sc := defScope s_why_ask) (by decide +kernel)) (fun _ _ _ _ _ => (pg_name (i := 3) sc_why_ask.nd rfl (Or.inl rfl))) (fun _ _ _ _ _ => pts_nil) (fun _ _ _ _ _ => (pe_cl c_sits hr (pa_cons (pv 1) (pa_cons (pv 3) pa_nil))))) pa_nil)))) (pss_one (ps_ret pe_str)) pss_nil) (pss_one (ps_ret (pe_ifExp (pt_cmpR op_eq (pe_lenSame rfl rfl T.len rfl T.set (pe_lc rfl sc_why_ask.nd (pi_tup (pe_ix ix_tup (pv 2) pe_int (fun _ _ => rfl))) (blkOk_by (own := [("seat", 3)]) (N := N_why_ask) (sc := defScope s_why_ask) (by decide +kernel)) (fun _ _ _ _ _ => (pg_name (i := 3) sc_why_ask.nd rfl (Or.inl rfl))) (fun _ _ _ _ _ => pts_nil) (fun _ _ _ _ _ => (pe_dget hu (pe_dget hu (pv 1) pe_str (fun _ _ => rfl)) (pv 3) (fun _ _ => rfl))))) pe_int (nomark _)) pe_str pe_str)))))), ?_⟩
  · obtain ⟨_, _, _, _, _, _, rfl, _⟩ := h; rfl
  · obtain ⟨hv, hs, A, st, dv, dd, rfl, hh, hd, W, ok, hok, pre, ⟨d, item, c, ss, rfl⟩, q⟩ := h
    obtain ⟨sne, slen, t, ht0⟩ := pre
    simp only [why] at q
    walk_at "go"
    refine ix_isI (i := 1) hd rfl ?_
    walk_at "go"
    refine w_d W.q ⟨_, _, rfl, .inl ⟨_, Sum.inl d, .inl W.d, rfl, rfl⟩, ?_⟩
    walk_at "go"
    have hds : (valV (dishK A st.dishes) (Sum.inl d)).isSome = (aget st.dishes d).isSome := by rw [dish_get]; cases aget st.dishes d <;> rfl
    rw [hds]
    refine i_ite (fun e => ?_) fun e => ?_
    · rw [if_pos e] at q
      walk_at "go"
      exact q H (Ex.refl H)
    rw [if_neg (by rw [e]; decide)] at q
    walk_at "go"
    refine ix_isS (i := 2) hd rfl ?_
    walk_at "go"
    refine ⟨hv, hs, item, rfl, hh, hok, fun H1 e1 => ?_⟩
    walk_at "go"
    have W1 := W.ex e1
    refine i_ite (fun e => ?_) fun e => ?_
    · rw [if_neg (by simpa using e)] at q
      walk_at "go"
      exact q H1 e1
    rw [if_pos (by simpa using e)] at q
    walk_at "go"
    refine ix_is (i := 4) (Is.mono e1.tex _ hd) rfl fun x hx => ?_
    obtain ⟨a, rfl, ha⟩ := Is.strs hx
    refine ⟨a, rfl, ⟨_, SqT.of ha⟩, fun D hD => lc_tupE ss (fun _ => true) (fun z => .bl (sits st z)) (by rw [List.length_map]) (SqT.of ha) hD (by omega) (fun i x z H' Kt Ks hx hz e ht _ => ?_) fun H2 e2 h2 => ?_⟩
    · rw [List.getElem?_map, hz] at hx
      cases hx
      walk_at "go"
      refine ⟨A, st, z, rfl, W1.ex e, ?_⟩
      exact ht rfl _ (Ex.refl _)
    walk_at "go"
    rw [filter_all] at h2
    refine i_allB (l := ss.map (sits st)) (by rw [h2, List.map_map]; rfl) ?_
    walk_at "go"
    rw [List.all_map]
    have hall : ss.all (id ∘ sits st) = ss.all (sits st) := rfl
    rw [hall]
    have W2 := W1.ex e2
    refine i_ite (fun e => ?_) fun e => ?_
    · rw [if_neg (by simpa using e)] at q
      walk_at "go"
      exact q H2 (e1.trans e2)
    have e : ss.all (sits st) = true := by simpa using e
    rw [if_pos e] at q
    walk_at "go"
    refine ix_is (i := 4) (Is.mono (e1.trans e2).tex _ hd) rfl fun x hx => ?_
    obtain ⟨a, rfl, ha⟩ := Is.strs hx
    refine ⟨a, rfl, ⟨_, SqT.of ha⟩, fun D hD => lc_tupE ss (fun _ => true) (fun z => .str t) (by rw [List.length_map]) (SqT.of ha) hD (by omega) (fun i x z H' Kt Ks hx hz e3 ht _ => ?_) fun H3 e3 h3 => ?_⟩
    · rw [List.getElem?_map, hz] at hx
      cases hx
      have hzm := List.mem_of_getElem? hz
      have W3 := (W2.ex e3).q
      walk_at "go"
      refine w_t W3 ?_
      walk_at "go"
      refine gS W3.t (by rw [tab_get, ht0 z hzm (List.all_eq_true.mp e z hzm)]; rfl) ?_
      exact ht rfl _ (Ex.refl _)
    · rw [filter_all] at h3
      refine ⟨D, t, ss.length, rfl, SqL.of (by rw [h3, List.map_const']), ?_⟩
      have hn : 0 < ss.length := List.length_pos_iff.mpr sne
      rw [show min ss.length 1 = 1 by omega]
      walk_at "go"
      refine i_ite (fun _ => ?_) fun e => absurd e (by decide)
      exact q H3 ((e1.trans e2).trans e3)
end

/-! ### the world that changes -/
inductive Lab where
  | w | t | d | p | m | r | i | h | f | row (k : Int) | hist (k : Int)
def adr (A : WA) : Lab → Addr
  | .w => A.w
  | .t => A.t
  | .d => A.d
  | .p => A.p
  | .m => A.m
  | .r => A.r
  | .i => A.i
  | .h => A.h
  | .f => A.f
  | .row k => A.row k
  | .hist k => A.hist k
def Dom (s : St) : Lab → Prop
  | .row k => k ∈ keys s.dishes
  | .hist k => k ∈ keys s.dishes
  | _ => True
def histK (A : WA) (l : List (Int × Dish)) : List (Key × V) := l.map fun q => (Sum.inl q.1, V.ref (A.hist q.1))
def idleD (p : (Int × Int) × Str) : D := .tup [nameD p.1.1 p.1.2, .str p.2]
def Cont (H : Hp) (A : WA) (s : St) (n : Nat) : Lab → HO → Prop
  | .w, o => o = .dK (worldK A s.evens)
  | .t, o => o = .dK (tabK s.tables)
  | .d, o => o = .dK (dishK A s.dishes)
  | .p, o => o = .dK (penK s.paid)
  | .m, o => o = .dK (penK s.moved)
  | .r, o => ∃ xs, o = .lst xs ∧ xs.length ≤ n
  | .i, o => ∃ xs, o = .lst xs ∧ IsAll H xs (s.idle.map idleD)
  | .h, o => o = .dK (histK A s.dishes)
  | .f, o => ∃ xs, o = .lst xs ∧ xs.length ≤ n
  | .row k, o => ∀ x, (k, x) ∈ s.dishes → o = .dK (rowK A (k, x))
  | .hist k, o => ∃ xs, o = .lst xs ∧ xs.length ≤ n
structure WO (H0 H : Hp) (A : WA) (s : St) (n : Nat) : Prop where
  ex : Ex H0 H
  inj : ∀ l l', Dom s l → Dom s l' → adr A l = adr A l' → l = l'
  fresh : ∀ l, Dom s l → H0 (adr A l) = none
  live : ∀ l, Dom s l → ∃ o, H (adr A l) = some o ∧ Cont H A s n l o
  st : ∀ q ∈ s.dishes, H (A.st q.1) = some (.tup (q.2.seats.map V.str))
theorem key_mem {s : St} {q : Int × Dish} (h : q ∈ s.dishes) : q.1 ∈ keys s.dishes := List.mem_map.mpr ⟨q, h, rfl⟩
section
variable {H0 H H' : Hp} {A : WA} {s s' : St} {n n' : Nat}
theorem Cont.noTup {l : Lab} {o : HO} (d : Dom s l) (c : Cont H A s n l o) : ∀ xs, o ≠ .tup xs := by
  intro xs
  cases l with
  | row k =>
    obtain ⟨q, hq, rfl⟩ := List.mem_map.mp (show k ∈ keys s.dishes from d)
    have := c q.2 hq
    rw [this]; simp
  | r => obtain ⟨_, rfl, _⟩ := c; simp
  | i => obtain ⟨_, rfl, _⟩ := c; simp
  | f => obtain ⟨_, rfl, _⟩ := c; simp
  | hist k => obtain ⟨_, rfl, _⟩ := c; simp
  | _ => have c : o = _ := c; rw [c]; simp
theorem WO.get {l : Lab} {P : HO → Prop} (W : WO H0 H A s n) (d : Dom s l) (h : ∀ o, Cont H A s n l o → P o) : ∃ o, H (adr A l) = some o ∧ P o := by
  obtain ⟨o, ho, c⟩ := W.live l d
  exact ⟨o, ho, h o c⟩
theorem WO.wr (W : WO H0 H A s n) : WR H A s := by
  have g : ∀ l o, Dom s l → (∀ o', Cont H A s n l o' → o' = o) → H (adr A l) = some o := fun l o d h => by
    obtain ⟨o', ho, c⟩ := W.live l d
    rw [ho, h o' c]
  exact ⟨g .w _ trivial fun _ c => c, g .t _ trivial fun _ c => c, g .d _ trivial fun _ c => c, g .p _ trivial fun _ c => c, g .m _ trivial fun _ c => c,
    fun q hq => g (.row q.1) _ (key_mem hq) fun o c => c q.2 hq, W.st⟩
theorem WO.tex_at (W : WO H0 H A s n) {l : Lab} (d : Dom s l) (o : HO) : TEx H (upd H (adr A l) o) := by
  obtain ⟨o', ho, c⟩ := W.live l d
  exact TEx.mut ho (c.noTup d)
/-- new things only -/
theorem Cont.ex {l : Lab} {o : HO} (e : TEx H H') (c : Cont H A s n l o) : Cont H' A s n l o := by
  cases l with
  | i => obtain ⟨xs, h1, h2⟩ := c; exact ⟨xs, h1, IsAll.mono e _ h2⟩
  | _ => exact c
theorem WO.grow (W : WO H0 H A s n) (e : Ex H H') : WO H0 H' A s n :=
  ⟨W.ex.trans e, W.inj, W.fresh, fun l d => by obtain ⟨o, ho, c⟩ := W.live l d; exact ⟨o, e _ _ ho, c.ex e.tex⟩, fun q h => e _ _ (W.st q h)⟩
/-- a store -/
theorem WO.put (W : WO H0 H A s n) (l : Lab) (o : HO) (hd : Dom s l) (hk : keys s'.dishes = keys s.dishes) (hs : ∀ q ∈ s'.dishes, ∃ q0 ∈ s.dishes, q0.1 = q.1 ∧ q0.2.seats = q.2.seats)
    (hc : TEx H (upd H (adr A l) o) → Cont (upd H (adr A l) o) A s' n' l o) (hot : ∀ l', l' ≠ l → Dom s l' → ∀ o', Cont H A s n l' o' → Cont H A s' n' l' o') : WO H0 (upd H (adr A l) o) A s' n' := by
  have dom : ∀ l, Dom s' l ↔ Dom s l := fun l => by cases l <;> simp [Dom, hk]
  have t := W.tex_at hd o
  refine ⟨Ex.mut W.ex (W.fresh l hd), fun l1 l2 h1 h2 => W.inj l1 l2 ((dom _).mp h1) ((dom _).mp h2), fun l1 h1 => W.fresh l1 ((dom _).mp h1), fun l1 h1 => ?_, fun q hq => ?_⟩
  · by_cases e : l1 = l
    · subst e; exact ⟨o, upd_same, hc t⟩
    · obtain ⟨o', ho, c⟩ := W.live l1 ((dom _).mp h1)
      refine ⟨o', ?_, (hot l1 e ((dom _).mp h1) o' c).ex t⟩
      rw [upd_ne fun z => e (W.inj _ _ ((dom _).mp h1) hd z)]; exact ho
  · obtain ⟨q0, h0, e1, e2⟩ := hs q hq
    rw [← e1, ← e2]
    exact t _ _ (W.st q0 h0)
theorem WO.up (W : WO H0 H A s n) (h : n ≤ n') : WO H0 H A s n' :=
  ⟨W.ex, W.inj, W.fresh, fun l d => by
    obtain ⟨o, ho, c⟩ := W.live l d
    refine ⟨o, ho, ?_⟩
    cases l with
    | r => obtain ⟨xs, h1, h2⟩ := c; exact ⟨xs, h1, by omega⟩
    | f => obtain ⟨xs, h1, h2⟩ := c; exact ⟨xs, h1, by omega⟩
    | hist k => obtain ⟨xs, h1, h2⟩ := c; exact ⟨xs, h1, by omega⟩
    | _ => exact c, W.st⟩
theorem same_seats (q : Int × Dish) (h : q ∈ s.dishes) : ∃ q0 ∈ s.dishes, q0.1 = q.1 ∧ q0.2.seats = q.2.seats := ⟨q, h, rfl, rfl⟩
theorem WO.putT (W : WO H0 H A s n) (tb : List (Str × Str)) : WO H0 (upd H A.t (.dK (tabK tb))) A { s with tables := tb } n :=
  W.put (s' := { s with tables := tb }) .t _ trivial rfl same_seats (fun _ => rfl) fun l hl d o c => by cases l <;> first | exact c | exact absurd rfl hl
theorem WO.putP (W : WO H0 H A s n) (tb : List (Str × Int)) : WO H0 (upd H A.p (.dK (penK tb))) A { s with paid := tb } n :=
  W.put (s' := { s with paid := tb }) .p _ trivial rfl same_seats (fun _ => rfl) fun l hl d o c => by cases l <;> first | exact c | exact absurd rfl hl
theorem WO.putM (W : WO H0 H A s n) (tb : List (Str × Int)) : WO H0 (upd H A.m (.dK (penK tb))) A { s with moved := tb } n :=
  W.put (s' := { s with moved := tb }) .m _ trivial rfl same_seats (fun _ => rfl) fun l hl d o c => by cases l <;> first | exact c | exact absurd rfl hl
theorem WO.putE (W : WO H0 H A s n) (v : Int) : WO H0 (upd H A.w (.dK (worldK A v))) A { s with evens := v } n :=
  W.put (s' := { s with evens := v }) .w _ trivial rfl same_seats (fun _ => rfl) fun l hl d o c => by cases l <;> first | exact c | exact absurd rfl hl
theorem WO.addR (W : WO H0 H A s n) (v : V) : ∃ xs, H A.r = some (.lst xs) ∧ xs.length ≤ n ∧ WO H0 (upd H A.r (.lst (xs ++ [v]))) A s (n + 1) := by
  obtain ⟨_, ho, xs, rfl, hl⟩ := W.live .r trivial
  exact ⟨xs, ho, hl, (W.up (Nat.le_succ n)).put (s' := s) .r _ trivial rfl same_seats (fun _ => ⟨_, rfl, by rw [List.length_append]; simp; omega⟩) fun l hl d o c => c⟩
theorem WO.addF (W : WO H0 H A s n) (v : V) : ∃ xs, H A.f = some (.lst xs) ∧ xs.length ≤ n ∧ WO H0 (upd H A.f (.lst (xs ++ [v]))) A s (n + 1) := by
  obtain ⟨_, ho, xs, rfl, hl⟩ := W.live .f trivial
  exact ⟨xs, ho, hl, (W.up (Nat.le_succ n)).put (s' := s) .f _ trivial rfl same_seats (fun _ => ⟨_, rfl, by rw [List.length_append]; simp; omega⟩) fun l hl d o c => c⟩
theorem WO.addH (W : WO H0 H A s n) {k : Int} (hk : k ∈ keys s.dishes) (v : V) : ∃ xs, H (A.hist k) = some (.lst xs) ∧ xs.length ≤ n ∧ WO H0 (upd H (A.hist k) (.lst (xs ++ [v]))) A s (n + 1) := by
  obtain ⟨_, ho, xs, rfl, hl⟩ := W.live (.hist k) hk
  exact ⟨xs, ho, hl, (W.up (Nat.le_succ n)).put (s' := s) (.hist k) _ hk rfl same_seats (fun _ => ⟨_, rfl, by rw [List.length_append]; simp; omega⟩) fun l hl d o c => c⟩
theorem WO.addI (W : WO H0 H A s n) (v : V) (p : (Int × Int) × Str) (hv : Is H v (idleD p)) : ∃ xs, H A.i = some (.lst xs) ∧ xs.length = s.idle.length ∧ WO H0 (upd H A.i (.lst (xs ++ [v]))) A { s with idle := s.idle ++ [p] } n := by
  obtain ⟨_, ho, xs, rfl, hl⟩ := W.live .i trivial
  refine ⟨xs, ho, by rw [hl.len, List.length_map], W.put (s' := { s with idle := s.idle ++ [p] }) .i _ trivial rfl same_seats (fun t => ⟨_, rfl, ?_⟩) fun l hl d o c => by cases l <;> first | exact c | exact absurd rfl hl⟩
  show IsAll _ _ ((s.idle ++ [p]).map idleD)
  rw [List.map_append]
  exact IsAll.snoc (IsAll.mono t _ hl) (Is.mono t _ hv)
theorem keys_setState (ds : List (Int × Dish)) (k : Int) (z : Str) : keys (setState ds k z) = keys ds := by
  unfold keys setState
  rw [List.map_map]
  refine List.map_congr_left fun q _ => ?_
  show (if q.1 = k then (q.1, { q.2 with state := z }) else q).1 = q.1
  by_cases e : q.1 = k <;> simp [e]
theorem seats_setState (ds : List (Int × Dish)) (k : Int) (z : Str) : ∀ q ∈ setState ds k z, ∃ q0 ∈ ds, q0.1 = q.1 ∧ q0.2.seats = q.2.seats := fun q hq => by
  obtain ⟨q0, h0, rfl⟩ := List.mem_map.mp hq
  refine ⟨q0, h0, ?_⟩
  by_cases e : q0.1 = k <;> simp [e]
theorem dishK_setState (A : WA) (ds : List (Int × Dish)) (k : Int) (z : Str) : dishK A (setState ds k z) = dishK A ds := by
  unfold dishK setState
  rw [List.map_map]
  refine List.map_congr_left fun q _ => ?_
  by_cases e : q.1 = k <;> simp [e]
theorem histK_setState (A : WA) (ds : List (Int × Dish)) (k : Int) (z : Str) : histK A (setState ds k z) = histK A ds := by
  unfold histK setState
  rw [List.map_map]
  refine List.map_congr_left fun q _ => ?_
  by_cases e : q.1 = k <;> simp [e]
theorem WO.putS (W : WO H0 H A s n) (nd : (keys s.dishes).Nodup) {k : Int} {x : Dish} (hx : aget s.dishes k = some x) (z : Str) :
    WO H0 (upd H (A.row k) (.dK (rowK A (k, { x with state := z })))) A { s with dishes := setState s.dishes k z } n := by
  refine W.put (s' := { s with dishes := setState s.dishes k z }) (.row k) _ (aget_some_iff.mp ⟨x, hx⟩) (keys_setState _ _ _) (seats_setState _ _ _) (fun _ y hy => ?_) fun l hl d o c => ?_
  · obtain ⟨q0, h0, e⟩ := List.mem_map.mp (show (k, y) ∈ setState s.dishes k z from hy)
    by_cases e1 : q0.1 = k
    · rw [if_pos e1] at e
      have : aget s.dishes k = some q0.2 := aget_of_mem nd (by rw [← e1]; exact h0)
      rw [hx] at this
      cases this
      cases e
      rfl
    · rw [if_neg e1] at e
      rw [e] at e1
      exact absurd rfl e1
  · cases l with
    | d => exact c.trans (congrArg HO.dK (dishK_setState A s.dishes k z).symm)
    | h => exact c.trans (congrArg HO.dK (histK_setState A s.dishes k z).symm)
    | row j =>
      intro y hy
      obtain ⟨q0, h0, e⟩ := List.mem_map.mp (show (j, y) ∈ setState s.dishes k z from hy)
      by_cases e1 : q0.1 = k
      · rw [if_pos e1] at e
        have : j = k := by rw [← e1]; exact (congrArg Prod.fst e).symm
        rw [this] at hl
        exact absurd rfl hl
      · rw [if_neg e1] at e
        subst e
        exact c _ h0
    | _ => exact c
end
def PreDo (hs : House) (st : St) : Deed → Prop
  | .ask _ item _ ss => (∃ r, rowAt hs.menu item = some r) 
  | .even ss => ss ≠ [] ∧ ss.length ≤ 12
  | _ => True
def sp_do (K : PySem.W.Frag) (c : Deed → Prop) : Sp := fun vs H Q _ => ∃ (H0 : Hp) (hv : V) (hs : House) (A : WA) (st : St) (nv : V) (m num : Int) (dv : V) (dd : Deed) (n : Nat), vs = [hv, .ref A.w, nv, dv] ∧ Is H hv hs.d ∧ Is H nv (nameD m num) ∧ Is H dv dd.d ∧
  WO H0 H A st n ∧ st.Ok ∧ hs.Ok ∧ 0 ≤ m ∧ n ≤ 10000 ∧ why hs st dd = "" ∧ Pre st dd ∧ c dd ∧
  ∀ H' A', TEx H H' → A'.w = A.w → WO H0 H' A' (doIt hs st m dd) (n + 60) → Q .non H'
section
variable {P : Program} {w : World} {K : PySem.W.Frag} {mg : Str → Option Value} {base : Heap} {k : Nat}
theorem gk {A : WA} {H : Hp} {st : St} {x : Str} (W : WR H A st) {v : V} (hv : valV (worldK A st.evens) (Sum.inr x) = some v) {Q : V → Prop} (q : Q v) : ∃ a v, V.ref A.w = .ref a ∧ DGet H a (.str x) (some v) ∧ Q v := gS W.q.w hv q
theorem hist_get {A : WA} {l : List (Int × Dish)} {k : Int} (h : k ∈ keys l) : valV (histK A l) (Sum.inl k) = some (.ref (A.hist k)) := by
  induction l with
  | nil => simp [keys] at h
  | cons p l ih =>
    show valV ((Sum.inl p.1, V.ref (A.hist p.1)) :: histK A l) (Sum.inl k) = _
    by_cases e : p.1 = k
    · rw [valV_pos (by rw [e]), e]
    · rw [valV_neg (fun q => e (inl_inj _ _ q))]
      exact ih ((List.mem_cons.mp (show k ∈ p.1 :: keys l from h)).resolve_left fun q => e q.symm)
theorem ty_lst {H : Hp} {a : Addr} {xs : List V} (h : H a = some (.lst xs)) : tyV K "list" (.ref a) H := Or.inl ⟨rfl, xs, SqL.of h⟩
abbrev N_do_sit : List Str := ["house", "world", "name", "deed"]
abbrev P_do_sit : List Str := ["house", "world", "name", "deed"]
theorem sc_do_sit : FnScope N_do_sit P_do_sit (defScope s_do_sit) := ⟨rfl, rfl, rfl, by decide +kernel, rfl, by decide +kernel, by decide +kernel⟩
theorem ok_do_sit (d : Dn K mg d_do_sit) : Cal P w K mg base 1 "do_sit" [] (sp_do K fun dd => ∃ s t, dd = .sit s t) := by
  refine d.cal sc_do_sit (fun vs H Q E h => ?_) (fun f fd F => ⟨[], .nil, F.bindsN fun _ _ _ _ _ _ us hl => match us, hl with | [_, _, _, _], _ => rfl⟩) fun f cdv A outer s H vs Q E hr h => have hu := hu_of hr; ⟨_, PSs.nox (pss_one (ps_dput hu (pe_dget hu (pv 1) pe_str (fun _ _ => rfl)) (pe_ix ix_tup (pv 3) pe_int (fun _ _ => rfl)) (pe_ix ix_tup (pv 3) pe_int (fun _ _ => rfl)) rfl)), ?_⟩
  · obtain ⟨_, _, _, _, _, _, _, _, _, _, _, rfl, _⟩ := h; rfl
  · obtain ⟨H0, hv, hs, A, st, nv, m, num, dv, dd, n, rfl, hh, hn, hd, W, ok, hok, m0, hnn, hw, pre, ⟨z, t, rfl⟩, q⟩ := h
    walk_at "go"
    refine ix_isS (i := 2) hd rfl ?_
    walk_at "go"
    refine w_t W.wr.q ?_
    walk_at "go"
    refine ix_isS (i := 1) hd rfl ?_
    refine ⟨A.t, _, rfl, DPut.k (k := Sum.inr z) W.wr.t (szl (by unfold tabK; rw [List.length_map]; have := ok.fewT; omega)), ?_⟩
    have e : putK (tabK st.tables) (Sum.inr z) (.str t) = tabK (aput st.tables z t) := putK_enc _ inr_inj V.str st.tables z t
    rw [e]
    exact q _ A (W.tex_at (l := .t) trivial _) rfl ((W.putT _).up (by omega))
abbrev N_do_go : List Str := ["house", "world", "name", "deed"]
abbrev P_do_go : List Str := ["house", "world", "name", "deed"]
theorem sc_do_go : FnScope N_do_go P_do_go (defScope s_do_go) := ⟨rfl, rfl, rfl, by decide +kernel, rfl, by decide +kernel, by decide +kernel⟩
theorem ok_do_go (d : Dn K mg d_do_go) : Cal P w K mg base 1 "do_go" [] (sp_do K fun dd => ∃ s, dd = .go s) := by
  refine d.cal sc_do_go (fun vs H Q E h => ?_) (fun f fd F => ⟨[], .nil, F.bindsN fun _ _ _ _ _ _ us hl => match us, hl with | [_, _, _, _], _ => rfl⟩) fun f cdv A outer s H vs Q E hr h => have hu := hu_of hr; ⟨_, PSs.nox (pss_one (ps_dput hu (pe_dget hu (pv 1) pe_str (fun _ _ => rfl)) (pe_ix ix_tup (pv 3) pe_int (fun _ _ => rfl)) pe_str rfl)), ?_⟩
  · obtain ⟨_, _, _, _, _, _, _, _, _, _, _, rfl, _⟩ := h; rfl
  · obtain ⟨H0, hv, hs, A, st, nv, m, num, dv, dd, n, rfl, hh, hn, hd, W, ok, hok, m0, hnn, hw, pre, ⟨z, rfl⟩, q⟩ := h
    walk_at "go"
    refine w_t W.wr.q ?_
    walk_at "go"
    refine ix_isS (i := 1) hd rfl ?_
    refine ⟨A.t, _, rfl, DPut.k (k := Sum.inr z) W.wr.t (szl (by unfold tabK; rw [List.length_map]; have := ok.fewT; omega)), ?_⟩
    have e : putK (tabK st.tables) (Sum.inr z) (.str "") = tabK (aput st.tables z "") := putK_enc _ inr_inj V.str st.tables z ""
    rw [e]
    exact q _ A (W.tex_at (l := .t) trivial _) rfl ((W.putT _).up (by omega))
abbrev N_do_pay : List Str := ["house", "world", "name", "deed"]
abbrev P_do_pay : List Str := ["house", "world", "name", "deed"]
theorem sc_do_pay : FnScope N_do_pay P_do_pay (defScope s_do_pay) := ⟨rfl, rfl, rfl, by decide +kernel, rfl, by decide +kernel, by decide +kernel⟩
theorem ok_do_pay (d : Dn K mg d_do_pay) : Cal P w K mg base 1 "do_pay" [] (sp_do K fun dd => ∃ s p, dd = .pay s p) := by
  refine d.cal sc_do_pay (fun vs H Q E h => ?_) (fun f fd F => ⟨[], .nil, F.bindsN fun _ _ _ _ _ _ us hl => match us, hl with | [_, _, _, _], _ => rfl⟩) fun f cdv A outer s H vs Q E hr h => have hu := hu_of hr; ⟨_, PSs.nox (pss_cons (ps_dput hu (pe_dget hu (pv 1) pe_str (fun _ _ => rfl)) (pe_ix ix_tup (pv 3) pe_int (fun _ _ => rfl)) (pe_op op_add (pe_dget2 hu (pe_dget hu (pv 1) pe_str (fun _ _ => rfl)) (pe_ix ix_tup (pv 3) pe_int (fun _ _ => rfl)) pe_int ⟨rfl, rfl, rfl, rfl⟩) (pe_ix ix_tup (pv 3) pe_int (fun _ _ => rfl))) rfl) (pss_one (ps_expr (pe_bm PySem.F.plainAttrs_list PySem.F.slot_list_append PySem.F.type_list_append mt_append (pe_dget hu (pv 1) pe_str (fun _ _ => rfl)) (pa_cons (pe_tup (pa_cons (pe_ix ix_tup (pv 3) pe_int (fun _ _ => rfl)) (pa_cons (pv 2) (pa_cons pe_str (pa_cons (pe_op op_sub pe_int (pe_ix ix_tup (pv 3) pe_int (fun _ _ => rfl))) pa_nil))))) pa_nil))))), ?_⟩
  · obtain ⟨_, _, _, _, _, _, _, _, _, _, _, rfl, _⟩ := h; rfl
  · obtain ⟨H0, hv, hs, A, st, nv, m, num, dv, dd, n, rfl, hh, hn, hd, W, ok, hok, m0, hnn, hw, pre, ⟨z, p, rfl⟩, q⟩ := h
    walk_at "go"
    refine w_p W.wr.q ⟨_, rfl, isD W.wr.q.p, ?_⟩
    walk_at "go"
    refine ix_isS (i := 1) hd rfl ?_
    walk_at "go"
    refine ⟨_, .inl ⟨_, Sum.inr z, W.wr.q.p, rfl, rfl⟩, ?_⟩
    rw [pen_getD]
    walk_at "go"
    refine ix_isI (i := 2) hd rfl ?_
    walk_at "go"
    refine w_p W.wr.q ?_
    walk_at "go"
    refine ix_isS (i := 1) hd rfl ?_
    refine ⟨A.p, _, rfl, DPut.k (k := Sum.inr z) W.wr.p (szl (by unfold penK; rw [List.length_map]; have := ok.fewP; omega)), ?_⟩
    rw [pen_put]
    have t1 := W.tex_at (l := .p) trivial (.dK (penK (aput st.paid z ((aget st.paid z).getD 0 + p))))
    have W1 := W.putP (aput st.paid z ((aget st.paid z).getD 0 + p))
    have t1 : TEx H (upd H A.p (.dK (penK (aput st.paid z ((aget st.paid z).getD 0 + p))))) := t1
    generalize upd H A.p (.dK (penK (aput st.paid z ((aget st.paid z).getD 0 + p)))) = H1 at t1 W1 ⊢
    walk_at "go"
    obtain ⟨xs, hx, hxl, _⟩ := W1.addR .non
    refine w_r W1.wr.q ⟨ty_lst hx, ?_⟩
    walk_at "go"
    refine i_tup ?_
    walk_at "go"
    refine ix_isS (i := 1) (Is.mono t1 _ hd) rfl ?_
    walk_at "go"
    refine ix_isI (i := 2) (Is.mono t1 _ hd) rfl ?_
    walk_at "go"
    refine ⟨sz (by simp), fun tp htp => ?_⟩
    have e2 := Ex.new (o := HO.tup [.str z, nv, .str "paid", .int (0 - p)]) htp
    have W2 := W1.grow e2
    generalize upd H1 tp (HO.tup [.str z, nv, .str "paid", .int (0 - p)]) = H2 at e2 W2 ⊢
    walk_at "go"
    obtain ⟨ys, hy, hyl, W3⟩ := W2.addR (.ref tp)
    refine ⟨A.r, ys, _, rfl, rfl, hy, szl (by omega), ?_⟩
    exact q _ A ((t1.trans e2.tex).trans (W2.tex_at (l := .r) trivial _)) rfl (W3.up (by omega))
abbrev N_shift : List Str := ["world", "name", "seat", "word", "pence"]
abbrev P_shift : List Str := ["world", "name", "seat", "word", "pence"]
theorem sc_shift : FnScope N_shift P_shift (defScope s_shift) := ⟨rfl, rfl, rfl, by decide +kernel, rfl, by decide +kernel, by decide +kernel⟩
def sp_shift : Sp := fun vs H Q _ => ∃ (H0 : Hp) (A : WA) (st : St) (nv : V) (z wd : Str) (p : Int) (n : Nat), vs = [.ref A.w, nv, .str z, .str wd, .int p] ∧ WO H0 H A st n ∧ st.moved.length ≤ 1000 ∧ n ≤ 11000 ∧
  ∀ H', TEx H H' → WO H0 H' A { st with moved := shift st.moved z p } (n + 1) → (∀ a o, H a = some o → a ≠ A.m → a ≠ A.r → H' a = some o) → Q .non H'
theorem ok_shift (d : Dn K mg d_shift) : Cal P w K mg base 1 "shift" [] sp_shift := by
  refine d.cal sc_shift (fun vs H Q E h => ?_) (fun f fd F => ⟨[], .nil, F.bindsN fun _ _ _ _ _ _ us hl => match us, hl with | [_, _, _, _, _], _ => rfl⟩) fun f cdv A outer s H vs Q E hr h => have hu := hu_of hr; ⟨_, PSs.nox (pss_cons (ps_dput hu (pe_dget hu (pv 0) pe_str (fun _ _ => rfl)) (pv 2) (pe_op op_add (pe_dget2 hu (pe_dget hu (pv 0) pe_str (fun _ _ => rfl)) (pv 2) pe_int ⟨rfl, rfl, rfl, rfl⟩) (pv 4)) rfl) (pss_one (ps_expr (pe_bm PySem.F.plainAttrs_list PySem.F.slot_list_append PySem.F.type_list_append mt_append (pe_dget hu (pv 0) pe_str (fun _ _ => rfl)) (pa_cons (pe_tup (pa_cons (pv 2) (pa_cons (pv 1) (pa_cons (pv 3) (pa_cons (pv 4) pa_nil))))) pa_nil))))), ?_⟩
  · obtain ⟨_, _, _, _, _, _, _, _, rfl, _⟩ := h; rfl
  · obtain ⟨H0, A, st, nv, z, wd, p, n, rfl, W, hm, hnn, q⟩ := h
    walk_at "go"
    refine w_m W.wr.q ⟨_, rfl, isD W.wr.q.m, ?_⟩
    walk_at "go"
    refine ⟨_, .inl ⟨_, Sum.inr z, W.wr.q.m, rfl, rfl⟩, ?_⟩
    rw [pen_getD]
    walk_at "go"
    refine w_m W.wr.q ?_
    walk_at "go"
    refine ⟨A.m, _, rfl, DPut.k (k := Sum.inr z) W.wr.m (szl (by unfold penK; rw [List.length_map]; omega)), ?_⟩
    rw [pen_put]
    have t1 : TEx H (upd H A.m (.dK (penK (shift st.moved z p)))) := W.tex_at (l := .m) trivial (.dK (penK (shift st.moved z p)))
    have W1 := W.putM (shift st.moved z p)
    have k1 : ∀ a o, H a = some o → a ≠ A.m → (upd H A.m (.dK (penK (shift st.moved z p)))) a = some o := fun a o h ne => by rw [upd_ne ne]; exact h
    rw [show aput st.moved z ((aget st.moved z).getD 0 + p) = shift st.moved z p from rfl]
    generalize upd H A.m (.dK (penK (shift st.moved z p))) = H1 at t1 W1 k1 ⊢
    walk_at "go"
    obtain ⟨xs, hx, hxl, _⟩ := W1.addR .non
    refine w_r W1.wr.q ⟨ty_lst hx, ?_⟩
    walk_at "go"
    refine i_tup ?_
    walk_at "go"
    refine ⟨sz (by simp), fun tp htp => ?_⟩
    have e2 := Ex.new (o := HO.tup [.str z, nv, .str wd, .int p]) htp
    have W2 := W1.grow e2
    generalize upd H1 tp (HO.tup [.str z, nv, .str wd, .int p]) = H2 at e2 W2 ⊢
    walk_at "go"
    obtain ⟨ys, hy, hyl, W3⟩ := W2.addR (.ref tp)
    refine ⟨A.r, ys, _, rfl, rfl, hy, szl (by omega), ?_⟩
    exact q _ ((t1.trans e2.tex).trans (W2.tex_at (l := .r) trivial _)) W3 fun a o h n1 n2 => by rw [upd_ne n2]; exact e2 _ _ (k1 a o h n1)
abbrev N_do_take : List Str := ["house", "world", "name", "deed"]
abbrev P_do_take : List Str := ["house", "world", "name", "deed"]
theorem sc_do_take : FnScope N_do_take P_do_take (defScope s_do_take) := ⟨rfl, rfl, rfl, by decide +kernel, rfl, by decide +kernel, by decide +kernel⟩
theorem ok_do_take (d : Dn K mg d_do_take) (c_shift : Cal P w K mg base 1 "shift" [] sp_shift) : Cal P w K mg base 2 "do_take" [] (sp_do K fun dd => ∃ s o p, dd = .take s o p) := by
  refine d.cal sc_do_take (fun vs H Q E h => ?_) (fun f fd F => ⟨[], .nil, F.bindsN fun _ _ _ _ _ _ us hl => match us, hl with | [_, _, _, _], _ => rfl⟩) fun f cdv A outer s H vs Q E hr h => have hu := hu_of hr; ⟨_, PSs.nox (pss_cons (ps_expr (pe_cl c_shift hr (pa_cons (pv 1) (pa_cons (pv 2) (pa_cons (pe_ix ix_tup (pv 3) pe_int (fun _ _ => rfl)) (pa_cons pe_str (pa_cons (pe_ix ix_tup (pv 3) pe_int (fun _ _ => rfl)) pa_nil))))))) (pss_one (ps_expr (pe_cl c_shift hr (pa_cons (pv 1) (pa_cons (pv 2) (pa_cons (pe_ix ix_tup (pv 3) pe_int (fun _ _ => rfl)) (pa_cons pe_str (pa_cons (pe_op op_sub pe_int (pe_ix ix_tup (pv 3) pe_int (fun _ _ => rfl))) pa_nil))))))))), ?_⟩
  · obtain ⟨_, _, _, _, _, _, _, _, _, _, _, rfl, _⟩ := h; rfl
  · obtain ⟨H0, hv, hs, A, st, nv, m, num, dv, dd, n, rfl, hh, hn, hd, W, ok, hok, m0, hnn, hw, pre, ⟨z, o, p, rfl⟩, q⟩ := h
    walk_at "go"
    refine ix_isS (i := 1) hd rfl ?_
    walk_at "go"
    refine ix_isI (i := 3) hd rfl ?_
    walk_at "go"
    refine ⟨H0, A, st, nv, z, _, p, n, rfl, W, by have := ok.fewM; omega, by omega, fun H1 t1 W1 _ => ?_⟩
    walk_at "go"
    refine ix_isS (i := 2) (Is.mono t1 _ hd) rfl ?_
    walk_at "go"
    refine ix_isI (i := 3) (Is.mono t1 _ hd) rfl ?_
    walk_at "go"
    refine ⟨H0, A, _, nv, o, _, 0 - p, n + 1, rfl, W1, ?_, by omega, fun H2 t2 W2 _ => ?_⟩
    · have := ok.fewM
      have := len_put st.moved z ((aget st.moved z).getD 0 + p)
      show (shift st.moved z p).length ≤ 1000
      unfold shift
      omega
    exact q H2 A (t1.trans t2) rfl (W2.up (by omega))
abbrev N_do_bring : List Str := ["house", "world", "name", "deed"]
abbrev P_do_bring : List Str := ["house", "world", "name", "deed"]
theorem sc_do_bring : FnScope N_do_bring P_do_bring (defScope s_do_bring) := ⟨rfl, rfl, rfl, by decide +kernel, rfl, by decide +kernel, by decide +kernel⟩
theorem ok_do_bring (d : Dn K mg d_do_bring) (T : Tb w K mg) : Cal P w K mg base 1 "do_bring" [] (sp_do K fun dd => (∃ d, dd = .serve d) ∨ ∃ d, dd = .strike d) := by
  refine d.cal sc_do_bring (fun vs H Q E h => ?_) (fun f fd F => ⟨[], .nil, F.bindsN fun _ _ _ _ _ _ us hl => match us, hl with | [_, _, _, _], _ => rfl⟩) fun f cdv A outer s H vs Q E hr h => have hu := hu_of hr; ⟨_, PSs.nox (pss_cons (ps_dput hu (pe_dget hu (pe_dget hu (pv 1) pe_str (fun _ _ => rfl)) (pe_ix ix_tup (pv 3) pe_int (fun _ _ => rfl)) (fun _ _ => rfl)) pe_str (pe_ix ix_kdict (pe_glob (v := .ref T.aBROUGHT) rfl T.gBROUGHT rfl) (pe_ix ix_tup (pv 3) pe_int (fun _ _ => rfl)) (fun _ _ => rfl)) rfl) (pss_one (ps_expr (pe_bm PySem.F.plainAttrs_list PySem.F.slot_list_append PySem.F.type_list_append mt_append (pe_dget hu (pe_dget hu (pv 1) pe_str (fun _ _ => rfl)) (pe_ix ix_tup (pv 3) pe_int (fun _ _ => rfl)) (fun _ _ => rfl)) (pa_cons (pe_tup (pa_cons (pv 2) (pa_cons (pe_ix ix_kdict (pe_glob (v := .ref T.aBROUGHT) rfl T.gBROUGHT rfl) (pe_ix ix_tup (pv 3) pe_int (fun _ _ => rfl)) (fun _ _ => rfl)) pa_nil))) pa_nil))))), ?_⟩
  · obtain ⟨_, _, _, _, _, _, _, _, _, _, _, rfl, _⟩ := h; rfl
  · obtain ⟨H0, hv, hs, A, st, nv, m, num, dv, dd, n, rfl, hh, hn, hd, W, ok, hok, m0, hnn, hw, pre, cc, q⟩ := h
    have key : ∃ (k : Int) (z : Str) (wd : Str) (r : Str), (∃ l, dd.d = .tup (.str wd :: .int k :: l)) ∧ KDct K w T.aBROUGHT wd (.str r) ∧ doIt hs st m dd = { st with dishes := setState st.dishes k r } ∧ ∃ x, aget st.dishes k = some x := by
      rcases cc with ⟨k, rfl⟩ | ⟨k, rfl⟩
      · refine ⟨k, "", "serve", "served", ⟨_, rfl⟩, T.bServe, rfl, ?_⟩
        simp only [why] at hw
        by_cases e : stateIn st k = some ("fired" : Str)
        · unfold stateIn at e
          cases e2 : aget st.dishes k with
          | none => rw [e2] at e; exact absurd e (by simp)
          | some x => exact ⟨x, rfl⟩
        · rw [if_neg e] at hw; exact absurd hw (by decide)
      · refine ⟨k, "", "strike", "struck", ⟨_, rfl⟩, T.bStrike, rfl, ?_⟩
        simp only [why] at hw
        by_cases e : stateIn st k = some ("asked" : Str) ∨ stateIn st k = some ("fired" : Str)
        · unfold stateIn at e
          cases e2 : aget st.dishes k with
          | none => rw [e2] at e; exact absurd e (by simp)
          | some x => exact ⟨x, rfl⟩
        · rw [if_neg e] at hw; exact absurd hw (by decide)
    obtain ⟨k, _, wd, r, ⟨l, hdd⟩, kd, hdo, x, hx⟩ := key
    rw [hdd] at hd
    rw [hdo] at q
    have hk : k ∈ keys st.dishes := aget_some_iff.mp ⟨x, hx⟩
    walk_at "go"
    refine ix_isS (i := 0) hd rfl ?_
    refine ⟨_, _, _, rfl, rfl, kd, ?_⟩
    walk_at "go"
    refine w_d W.wr.q ?_
    walk_at "go"
    refine ix_isI (i := 1) hd rfl ?_
    refine g_dish W.wr.q hx ?_
    walk_at "go"
    refine ⟨A.row k, _, rfl, DPut.k (k := Sum.inr "state") (W.wr.row (k, x) (aget_mem hx)) (szl (by show 6 < 100000; decide)), ?_⟩
    have e : putK (rowK A (k, x)) (Sum.inr "state") (.str r) = rowK A (k, { x with state := r }) := by kernel_rfl
    rw [e]
    have t1 : TEx H (upd H (A.row k) (.dK (rowK A (k, { x with state := r })))) := W.tex_at (l := .row k) hk _
    have W1 := W.putS ok.ndD hx r
    generalize upd H (A.row k) (.dK (rowK A (k, { x with state := r }))) = H1 at t1 W1 ⊢
    have hk1 : k ∈ keys ({ st with dishes := setState st.dishes k r } : St).dishes := by show k ∈ keys (setState st.dishes k r); rw [keys_setState]; exact hk
    have hh1 : H1 A.h = some (.dK (histK A (setState st.dishes k r))) := by obtain ⟨o, ho, c⟩ := W1.live .h trivial; rw [show o = _ from c] at ho; exact ho
    have hget : ∀ s : St, k ∈ keys s.dishes → valV (histK A s.dishes) (Sum.inl k) = some (.ref (A.hist k)) := fun s hs => hist_get hs
    obtain ⟨xs, hxs, hxl, _⟩ := W1.addH hk1 .non
    walk_at "go"
    refine w_h W1.wr.q ?_
    walk_at "go"
    refine ix_isI (i := 1) (Is.mono t1 _ hd) rfl ?_
    refine gI (.inl hh1) (hist_get hk1) ⟨ty_lst hxs, ?_⟩
    walk_at "go"
    refine i_tup ?_
    walk_at "go"
    refine ix_isS (i := 0) (Is.mono t1 _ hd) rfl ?_
    refine ⟨_, _, _, rfl, rfl, kd, ?_⟩
    walk_at "go"
    refine ⟨sz (by simp), fun tp htp => ?_⟩
    have e2 := Ex.new (o := HO.tup [nv, .str r]) htp
    have W2 := W1.grow e2
    generalize upd H1 tp (HO.tup [nv, .str r]) = H2 at e2 W2 ⊢
    walk_at "go"
    obtain ⟨ys, hy, hyl, W3⟩ := W2.addH hk1 (.ref tp)
    refine ⟨A.hist k, ys, _, rfl, rfl, hy, szl (by omega), ?_⟩
    exact q _ A ((t1.trans e2.tex).trans (W2.tex_at (l := .hist k) hk1 _)) rfl (W3.up (by omega))
end

def fireAll (ls : List Int) (ds : List (Int × Dish)) : List (Int × Dish) := ds.map fun q => if q.1 ∈ ls then (q.1, { q.2 with state := "fired" }) else q
theorem keys_fireAll (ls : List Int) (ds : List (Int × Dish)) : keys (fireAll ls ds) = keys ds := by
  unfold keys fireAll
  rw [List.map_map]
  refine List.map_congr_left fun q _ => ?_
  show (if q.1 ∈ ls then (q.1, { q.2 with state := "fired" }) else q).1 = q.1
  by_cases e : q.1 ∈ ls <;> simp [e]
theorem fireAll_nil (ds : List (Int × Dish)) : fireAll [] ds = ds := by unfold fireAll; simp
theorem fireAll_snoc (ls : List Int) (d : Int) (ds : List (Int × Dish)) : setState (fireAll ls ds) d "fired" = fireAll (ls ++ [d]) ds := by
  unfold setState fireAll
  rw [List.map_map]
  refine List.map_congr_left fun q _ => ?_
  by_cases e : q.1 ∈ ls
  · have h1 : q.1 ∈ ls ++ [d] := List.mem_append_left _ e
    simp only [Function.comp, if_pos e, if_pos h1]
    by_cases e2 : q.1 = d
    · rw [if_pos e2]
    · rw [if_neg e2]
  · simp only [Function.comp, if_neg e]
    by_cases e2 : q.1 = d
    · have h1 : q.1 ∈ ls ++ [d] := by rw [e2]; exact List.mem_append_right _ List.mem_cons_self
      rw [if_pos e2, if_pos h1]
    · have h1 : ¬ q.1 ∈ ls ++ [d] := fun z => by
        rcases List.mem_append.mp z with z | z
        · exact e z
        · exact e2 (List.mem_singleton.mp z)
      rw [if_neg e2, if_neg h1]
theorem evenMoved_snoc (ow : Str → Int) (l : List (Str × Int)) (x : Str × Int) : ∀ m, evenMoved ow m (l ++ [x]) = if x.2 = ow x.1 then evenMoved ow m l else shift (evenMoved ow m l) x.1 (x.2 - ow x.1) := by
  induction l with
  | nil => intro m; obtain ⟨a, b⟩ := x; rfl
  | cons y l ih => intro m; obtain ⟨a, b⟩ := y; rw [List.cons_append, evenMoved, evenMoved, ih]
theorem shift_len (m : List (Str × Int)) (z : Str) (p : Int) : (shift m z p).length ≤ m.length + 1 := len_put _ _ _
section
variable {P : Program} {w : World} {K : PySem.W.Frag} {mg : Str → Option Value} {base : Heap} {k : Nat}
theorem WO.ne {H0 H : Hp} {A : WA} {s : St} {n : Nat} (W : WO H0 H A s n) {l : Lab} (d : Dom s l) {p : Addr} (h : H p = none) : p ≠ adr A l := fun z => by
  obtain ⟨o, ho, _⟩ := W.live l d
  rw [z, ho] at h; exact absurd h (by simp)
abbrev N_do_fire : List Str := ["house", "world", "name", "deed", "some", "barring", "dish"]
abbrev P_do_fire : List Str := ["house", "world", "name", "deed"]
theorem sc_do_fire : FnScope N_do_fire P_do_fire (defScope s_do_fire) := ⟨rfl, rfl, rfl, by decide +kernel, rfl, by decide +kernel, by decide +kernel⟩
theorem ok_do_fire (d : Dn K mg d_do_fire) (T : Tb w K mg) (c_asked_at : Cal P w K mg base 3 "asked_at" [] sp_asked_at) (c_barring_at : Cal P w K mg base 3 "barring_at" [] sp_barring_at) : Cal P w K mg base 4 "do_fire" [] (sp_do K fun dd => ∃ t c, dd = .rush t c) := by
  refine d.cal sc_do_fire (fun vs H Q E h => ?_) (fun f fd F => ⟨[], .nil, F.bindsN fun _ _ _ _ _ _ us hl => match us, hl with | [_, _, _, _], _ => rfl⟩) fun f cdv A outer s H vs Q E hr h => have hu := hu_of hr; ⟨_, PSs.nox (pss_cons (ps_par (i := 4) (j := 5) rfl sc_do_fire.nd (by rfl) (by rfl) (by decide) (by rfl) (by rfl) (pa_cons (pe_cl c_asked_at hr (pa_cons (pv 1) (pa_cons (pe_ix ix_tup (pv 3) pe_int (fun _ _ => rfl)) (pa_cons (pe_ix ix_tup (pv 3) pe_int (fun _ _ => rfl)) pa_nil)))) (pa_cons (pe_cl c_barring_at hr (pa_cons (pv 1) (pa_cons (pe_ix ix_tup (pv 3) pe_int (fun _ _ => rfl)) (pa_cons (pe_ix ix_tup (pv 3) pe_int (fun _ _ => rfl)) pa_nil)))) pa_nil)) (by rfl)) (pss_cons (ps_expr (pe_bm PySem.F.plainAttrs_list PySem.F.slot_list_append PySem.F.type_list_append mt_append (pe_dget hu (pv 1) pe_str (fun _ _ => rfl)) (pa_cons (pe_tup (pa_cons (pv 2) (pa_cons (pe_ix ix_tup (pv 3) pe_int (fun _ _ => rfl)) (pa_cons (pe_ix ix_tup (pv 3) pe_int (fun _ _ => rfl)) (pa_cons (pe_ix ix_tup (pv 3) pe_int (fun _ _ => rfl)) (pa_cons (pe_callTy call_tuple_of rfl T.tuple boot_tuple (pa_cons (pv 4) pa_nil)) (pa_cons (pe_callTy call_tuple_of rfl T.tuple boot_tuple (pa_cons (pv 5) pa_nil)) pa_nil))))))) pa_nil))) (pss_one (ps_for PassesOwn.never rfl (pi_list (pv 4)) (pg_name (i := 6) sc_do_fire.nd rfl (Or.inl rfl)) (pss_cons (ps_dput hu (pe_dget hu (pe_dget hu (pv 1) pe_str (fun _ _ => rfl)) (pv 6) (fun _ _ => rfl)) pe_str pe_str rfl) (pss_one (ps_expr (pe_bm PySem.F.plainAttrs_list PySem.F.slot_list_append PySem.F.type_list_append mt_append (pe_dget hu (pe_dget hu (pv 1) pe_str (fun _ _ => rfl)) (pv 6) (fun _ _ => rfl)) (pa_cons (pe_tup (pa_cons (pv 2) (pa_cons pe_str pa_nil))) pa_nil))))))))), ?_⟩
  · obtain ⟨_, _, _, _, _, _, _, _, _, _, _, rfl, _⟩ := h; rfl
  · obtain ⟨H0, hv, hs, A, st, nv, m, num, dv, dd, n, rfl, hh, hn, hd, W, ok, hok, m0, hnn, hw, pre, ⟨t, c, rfl⟩, q⟩ := h
    walk_at "go"
    refine ix_isS (i := 1) hd rfl ?_
    walk_at "go"
    refine ix_isI (i := 2) hd rfl ?_
    walk_at "go"
    refine ⟨A, st, t, c, rfl, W.wr, ok, fun H1 p l e1 hp h1 hlen hl => ?_⟩
    have hd1 := Is.mono e1.tex _ hd
    walk_at "go"
    refine ix_isS (i := 1) hd1 rfl ?_
    walk_at "go"
    refine ix_isI (i := 2) hd1 rfl ?_
    walk_at "go"
    refine ⟨A, st, t, c, rfl, W.wr.ex e1, ok, fun H2 b bs e2 h2 hbl => ?_⟩
    have e12 := e1.trans e2
    have W2 := W.grow e12
    have hd2 := Is.mono e12.tex _ hd
    walk_at "go"
    obtain ⟨xs, hx, hxl, _⟩ := W2.addF .non
    refine w_f W2.wr.q ⟨ty_lst hx, ?_⟩
    walk_at "go"
    refine i_tup ?_
    walk_at "go"
    refine ix_isS (i := 0) hd2 rfl ?_
    walk_at "go"
    refine ix_isS (i := 1) hd2 rfl ?_
    walk_at "go"
    refine ix_isI (i := 2) hd2 rfl ?_
    walk_at "go"
    refine ⟨p, _, rfl, .inl ⟨SqL.of (e2 _ _ h1), fun p3 hp3 => ?_⟩⟩
    have e3 := Ex.new (o := HO.tup (l.map V.int)) hp3
    generalize upd H2 p3 (HO.tup (l.map V.int)) = H3 at e3 ⊢
    walk_at "go"
    refine ⟨b, _, rfl, .inl ⟨SqL.of (e3 _ _ h2), fun p4 hp4 => ?_⟩⟩
    have e4 := Ex.new (o := HO.tup bs) hp4
    generalize upd H3 p4 (HO.tup bs) = H4 at e4 ⊢
    walk_at "go"
    refine ⟨sz (by simp), fun p5 hp5 => ?_⟩
    have e5 := Ex.new (o := HO.tup [nv, .str "rush", .str t, .int c, .ref p3, .ref p4]) hp5
    generalize upd H4 p5 (HO.tup [nv, .str "rush", .str t, .int c, .ref p3, .ref p4]) = H5 at e5 ⊢
    walk_at "go"
    have e25 := (e3.trans e4).trans e5
    have W5 := W2.grow e25
    obtain ⟨ys, hy, hyl, W6⟩ := W5.addF (.ref p5)
    refine ⟨A.f, ys, _, rfl, rfl, hy, szl (by omega), ?_⟩
    have t6 : TEx H (upd H5 A.f (.lst (ys ++ [.ref p5]))) := (e12.trans e25).tex.trans (W5.tex_at (l := .f) trivial _)
    have h6p : (upd H5 A.f (.lst (ys ++ [.ref p5]))) p = some (.lst (l.map V.int)) := by
      rw [upd_ne (show p ≠ A.f from W.ne (l := .f) trivial hp)]
      exact (e2.trans e25) _ _ h1
    generalize upd H5 A.f (.lst (ys ++ [.ref p5])) = H6 at t6 h6p W6 ⊢
    walk_at "go"
    have hkl : ∀ d ∈ l, d ∈ keys st.dishes := fun d hd' => by
      obtain ⟨x, hx, _⟩ := (hl d).mp hd'
      exact aget_some_iff.mp ⟨x, hx⟩
    refine ⟨p, rfl, ⟨_, SqL.of h6p⟩, for_list (xs := l.map V.int) (fun i σ H' => (∃ z, σ = [some hv, some (.ref A.w), some nv, some dv, some (.ref p), some (.ref b), z]) ∧ TEx H H' ∧ H' p = some (.lst (l.map V.int)) ∧ WO H0 H' A { st with dishes := fireAll (l.take i) st.dishes } (n + 1 + i)) ?_ (fun i σ H' _ h => SqL.of h.2.2.1) (fun i x σ H' hx h => ?_) fun σ H' h => ?_⟩
    · refine ⟨⟨_, rfl⟩, t6, h6p, ?_⟩
      rw [List.take_zero, fireAll_nil]
      exact W6
    · obtain ⟨⟨z, rfl⟩, t7, h7, W7⟩ := h
      rw [List.getElem?_map] at hx
      obtain ⟨dk, hdk, rfl⟩ := Option.map_eq_some_iff.mp hx
      have hi : i < 50 := by have := (List.getElem?_eq_some_iff.mp hdk).1; omega
      have hkk : dk ∈ keys (fireAll (l.take i) st.dishes) := by rw [keys_fireAll]; exact hkl dk (List.mem_of_getElem? hdk)
      obtain ⟨x, hxx⟩ := aget_some_iff.mpr hkk
      have ndk : (keys (fireAll (l.take i) st.dishes)).Nodup := by rw [keys_fireAll]; exact ok.ndD
      have pne : ∀ lb, Dom { st with dishes := fireAll (l.take i) st.dishes } lb → p ≠ adr A lb := fun lb hlb => W.ne (by cases lb <;> first | trivial | (simp only [Dom, keys_fireAll] at hlb; exact hlb)) hp
      walk_at "go"
      refine w_d W7.wr.q ?_
      walk_at "go"
      refine g_dish W7.wr.q hxx ?_
      walk_at "go"
      refine ⟨A.row dk, _, rfl, DPut.k (k := Sum.inr "state") (W7.wr.row (dk, x) (aget_mem hxx)) (szl (by show 6 < 100000; decide)), ?_⟩
      have e : putK (rowK A (dk, x)) (Sum.inr "state") (.str "fired") = rowK A (dk, { x with state := "fired" }) := by kernel_rfl
      rw [e]
      have t8 : TEx H' (upd H' (A.row dk) (.dK (rowK A (dk, { x with state := "fired" })))) := W7.tex_at (l := .row dk) hkk _
      have W8 := W7.putS ndk hxx "fired"
      have h8 : (upd H' (A.row dk) (.dK (rowK A (dk, { x with state := "fired" })))) p = some (.lst (l.map V.int)) := by rw [upd_ne (show p ≠ A.row dk from pne (.row dk) hkk)]; exact h7
      have W8 : WO H0 (upd H' (A.row dk) (.dK (rowK A (dk, { x with state := "fired" })))) A { st with dishes := fireAll (l.take (i + 1)) st.dishes } (n + 1 + i) := by
        rw [take_snoc hdk, ← fireAll_snoc]; exact W8
      generalize upd H' (A.row dk) (.dK (rowK A (dk, { x with state := "fired" }))) = H8 at t8 W8 h8 ⊢
      have hk8 : dk ∈ keys ({ st with dishes := fireAll (l.take (i + 1)) st.dishes } : St).dishes := by show dk ∈ keys (fireAll _ _); rw [keys_fireAll]; exact hkl dk (List.mem_of_getElem? hdk)
      have hh8 : H8 A.h = some (.dK (histK A (fireAll (l.take (i + 1)) st.dishes))) := by obtain ⟨o, ho, c⟩ := W8.live .h trivial; rw [show o = _ from c] at ho; exact ho
      obtain ⟨us, hus, husl, _⟩ := W8.addH hk8 .non
      walk_at "go"
      refine w_h W8.wr.q ?_
      walk_at "go"
      refine gI (.inl hh8) (hist_get hk8) ⟨ty_lst hus, ?_⟩
      walk_at "go"
      refine i_tup ?_
      walk_at "go"
      refine ⟨sz (by simp), fun tp htp => ?_⟩
      have e9 := Ex.new (o := HO.tup [nv, .str "fired"]) htp
      have W9 := W8.grow e9
      generalize upd H8 tp (HO.tup [nv, .str "fired"]) = H9 at e9 W9 ⊢
      walk_at "go"
      obtain ⟨vs, hvs, hvl, W10⟩ := W9.addH hk8 (.ref tp)
      refine ⟨A.hist dk, vs, _, rfl, rfl, hvs, szl (by omega), ?_⟩
      refine ⟨⟨_, rfl⟩, ((t7.trans t8).trans e9.tex).trans (W9.tex_at (l := .hist dk) hk8 _), ?_, W10⟩
      rw [upd_ne (show p ≠ A.hist dk from pne (.hist dk) hkk)]
      exact e9 _ _ h8
    · obtain ⟨⟨z, rfl⟩, t7, h7, W7⟩ := h
      refine q H' A t7 rfl ?_
      rw [List.length_map, List.take_of_length_le (Nat.le_refl _)] at W7
      have : doIt hs st m (.rush t c) = { st with dishes := fireAll l st.dishes } := by
        show ({ st with dishes := _ } : St) = _
        refine congrArg (fun z => ({ st with dishes := z } : St)) (List.map_congr_left fun q1 hq1 => ?_)
        have hiff : q1.1 ∈ l ↔ isAsked st t c q1.2 = true := by
          rw [hl]
          have := aget_of_mem ok.ndD (show (q1.1, q1.2) ∈ st.dishes from hq1)
          constructor
          · rintro ⟨x, hx, h⟩; rw [this] at hx; cases hx; exact h
          · intro h; exact ⟨_, this, h⟩
        by_cases e : q1.1 ∈ l
        · rw [if_pos e, if_pos (hiff.mp e)]
        · rw [if_neg e, if_neg fun z => e (hiff.mpr z)]
      rw [this]
      exact W7.up (by omega)
abbrev N_do_even : List Str := ["house", "world", "name", "deed", "owed", "parts", "seat", "part"]
abbrev P_do_even : List Str := ["house", "world", "name", "deed"]
theorem sc_do_even : FnScope N_do_even P_do_even (defScope s_do_even) := ⟨rfl, rfl, rfl, by decide +kernel, rfl, by decide +kernel, by decide +kernel⟩
theorem ok_do_even (d : Dn K mg d_do_even) (T : Tb w K mg) (c_all_owed : Cal P w K mg base 4 "all_owed" [] (sp_all_owed K)) (c_deal : Cal P w K mg base 2 "deal" [] sp_deal) (c_shift : Cal P w K mg base 1 "shift" [] sp_shift) : Cal P w K mg base 5 "do_even" [] (sp_do K fun dd => ∃ ss, dd = .even ss) := by
  refine d.cal sc_do_even (fun vs H Q E h => ?_) (fun f fd F => ⟨[], .nil, F.bindsN fun _ _ _ _ _ _ us hl => match us, hl with | [_, _, _, _], _ => rfl⟩) fun f cdv A outer s H vs Q E hr h => have hu := hu_of hr; ⟨_, PSs.nox (pss_cons (ps_set (i := 4) sc_do_even.nd rfl (Or.inr rfl) (pe_cl c_all_owed hr (pa_cons (pv 1) pa_nil))) (pss_cons (ps_set (i := 5) sc_do_even.nd rfl (Or.inl rfl) (pe_cl c_deal hr (pa_cons (pe_callB (cr_sum rfl) rfl T.sum boot_sum (pa_cons (pe_lc rfl sc_do_even.nd (pi_tup (pe_ix ix_tup (pv 3) pe_int (fun _ _ => rfl))) (blkOk_by (own := [("seat", 6)]) (N := N_do_even) (sc := defScope s_do_even) (by decide +kernel)) (fun _ _ _ _ _ => (pg_name (i := 6) sc_do_even.nd rfl (Or.inl rfl))) (fun _ _ _ _ _ => pts_nil) (fun _ _ _ _ _ => (pe_dget hu (pv 4) (pv 6) (fun _ _ => rfl)))) pa_nil)) (pa_cons (pe_callB call_len_seq rfl T.len boot_len (pa_cons (pe_ix ix_tup (pv 3) pe_int (fun _ _ => rfl)) pa_nil)) (pa_cons (pe_dget hu (pv 1) pe_str (fun _ _ => rfl)) pa_nil))))) (pss_cons (ps_for PassesOwn.never rfl (RZ.pi_zipA rfl T.zip (pa_cons (pe_ix ix_tup (pv 3) pe_int (fun _ _ => rfl)) (pa_cons (pv 5) pa_nil))) (pg_tup (n := 2) rfl (pgs_cons (pg_name (i := 6) sc_do_even.nd rfl (Or.inl rfl)) (pgs_cons (pg_name (i := 7) sc_do_even.nd rfl (Or.inl rfl)) pgs_nil))) (pss_one (ps_if (pt_cmpR op_ne (pv 7) (pe_dget hu (pv 4) (pv 6) (fun _ _ => rfl)) (nomark _)) (pss_one (ps_expr (pe_cl c_shift hr (pa_cons (pv 1) (pa_cons (pv 2) (pa_cons (pv 6) (pa_cons pe_str (pa_cons (pe_op op_sub (pv 7) (pe_dget hu (pv 4) (pv 6) (fun _ _ => rfl))) pa_nil)))))))) pss_nil))) (pss_one (ps_daug hu (pv 1) pe_str pe_int in_add (fun _ _ _ => rfl)))))), ?_⟩
  · obtain ⟨_, _, _, _, _, _, _, _, _, _, _, rfl, _⟩ := h; rfl
  · obtain ⟨H0, hv, hs, A, st, nv, m, num, dv, dd, n, rfl, hh, hn, hd, W, ok, hok, m0, hnn, hw, pre, ⟨ss, rfl⟩, q⟩ := h
    obtain ⟨sne, slen⟩ := pre
    have hall : ss.all (sits st) = true := by
      simp only [why] at hw
      by_cases e : ss.all (sits st) = true
      · exact e
      · rw [if_neg e] at hw; exact absurd hw (by decide)
    have hkeys : ∀ z ∈ ss, z ∈ keys st.tables := fun z hz => by
      obtain ⟨t, _, h⟩ := sits_key (List.all_eq_true.mp hall z hz); exact h
    have hao : allOwed st = penF st.tables (owed st) := rfl
    walk_at "go"
    refine ⟨A, st, rfl, W.wr, ok, fun H1 p e1 hp h1 => ?_⟩
    walk_at "go"
    refine ix_is (i := 1) (Is.mono e1.tex _ hd) rfl fun x hx => ?_
    obtain ⟨a, rfl, ha⟩ := Is.strs hx
    refine ⟨a, rfl, ⟨_, SqT.of ha⟩, fun D hD => lc_tupE ss (fun _ => true) (fun z => .int (owed st z)) (by rw [List.length_map]) (SqT.of ha) hD (by omega) (fun i x z H' Kt Ks hx hz e3 ht _ => ?_) fun H3 e3 h3 => ?_⟩
    · rw [List.getElem?_map, hz] at hx
      cases hx
      walk_at "go"
      refine gS (.inl (e3 _ _ h1)) (by rw [pen_get, hao, penF_get (hkeys z (List.mem_of_getElem? hz))]; rfl) ?_
      exact ht rfl _ (Ex.refl _)
    walk_at "go"
    rw [filter_all] at h3
    have e13 := e1.trans e3
    refine ⟨D, ss.map (owed st), rfl, SqL.of (by rw [h3, List.map_map]; rfl), ?_⟩
    walk_at "go"
    refine ix_is (i := 1) (Is.mono e13.tex _ hd) rfl fun x hx => ?_
    obtain ⟨a', rfl, ha'⟩ := Is.strs hx
    walk_at "go"
    refine ⟨_, _, rfl, .inr (SqT.of ha'), ?_⟩
    walk_at "go"
    have W3 := W.grow e13
    refine w_e W3.wr.q ?_
    walk_at "go"
    rw [List.length_map]
    refine ⟨_, _, _, rfl, List.length_pos_iff.mpr sne, by omega, fun H4 tp e4 h4 => ?_⟩
    walk_at "go"
    have e14 := e13.trans e4
    have W4 := W.grow e14
    have h4p : H4 p = some (.dK (penK (allOwed st))) := (e3.trans e4) _ _ h1
    have pne : ∀ lb, Dom st lb → p ≠ adr A lb := fun lb hlb => W.ne hlb hp
    generalize hps : dealL (ss.map (owed st)).sum ss.length st.evens = ps at h4
    have hpl : ps.length = ss.length := by rw [← hps, dealL_len]
    refine ix_is (i := 1) (Is.mono e14.tex _ hd) rfl fun x hx => ?_
    obtain ⟨a3, rfl, ha3⟩ := Is.strs hx
    walk_at "go"
    refine ⟨a3, tp, _, _, rfl, .inr ⟨SqT.of ha3, SqT.of h4, RZ.for_zipT (xs := ss.map V.str) (ys := ps.map V.int) (by rw [List.length_map, List.length_map, hpl]) (fun i σ H' => (∃ z1 z2, σ = [some hv, some (.ref A.w), some nv, some dv, some (.ref p), some (.ref tp), z1, z2]) ∧ TEx H4 H' ∧ H' p = some (.dK (penK (allOwed st))) ∧
      (evenMoved (owed st) st.moved ((ss.zip ps).take i)).length ≤ 100 + i ∧ WO H0 H' A { st with moved := evenMoved (owed st) st.moved ((ss.zip ps).take i) } (n + i)) ?_ (fun i σ H' h => ⟨SqT.of (h.2.1 _ _ ha3), SqT.of (h.2.1 _ _ h4)⟩) (fun i x y Tp σ H' hx hy h hT => ?_) fun σ H' h => ?_⟩⟩
    · refine ⟨⟨_, _, rfl⟩, TEx.refl _, h4p, ?_, ?_⟩
      · simp only [List.take_zero, evenMoved]; exact ok.fewM
      · simp only [List.take_zero, evenMoved]; exact W4
    · obtain ⟨⟨z1, z2, rfl⟩, t5, h5, l5, W5⟩ := h
      rw [List.getElem?_map] at hx hy
      obtain ⟨z, hz, rfl⟩ := Option.map_eq_some_iff.mp hx
      obtain ⟨v, hv', rfl⟩ := Option.map_eq_some_iff.mp hy
      have hi : i < 12 := by have := (List.getElem?_eq_some_iff.mp hz).1; omega
      have hzv : (ss.zip ps)[i]? = some (z, v) := List.getElem?_zip_eq_some.mpr ⟨hz, hv'⟩
      have hzk := hkeys z (List.mem_of_getElem? hz)
      have e6 := Ex.new (o := HO.tup [V.str z, V.int v]) hT
      have h6T : (upd H' Tp (HO.tup [V.str z, V.int v])) Tp = some (.tup [.str z, .int v]) := upd_same
      have W6 := W5.grow e6
      have h6p := e6 _ _ h5
      generalize upd H' Tp (HO.tup [V.str z, V.int v]) = H6 at e6 h6T W6 h6p ⊢
      refine ⟨Tp, _, rfl, SqT.of h6T, rfl, ?_⟩
      walk_at "go"
      have hgo : valV (penK (allOwed st)) (Sum.inr z) = some (.int (owed st z)) := by rw [pen_get, hao, penF_get hzk]; rfl
      refine gS (.inl h6p) hgo ?_
      walk_at "go"
      refine i_ite (fun e => ?_) fun e => ?_
      · have e : ¬ v = owed st z := by simpa using e
        walk_at "go"
        refine gS (.inl h6p) hgo ?_
        walk_at "go"
        refine ⟨H0, A, _, nv, z, _, v - owed st z, n + i, rfl, W6, Nat.le_trans l5 (by omega), by omega, fun H7 t7 W7 k7 => ?_⟩
        refine ⟨⟨_, _, rfl⟩, (t5.trans e6.tex).trans t7, k7 _ _ h6p (pne .m trivial) (pne .r trivial), ?_, ?_⟩
        · rw [take_snoc hzv, evenMoved_snoc, if_neg e]
          exact Nat.le_trans (shift_len _ _ _) (by omega)
        · rw [take_snoc hzv, evenMoved_snoc, if_neg e]
          exact W7
      · have e : v = owed st z := by simpa using e
        walk_at "go"
        refine ⟨⟨_, _, rfl⟩, t5.trans e6.tex, h6p, ?_, ?_⟩
        · rw [take_snoc hzv, evenMoved_snoc, if_pos e]; omega
        · rw [take_snoc hzv, evenMoved_snoc, if_pos e]
          exact W6.up (by omega)
    · obtain ⟨⟨z1, z2, rfl⟩, t5, h5, l5, W5⟩ := h
      have hzl : (ss.zip ps).length ≤ (ss.map V.str).length := by rw [List.length_zip, List.length_map]; omega
      rw [List.take_of_length_le hzl] at l5 W5
      walk_at "go"
      have W5w := W5.wr.w
      refine ⟨A.w, .int st.evens, rfl, .inl ⟨_, Sum.inr "evens", .inl W5w, rfl, by kernel_rfl⟩, ?_⟩
      walk_at "go"
      refine ⟨_, DPut.k (k := Sum.inr "evens") W5w (szl (by show 9 < 100000; decide)), ?_⟩
      have e : putK (worldK A st.evens) (Sum.inr "evens") (.int (st.evens + 1)) = worldK A (st.evens + 1) := by kernel_rfl
      show Q .non (upd H' A.w (.dK (putK (worldK A st.evens) (Sum.inr "evens") (.int (st.evens + 1)))))
      rw [e]
      have W6 := W5.putE (st.evens + 1)
      refine q _ A ((e14.tex.trans t5).trans (W5.tex_at (l := .w) trivial _)) rfl ?_
      have hdo : doIt hs st m (.even ss) = { st with moved := evenMoved (owed st) st.moved (ss.zip ps), evens := st.evens + 1 } := by rw [← hps]; rfl
      rw [hdo]
      exact W6.up (by rw [List.length_map]; omega)
end

def newA (A : WA) (d : Int) (p q sa : Addr) (nv : V) : WA := { A with row := fun k => if k = d then p else A.row k, hist := fun k => if k = d then q else A.hist k, st := fun k => if k = d then sa else A.st k, nm := fun k => if k = d then nv else A.nm k }
def rowK0 (sa : Addr) (item : Str) (c cost : Int) (nv : V) : List (Key × V) := [(.inr "seats", .ref sa), (.inr "item", .str item), (.inr "course", .int c), (.inr "cost", .int cost), (.inr "state", .str "asked"), (.inr "name", nv)]
theorem ask_wo {H0 H H6 : Hp} {A : WA} {s : St} {n : Nat} {d : Int} {x : Dish} {p q sa : Addr} {nv : V} (W : WO H0 H A s n) (hd : d ∉ keys s.dishes) (hp : H p = none) (hq : H q = none) (hpq : p ≠ q)
    (ex : ∀ a o, H a = some o → a ≠ A.d → a ≠ A.h → H6 a = some o) (h6p : H6 p = some (.dK (rowK (newA A d p q sa nv) (d, x)))) (h6q : ∃ xs, H6 q = some (.lst xs) ∧ xs.length ≤ 1)
    (h6d : H6 A.d = some (.dK (dishK A s.dishes ++ [(Sum.inl d, .ref p)]))) (h6h : H6 A.h = some (.dK (histK A s.dishes ++ [(Sum.inl d, .ref q)]))) (h6s : H6 sa = some (.tup (x.seats.map V.str))) :
    WO H0 H6 (newA A d p q sa nv) { s with dishes := s.dishes ++ [(d, x)] } (n + 1) := by
  have hk : ∀ r ∈ s.dishes, ¬ r.1 = d := fun r hr e => hd (by rw [← e]; exact key_mem hr)
  have hdm : ∀ lb, Dom { s with dishes := s.dishes ++ [(d, x)] } lb → Dom s lb ∨ lb = .row d ∨ lb = .hist d := fun lb h => by
    cases lb with
    | row k =>
      have h : k ∈ keys (s.dishes ++ [(d, x)]) := h
      unfold keys at h
      rw [List.map_append] at h
      rcases List.mem_append.mp h with h | h
      · exact .inl h
      · exact .inr (.inl (by rw [List.mem_singleton.mp h]))
    | hist k =>
      have h : k ∈ keys (s.dishes ++ [(d, x)]) := h
      unfold keys at h
      rw [List.map_append] at h
      rcases List.mem_append.mp h with h | h
      · exact .inl h
      · exact .inr (.inr (by rw [List.mem_singleton.mp h]))
    | _ => exact .inl trivial
  have ha : ∀ lb, Dom s lb → adr (newA A d p q sa nv) lb = adr A lb := fun lb h => by
    cases lb with
    | row k => exact if_neg fun e => hd (by rw [← e]; exact h)
    | hist k => exact if_neg fun e => hd (by rw [← e]; exact h)
    | _ => rfl
  have hrow : adr (newA A d p q sa nv) (.row d) = p := if_pos rfl
  have hhist : adr (newA A d p q sa nv) (.hist d) = q := if_pos rfl
  have t : TEx H H6 := fun a xs h => ex a _ h (fun e => by rw [e, W.wr.d] at h; cases h) fun e => by
    obtain ⟨o, ho, c⟩ := W.live .h trivial
    have ho : H A.h = some o := ho
    rw [e, ho, show o = _ from c] at h; cases h
  have same : ∀ (f g : Int → Addr) (c : Addr), (∀ k, g k = if k = d then c else f k) → (s.dishes ++ [(d, x)]).map (fun r => ((Sum.inl r.1 : Key), V.ref (g r.1))) = s.dishes.map (fun r => ((Sum.inl r.1 : Key), V.ref (f r.1))) ++ [(Sum.inl d, V.ref c)] := fun f g c hg => by
    rw [List.map_append]
    congr 1
    · refine List.map_congr_left fun r hr => ?_
      rw [hg, if_neg (hk r hr)]
    · simp [hg]
  refine ⟨fun a o h => ex a o (W.ex a o h) (fun e => ?_) fun e => ?_, fun l1 l2 d1 d2 e => ?_, fun l1 d1 => ?_, fun l1 d1 => ?_, fun r hr => ?_⟩
  · have := W.fresh .d trivial; rw [e] at h; rw [show H0 A.d = none from this] at h; cases h
  · have := W.fresh .h trivial; rw [e] at h; rw [show H0 A.h = none from this] at h; cases h
  · rcases hdm l1 d1 with d1 | rfl | rfl <;> rcases hdm l2 d2 with d2 | rfl | rfl
    · rw [ha l1 d1, ha l2 d2] at e; exact W.inj _ _ d1 d2 e
    · rw [ha l1 d1, hrow] at e; exact absurd e.symm (W.ne d1 hp)
    · rw [ha l1 d1, hhist] at e; exact absurd e.symm (W.ne d1 hq)
    · rw [ha l2 d2, hrow] at e; exact absurd e (W.ne d2 hp)
    · rfl
    · rw [hrow, hhist] at e; exact absurd e hpq
    · rw [ha l2 d2, hhist] at e; exact absurd e (W.ne d2 hq)
    · rw [hrow, hhist] at e; exact absurd e.symm hpq
    · rfl
  · rcases hdm l1 d1 with d1 | rfl | rfl
    · rw [ha l1 d1]; exact W.fresh _ d1
    · rw [hrow]; exact W.ex.back hp
    · rw [hhist]; exact W.ex.back hq
  · rcases hdm l1 d1 with d1 | rfl | rfl
    · obtain ⟨o, ho, c⟩ := W.live l1 d1
      rw [ha l1 d1]
      by_cases e1 : l1 = .d
      · subst e1
        exact ⟨_, h6d, congrArg HO.dK (same A.row (newA A d p q sa nv).row p fun _ => rfl).symm⟩
      by_cases e2 : l1 = .h
      · subst e2
        exact ⟨_, h6h, congrArg HO.dK (same A.hist (newA A d p q sa nv).hist q fun _ => rfl).symm⟩
      refine ⟨o, ex _ _ ho (fun z => e1 (W.inj _ _ d1 trivial z)) (fun z => e2 (W.inj _ _ d1 trivial z)), ?_⟩
      cases l1 with
      | d => exact absurd rfl e1
      | h => exact absurd rfl e2
      | i => obtain ⟨xs, h1, h2⟩ := c; exact ⟨xs, h1, IsAll.mono t _ h2⟩
      | r => obtain ⟨xs, h1, h2⟩ := c; exact ⟨xs, h1, by omega⟩
      | f => obtain ⟨xs, h1, h2⟩ := c; exact ⟨xs, h1, by omega⟩
      | hist k => obtain ⟨xs, h1, h2⟩ := c; exact ⟨xs, h1, by omega⟩
      | row k =>
        intro y hy
        have hkd : k ≠ d := fun e => hd (by rw [← e]; exact d1)
        rcases List.mem_append.mp hy with hy | hy
        · rw [c y hy]
          unfold rowK newA
          simp only [if_neg hkd]
        · exact absurd (congrArg Prod.fst (List.mem_singleton.mp hy)) hkd
      | _ => exact c
    · rw [hrow]
      refine ⟨_, h6p, fun y hy => ?_⟩
      rcases List.mem_append.mp hy with hy | hy
      · exact absurd (key_mem hy) hd
      · rw [List.mem_singleton.mp hy]
    · rw [hhist]
      obtain ⟨xs, h1, h2⟩ := h6q
      exact ⟨_, h1, xs, rfl, by omega⟩
  · rcases List.mem_append.mp hr with hr | hr
    · rw [show (newA A d p q sa nv).st r.1 = A.st r.1 from if_neg (hk r hr)]
      exact t _ _ (W.st r hr)
    · rw [List.mem_singleton.mp hr, show (newA A d p q sa nv).st (d, x).1 = sa from if_pos rfl]
      exact h6s
section
variable {P : Program} {w : World} {K : PySem.W.Frag} {mg : Str → Option Value} {base : Heap} {k : Nat}
abbrev N_do_ask : List Str := ["house", "world", "name", "deed", "pence", "row"]
abbrev P_do_ask : List Str := ["house", "world", "name", "deed"]
theorem sc_do_ask : FnScope N_do_ask P_do_ask (defScope s_do_ask) := ⟨rfl, rfl, rfl, by decide +kernel, rfl, by decide +kernel, by decide +kernel⟩
theorem ok_do_ask (d : Dn K mg d_do_ask) (T : Tb w K mg) (c_cost : Cal P w K mg base 3 "cost" [] (sp_cost K)) : Cal P w K mg base 4 "do_ask" [] (sp_do K fun dd => ∃ d item c ss, dd = .ask d item c ss) := by
  refine d.cal sc_do_ask (fun vs H Q E h => ?_) (fun f fd F => ⟨[], .nil, F.bindsN fun _ _ _ _ _ _ us hl => match us, hl with | [_, _, _, _], _ => rfl⟩) fun f cdv A outer s H vs Q E hr h => have hu := hu_of hr; ⟨_, PSs.nox (pss_cons (ps_set (i := 4) sc_do_ask.nd rfl (Or.inl rfl) (pe_cl c_cost hr (pa_cons (pe_ix ix_tup (pv 0) pe_int (fun _ _ => rfl)) (pa_cons (pe_ix ix_tup (pv 0) pe_int (fun _ _ => rfl)) (pa_cons (pe_ix ix_tup (pv 3) pe_int (fun _ _ => rfl)) (pa_cons (pe_ix ix_tup (pv 2) pe_int (fun _ _ => rfl)) pa_nil)))))) (pss_cons (ps_set (i := 5) sc_do_ask.nd rfl (Or.inl rfl) (pe_disp (pps_cons pe_str (pe_ix ix_tup (pv 3) pe_int (fun _ _ => rfl)) (pps_cons pe_str (pe_ix ix_tup (pv 3) pe_int (fun _ _ => rfl)) (pps_cons pe_str (pe_ix ix_tup (pv 3) pe_int (fun _ _ => rfl)) (pps_cons pe_str (pv 4) (pps_cons pe_str pe_str (pps_cons pe_str (pv 2) pps_nil)))))) (by rfl) (by rfl) (fun z => by cases z) (by decide))) (pss_cons (ps_dput hu (pe_dget hu (pv 1) pe_str (fun _ _ => rfl)) (pe_ix ix_tup (pv 3) pe_int (fun _ _ => rfl)) (pv 5) rfl) (pss_one (ps_dput hu (pe_dget hu (pv 1) pe_str (fun _ _ => rfl)) (pe_ix ix_tup (pv 3) pe_int (fun _ _ => rfl)) (pe_lst (pa_cons (pe_tup (pa_cons (pv 2) (pa_cons pe_str pa_nil))) pa_nil)) rfl))))), ?_⟩
  · obtain ⟨_, _, _, _, _, _, _, _, _, _, _, rfl, _⟩ := h; rfl
  · obtain ⟨H0, hv, hs, A, st, nv, m, num, dv, dd, n, rfl, hh, hn, hd, W, ok, hok, m0, hnn, hw, pre, ⟨d, item, c, ss, rfl⟩, q⟩ := h
    have hnew : aget st.dishes d = none ∧ hasItem hs item = true := by
      simp only [why] at hw
      cases e : aget st.dishes d with
      | some x => rw [e, if_pos (by rfl)] at hw; exact absurd hw (by decide)
      | none =>
        refine ⟨rfl, ?_⟩
        rw [e, if_neg (by decide)] at hw
        by_cases e2 : hasItem hs item = true
        · exact e2
        · rw [if_neg e2] at hw; exact absurd hw (by decide)
    obtain ⟨hnone, hitem⟩ := hnew
    have hdk : d ∉ keys st.dishes := aget_none.mp hnone
    have hrow : ∃ r, rowAt hs.menu item = some r := by
      unfold hasItem at hitem
      obtain ⟨r, hr1, hr2⟩ := List.any_eq_true.mp hitem
      unfold rowAt
      cases e : hs.menu.find? fun r => decide (r.1 = item) with
      | some r => exact ⟨r, rfl⟩
      | none => exact absurd (List.find?_eq_none.mp e r hr1) (by simpa using hr2)
    obtain ⟨r, hrow⟩ := hrow
    walk_at "go"
    refine ix_is (i := 0) hh rfl fun mv hm => ?_
    walk_at "go"
    refine ix_is (i := 1) hh rfl fun ov ho => ?_
    walk_at "go"
    refine ix_isS (i := 2) hd rfl ?_
    walk_at "go"
    refine ix_isI (i := 0) hn rfl ?_
    walk_at "go"
    refine ⟨mv, ov, hs, item, m, r, rfl, hm, ho, hrow, hok, m0, fun H1 e1 => ?_⟩
    have hd1 := Is.mono e1.tex _ hd
    have W1 := W.grow e1
    walk_at "go"
    intro p hp
    have e2 : Ex H1 (upd H1 p (.dK [])) := Ex.new hp
    have hd2 := Is.mono e2.tex _ hd1
    walk_at "go"
    refine ix_is (i := 4) hd2 rfl fun sv hsv => ?_
    obtain ⟨sa, rfl, hsa⟩ := Is.strs hsv
    walk_at "go"
    refine ix_isS (i := 2) hd2 rfl ?_
    walk_at "go"
    refine ix_isI (i := 3) hd2 rfl ?_
    walk_at "go"
    refine ⟨upd_same, (rowK0 sa item c (costAt hs item m) nv), rfl, by show 6 ≤ 15; decide, ?_⟩
    have hmk : mergeK [] (rowK0 sa item c (costAt hs item m) nv) =
      (rowK0 sa item c (costAt hs item m) nv) := by kernel_rfl
    rw [hmk]
    have e3 : Ex H1 (upd (upd H1 p (.dK [])) p (.dK (rowK0 sa item c (costAt hs item m) nv))) := Ex.mut e2 hp
    have h3p : (upd (upd H1 p (.dK [])) p (.dK (rowK0 sa item c (costAt hs item m) nv))) p = some (.dK (rowK0 sa item c (costAt hs item m) nv)) := upd_same
    have h3s : (upd (upd H1 p (.dK [])) p (.dK (rowK0 sa item c (costAt hs item m) nv))) sa = some (.tup (ss.map V.str)) := by
      have hne : sa ≠ p := fun z => by rw [z, upd_same] at hsa; cases hsa
      rw [upd_ne hne]; exact hsa
    generalize upd (upd H1 p (.dK [])) p (.dK (rowK0 sa item c (costAt hs item m) nv)) = H3 at e3 h3p h3s ⊢
    clear e2 hd2 hsa hsv
    have hd3 := Is.mono e3.tex _ hd1
    have W3 := W1.grow e3
    walk_at "go"
    refine w_d W3.wr.q ?_
    walk_at "go"
    refine ix_isI (i := 1) hd3 rfl ?_
    refine ⟨A.d, _, rfl, DPut.k (k := Sum.inl d) W3.wr.d (szl (by unfold dishK; rw [List.length_map]; have := ok.fewD; omega)), ?_⟩
    have hput : putK (dishK A st.dishes) (Sum.inl d) (.ref p) = dishK A st.dishes ++ [(Sum.inl d, .ref p)] := putK_new _ (by rw [dish_get, hnone]; rfl)
    rw [hput]
    have t4 : TEx H3 (upd H3 A.d (.dK (dishK A st.dishes ++ [(Sum.inl d, .ref p)]))) := W3.tex_at (l := .d) trivial _
    have k4 : ∀ a, a ≠ A.d → (upd H3 A.d (.dK (dishK A st.dishes ++ [(Sum.inl d, .ref p)]))) a = H3 a := fun a h => upd_ne h
    have h4d : (upd H3 A.d (.dK (dishK A st.dishes ++ [(Sum.inl d, .ref p)]))) A.d = some (.dK (dishK A st.dishes ++ [(Sum.inl d, .ref p)])) := upd_same
    generalize upd H3 A.d (.dK (dishK A st.dishes ++ [(Sum.inl d, .ref p)])) = H4 at t4 k4 h4d ⊢
    have nwd : A.w ≠ A.d := fun z => by have := W.inj .w .d trivial trivial z; cases this
    have nhd : A.h ≠ A.d := fun z => by have := W.inj .h .d trivial trivial z; cases this
    have npd : p ≠ A.d := W1.ne (l := .d) trivial hp
    have nph : p ≠ A.h := W1.ne (l := .h) trivial hp
    have h4w : H4 A.w = some (.dK (worldK A st.evens)) := by rw [k4 _ nwd]; exact W3.wr.w
    have h3h : H3 A.h = some (.dK (histK A st.dishes)) := by obtain ⟨o, ho, c⟩ := W3.live .h trivial; rw [show o = _ from c] at ho; exact ho
    have h4h : H4 A.h = some (.dK (histK A st.dishes)) := by rw [k4 _ nhd]; exact h3h
    have hd4 := Is.mono t4 _ hd3
    walk_at "go"
    refine i_lst ?_
    walk_at "go"
    refine i_tup ?_
    walk_at "go"
    refine ⟨sz (by simp), fun tp htp => ?_⟩
    have e5 := Ex.new (o := HO.tup [nv, .str "asked"]) htp
    generalize upd H4 tp (HO.tup [nv, .str "asked"]) = H5 at e5 ⊢
    walk_at "go"
    refine ⟨sz (by simp), fun lp hlp => ?_⟩
    have e6 := Ex.new (o := HO.lst [.ref tp]) hlp
    have h6l : (upd H5 lp (.lst [.ref tp])) lp = some (.lst [.ref tp]) := upd_same
    generalize upd H5 lp (.lst [.ref tp]) = H6 at e6 h6l ⊢
    walk_at "go"
    have e46 := e5.trans e6
    refine gS (.inl (e46 _ _ h4w)) (v := .ref A.h) (by kernel_rfl) ?_
    walk_at "go"
    refine ix_isI (i := 1) (Is.mono e46.tex _ hd4) rfl ?_
    refine ⟨A.h, _, rfl, DPut.k (k := Sum.inl d) (e46 _ _ h4h) (szl (by unfold histK; rw [List.length_map]; have := ok.fewD; omega)), ?_⟩
    have hput2 : putK (histK A st.dishes) (Sum.inl d) (.ref lp) = histK A st.dishes ++ [(Sum.inl d, .ref lp)] := putK_new _ (by
      have : ∀ l : List (Int × Dish), d ∉ keys l → valV (histK A l) (Sum.inl d) = none := by
        intro l
        induction l with
        | nil => intro _; rfl
        | cons y l ih =>
          intro hy
          show valV ((Sum.inl y.1, V.ref (A.hist y.1)) :: histK A l) (Sum.inl d) = none
          have hy : d ∉ y.1 :: keys l := hy
          rw [valV_neg fun z => hy (by rw [inl_inj _ _ z]; exact List.mem_cons_self)]
          exact ih fun z => hy (List.mem_cons_of_mem _ z)
      exact this _ hdk)
    have hlp4 : H4 lp = none := e5.back hlp
    have hlp3 : H3 lp = none := by
      have hne : lp ≠ A.d := fun z => by rw [z, h4d] at hlp4; cases hlp4
      rw [← k4 _ hne]; exact hlp4
    have nlp : p ≠ lp := fun z => by rw [← z, h3p] at hlp3; cases hlp3
    have nlh : lp ≠ A.h := W3.ne (l := .h) trivial hlp3
    have hex : ∀ a o, H a = some o → a ≠ A.d → a ≠ A.h → (upd H6 A.h (.dK (putK (histK A st.dishes) (Sum.inl d) (.ref lp)))) a = some o := fun a o h n1 n2 => by
      rw [upd_ne n2]
      refine e46 _ _ ?_
      rw [k4 _ n1]
      exact e3 _ _ (e1 _ _ h)
    have hdo : doIt hs st m (.ask d item c ss) = { st with dishes := st.dishes ++ [(d, ⟨ss, item, c, costAt hs item m, "asked"⟩)] } := by
      show ({ st with dishes := aput st.dishes d _ } : St) = _
      rw [aput_new _ hdk]
    have nsd : sa ≠ A.d := fun z => by rw [z, W3.wr.d] at h3s; cases h3s
    have nsh : sa ≠ A.h := fun z => by rw [z, h3h] at h3s; cases h3s
    refine q _ (newA A d p lp sa nv) ?_ rfl ?_
    · exact fun a xs h => hex a _ h (fun z => by rw [z, W.wr.d] at h; cases h) fun z => by rw [z] at h; rw [e3 _ _ (e1 _ _ h)] at h3h; cases h3h
    · rw [hdo]
      refine WO.up (ask_wo (x := ⟨ss, item, c, costAt hs item m, "asked"⟩) W hdk (e1.back hp) (e1.back (e3.back hlp3)) nlp hex ?_ ⟨[.ref tp], ?_, by simp⟩ ?_ ?_ ?_) (by omega)
      · rw [upd_ne nph, e46 _ _ (show H4 p = _ from by rw [k4 _ npd]; exact h3p)]
        unfold rowK newA rowK0
        simp only [if_true]
      · rw [upd_ne nlh]; exact h6l
      · rw [upd_ne (Ne.symm nhd)]; exact e46 _ _ h4d
      · rw [upd_same, hput2]
      · rw [upd_ne nsh]; exact e46 _ _ (by rw [k4 _ nsd]; exact h3s)
end

/-- each new address is another -/
theorem nd_new {l : List Addr} {H : Hp} {a : Addr} (nd : l.Nodup) (h : ∀ x ∈ l, ∃ o, H x = some o) (ha : H a = none) : (l ++ [a]).Nodup := nd_snoc nd fun z => by
  obtain ⟨o, ho⟩ := h a z
  rw [ho] at ha; cases ha
theorem live_new {l : List Addr} {H : Hp} {a : Addr} {o : HO} (h : ∀ x ∈ l, ∃ o, H x = some o) (ha : H a = none) : ∀ x ∈ l ++ [a], ∃ o', (upd H a o) x = some o' := fun x hx => by
  rcases List.mem_append.mp hx with hx | hx
  · obtain ⟨o', ho⟩ := h x hx
    exact ⟨o', (Ex.new ha) _ _ ho⟩
  · rw [List.mem_singleton.mp hx]; exact ⟨o, upd_same⟩
def A0 (w t d p m r i h f : Addr) : WA := ⟨w, t, d, p, m, r, i, h, f, fun _ => 0, fun _ => 0, fun _ => .non, fun _ => 0⟩
theorem fresh_wo {H H' : Hp} {w t d p m r i h f : Addr} (nd : [w, t, d, p, m, r, i, h, f].Nodup) (ex : Ex H H') (old : ∀ x ∈ [w, t, d, p, m, r, i, h, f], H x = none)
    (hw : H' w = some (.dK (worldK (A0 w t d p m r i h f) 0))) (ht : H' t = some (.dK [])) (hd : H' d = some (.dK [])) (hp : H' p = some (.dK [])) (hm : H' m = some (.dK [])) (hr : H' r = some (.lst []))
    (hi : H' i = some (.lst [])) (hh : H' h = some (.dK [])) (hf : H' f = some (.lst [])) : WO H H' (A0 w t d p m r i h f) {} 0 := by
  refine ⟨ex, fun l l' dl dl' e => ?_, fun l dl => ?_, fun l dl => ?_, fun q hq => by cases hq⟩
  · simp only [List.nodup_cons, List.mem_cons, List.not_mem_nil, or_false, not_or] at nd
    obtain ⟨⟨n1, n2, n3, n4, n5, n6, n7, n8⟩, ⟨m1, m2, m3, m4, m5, m6, m7⟩, ⟨k1, k2, k3, k4, k5, k6⟩, ⟨j1, j2, j3, j4, j5⟩, ⟨g1, g2, g3, g4⟩, ⟨f1, f2, f3⟩, ⟨e1, e2⟩, d1, _⟩ := nd
    cases l <;> cases l' <;> first
      | rfl
      | (exfalso; simp [Dom, keys] at dl; done)
      | (exfalso; simp [Dom, keys] at dl'; done)
      | (exfalso; simp only [adr, A0] at e; first | exact absurd e (by assumption) | exact absurd e.symm (by assumption))
  · cases l <;> first
      | (exfalso; simp [Dom, keys] at dl; done)
      | (refine old _ ?_; simp [adr, A0])
  · cases l with
    | w => exact ⟨_, hw, rfl⟩
    | t => exact ⟨_, ht, rfl⟩
    | d => exact ⟨_, hd, rfl⟩
    | p => exact ⟨_, hp, rfl⟩
    | m => exact ⟨_, hm, rfl⟩
    | r => exact ⟨_, hr, [], rfl, by simp⟩
    | i => exact ⟨_, hi, [], rfl, by simp [IsAll]⟩
    | h => exact ⟨_, hh, rfl⟩
    | f => exact ⟨_, hf, [], rfl, by simp⟩
    | row k => exact absurd dl (by simp [Dom, keys])
    | hist k => exact absurd dl (by simp [Dom, keys])
structure New (H : Hp) (l : List Addr) (H' : Hp) : Prop where
  nd : l.Nodup
  live : ∀ x ∈ l, ∃ o, H' x = some o
  old : ∀ x ∈ l, H x = none
  ex : Ex H H'
theorem New.nil (H : Hp) : New H [] H := ⟨List.nodup_nil, fun x hx => (by cases hx), fun x hx => (by cases hx), Ex.refl _⟩
theorem New.add {H H1 H2 : Hp} {l : List Addr} {a : Addr} {o : HO} (N : New H l H1) (ha : H1 a = none) (e : Ex H1 H2) (h : H2 a = some o) : New H (l ++ [a]) H2 := by
  refine ⟨nd_new N.nd N.live ha, fun x hx => ?_, fun x hx => ?_, N.ex.trans e⟩
  · rcases List.mem_append.mp hx with hx | hx
    · obtain ⟨o', ho⟩ := N.live x hx; exact ⟨o', e _ _ ho⟩
    · rw [List.mem_singleton.mp hx]; exact ⟨o, h⟩
  · rcases List.mem_append.mp hx with hx | hx
    · exact N.old x hx
    · rw [List.mem_singleton.mp hx]; exact N.ex.back ha
theorem New.mut {H H1 : Hp} {l : List Addr} {a : Addr} {o : HO} (N : New H l H1) (ha : a ∈ l) : New H l (upd H1 a o) := by
  refine ⟨N.nd, fun x hx => ?_, N.old, Ex.mut N.ex (N.old a ha)⟩
  by_cases e : x = a
  · subst e; exact ⟨o, upd_same⟩
  · rw [upd_ne e]; exact N.live x hx
def wK1 (t d p m r : Addr) : List (Key × V) := [(.inr "tables", .ref t), (.inr "dishes", .ref d), (.inr "paid", .ref p), (.inr "moved", .ref m), (.inr "evens", .int 0), (.inr "rows", .ref r)]
def wK2 (i h f : Addr) : List (Key × V) := [(.inr "idle", .ref i), (.inr "histories", .ref h), (.inr "firings", .ref f)]
section
variable {P : Program} {w : World} {K : PySem.W.Frag} {mg : Str → Option Value} {base : Heap} {k : Nat}
abbrev N_fresh : List Str := ["world"]
abbrev P_fresh : List Str := []
theorem sc_fresh : FnScope N_fresh P_fresh (defScope s_fresh) := ⟨rfl, rfl, rfl, by decide +kernel, rfl, by decide +kernel, by decide +kernel⟩
def sp_fresh : Sp := fun vs H Q _ => vs = [] ∧ ∀ H' A, WO H H' A {} 0 → Q (.ref A.w) H'
theorem ok_fresh (d : Dn K mg d_fresh) : Cal P w K mg base 1 "fresh" [] sp_fresh := by
  refine d.cal sc_fresh (fun vs H Q E h => ?_) (fun f fd F => ⟨[], .nil, F.bindsN fun _ _ _ _ _ _ us hl => match us, hl with | [], _ => rfl⟩) fun f cdv A outer s H vs Q E hr h => have hu := hu_of hr; ⟨_, PSs.nox (pss_cons (ps_set (i := 0) sc_fresh.nd rfl (Or.inl rfl) (pe_disp (pps_cons pe_str pe_dnewK (pps_cons pe_str pe_dnewK (pps_cons pe_str pe_dnewK (pps_cons pe_str pe_dnewK (pps_cons pe_str pe_int (pps_cons pe_str (pe_lst pa_nil) pps_nil)))))) (by rfl) (by rfl) (fun z => by cases z) (by decide))) (pss_cons (ps_expr (pe_bm PySem.F.plainAttrs_dict PySem.F.slot_dict_update PySem.F.type_dict_update mt_dupd (pv 0) (pa_cons (pe_disp (pps_cons pe_str (pe_lst pa_nil) (pps_cons pe_str pe_dnewK (pps_cons pe_str (pe_lst pa_nil) pps_nil))) (by rfl) (by rfl) (fun z => by cases z) (by decide)) pa_nil))) (pss_one (ps_ret (pv 0))))), ?_⟩
  · obtain ⟨rfl, _⟩ := h; rfl
  · obtain ⟨rfl, q⟩ := h
    walk_at "go"
    intro aw hw
    have e1 : Ex H (upd H aw (.dK [])) := Ex.new hw
    have k1 : (upd H aw (.dK [])) aw = some (.dK []) := upd_same
    have N1 := (New.nil H).add hw e1 k1
    generalize upd H aw (.dK []) = H1 at N1 k1 ⊢
    walk_at "go"
    intro xt H2 ht e2 k2
    have N2 := N1.add ht e2 k2
    walk_at "go"
    intro xd H3 hd e3 k3
    have N3 := N2.add hd e3 k3
    walk_at "go"
    intro xp H4 hp e4 k4
    have N4 := N3.add hp e4 k4
    walk_at "go"
    intro xm H5 hm e5 k5
    have N5 := N4.add hm e5 k5
    walk_at "go"
    refine i_lst ?_
    walk_at "go"
    refine ⟨sz (by simp), fun xr hxr => ?_⟩
    have e6 := Ex.new (o := HO.lst []) hxr
    have k6 : (upd H5 xr (.lst [])) xr = some (.lst []) := upd_same
    have N6 := N5.add hxr e6 k6
    generalize upd H5 xr (.lst []) = H6 at N6 e6 k6 ⊢
    walk_at "go"
    have k1' : H6 aw = some (.dK []) := (((((e2.trans e3).trans e4).trans e5).trans e6)) _ _ k1
    refine ⟨k1', wK1 xt xd xp xm xr, rfl, by show 6 ≤ 15; decide, ?_⟩
    have hmk : mergeK [] (wK1 xt xd xp xm xr) = wK1 xt xd xp xm xr := by kernel_rfl
    rw [hmk]
    have N7 := N6.mut (a := aw) (o := .dK (wK1 xt xd xp xm xr)) (by simp)
    have k7 : (upd H6 aw (.dK (wK1 xt xd xp xm xr))) aw = some (.dK (wK1 xt xd xp xm xr)) := upd_same
    have c7 : ∀ x ∈ [xt, xd, xp, xm, xr], (upd H6 aw (.dK (wK1 xt xd xp xm xr))) x = H6 x := fun x hx => upd_ne fun e => by
      have nd := N6.nd
      subst e
      simp only [List.nil_append, List.cons_append, List.nodup_cons] at nd
      exact nd.1 hx
    have t7 : (upd H6 aw (.dK (wK1 xt xd xp xm xr))) xt = some (.dK []) := by rw [c7 _ (by simp)]; exact (((e3.trans e4).trans e5).trans e6) _ _ k2
    have d7 : (upd H6 aw (.dK (wK1 xt xd xp xm xr))) xd = some (.dK []) := by rw [c7 _ (by simp)]; exact ((e4.trans e5).trans e6) _ _ k3
    have p7 : (upd H6 aw (.dK (wK1 xt xd xp xm xr))) xp = some (.dK []) := by rw [c7 _ (by simp)]; exact (e5.trans e6) _ _ k4
    have m7 : (upd H6 aw (.dK (wK1 xt xd xp xm xr))) xm = some (.dK []) := by rw [c7 _ (by simp)]; exact e6 _ _ k5
    have r7 : (upd H6 aw (.dK (wK1 xt xd xp xm xr))) xr = some (.lst []) := by rw [c7 _ (by simp)]; exact k6
    generalize upd H6 aw (.dK (wK1 xt xd xp xm xr)) = H7 at N7 k7 t7 d7 p7 m7 r7 ⊢
    clear N1 N2 N3 N4 N5 N6 e1 e2 e3 e4 e5 e6 k2 k3 k4 k5 k6 c7 k1'
    walk_at "go"
    refine ⟨Or.inr (Or.inr (Or.inl ⟨rfl, Or.inl ⟨_, k7⟩⟩)), ?_⟩
    walk_at "go"
    intro xb hb
    have e8 : Ex H7 (upd H7 xb (.dK [])) := Ex.new hb
    have k8 : (upd H7 xb (.dK [])) xb = some (.dK []) := upd_same
    have N8 := N7.add hb e8 k8
    generalize upd H7 xb (.dK []) = H8 at N8 e8 k8 ⊢
    walk_at "go"
    refine i_lst ?_
    walk_at "go"
    refine ⟨sz (by simp), fun xi hxi => ?_⟩
    have e9 := Ex.new (o := HO.lst []) hxi
    have k9 : (upd H8 xi (.lst [])) xi = some (.lst []) := upd_same
    have N9 := N8.add hxi e9 k9
    generalize upd H8 xi (.lst []) = H9 at N9 e9 k9 ⊢
    walk_at "go"
    intro xh H10 hh e10 k10
    have N10 := N9.add hh e10 k10
    walk_at "go"
    refine i_lst ?_
    walk_at "go"
    refine ⟨sz (by simp), fun xf hxf => ?_⟩
    have e11 := Ex.new (o := HO.lst []) hxf
    have k11 : (upd H10 xf (.lst [])) xf = some (.lst []) := upd_same
    have N11 := N10.add hxf e11 k11
    generalize upd H10 xf (.lst []) = H11 at N11 e11 k11 ⊢
    walk_at "go"
    have e8' : Ex H7 H11 := ((e8.trans e9).trans e10).trans e11
    refine ⟨((e9.trans e10).trans e11) _ _ k8, wK2 xi xh xf, rfl, by show 3 ≤ 15; decide, ?_⟩
    have hmk2 : mergeK [] (wK2 xi xh xf) = wK2 xi xh xf := by kernel_rfl
    rw [hmk2]
    have N12 := N11.mut (a := xb) (o := .dK (wK2 xi xh xf)) (by simp)
    have nd := N11.nd
    have c12 : ∀ x ∈ [aw, xt, xd, xp, xm, xr, xi, xh, xf], x ≠ xb := fun x hx e => by
      subst e
      simp only [List.nil_append, List.cons_append, List.nodup_cons, List.mem_cons, List.not_mem_nil, or_false, not_or] at nd
      simp only [List.mem_cons, List.not_mem_nil, or_false] at hx
      grind
    have u12 : ∀ x ∈ [aw, xt, xd, xp, xm, xr, xi, xh, xf], (upd H11 xb (.dK (wK2 xi xh xf))) x = H11 x := fun x hx => upd_ne (c12 x hx)
    have k12 : (upd H11 xb (.dK (wK2 xi xh xf))) xb = some (.dK (wK2 xi xh xf)) := upd_same
    generalize upd H11 xb (.dK (wK2 xi xh xf)) = H12 at N12 u12 k12 ⊢
    walk_at "go"
    have hmk3 : mergeK (wK1 xt xd xp xm xr) (wK2 xi xh xf) = worldK (A0 aw xt xd xp xm xr xi xh xf) 0 := by kernel_rfl
    refine ⟨aw, xb, wK1 xt xd xp xm xr, wK2 xi xh xf, rfl, rfl, c12 aw (by simp), by rw [u12 _ (by simp)]; exact e8' _ _ k7, k12, sz (by show 6 + 3 ≤ 100000; decide), ?_⟩
    rw [hmk3]
    walk_at "go"
    have N13 := N12.mut (a := aw) (o := .dK (worldK (A0 aw xt xd xp xm xr xi xh xf) 0)) (by simp)
    have nd2 : [aw, xt, xd, xp, xm, xr, xi, xh, xf].Nodup := by
      refine List.Sublist.nodup (l₂ := [] ++ [aw] ++ [xt] ++ [xd] ++ [xp] ++ [xm] ++ [xr] ++ [xb] ++ [xi] ++ [xh] ++ [xf]) ?_ nd
      simp
    have u13 : ∀ x ∈ [xt, xd, xp, xm, xr, xi, xh, xf], (upd H12 aw (.dK (worldK (A0 aw xt xd xp xm xr xi xh xf) 0))) x = H11 x := fun x hx => by
      rw [upd_ne fun e => by subst e; exact (List.nodup_cons.mp nd2).1 hx]
      exact u12 x (List.mem_cons_of_mem _ hx)
    refine q _ (A0 aw xt xd xp xm xr xi xh xf) (fresh_wo nd2 N13.ex (fun x hx => N13.old x ?_) upd_same ?_ ?_ ?_ ?_ ?_ ?_ ?_ ?_)
    · simp only [List.nil_append, List.cons_append, List.mem_cons, List.not_mem_nil, or_false] at hx ⊢
      grind
    · rw [u13 _ (by simp)]; exact e8' _ _ t7
    · rw [u13 _ (by simp)]; exact e8' _ _ d7
    · rw [u13 _ (by simp)]; exact e8' _ _ p7
    · rw [u13 _ (by simp)]; exact e8' _ _ m7
    · rw [u13 _ (by simp)]; exact e8' _ _ r7
    · rw [u13 _ (by simp)]; exact (e10.trans e11) _ _ k9
    · rw [u13 _ (by simp)]; exact e11 _ _ k10
    · rw [u13 _ (by simp)]; exact k11
theorem i_callF {A : Addr → Sp → Prop} {tf : TE} {t : TA} {σ : L2.St} {H : Hp} {Q : VK} (h : tf σ H fun y H1 => ∃ (f : Addr) (sp : Sp), y = V.ref f ∧ A f sp ∧ t σ H1 fun vs H2 => sp vs H2 Q E0) : tCallF A tf t σ H Q := h
theorem Cal.calF {x : Str} {sp : Sp} {f : Addr} {j : Nat} (c : Cal P w K mg base k x [] sp) (hf : mg x = some (.ref f)) (h : k ≤ j) : CalF P w K mg base j f sp := by
  obtain ⟨f', fd, ps, ds, F, hm, hk, hb, hv⟩ := c.ex
  rw [hf] at hm
  cases hm
  cases hv
  exact ⟨fd, ps, F.mono h, hk, hb⟩
/-- all defs behind WHYS and DOES -/
structure Acts (P : Program) (w : World) (K : PySem.W.Frag) (mg : Str → Option Value) (base : Heap) : Prop where
  wSit : Cal P w K mg base 2 "why_sit" [] (sp_why K fun dd => ∃ s t, dd = .sit s t)
  wGo : Cal P w K mg base 6 "why_go" [] (sp_why K fun dd => ∃ s, dd = .go s)
  wAsk : Cal P w K mg base 2 "why_ask" [] (sp_why K fun dd => ∃ d item c ss, dd = .ask d item c ss)
  wFire : Cal P w K mg base 4 "why_fire" [] (sp_why K fun dd => ∃ t c, dd = .rush t c)
  wBring : Cal P w K mg base 2 "why_bring" [] (sp_why K fun dd => (∃ d, dd = .serve d) ∨ ∃ d, dd = .strike d)
  wPay : Cal P w K mg base 6 "why_pay" [] (sp_why K fun dd => ∃ s p, dd = .pay s p)
  wTake : Cal P w K mg base 6 "why_take" [] (sp_why K fun dd => ∃ s o p, dd = .take s o p)
  wEven : Cal P w K mg base 5 "why_even" [] (sp_why K fun dd => ∃ ss, dd = .even ss)
  dSit : Cal P w K mg base 1 "do_sit" [] (sp_do K fun dd => ∃ s t, dd = .sit s t)
  dGo : Cal P w K mg base 1 "do_go" [] (sp_do K fun dd => ∃ s, dd = .go s)
  dAsk : Cal P w K mg base 4 "do_ask" [] (sp_do K fun dd => ∃ d item c ss, dd = .ask d item c ss)
  dFire : Cal P w K mg base 4 "do_fire" [] (sp_do K fun dd => ∃ t c, dd = .rush t c)
  dBring : Cal P w K mg base 1 "do_bring" [] (sp_do K fun dd => (∃ d, dd = .serve d) ∨ ∃ d, dd = .strike d)
  dPay : Cal P w K mg base 1 "do_pay" [] (sp_do K fun dd => ∃ s p, dd = .pay s p)
  dTake : Cal P w K mg base 2 "do_take" [] (sp_do K fun dd => ∃ s o p, dd = .take s o p)
  dEven : Cal P w K mg base 5 "do_even" [] (sp_do K fun dd => ∃ ss, dd = .even ss)
theorem acts_at (Z : Acts P w K mg base) (T : Tb w K mg) (dd : Deed) : ∃ (wd : Str) (f g : Addr) (c : Deed → Prop) (l : List D), dd.d = .tup (.str wd :: l) ∧ KDct K w T.aWHYS wd (.ref f) ∧ KDct K w T.aDOES wd (.ref g) ∧
    CalF P w K mg base 6 f (sp_why K c) ∧ CalF P w K mg base 6 g (sp_do K c) ∧ c dd := by
  have go : ∀ (wd nf ng : Str) (c : Deed → Prop) (l : List D) (k1 k2 : Nat), dd.d = .tup (.str wd :: l) → (wd, nf) ∈ ([("sit", "why_sit"), ("go", "why_go"), ("ask", "why_ask"), ("rush", "why_fire"), ("serve", "why_bring"), ("strike", "why_bring"), ("pay", "why_pay"), ("take", "why_take"), ("even", "why_even")] : List (Str × Str)) →
      (wd, ng) ∈ ([("sit", "do_sit"), ("go", "do_go"), ("ask", "do_ask"), ("rush", "do_fire"), ("serve", "do_bring"), ("strike", "do_bring"), ("pay", "do_pay"), ("take", "do_take"), ("even", "do_even")] : List (Str × Str)) →
      Cal P w K mg base k1 nf [] (sp_why K c) → Cal P w K mg base k2 ng [] (sp_do K c) → k1 ≤ 6 → k2 ≤ 6 → c dd →
      ∃ (wd : Str) (f g : Addr) (c : Deed → Prop) (l : List D), dd.d = .tup (.str wd :: l) ∧ KDct K w T.aWHYS wd (.ref f) ∧ KDct K w T.aDOES wd (.ref g) ∧
        CalF P w K mg base 6 f (sp_why K c) ∧ CalF P w K mg base 6 g (sp_do K c) ∧ c dd := fun wd nf ng c l k1 k2 e m1 m2 c1 c2 h1 h2 hc => by
    obtain ⟨f, kf, hf⟩ := T.whys _ m1
    obtain ⟨g, kg, hg⟩ := T.does _ m2
    exact ⟨wd, f, g, c, l, e, kf, kg, c1.calF hf h1, c2.calF hg h2, hc⟩
  cases dd with
  | sit s t => exact go "sit" _ _ _ _ _ _ rfl (by simp only [List.mem_cons, true_or, or_true]) (by simp only [List.mem_cons, true_or, or_true]) Z.wSit Z.dSit (by decide) (by decide) ⟨s, t, rfl⟩
  | go s => exact go "go" _ _ _ _ _ _ rfl (by simp only [List.mem_cons, true_or, or_true]) (by simp only [List.mem_cons, true_or, or_true]) Z.wGo Z.dGo (by decide) (by decide) ⟨s, rfl⟩
  | ask d item c ss => exact go "ask" _ _ _ _ _ _ rfl (by simp only [List.mem_cons, true_or, or_true]) (by simp only [List.mem_cons, true_or, or_true]) Z.wAsk Z.dAsk (by decide) (by decide) ⟨d, item, c, ss, rfl⟩
  | rush t c => exact go "rush" _ _ _ _ _ _ rfl (by simp only [List.mem_cons, true_or, or_true]) (by simp only [List.mem_cons, true_or, or_true]) Z.wFire Z.dFire (by decide) (by decide) ⟨t, c, rfl⟩
  | serve d => exact go "serve" _ _ _ _ _ _ rfl (by simp only [List.mem_cons, true_or, or_true]) (by simp only [List.mem_cons, true_or, or_true]) Z.wBring Z.dBring (by decide) (by decide) (.inl ⟨d, rfl⟩)
  | strike d => exact go "strike" _ _ _ _ _ _ rfl (by simp only [List.mem_cons, true_or, or_true]) (by simp only [List.mem_cons, true_or, or_true]) Z.wBring Z.dBring (by decide) (by decide) (.inr ⟨d, rfl⟩)
  | pay s p => exact go "pay" _ _ _ _ _ _ rfl (by simp only [List.mem_cons, true_or, or_true]) (by simp only [List.mem_cons, true_or, or_true]) Z.wPay Z.dPay (by decide) (by decide) ⟨s, p, rfl⟩
  | take s o p => exact go "take" _ _ _ _ _ _ rfl (by simp only [List.mem_cons, true_or, or_true]) (by simp only [List.mem_cons, true_or, or_true]) Z.wTake Z.dTake (by decide) (by decide) ⟨s, o, p, rfl⟩
  | even ss => exact go "even" _ _ _ _ _ _ rfl (by simp only [List.mem_cons, true_or, or_true]) (by simp only [List.mem_cons, true_or, or_true]) Z.wEven Z.dEven (by decide) (by decide) ⟨ss, rfl⟩
/-- a book that the walk takes -/
structure Good (hs : House) (ps : List Page) : Prop where
  few : ps.length ≤ 100
  ok : ∀ i, i ≤ ps.length → (walk hs (ps.take i)).Ok
  pre : ∀ i pg, ps[i]? = some pg → Pre (walk hs (ps.take i)) pg.deed
  min : ∀ pg ∈ ps, 0 ≤ pg.minute
theorem walk_snoc (hs : House) (ps : List Page) (pg : Page) : walk hs (ps ++ [pg]) = step hs (walk hs ps) pg := by unfold walk; rw [List.foldl_append]; rfl
theorem doIt_idle (hs : House) (s : St) (m : Int) (dd : Deed) : (doIt hs s m dd).idle = s.idle := by cases dd <;> rfl
theorem idle_len (hs : House) : ∀ (l : List Page) (s : St), (l.foldl (step hs) s).idle.length ≤ s.idle.length + l.length
  | [], s => by simp
  | pg :: l, s => by
    rw [List.foldl_cons, List.length_cons]
    refine Nat.le_trans (idle_len hs l _) ?_
    unfold step
    by_cases h : why hs s pg.deed = ""
    · rw [if_pos h, doIt_idle]; omega
    · rw [if_neg h, List.length_append]; simp; omega
abbrev N_walked : List Str := ["house", "book", "world", "name", "deed", "why"]
abbrev P_walked : List Str := ["house", "book"]
theorem sc_walked : FnScope N_walked P_walked (defScope s_walked) := ⟨rfl, rfl, rfl, by decide +kernel, rfl, by decide +kernel, by decide +kernel⟩
def sp_walked (K : PySem.W.Frag) : Sp := fun vs H Q _ => ∃ (hv bv : V) (hs : House) (ps : List Page), vs = [hv, bv] ∧ Is H hv hs.d ∧ Is H bv (bookD ps) ∧ hs.Ok ∧ Good hs ps ∧ ∀ H' A n, WO H H' A (walk hs ps) n → Q (.ref A.w) H'
theorem ok_walked (d : Dn K mg d_walked) (T : Tb w K mg) (Z : Acts P w K mg base) (c_fresh : Cal P w K mg base 1 "fresh" [] sp_fresh) : Cal P w K mg base 7 "walked" [] (sp_walked K) := by
  refine d.cal sc_walked (fun vs H Q E h => ?_) (fun f fd F => ⟨[], .nil, F.bindsN fun _ _ _ _ _ _ us hl => match us, hl with | [_, _], _ => rfl⟩) fun f cdv A outer s H vs Q E hr h => have hu := hu_of hr; have hr1 := hr; ⟨_, PSs.nox (pss_cons (ps_set (i := 2) sc_walked.nd rfl (Or.inl rfl) (pe_cl0 c_fresh hr)) (pss_cons (ps_for PassesOwn.never rfl (pi_tup (pv 1)) (pg_tup (n := 2) rfl (pgs_cons (pg_name (i := 3) sc_walked.nd rfl (Or.inl rfl)) (pgs_cons (pg_name (i := 4) sc_walked.nd rfl (Or.inl rfl)) pgs_nil))) (pss_cons (ps_set (i := 5) sc_walked.nd rfl (Or.inl rfl) (pe_callF (pe_ix ix_kdict (pe_glob (v := .ref T.aWHYS) rfl T.gWHYS rfl) (pe_ix ix_tup (pv 4) pe_int (fun _ _ => rfl)) (fun _ _ => rfl)) hr1 (pa_cons (pv 0) (pa_cons (pv 2) (pa_cons (pv 4) pa_nil))))) (pss_one (ps_if (pt_cmpR op_eq (pv 5) pe_str (nomark _)) (pss_one (ps_expr (pe_callF (pe_ix ix_kdict (pe_glob (v := .ref T.aDOES) rfl T.gDOES rfl) (pe_ix ix_tup (pv 4) pe_int (fun _ _ => rfl)) (fun _ _ => rfl)) hr1 (pa_cons (pv 0) (pa_cons (pv 2) (pa_cons (pv 3) (pa_cons (pv 4) pa_nil))))))) (pss_one (ps_expr (pe_bm PySem.F.plainAttrs_list PySem.F.slot_list_append PySem.F.type_list_append mt_append (pe_dget hu (pv 2) pe_str (fun _ _ => rfl)) (pa_cons (pe_tup (pa_cons (pv 3) (pa_cons (pv 5) pa_nil))) pa_nil)))))))) (pss_one (ps_ret (pv 2))))), ?_⟩
  · obtain ⟨_, _, _, _, rfl, _⟩ := h; rfl
  · obtain ⟨hv, bv, hs, ps, rfl, hh, hb, hok, good, q⟩ := h
    walk_at "go"
    refine ⟨rfl, fun H1 A1 W1 => ?_⟩
    walk_at "go"
    unfold bookD at hb
    simp only [Is] at hb
    obtain ⟨ba, xs, rfl, hba, hxs⟩ := hb
    refine ⟨ba, rfl, ⟨xs, SqT.of (W1.ex _ _ hba)⟩, for_tup (xs := xs) (fun i σ H' => (∃ z1 z2 z3, σ = [some hv, some (.ref ba), some (.ref A1.w), z1, z2, z3]) ∧ ∃ A2, A2.w = A1.w ∧ WO H H' A2 (walk hs (ps.take i)) (60 * i)) ?_ (fun i σ H' _ h => ?_) (fun i x σ H' hx h => ?_) fun σ H' h => ?_⟩
    · exact ⟨⟨_, _, _, rfl⟩, A1, rfl, W1⟩
    · obtain ⟨_, A2, _, W2⟩ := h
      exact SqT.of (W2.ex _ _ hba)
    · obtain ⟨⟨z1, z2, z3, rfl⟩, A2, hA, W2⟩ := h
      have e2 := W2.ex
      obtain ⟨dd, hdd, hxi⟩ := hxs.at hx
      rw [List.getElem?_map] at hdd
      obtain ⟨pg, hpg, rfl⟩ := Option.map_eq_some_iff.mp hdd
      have hilt := (List.getElem?_eq_some_iff.mp hpg).1
      have hfew := good.few
      have ok := good.ok i (by omega)
      have pre := good.pre i pg hpg
      have m0 := good.min pg (List.mem_of_getElem? hpg)
      refine i_gtup (ds := [nameD pg.minute pg.number, pg.deed.d]) (Is.mono e2.tex _ hxi) rfl fun ys hys => ?_
      obtain ⟨nv, dv, rfl, hn, hd⟩ := isAll2 hys
      have hh2 := Is.mono e2.tex _ hh
      obtain ⟨wd, fw, fdo, c, l, hwd, kw, kd, cw, cd, hc⟩ := acts_at Z T pg.deed
      have hd' : Is H' dv (.tup (.str wd :: l)) := by rw [← hwd]; exact hd
      walk_at "go"
      refine i_callF ?_
      walk_at "go"
      refine ix_isS (i := 0) hd' rfl ?_
      refine ⟨_, _, _, rfl, rfl, kw, ?_⟩
      refine ⟨fw, _, rfl, cw, ?_⟩
      walk_at "go"
      refine ⟨hv, hs, A2, _, dv, pg.deed, by rw [hA], hh2, hd, W2.wr, ok, hok, pre, hc, fun H3 e3 => ?_⟩
      have W3 := W2.grow e3
      have hd3 := Is.mono e3.tex _ hd
      have hd3' := Is.mono e3.tex _ hd'
      have hn3 := Is.mono e3.tex _ hn
      walk_at "go"
      refine i_ite (fun e => ?_) fun e => ?_
      · have e : why hs (walk hs (ps.take i)) pg.deed = "" := by simpa using e
        walk_at "go"
        refine i_callF ?_
        walk_at "go"
        refine ix_isS (i := 0) hd3' rfl ?_
        refine ⟨_, _, _, rfl, rfl, kd, ?_⟩
        refine ⟨fdo, _, rfl, cd, ?_⟩
        walk_at "go"
        refine ⟨H, hv, hs, A2, _, nv, pg.minute, pg.number, dv, pg.deed, 60 * i, by rw [hA], Is.mono e3.tex _ hh2, hn3, hd3, W3, ok, hok, m0, by omega, e, pre, hc, fun H4 A4 t4 hA4 W4 => ?_⟩
        refine ⟨⟨_, _, _, rfl⟩, A4, hA4.trans hA, ?_⟩
        rw [take_snoc hpg, walk_snoc]
        unfold step
        rw [if_pos e]
        exact W4.up (by omega)
      · have e : ¬ why hs (walk hs (ps.take i)) pg.deed = "" := by simpa using e
        walk_at "go"
        obtain ⟨_, ho, us, rfl, hus⟩ := W3.live .i trivial
        have ho : H3 A2.i = some (.lst us) := ho
        have hul : us.length ≤ 100 := by
          rw [hus.len, List.length_map]
          have hlen : ∀ (l : List Page), (walk hs l).idle.length ≤ l.length := fun l => by have := idle_len hs l {}; unfold walk; simpa using this
          have := hlen (ps.take i)
          rw [List.length_take] at this
          omega
        rw [← hA]
        refine w_i W3.wr.q ⟨ty_lst ho, ?_⟩
        walk_at "go"
        refine i_tup ?_
        walk_at "go"
        refine ⟨sz (by simp), fun tp htp => ?_⟩
        have e4 := Ex.new (o := HO.tup [nv, .str (why hs (walk hs (ps.take i)) pg.deed)]) htp
        have h4 : (upd H3 tp (HO.tup [nv, .str (why hs (walk hs (ps.take i)) pg.deed)])) tp = some (.tup [nv, .str (why hs (walk hs (ps.take i)) pg.deed)]) := upd_same
        have W4 := W3.grow e4
        generalize upd H3 tp (HO.tup [nv, .str (why hs (walk hs (ps.take i)) pg.deed)]) = H4 at e4 h4 W4 ⊢
        walk_at "go"
        obtain ⟨us2, hu2, hul2, W5⟩ := W4.addI (.ref tp) ((pg.minute, pg.number), why hs (walk hs (ps.take i)) pg.deed) (is_tup h4 (by simp only [IsAll, Is, and_true]; exact Is.mono e4.tex _ hn3))
        have : us2 = us := by have z := e4 _ _ ho; rw [hu2] at z; cases z; rfl
        subst this
        refine ⟨A2.i, us2, _, rfl, rfl, hu2, szl (by omega), ?_⟩
        refine ⟨⟨_, _, _, rfl⟩, A2, rfl, ?_⟩
        rw [take_snoc hpg, walk_snoc]
        unfold step
        rw [if_neg e]
        exact W5.up (by omega)
    · obtain ⟨⟨z1, z2, z3, rfl⟩, A2, hA, W2⟩ := h
      walk_at "go"
      rw [hxs.len, List.length_map, List.take_of_length_le (Nat.le_refl _)] at W2
      rw [← hA]
      exact q H' A2 _ W2
end

def penL (ys : List Str) (f : Str → Int) : List (Str × Int) := ys.map fun z => (z, f z)
theorem keys_penL (ys : List Str) (f : Str → Int) : keys (penL ys f) = ys := by unfold keys penL; rw [List.map_map]; exact List.map_id _
theorem penL_get {ys : List Str} {f : Str → Int} {z : Str} (h : z ∈ ys) : aget (penL ys f) z = some (f z) := by
  induction ys with
  | nil => simp at h
  | cons y ys ih =>
    show aget ((y, f y) :: penL ys f) z = _
    rw [aget_cons]
    by_cases e : y = z
    · subst e; rw [if_pos rfl]
    · rw [if_neg e]
      exact ih ((List.mem_cons.mp h).resolve_left fun q => e q.symm)
theorem merge_new : ∀ (more kvs : List (Key × V)), (kvs.map (·.1) ++ more.map (·.1)).Nodup → mergeK kvs more = kvs ++ more
  | [], kvs, _ => by simp [mergeK]
  | p :: r, kvs, nd => by
    have hn : valV kvs p.1 = none := by
      cases e : valV kvs p.1 with
      | none => rfl
      | some v =>
        have hm : p.1 ∈ kvs.map (·.1) := by
          unfold valV at e
          obtain ⟨q, hq, _⟩ := Option.map_eq_some_iff.mp e
          have h1 := List.mem_of_find?_eq_some hq
          have h2 := List.find?_some hq
          exact List.mem_map.mpr ⟨q, h1, by simpa using h2⟩
        have := (List.nodup_append.mp nd).2.2 _ hm _ (List.mem_cons_self (a := p.1))
        exact absurd rfl this
    show mergeK (putK kvs p.1 p.2) r = _
    rw [putK_new p.2 hn, merge_new r (kvs ++ [(p.1, p.2)]) (by rw [List.map_append, List.append_assoc]; exact nd), List.append_assoc]
    rfl
theorem penK_keys (l : List (Str × Int)) : (penK l).map (·.1) = (keys l).map Sum.inr := by unfold penK keys; rw [List.map_map, List.map_map]; rfl
theorem merge_pen {l : List (Str × Int)} (nd : (keys l).Nodup) : mergeK [] (penK l) = penK l := by
  rw [merge_new _ _ (by rw [penK_keys]; exact List.Pairwise.map (f := (Sum.inr : Str → Key)) (fun a b h e => h (inr_inj _ _ e)) nd)]; rfl
section
variable {P : Program} {w : World} {K : PySem.W.Frag} {mg : Str → Option Value} {base : Heap} {k : Nat}
abbrev N_idle : List Str := ["house", "book"]
abbrev P_idle : List Str := ["house", "book"]
theorem sc_idle : FnScope N_idle P_idle (defScope s_idle) := ⟨rfl, rfl, rfl, by decide +kernel, rfl, by decide +kernel, by decide +kernel⟩
def sp_idle (K : PySem.W.Frag) : Sp := fun vs H Q _ => ∃ (hv bv : V) (hs : House) (ps : List Page), vs = [hv, bv] ∧ Is H hv hs.d ∧ Is H bv (bookD ps) ∧ hs.Ok ∧ Good hs ps ∧ ∀ H' p, Ex H H' → Is H' (.ref p) (.tup ((walk hs ps).idle.map idleD)) → Q (.ref p) H'
theorem ok_idle (d : Dn K mg d_idle) (T : Tb w K mg) (c_walked : Cal P w K mg base 7 "walked" [] (sp_walked K)) : Cal P w K mg base 8 "idle" [] (sp_idle K) := by
  refine d.cal sc_idle (fun vs H Q E h => ?_) (fun f fd F => ⟨[], .nil, F.bindsN fun _ _ _ _ _ _ us hl => match us, hl with | [_, _], _ => rfl⟩) fun f cdv A outer s H vs Q E hr h => have hu := hu_of hr; ⟨_, PSs.nox (pss_one (ps_ret (pe_callTy call_tuple_of rfl T.tuple boot_tuple (pa_cons (pe_dget hu (pe_cl c_walked hr (pa_cons (pv 0) (pa_cons (pv 1) pa_nil))) pe_str (fun _ _ => rfl)) pa_nil)))), ?_⟩
  · obtain ⟨_, _, _, _, rfl, _⟩ := h; rfl
  · obtain ⟨hv, bv, hs, ps, rfl, hh, hb, hok, good, q⟩ := h
    walk_at "go"
    refine ⟨hv, bv, hs, ps, rfl, hh, hb, hok, good, fun H1 A1 n W1 => ?_⟩
    walk_at "go"
    obtain ⟨_, ho, us, rfl, hus⟩ := W1.live .i trivial
    have ho : H1 A1.i = some (.lst us) := ho
    refine w_i W1.wr.q ?_
    walk_at "go"
    refine ⟨A1.i, us, rfl, .inl ⟨SqL.of ho, fun l hl => ?_⟩⟩
    exact q _ l (W1.ex.trans (Ex.new hl)) (is_tup upd_same (IsAll.mono (TEx.new hl) _ hus))
abbrev N_world_by : List Str := ["house", "book", "minute"]
abbrev P_world_by : List Str := ["house", "book", "minute"]
theorem sc_world_by : FnScope N_world_by P_world_by (defScope s_world_by) := ⟨rfl, rfl, rfl, by decide +kernel, rfl, by decide +kernel, by decide +kernel⟩
def sp_world_by (K : PySem.W.Frag) : Sp := fun vs H Q _ => ∃ (hv bv : V) (hs : House) (ps : List Page), vs = [hv, bv, .non] ∧ Is H hv hs.d ∧ Is H bv (bookD ps) ∧ hs.Ok ∧ Good hs ps ∧ ∀ H' A n, WO H H' A (walk hs ps) n → Q (.ref A.w) H'
theorem ok_world_by (d : Dn K mg d_world_by) (T : Tb w K mg) (c_walked : Cal P w K mg base 7 "walked" [] (sp_walked K)) : Cal P w K mg base 8 "world_by" [] (sp_world_by K) := by
  refine d.cal sc_world_by (fun vs H Q E h => ?_) (fun f fd F => ⟨[], .nil, F.bindsN fun _ _ _ _ _ _ us hl => match us, hl with | [_, _, _], _ => rfl⟩) fun f cdv A outer s H vs Q E hr h => have hu := hu_of hr; ⟨_, PSs.nox (pss_one (ps_ret (pe_cl c_walked hr (pa_cons (pv 0) (pa_cons (pe_ifExp (pt_cmpR op_isN (pv 2) pe_non (nomark _)) (pv 1) pe_dead) pa_nil))))), ?_⟩
  · obtain ⟨_, _, _, _, rfl, _⟩ := h; rfl
  · obtain ⟨hv, bv, hs, ps, rfl, hh, hb, hok, good, q⟩ := h
    walk_at "go"
    refine ⟨rfl, ?_⟩
    walk_at "go"
    refine i_ite (fun _ => ?_) fun e => absurd e (by simp)
    walk_at "go"
    exact ⟨hv, bv, hs, ps, rfl, hh, hb, hok, good, q⟩
abbrev N_to_pay : List Str := ["house", "book", "minute", "owed", "seat"]
abbrev P_to_pay : List Str := ["house", "book", "minute"]
theorem sc_to_pay : FnScope N_to_pay P_to_pay (defScope s_to_pay) := ⟨rfl, rfl, rfl, by decide +kernel, rfl, by decide +kernel, by decide +kernel⟩
def sp_to_pay (K : PySem.W.Frag) : Sp := fun vs H Q _ => ∃ (hv bv : V) (hs : House) (ps : List Page), vs = [hv, bv, .non] ∧ Is H hv hs.d ∧ Is H bv (bookD ps) ∧ hs.Ok ∧ Good hs ps ∧
  ∀ (H' : Hp) (p : Addr) (as : List Addr) (ys : List Str), Ex H H' → H' p = some (PTup p as) → ys.Perm (keys (walk hs ps).tables) → sortedS ys = true → Paired (fun a kv => SqT K H' a [kV kv.1, kv.2]) as (penK (penL ys (owed (walk hs ps)))) → Q (.ref p) H'
theorem paired_of {K : PySem.W.Frag} {H : Hp} {f : Str → Int} : ∀ (as : List Addr) (ys : List Str), as.length = ys.length → (∀ (j : Nat) (c : Addr) (z : Str), as[j]? = some c → ys[j]? = some z → H c = some (.tup [.str z, .int (f z)])) → Paired (fun a kv => SqT K H a [kV kv.1, kv.2]) as (penK (penL ys f))
  | [], [], _, _ => .nil
  | a :: as, y :: ys, hl, h => .cons (SqT.of (h 0 a y rfl rfl)) (paired_of as ys (by simpa using hl) fun j c z h1 h2 => h (j + 1) c z (by simpa using h1) (by simpa using h2))
  | [], _ :: _, hl, _ => by simp at hl
  | _ :: _, [], hl, _ => by simp at hl
theorem ok_to_pay (d : Dn K mg d_to_pay) (T : Tb w K mg) (c_world_by : Cal P w K mg base 8 "world_by" [] (sp_world_by K)) (c_all_owed : Cal P w K mg base 4 "all_owed" [] (sp_all_owed K)) : Cal P w K mg base 9 "to_pay" [.non] (sp_to_pay K) := by
  refine d.cal sc_to_pay (fun vs H Q E h => ?_) (fun f fd F => F.binds1 2 0 (List.cons_ne_nil _ _) rfl fun _ _ _ _ _ _ _ us its hl hi => match us, hl, its, hi with | [_, _], _, [_], _ => ⟨_, rfl, rfl⟩) fun f cdv A outer s H vs Q E hr h => have hu := hu_of hr; ⟨_, PSs.nox (pss_cons (ps_set (i := 3) sc_to_pay.nd rfl (Or.inr rfl) (pe_cl c_all_owed hr (pa_cons (pe_cl c_world_by hr (pa_cons (pv 0) (pa_cons (pv 1) (pa_cons (pv 2) pa_nil)))) pa_nil))) (pss_one (ps_ret (pe_callTy call_tupleP rfl T.tuple boot_tuple (pa_cons (pe_lc rfl sc_to_pay.nd (pi_list (pe_callB (call_sortedD rfl) rfl T.sorted boot_sorted (pa_cons (pv 3) pa_nil))) (blkOk_by (own := [("seat", 4)]) (N := N_to_pay) (sc := defScope s_to_pay) (by decide +kernel)) (fun _ _ _ _ _ => (pg_name (i := 4) sc_to_pay.nd rfl (Or.inl rfl))) (fun _ _ _ _ _ => pts_nil) (fun _ _ _ _ _ => (pe_tup (pa_cons (pv 4) (pa_cons (pe_dget hu (pv 3) (pv 4) (fun _ _ => rfl)) pa_nil))))) pa_nil))))), ?_⟩
  · obtain ⟨_, _, _, _, rfl, _⟩ := h; rfl
  · obtain ⟨hv, bv, hs, ps, rfl, hh, hb, hok, good, q⟩ := h
    have ok : (walk hs ps).Ok := by have := good.ok ps.length (Nat.le_refl _); rwa [List.take_of_length_le (Nat.le_refl _)] at this
    walk_at "go"
    refine ⟨hv, bv, hs, ps, rfl, hh, hb, hok, good, fun H1 A1 n W1 => ?_⟩
    walk_at "go"
    refine ⟨A1, _, rfl, W1.wr, ok, fun H2 p2 e2 _ h2 => ?_⟩
    walk_at "go"
    have hao : allOwed (walk hs ps) = penF (walk hs ps).tables (owed (walk hs ps)) := rfl
    refine ⟨p2, _, keys (walk hs ps).tables, rfl, .inl h2, by rw [penK_keys, hao, keys_penF], by unfold keys; rw [List.length_map]; have := ok.fewT; omega, fun ys a0 hperm hsort ha0 => ?_⟩
    have e0 := Ex.new (o := HO.lst (ys.map V.str)) ha0
    have h0 : (upd H2 a0 (HO.lst (ys.map V.str))) a0 = some (.lst (ys.map V.str)) := upd_same
    generalize upd H2 a0 (HO.lst (ys.map V.str)) = H3 at e0 h0 ⊢
    have hlen : ys.length ≤ 20 := by rw [hperm.length_eq]; unfold keys; rw [List.length_map]; exact ok.fewT
    refine ⟨a0, rfl, ⟨_, SqL.of h0⟩, fun D hD => lc_list (xs := ys.map V.str) (fun i H' => ∃ as : List Addr, Ex H3 H' ∧ H' D = some (.lst (as.map V.ref)) ∧ as.length = i ∧ ∀ (j : Nat) (c : Addr) (z : Str), as[j]? = some c → ys[j]? = some z → H' c = some (.tup [.str z, .int (owed (walk hs ps) z)])) ?_ (fun i H' _ h => ?_) (fun i x H' hx h => ?_) fun H' h => ?_⟩
    · exact ⟨[], Ex.new hD, upd_same, rfl, fun j c z h => by simp at h⟩
    · obtain ⟨as, ex, _⟩ := h
      exact SqL.of (ex _ _ h0)
    · obtain ⟨as, ex, hDl, hl, hall⟩ := h
      rw [List.getElem?_map] at hx
      obtain ⟨z, hz, rfl⟩ := Option.map_eq_some_iff.mp hx
      have hi : i < 20 := by have := (List.getElem?_eq_some_iff.mp hz).1; omega
      have hk : z ∈ keys (walk hs ps).tables := hperm.mem_iff.mp (List.mem_of_getElem? hz)
      walk_at "go"
      refine i_tup ?_
      walk_at "go"
      refine gS (.inl ((e0.trans ex) _ _ h2)) (by rw [pen_get, hao, penF_get hk]; rfl) ?_
      walk_at "go"
      refine ⟨sz (by simp), fun tp htp => ?_⟩
      have e4 := Ex.new (o := HO.tup [.str z, .int (owed (walk hs ps) z)]) htp
      have h4 : (upd H' tp (HO.tup [.str z, .int (owed (walk hs ps) z)])) tp = some (.tup [.str z, .int (owed (walk hs ps) z)]) := upd_same
      generalize upd H' tp (HO.tup [.str z, .int (owed (walk hs ps) z)]) = H4 at e4 h4 ⊢
      have tx : TEx H4 (upd H4 D (.lst (as.map V.ref ++ [.ref tp]))) := TEx.mut (e4 _ _ hDl) fun _ => by simp
      refine ⟨as.map V.ref, e4 _ _ hDl, szl (by rw [List.length_map]; omega), as ++ [tp], Ex.mut (ex.trans e4) hD, by rw [upd_same, List.map_append]; rfl, by simp [hl], fun j c z' h1 h2 => tx _ _ ?_⟩
      by_cases hj : j < as.length
      · rw [List.getElem?_append_left hj] at h1
        exact e4 _ _ (hall j c z' h1 h2)
      · rw [List.getElem?_append_right (by omega)] at h1
        have hj0 : j = as.length := by
          have := (List.getElem?_eq_some_iff.mp h1).1
          simp at this; omega
        subst hj0
        rw [Nat.sub_self] at h1
        cases h1
        rw [hl, hz] at h2
        cases h2
        exact h4
    · obtain ⟨as, ex, hDl, hl, hall⟩ := h
      rw [List.length_map] at hl
      walk_at "go"
      refine ⟨D, as, rfl, SqL.of hDl, fun l hll => ?_⟩
      refine q _ l as ys (((W1.ex.trans e2).trans e0).trans (ex.trans (Ex.new hll))) upd_same hperm hsort (paired_of as ys hl fun j c z h1 h2 => Ex.new hll _ _ (hall j c z h1 h2))
abbrev N_need_seat : List Str := ["world", "seat"]
abbrev P_need_seat : List Str := ["world", "seat"]
theorem sc_need_seat : FnScope N_need_seat P_need_seat (defScope s_need_seat) := ⟨rfl, rfl, rfl, by decide +kernel, rfl, by decide +kernel, by decide +kernel⟩
def sp_need_seat : Sp := fun vs H Q _ => ∃ (A : WA) (st : St) (z : Str), vs = [.ref A.w, .str z] ∧ WR H A st ∧ z ∈ keys st.tables ∧ Q .non H
theorem ok_need_seat (d : Dn K mg d_need_seat) (T : Tb w K mg) : Cal P w K mg base 1 "need_seat" [] sp_need_seat := by
  refine d.cal sc_need_seat (fun vs H Q E h => ?_) (fun f fd F => ⟨[], .nil, F.bindsN fun _ _ _ _ _ _ us hl => match us, hl with | [_, _], _ => rfl⟩) fun f cdv A outer s H vs Q E hr h => have hu := hu_of hr; ⟨_, PSs.nox (pss_one (ps_if (PW.pt (pw_or (pt_not (pt_val (pe_callB call_isi rfl T.isinstance boot_isinstance (pa_cons (pv 1) (pa_cons (pe_bltn (v := .ty "str") rfl T.str boot_str rfl) pa_nil))))) (pw_or1 (pt_cmp (pc_dnotin hu (pv 1) (pe_dget hu (pv 0) pe_str (fun _ _ => rfl))))))) (pss_one ps_never) pss_nil)), ?_⟩
  · obtain ⟨_, _, _, rfl, _⟩ := h; rfl
  · obtain ⟨A, st, z, rfl, W, hz, q⟩ := h
    walk_at "go"
    refine ⟨.str z, .ty "str", _, _, true, rfl, .ty _, (.base (.str z)), kit_ty (by decide +kernel), ?_⟩
    walk_at "go"
    refine i_ite (fun e => absurd e (by decide)) fun _ => ?_
    walk_at "go"
    refine w_t W.q ⟨_, _, rfl, .inl ⟨_, Sum.inr z, .inl W.t, rfl, rfl⟩, ?_⟩
    walk_at "go"
    obtain ⟨t, ht⟩ := aget_some_iff.mpr hz
    rw [tab_get, ht]
    exact q
abbrev N_owes : List Str := ["house", "book", "seat", "minute", "world"]
abbrev P_owes : List Str := ["house", "book", "seat", "minute"]
theorem sc_owes : FnScope N_owes P_owes (defScope s_owes) := ⟨rfl, rfl, rfl, by decide +kernel, rfl, by decide +kernel, by decide +kernel⟩
def sp_owes (K : PySem.W.Frag) : Sp := fun vs H Q _ => ∃ (hv bv : V) (hs : House) (ps : List Page) (z : Str), vs = [hv, bv, .str z, .non] ∧ Is H hv hs.d ∧ Is H bv (bookD ps) ∧ hs.Ok ∧ Good hs ps ∧ z ∈ keys (walk hs ps).tables ∧ ∀ H', Ex H H' → Q (.int (owed (walk hs ps) z)) H'
theorem ok_owes (d : Dn K mg d_owes) (T : Tb w K mg) (c_world_by : Cal P w K mg base 8 "world_by" [] (sp_world_by K)) (c_all_owed : Cal P w K mg base 4 "all_owed" [] (sp_all_owed K)) (c_need_seat : Cal P w K mg base 1 "need_seat" [] sp_need_seat) : Cal P w K mg base 9 "owes" [.non] (sp_owes K) := by
  refine d.cal sc_owes (fun vs H Q E h => ?_) (fun f fd F => F.binds1 3 0 (List.cons_ne_nil _ _) rfl fun _ _ _ _ _ _ _ us its hl hi => match us, hl, its, hi with | [_, _, _], _, [_], _ => ⟨_, rfl, rfl⟩) fun f cdv A outer s H vs Q E hr h => have hu := hu_of hr; ⟨_, PSs.nox (pss_cons (ps_set (i := 4) sc_owes.nd rfl (Or.inl rfl) (pe_cl c_world_by hr (pa_cons (pv 0) (pa_cons (pv 1) (pa_cons (pv 3) pa_nil))))) (pss_cons (ps_expr (pe_cl c_need_seat hr (pa_cons (pv 4) (pa_cons (pv 2) pa_nil)))) (pss_one (ps_ret (pe_dget hu (pe_cl c_all_owed hr (pa_cons (pv 4) pa_nil)) (pv 2) (fun _ _ => rfl)))))), ?_⟩
  · obtain ⟨_, _, _, _, _, rfl, _⟩ := h; rfl
  · obtain ⟨hv, bv, hs, ps, z, rfl, hh, hb, hok, good, hz, q⟩ := h
    have ok : (walk hs ps).Ok := by have := good.ok ps.length (Nat.le_refl _); rwa [List.take_of_length_le (Nat.le_refl _)] at this
    walk_at "go"
    refine ⟨hv, bv, hs, ps, rfl, hh, hb, hok, good, fun H1 A1 n W1 => ?_⟩
    walk_at "go"
    refine ⟨A1, _, z, rfl, W1.wr, hz, ?_⟩
    walk_at "go"
    refine ⟨A1, _, rfl, W1.wr, ok, fun H2 p2 e2 _ h2 => ?_⟩
    walk_at "go"
    have hao : allOwed (walk hs ps) = penF (walk hs ps).tables (owed (walk hs ps)) := rfl
    exact gS (.inl h2) (by rw [pen_get, hao, penF_get hz]; rfl) (q H2 (W1.ex.trans e2))
abbrev N_sums : List Str := ["house", "book", "world", "costs", "row"]
abbrev P_sums : List Str := ["house", "book"]
theorem sc_sums : FnScope N_sums P_sums (defScope s_sums) := ⟨rfl, rfl, rfl, by decide +kernel, rfl, by decide +kernel, by decide +kernel⟩
def sp_sums (K : PySem.W.Frag) : Sp := fun vs H Q _ => ∃ (hv bv : V) (hs : House) (ps : List Page), vs = [hv, bv] ∧ Is H hv hs.d ∧ Is H bv (bookD ps) ∧ hs.Ok ∧ Good hs ps ∧
  ∀ (H' : Hp) (p : Addr) (c : Int), Ex H H' → H' p = some (.tup [.int c, .int (((walk hs ps).paid.map (·.2)).sum), .int (((allOwed (walk hs ps)).map (·.2)).sum)]) → Q (.ref p) H'
theorem pen_vals (l : List (Str × Int)) : (penK l).map (·.2) = (l.map (·.2)).map V.int := by unfold penK; rw [List.map_map, List.map_map]; rfl
theorem ok_sums (d : Dn K mg d_sums) (T : Tb w K mg) (c_walked : Cal P w K mg base 7 "walked" [] (sp_walked K)) (c_all_owed : Cal P w K mg base 4 "all_owed" [] (sp_all_owed K)) : Cal P w K mg base 8 "sums" [] (sp_sums K) := by
  refine d.cal sc_sums (fun vs H Q E h => ?_) (fun f fd F => ⟨[], .nil, F.bindsN fun _ _ _ _ _ _ us hl => match us, hl with | [_, _], _ => rfl⟩) fun f cdv A outer s H vs Q E hr h => have hu := hu_of hr; ⟨_, PSs.nox (pss_cons (ps_set (i := 2) sc_sums.nd rfl (Or.inl rfl) (pe_cl c_walked hr (pa_cons (pv 0) (pa_cons (pv 1) pa_nil)))) (pss_cons (ps_set (i := 3) sc_sums.nd rfl (Or.inl rfl) (pe_callB (cr_sum rfl) rfl T.sum boot_sum (pa_cons (pe_lock (pe_lc rfl sc_sums.nd (pi_values (pe_dget hu (pv 2) pe_str (fun _ _ => rfl))) (blkOk_by (own := [("row", 4)]) (N := N_sums) (sc := defScope s_sums) (by decide +kernel)) (fun _ _ _ _ _ => (pg_name (i := 4) sc_sums.nd rfl (Or.inl rfl))) (fun _ _ _ _ _ => (pts_one (pt_cmpR (op_inK K rfl) (pe_dget hu (pv 4) pe_str (fun _ _ => rfl)) (pe_glob (v := .ref T.aLIVING) rfl T.gLIVING rfl) (by rfl)))) (fun _ _ _ _ _ => (pe_dget hu (pv 4) pe_str (fun _ _ => rfl))))) pa_nil))) (pss_one (ps_ret (pe_tup (pa_cons (pv 3) (pa_cons (pe_sumV rfl (pe_dget hu (pv 2) pe_str (fun _ _ => rfl)) rfl T.sum) (pa_cons (pe_sumV rfl (pe_cl c_all_owed hr (pa_cons (pv 2) pa_nil)) rfl T.sum) pa_nil)))))))), ?_⟩
  · obtain ⟨_, _, _, _, rfl, _⟩ := h; rfl
  · obtain ⟨hv, bv, hs, ps, rfl, hh, hb, hok, good, q⟩ := h
    have ok : (walk hs ps).Ok := by have := good.ok ps.length (Nat.le_refl _); rwa [List.take_of_length_le (Nat.le_refl _)] at this
    walk_at "go"
    refine ⟨hv, bv, hs, ps, rfl, hh, hb, hok, good, fun H1 A1 n W1 => ?_⟩
    walk_at "go"
    have W2 := W1.wr
    refine i_lockE A1.d W2.d trivial fun o => ?_
    walk_at "go"
    have W3 := W2.q.rx (Rx.lockK (od := o) W2.d)
    let X : Key → Dish := fun k => match k with
      | .inl d => (aget (walk hs ps).dishes d).getD ⟨[], "", 0, 0, ""⟩
      | .inr _ => ⟨[], "", 0, 0, ""⟩
    refine w_d W3 ⟨A1.d, o, _, rfl, upd_same, fun D hD => lc_itd (fun q => decide ((X q.1).state ∈ (["asked", "fired", "served"] : List Str))) (fun q => .int (X q.1).cost) upd_same hD (by unfold dishK; rw [List.length_map]; have := ok.fewD; omega) (fun i kq H' Kt Ks hk ex ht hf => ?_) fun H' ex hl => ?_⟩
    · unfold dishK at hk
      rw [List.getElem?_map] at hk
      obtain ⟨q1, hq, rfl⟩ := Option.map_eq_some_iff.mp hk
      have hm : q1 ∈ (walk hs ps).dishes := List.mem_of_getElem? hq
      have hX : X (Sum.inl q1.1) = q1.2 := by
        show (aget (walk hs ps).dishes q1.1).getD _ = q1.2
        rw [aget_of_mem ok.ndD (show (q1.1, q1.2) ∈ _ from hm)]; rfl
      have W4 := W3.rx ex.rx
      walk_at "go"
      refine r_state (W4.row q1 hm) ?_
      walk_at "go"
      refine i_inS (.inr (T.living H')) ?_
      walk_at "go"
      simp only [hX] at ht hf
      refine i_ite (fun e => ?_) fun e => ?_
      · walk_at "go"
        refine r_cost (W4.row q1 hm) ?_
        exact ht e _ (Ex.refl _)
      · exact hf e _ (Ex.refl _)
    · refine ⟨ex _ _ upd_same, ?_⟩
      have hnd : D ≠ A1.d := fun z => by rw [z, upd_same] at hD; cases hD
      have e3 := unlock W2.d ex
      have hl3 : (upd H' A1.d (.dK (dishK A1 (walk hs ps).dishes))) D = some (.lst ((((dishK A1 (walk hs ps).dishes).filter fun q => decide ((X q.1).state ∈ (["asked", "fired", "served"] : List Str))).map fun q => (X q.1).cost).map V.int)) := by
        rw [upd_ne hnd, hl, List.map_map]; rfl
      generalize upd H' A1.d (.dK (dishK A1 (walk hs ps).dishes)) = H3 at e3 hl3 ⊢
      walk_at "go"
      refine ⟨D, _, rfl, SqL.of hl3, ?_⟩
      have W5 := W2.ex e3
      walk_at "go"
      refine i_tup ?_
      walk_at "go"
      refine w_p W5.q ⟨A1.p, _, _, rfl, .inl W5.p, pen_vals _, ?_⟩
      walk_at "go"
      refine ⟨A1, _, rfl, W5, ok, fun H4 p4 e4 _ h4 => ?_⟩
      refine ⟨p4, _, _, rfl, .inl h4, pen_vals _, ?_⟩
      walk_at "go"
      refine ⟨sz (by simp), fun tp htp => ?_⟩
      exact q _ tp _ (((W1.ex.trans e3).trans e4).trans (Ex.new htp)) upd_same
end

/-! ### the feed -/
def Fx (f : Addr) (H H' : Hp) : Prop := ∀ a o, H a = some o → a ≠ f → H' a = some o
structure Feed (H : Hp) (f c : Addr) (n : Nat) : Prop where
  ex : ∃ (xs : List Int) (a l : Int), H f = some (.lst [.ref c, .int a, .int l]) ∧ H c = some (.lst (xs.map V.int)) ∧ c ≠ f ∧ 0 ≤ a ∧ a ≤ n ∧ xs.length ≤ 63
section
variable {f c : Addr} {H H1 H2 : Hp} {n m : Nat}
theorem Fx.refl : Fx f H H := fun _ _ h _ => h
theorem Fx.trans (a : Fx f H H1) (b : Fx f H1 H2) : Fx f H H2 := fun x o h ne => b x o (a x o h ne) ne
theorem Ex.fx (e : Ex H H1) : Fx f H H1 := fun x o h _ => e x o h
theorem Feed.up (F : Feed H f c n) (h : n ≤ m) : Feed H f c m := by obtain ⟨xs, a, l, h1, h2, h3, h4, h5, h6⟩ := F.ex; exact ⟨xs, a, l, h1, h2, h3, h4, by omega, h6⟩
theorem Feed.ex_ (F : Feed H f c n) (e : Ex H H1) : Feed H1 f c n := by obtain ⟨xs, a, l, h1, h2, h3, h4, h5, h6⟩ := F.ex; exact ⟨xs, a, l, e _ _ h1, e _ _ h2, h3, h4, h5, h6⟩
theorem Feed.tex (F : Feed H f c n) (e : Fx f H H1) : TEx H H1 := fun a xs h => e a _ h fun z => by obtain ⟨_, _, _, h1, _⟩ := F.ex; rw [z, h1] at h; cases h
theorem Feed.ne (F : Feed H f c n) {p : Addr} (h : H p = none) : p ≠ f := fun z => by obtain ⟨_, _, _, h1, _⟩ := F.ex; rw [z, h1] at h; cases h
/-- a store at another list than the feed's -/
theorem Feed.put (F : Feed H f c n) {p : Addr} {o : HO} (h : p ≠ f) (hc : p ≠ c) : Feed (upd H p o) f c n := by
  obtain ⟨xs, a, l, h1, h2, h3, h4, h5, h6⟩ := F.ex
  exact ⟨xs, a, l, by rw [upd_ne (Ne.symm h)]; exact h1, by rw [upd_ne (Ne.symm hc)]; exact h2, h3, h4, h5, h6⟩
theorem Feed.nec (F : Feed H f c n) {p : Addr} (h : H p = none) : p ≠ c := fun z => by obtain ⟨_, _, _, _, h1, _⟩ := F.ex; rw [z, h1] at h; cases h
theorem Fx.mut {p : Addr} {o : HO} (e : Fx f H H1) (h : H p = none) : Fx f H (upd H1 p o) := fun a u ha ne => by
  have : a ≠ p := fun z => by rw [z, h] at ha; cases ha
  rw [upd_ne this]; exact e a u ha ne
theorem i_gsub {to ti : TE} {t : TSet} {v : V} {σ : L2.St} {Q : L2.St → Hp → Prop} (h : to σ H fun o H1 => ti σ H1 fun i H2 => t o i v H2 fun H3 => Q σ H3) : gSub to ti t v σ H Q := h
end
section
variable {P : Program} {w : World} {K : PySem.W.Frag} {mg : Str → Option Value} {base : Heap} {k : Nat}
abbrev N_law_feed : List Str := ["_law_script"]
abbrev P_law_feed : List Str := ["_law_script"]
theorem sc_law_feed : FnScope N_law_feed P_law_feed (defScope s_law_feed) := ⟨rfl, rfl, rfl, by decide +kernel, rfl, by decide +kernel, by decide +kernel⟩
def sp_law_feed (K : PySem.W.Frag) : Sp := fun vs H Q _ => ∃ (a : Addr) (ns : List Int), vs = [.ref a] ∧ SqL K H a (ns.map V.int) ∧ ns.length ≤ 63 ∧ ∀ (H' : Hp) (f c : Addr), Ex H H' → H f = none → Feed H' f c 0 → Q (.ref f) H'
theorem ok_law_feed (d : Dn K mg d_law_feed) (T : Tb w K mg) : Cal P w K mg base 1 "_law_feed" [] (sp_law_feed K) := by
  refine d.cal sc_law_feed (fun vs H Q E h => ?_) (fun f fd F => ⟨[], .nil, F.bindsN fun _ _ _ _ _ _ us hl => match us, hl with | [_], _ => rfl⟩) fun f cdv A outer s H vs Q E hr h => have hu := hu_of hr; ⟨_, PSs.nox (pss_one (ps_ret (pe_lst (pa_cons (pe_callTy call_list_of rfl T.list boot_list (pa_cons (pe_slice sl_list (pv 0) po_none (po_some pe_int)) pa_nil)) (pa_cons pe_int (pa_cons pe_int pa_nil)))))), ?_⟩
  · obtain ⟨_, _, rfl, _⟩ := h; rfl
  · obtain ⟨a, ns, rfl, ha, hlen, q⟩ := h
    walk_at "go"
    refine i_lst ?_
    walk_at "go"
    refine ⟨a, ns.map V.int, rfl, ha, fun p hp => ?_⟩
    have hc : cutV (ns.map V.int) none (some 63) = ns.map V.int := by
      unfold cutV HT.sIx
      rw [List.length_map]
      show ((ns.map V.int).drop 0).take _ = _
      rw [List.drop_zero, List.take_of_length_le]
      rw [List.length_map]
      show ns.length ≤ _ - 0
      simp [HT.sIx]
      omega
    rw [hc]
    have e1 := Ex.new (o := HO.lst (ns.map V.int)) hp
    have k1 : (upd H p (.lst (ns.map V.int))) p = some (.lst (ns.map V.int)) := upd_same
    generalize upd H p (.lst (ns.map V.int)) = H1 at e1 k1 ⊢
    walk_at "go"
    refine ⟨p, _, rfl, .inl (SqL.of k1), fun p2 hp2 => ?_⟩
    have e2 := Ex.new (o := HO.lst (ns.map V.int)) hp2
    have k2 : (upd H1 p2 (.lst (ns.map V.int))) p2 = some (.lst (ns.map V.int)) := upd_same
    generalize upd H1 p2 (.lst (ns.map V.int)) = H2 at e2 k2 ⊢
    walk_at "go"
    refine ⟨sz (by simp), fun f hf => ?_⟩
    refine q _ f p2 ((e1.trans e2).trans (Ex.new hf)) ((e1.trans e2).back hf) ⟨ns, 0, 0, upd_same, Ex.new hf _ _ k2, fun z => ?_, by omega, by omega, hlen⟩
    rw [z, hf] at k2; cases k2
abbrev N_law_draw : List Str := ["_law_feed_here", "_law_many", "_law_figure", "_law_at", "_law_cell", "_law_mixed"]
abbrev P_law_draw : List Str := ["_law_feed_here", "_law_many"]
theorem sc_law_draw : FnScope N_law_draw P_law_draw (defScope s_law_draw) := ⟨rfl, rfl, rfl, by decide +kernel, rfl, by decide +kernel, by decide +kernel⟩
def sp_law_draw : Sp := fun vs H Q _ => ∃ (f c : Addr) (m : Int) (n : Nat), vs = [.ref f, .int m] ∧ Feed H f c n ∧ n ≤ 100000 ∧ 0 < m ∧ m < 1073741824 ∧ ∀ (H' : Hp) (r : Int), Fx f H H' → Feed H' f c (n + 1) → 0 ≤ r → r < m → Q (.int r) H'
theorem ok_law_draw (d : Dn K mg d_law_draw) (T : Tb w K mg) : Cal P w K mg base 1 "_law_draw" [] sp_law_draw := by
  refine d.cal sc_law_draw (fun vs H Q E h => ?_) (fun f fd F => ⟨[], .nil, F.bindsN fun _ _ _ _ _ _ us hl => match us, hl with | [_, _], _ => rfl⟩) fun f cdv A outer s H vs Q E hr h => have hu := hu_of hr; ⟨_, PSs.nox (pss_cons (ps_if (pt_cmpR op_gt (pe_ix ix_list (pv 0) pe_int (fun _ _ => rfl)) pe_int (nomark _)) (pss_cons (ps_set (i := 2) sc_law_draw.nd rfl (Or.inl rfl) (pe_op op_mod (pe_ix ix_list (pv 0) pe_int (fun _ _ => rfl)) (pv 1))) (pss_cons (ps_asg (pe_op op_fdiv (pe_ix ix_list (pv 0) pe_int (fun _ _ => rfl)) (pv 1)) (pg_sub (pv 0) pe_int set_list)) (pss_one (ps_ret (pv 2))))) pss_nil) (pss_cons (ps_set (i := 3) sc_law_draw.nd rfl (Or.inl rfl) (pe_ix ix_list (pv 0) pe_int (fun _ _ => rfl))) (pss_cons (ps_asg (pe_op op_add (pv 3) pe_int) (pg_sub (pv 0) pe_int set_list)) (pss_cons (ps_set (i := 4) sc_law_draw.nd rfl (Or.inl rfl) (pe_ifExp (pt_cmpR (op_neD hr.units) (pe_ix ix_list (pv 0) pe_int (fun _ _ => rfl)) (pe_lst pa_nil) (nomark _)) (pe_ix ix_list (pe_ix ix_list (pv 0) pe_int (fun _ _ => rfl)) (pe_op op_mod (pv 3) (pe_callB call_len_seq rfl T.len boot_len (pa_cons (pe_ix ix_list (pv 0) pe_int (fun _ _ => rfl)) pa_nil))) (fun _ _ => rfl)) pe_int)) (pss_cons (ps_if (PW.pt (pw_and (pt_cmpR op_ge (pv 4) (pe_op op_pow pe_int pe_int) (nomark _)) (pw_and1 (pt_cmpR op_lt (pv 3) (pe_callB call_len_seq rfl T.len boot_len (pa_cons (pe_ix ix_list (pv 0) pe_int (fun _ _ => rfl)) pa_nil)) (nomark _))))) (pss_cons (ps_asg (pe_op op_fdiv (pv 4) (pv 1)) (pg_sub (pv 0) pe_int set_list)) (pss_one (ps_ret (pe_op op_mod (pv 4) (pv 1))))) pss_nil) (pss_cons (ps_set (i := 5) sc_law_draw.nd rfl (Or.inl rfl) (pe_op op_mod (pe_op op_mul (pe_op op_add (pe_op op_add (pe_op op_add (pe_op op_mod (pv 4) pe_int) (pe_op op_mul (pe_op op_mul pe_int (pv 3)) (pv 3))) (pe_op op_mul pe_int (pv 3))) pe_int) pe_int) pe_int)) (pss_cons (ps_set (i := 5) sc_law_draw.nd rfl (Or.inl rfl) (pe_op op_mod (pe_op op_add (pe_op op_add (pe_op op_mul (pv 5) (pv 5)) (pe_op op_mul pe_int (pv 3))) pe_int) pe_int)) (pss_cons (ps_set (i := 5) sc_law_draw.nd rfl (Or.inl rfl) (pe_op op_mod (pe_op op_add (pe_op op_add (pe_op op_mul (pv 5) (pv 5)) (pe_op op_mul pe_int (pv 5))) (pv 3)) pe_int)) (pss_one (ps_ret (pe_op op_mod (pe_op op_fdiv (pv 5) pe_int) (pv 1)))))))))))), ?_⟩
  · obtain ⟨_, _, _, _, rfl, _⟩ := h; rfl
  · obtain ⟨f, c, m, n, rfl, F, hn, m0, m1, q⟩ := h
    obtain ⟨xs, a, l, h1, h2, h3, h4, h5, h6⟩ := F.ex
    have ix0 : ∀ {H : Hp} {Q : VK} {c : V} {a l : Int}, H f = some (.lst [c, .int a, .int l]) → Q c H → rIxL K (.ref f) (.int 0) H Q := fun h q => ⟨f, _, 0, _, rfl, rfl, SqL.of h, rfl, q⟩
    have ix1 : ∀ {H : Hp} {Q : VK} {c : V} {a l : Int}, H f = some (.lst [c, .int a, .int l]) → Q (.int a) H → rIxL K (.ref f) (.int 1) H Q := fun h q => ⟨f, _, 1, _, rfl, rfl, SqL.of h, rfl, q⟩
    have ix2 : ∀ {H : Hp} {Q : VK} {c : V} {a l : Int}, H f = some (.lst [c, .int a, .int l]) → Q (.int l) H → rIxL K (.ref f) (.int 2) H Q := fun h q => ⟨f, _, 2, _, rfl, rfl, SqL.of h, rfl, q⟩
    have feed : ∀ {H' : Hp} (a' l' : Int), 0 ≤ a' → a' ≤ n + 1 → H' c = some (.lst (xs.map V.int)) → Feed (upd H' f (.lst [.ref c, .int a', .int l'])) f c (n + 1) := fun a' l' x1 x2 x3 => ⟨xs, a', l', upd_same, by rw [upd_ne h3]; exact x3, h3, x1, by omega, h6⟩
    walk_at "go"
    refine ix2 h1 ?_
    walk_at "go"
    refine i_ite (fun e => ?_) fun e => ?_
    · walk_at "go"
      refine ix2 h1 ?_
      walk_at "go"
      refine ix2 h1 ?_
      walk_at "go"
      refine i_gsub ?_
      walk_at "go"
      refine ⟨f, _, 2, 2, rfl, rfl, h1, rfl, ?_⟩
      walk_at "go"
      exact q _ _ (fun x o hx ne => by rw [upd_ne ne]; exact hx) (feed a _ h4 (by omega) h2) (Int.emod_nonneg _ (by omega)) (Int.emod_lt_of_pos _ m0)
    walk_at "go"
    refine ix1 h1 ?_
    walk_at "go"
    refine i_gsub ?_
    walk_at "go"
    refine ⟨f, _, 1, 1, rfl, rfl, h1, rfl, ?_⟩
    show tSeq _ _ _ _ (upd H f (.lst [.ref c, .int (a + 1), .int l]))
    have fx1 : Fx f H (upd H f (.lst [.ref c, .int (a + 1), .int l])) := fun x o hx ne => by rw [upd_ne ne]; exact hx
    have F1 : Feed (upd H f (.lst [.ref c, .int (a + 1), .int l])) f c (n + 1) := feed (a + 1) l (by omega) (by omega) h2
    have g1 : (upd H f (.lst [.ref c, .int (a + 1), .int l])) f = some (.lst [.ref c, .int (a + 1), .int l]) := upd_same
    have g2 : (upd H f (.lst [.ref c, .int (a + 1), .int l])) c = some (.lst (xs.map V.int)) := by rw [upd_ne h3]; exact h2
    generalize upd H f (.lst [.ref c, .int (a + 1), .int l]) = H1 at fx1 F1 g1 g2 ⊢
    walk_at "go"
    refine ix0 g1 ?_
    walk_at "go"
    refine i_lst ?_
    walk_at "go"
    refine ⟨sz (by simp), fun p hp => i_neN (SqL.of (Ex.new hp _ _ g2)) (SqL.of upd_same) ?_⟩
    have e2 := Ex.new (o := HO.lst []) hp
    have F2 := F1.ex_ e2
    have fx2 := fx1.trans e2.fx
    have g1' := e2 _ _ g1
    have g2' := e2 _ _ g2
    generalize upd H1 p (.lst []) = H2 at e2 F2 fx2 g1' g2' ⊢
    clear g1 g2 F1 fx1
    walk_at "go"
    refine i_ite (fun e => ?_) fun e => ?_
    · have hne : xs ≠ [] := by simpa using e
      have hpos : 0 < xs.length := List.length_pos_iff.mpr hne
      walk_at "go"
      refine ix0 g1' ?_
      walk_at "go"
      refine ix0 g1' ?_
      walk_at "go"
      refine ⟨c, _, rfl, .inl (SqL.of g2'), ?_⟩
      walk_at "go"
      rw [List.length_map]
      refine i_I (by show (0 : Int) < xs.length; omega) ?_
      have hm0 : 0 ≤ a % (xs.length : Int) := Int.emod_nonneg _ (by omega)
      have hm1 : a % (xs.length : Int) < xs.length := Int.emod_lt_of_pos _ (by omega)
      have hcell : atI (xs.map V.int) (a % (xs.length : Int)) = some (.int (xs[(a % (xs.length : Int)).toNat]'(by omega))) := by
        have hj : (xs.map V.int)[(a % (xs.length : Int)).toNat]? = some (.int (xs[(a % (xs.length : Int)).toNat]'(by omega))) := by
          rw [List.getElem?_map, List.getElem?_eq_getElem (by omega)]; rfl
        have := atI_nat hj
        rwa [show (((a % (xs.length : Int)).toNat : Nat) : Int) = a % (xs.length : Int) by omega] at this
      refine ⟨c, _, _, _, rfl, rfl, SqL.of g2', hcell, ?_⟩
      generalize xs[(a % (xs.length : Int)).toNat]'(by omega) = cell
      clear hcell
      walk_at "go"
      refine i_ite (fun e => ?_) fun e => ?_
      · walk_at "go"
        refine ix0 g1' ?_
        walk_at "go"
        refine ⟨c, _, rfl, .inl (SqL.of g2'), ?_⟩
        walk_at "go"
        refine i_ite (fun e => ?_) fun e => ?_
        · walk_at "go"
          refine i_gsub ?_
          walk_at "go"
          refine ⟨f, _, 2, 2, rfl, rfl, g1', rfl, ?_⟩
          walk_at "go"
          exact q _ _ (fx2.trans fun x o hx ne => by rw [upd_ne ne]; exact hx) ⟨xs, a + 1, _, upd_same, by rw [upd_ne h3]; exact g2', h3, by omega, by omega, h6⟩ (Int.emod_nonneg _ (by omega)) (Int.emod_lt_of_pos _ m0)
        · walk_at "go"
          exact q _ _ fx2 F2 (Int.emod_nonneg _ (by omega)) (Int.emod_lt_of_pos _ m0)
      · walk_at "go"
        exact q _ _ fx2 F2 (Int.emod_nonneg _ (by omega)) (Int.emod_lt_of_pos _ m0)
    · walk_at "go"
      generalize (105 : Int) = cell
      refine i_ite (fun e => ?_) fun e => ?_
      · walk_at "go"
        refine ix0 g1' ?_
        walk_at "go"
        refine ⟨c, _, rfl, .inl (SqL.of g2'), ?_⟩
        walk_at "go"
        refine i_ite (fun e => ?_) fun e => ?_
        · walk_at "go"
          refine i_gsub ?_
          walk_at "go"
          refine ⟨f, _, 2, 2, rfl, rfl, g1', rfl, ?_⟩
          walk_at "go"
          exact q _ _ (fx2.trans fun x o hx ne => by rw [upd_ne ne]; exact hx) ⟨xs, a + 1, _, upd_same, by rw [upd_ne h3]; exact g2', h3, by omega, by omega, h6⟩ (Int.emod_nonneg _ (by omega)) (Int.emod_lt_of_pos _ m0)
        · walk_at "go"
          exact q _ _ fx2 F2 (Int.emod_nonneg _ (by omega)) (Int.emod_lt_of_pos _ m0)
      · walk_at "go"
        exact q _ _ fx2 F2 (Int.emod_nonneg _ (by omega)) (Int.emod_lt_of_pos _ m0)
end

section
variable {f c : Addr} {H H1 : Hp} {n : Nat} {m : Int} {Q : VK} {E : XK}
theorem i_draw (F : Feed H f c n) (hn : n ≤ 100000) (m0 : 0 < m) (m1 : m < 1073741824) (q : ∀ (H' : Hp) (r : Int), Fx f H H' → Feed H' f c (n + 1) → 0 ≤ r → r < m → Q (.int r) H') : sp_law_draw ([.ref f, .int m] ++ []) H Q E :=
  ⟨f, c, m, n, rfl, F, hn, m0, m1, q⟩
theorem at_mem {α : Type} {xs : List α} {r : Int} (h0 : 0 ≤ r) (h1 : r < xs.length) : ∃ v, atI xs r = some v ∧ v ∈ xs := by
  have hlt : r.toNat < xs.length := by omega
  refine ⟨xs[r.toNat], ?_, List.getElem_mem hlt⟩
  have := atI_nat (List.getElem?_eq_getElem hlt)
  rwa [show ((r.toNat : Nat) : Int) = r by omega] at this
theorem at_map {α : Type} {xs : List α} (g : α → V) {r : Int} (h0 : 0 ≤ r) (h1 : r < xs.length) : ∃ x, atI (xs.map g) r = some (g x) ∧ x ∈ xs := by
  obtain ⟨v, hv, hm⟩ := at_mem (xs := xs.map g) h0 (by rw [List.length_map]; exact h1)
  obtain ⟨x, hx, rfl⟩ := List.mem_map.mp hm
  exact ⟨x, hv, hx⟩
theorem cut_to (xs : List V) (j : Int) (h0 : 0 ≤ j) (h1 : j ≤ xs.length) : cutV xs none (some j) = xs.take j.toNat := by
  have e1 : HT.sIx xs.length 0 none = 0 := rfl
  have e2 : HT.sIx xs.length xs.length (some j) = j.toNat := by
    show (if j < 0 then (j + xs.length).toNat else min j.toNat xs.length) = j.toNat
    rw [if_neg (by omega)]; omega
  unfold cutV
  rw [e1, e2, List.drop_zero, Nat.sub_zero]
end
theorem i_opt {b : Bool} {S : TS} {Dd : Ends} {σ : L2.St} {H : Hp} (inv : L2.St → Hp → Prop) (fin : ∀ σ' H', inv σ' H' → Dd.nx σ' H') (h1 : b = true → (∀ σ' H', inv σ' H' → Dd.nx σ' H') → S Dd σ H) (h2 : b = false → inv σ H) : if b = true then S Dd σ H else tNext Dd σ H := by
  cases b with
  | true => rw [if_pos rfl]; exact h1 rfl fin
  | false => rw [if_neg (by decide)]; exact fin _ _ (h2 rfl)
def rowOk (r : Str × Int × List (Int × Int)) : Prop := (∃ p ∈ r.2.2, p.1 ≤ 0) ∧ r.2.2.length ≤ 2 ∧ ∀ p ∈ r.2.2, 0 ≤ p.2 ∧ p.2 ≤ 6000
section
variable {P : Program} {w : World} {K : PySem.W.Frag} {mg : Str → Option Value} {base : Heap} {k : Nat}
abbrev N_law_house : List Str := ["_law_feed_here", "_law_menu", "_law_item", "_law_prices", "_law_offs", "_law_k", "_law_items", "_law_begin", "_law_row"]
abbrev P_law_house : List Str := ["_law_feed_here"]
theorem sc_law_house : FnScope N_law_house P_law_house (defScope s_law_house) := ⟨rfl, rfl, rfl, by decide +kernel, rfl, by decide +kernel, by decide +kernel⟩
def sp_law_house : Sp := fun vs H Q _ => ∃ (f c : Addr) (n : Nat), vs = [.ref f] ∧ Feed H f c n ∧ n ≤ 90000 ∧ ∀ (H' : Hp) (v : V) (hs : House), Fx f H H' → Feed H' f c (n + 300) → hs.Ok → Is H' v hs.d → Q v H'
theorem ok_law_house (d : Dn K mg d_law_house) (T : Tb w K mg) (c_law_draw : Cal P w K mg base 1 "_law_draw" [] sp_law_draw) : Cal P w K mg base 2 "_law_house" [] sp_law_house := by
  refine d.cal sc_law_house (fun vs H Q E h => ?_) (fun f fd F => ⟨[], .nil, F.bindsN fun _ _ _ _ _ _ us hl => match us, hl with | [_], _ => rfl⟩) fun f cdv A outer s H vs Q E hr h => have hu := hu_of hr; ⟨_, PSs.nox (pss_cons (ps_set (i := 1) sc_law_house.nd rfl (Or.inl rfl) (pe_lst pa_nil)) (pss_cons (ps_for PassesOwn.never rfl (pi_list (pe_slice sl_list (pe_lst (pa_cons pe_str (pa_cons pe_str (pa_cons pe_str (pa_cons pe_str pa_nil))))) po_none (po_some (pe_op op_add pe_int (pe_cl c_law_draw hr (pa_cons (pv 0) (pa_cons pe_int pa_nil))))))) (pg_name (i := 2) sc_law_house.nd rfl (Or.inl rfl)) (pss_cons (ps_set (i := 3) sc_law_house.nd rfl (Or.inl rfl) (pe_lst (pa_cons (pe_tup (pa_cons pe_int (pa_cons (pe_ix ix_list (pe_lst (pa_cons pe_int (pa_cons pe_int (pa_cons pe_int (pa_cons pe_int (pa_cons pe_int (pa_cons (pe_cl c_law_draw hr (pa_cons (pv 0) (pa_cons pe_int pa_nil))) pa_nil))))))) (pe_cl c_law_draw hr (pa_cons (pv 0) (pa_cons pe_int pa_nil))) (fun _ _ => rfl)) pa_nil))) pa_nil))) (pss_cons (ps_if (pt_cmpR op_eq (pe_cl c_law_draw hr (pa_cons (pv 0) (pa_cons pe_int pa_nil))) pe_int (nomark _)) (pss_one (ps_expr (pe_bm PySem.F.plainAttrs_list PySem.F.slot_list_append PySem.F.type_list_append mt_append (pv 3) (pa_cons (pe_tup (pa_cons (pe_op op_add pe_int (pe_cl c_law_draw hr (pa_cons (pv 0) (pa_cons pe_int pa_nil)))) (pa_cons (pe_cl c_law_draw hr (pa_cons (pv 0) (pa_cons pe_int pa_nil))) pa_nil))) pa_nil)))) pss_nil) (pss_one (ps_expr (pe_bm PySem.F.plainAttrs_list PySem.F.slot_list_append PySem.F.type_list_append mt_append (pv 1) (pa_cons (pe_tup (pa_cons (pv 2) (pa_cons (pe_cl c_law_draw hr (pa_cons (pv 0) (pa_cons pe_int pa_nil))) (pa_cons (pe_callTy call_tuple_of rfl T.tuple boot_tuple (pa_cons (pv 3) pa_nil)) pa_nil)))) pa_nil))))))) (pss_cons (ps_set (i := 4) sc_law_house.nd rfl (Or.inl rfl) (pe_lst pa_nil)) (pss_cons (ps_for PassesOwn.never rfl (pi_range1 rfl T.range (pa_cons (pe_cl c_law_draw hr (pa_cons (pv 0) (pa_cons pe_int pa_nil))) pa_nil)) (pg_name (i := 5) sc_law_house.nd rfl (Or.inl rfl)) (pss_cons (ps_set (i := 6) sc_law_house.nd rfl (Or.inl rfl) (pe_callTy call_tuple_of rfl T.tuple boot_tuple (pa_cons (pe_lc rfl sc_law_house.nd (pi_list (pv 1)) (blkOk_by (own := [("_law_row", 8)]) (N := N_law_house) (sc := defScope s_law_house) (by decide +kernel)) (fun _ _ _ _ _ => (pg_name (i := 8) sc_law_house.nd rfl (Or.inl rfl))) (fun _ _ _ _ _ => (pts_one (pt_cmpR op_eq (pe_cl c_law_draw hr (pa_cons (pv 0) (pa_cons pe_int pa_nil))) pe_int (nomark _)))) (fun _ _ _ _ _ => (pe_ix (ix_tupK K rfl) (pv 8) pe_int (fun _ _ => rfl)))) pa_nil))) (pss_cons (ps_set (i := 7) sc_law_house.nd rfl (Or.inl rfl) (pe_cl c_law_draw hr (pa_cons (pv 0) (pa_cons pe_int pa_nil)))) (pss_one (ps_expr (pe_bm PySem.F.plainAttrs_list PySem.F.slot_list_append PySem.F.type_list_append mt_append (pv 4) (pa_cons (pe_tup (pa_cons (pv 6) (pa_cons (pv 7) (pa_cons (pe_op op_add (pv 7) (pe_cl c_law_draw hr (pa_cons (pv 0) (pa_cons pe_int pa_nil)))) (pa_cons (pe_ix ix_list (pe_lst (pa_cons pe_int (pa_cons pe_int (pa_cons pe_int (pa_cons pe_int (pa_cons pe_int pa_nil)))))) (pe_cl c_law_draw hr (pa_cons (pv 0) (pa_cons pe_int pa_nil))) (fun _ _ => rfl)) pa_nil))))) pa_nil))))))) (pss_one (ps_ret (pe_tup (pa_cons (pe_callTy call_tuple_of rfl T.tuple boot_tuple (pa_cons (pv 1) pa_nil)) (pa_cons (pe_callTy call_tuple_of rfl T.tuple boot_tuple (pa_cons (pv 4) pa_nil)) (pa_cons (pe_cl c_law_draw hr (pa_cons (pv 0) (pa_cons pe_int pa_nil))) (pa_cons (pe_op op_add pe_int (pe_cl c_law_draw hr (pa_cons (pv 0) (pa_cons pe_int pa_nil)))) pa_nil))))))))))), ?_⟩
  · obtain ⟨_, _, _, rfl, _⟩ := h; rfl
  · obtain ⟨f, c, n, rfl, F, hn, q⟩ := h
    walk_at "go"
    refine i_lst ?_
    walk_at "go"
    refine ⟨sz (by simp), fun D hD => ?_⟩
    have e1 := Ex.new (o := HO.lst []) hD
    have hDv : (upd H D (.lst [])) D = some (.lst []) := upd_same
    have F1 := F.ex_ e1
    have x1 : Fx f H (upd H D (.lst [])) := e1.fx
    have nDf := F.ne hD
    have nDc := F.nec hD
    generalize upd H D (.lst []) = H1 at e1 hDv F1 x1 ⊢
    walk_at "go"
    refine i_lst ?_
    walk_at "go"
    refine ⟨sz (by simp), fun L hL => ?_⟩
    have e2 := Ex.new (o := HO.lst [V.str "ale", V.str "bun", V.str "soup", V.str "tea"]) hL
    have k2 : (upd H1 L (.lst [V.str "ale", V.str "bun", V.str "soup", V.str "tea"])) L = some (.lst ((["ale", "bun", "soup", "tea"] : List Str).map V.str)) := upd_same
    have nLf := F1.ne hL
    generalize upd H1 L (.lst [V.str "ale", V.str "bun", V.str "soup", V.str "tea"]) = H2 at e2 k2 ⊢
    walk_at "go"
    refine i_draw (F1.ex_ e2) (by omega) (by decide) (by decide) fun H3 r x3 F3 r0 r1 => ?_
    walk_at "go"
    have hD3 := x3 _ _ (e2 _ _ hDv) nDf
    have x13 := (x1.trans e2.fx).trans x3
    refine ⟨L, _, rfl, SqL.of (x3 _ _ k2 nLf), fun L2 hL2 => ?_⟩
    rw [cut_to _ _ (by omega) (by show 1 + r ≤ 4; omega)]
    have hnl : ((["ale", "bun", "soup", "tea"] : List Str).map V.str).take (1 + r).toNat = ((["ale", "bun", "soup", "tea"] : List Str).take (1 + r).toNat).map V.str := by rw [List.map_take]
    rw [hnl]
    generalize hnm : (["ale", "bun", "soup", "tea"] : List Str).take (1 + r).toNat = nm
    have hnml : nm.length = (1 + r).toNat := by rw [← hnm, List.length_take]; show min _ 4 = _; omega
    have nL2f := F3.ne hL2
    have e4 := Ex.new (o := HO.lst (nm.map V.str)) hL2
    have k4 : (upd H3 L2 (.lst (nm.map V.str))) L2 = some (.lst (nm.map V.str)) := upd_same
    have hD4 := e4 _ _ hD3
    have nDL : D ≠ L2 := fun z => by rw [← z, hD3] at hL2; cases hL2
    have F4 := F3.ex_ e4
    have x4 := x13.trans e4.fx
    generalize upd H3 L2 (.lst (nm.map V.str)) = H4 at e4 k4 hD4 F4 x4 ⊢
    refine ⟨L2, rfl, ⟨_, SqL.of k4⟩, for_list (xs := nm.map V.str) (fun i σ H' => (∃ z2 z3 z4 z5 z6 z7 z8, σ = [some (.ref f), some (.ref D), z2, z3, z4, z5, z6, z7, z8]) ∧ H' L2 = some (.lst (nm.map V.str)) ∧ Fx f H H' ∧ Feed H' f c (n + 1 + 8 * i) ∧
      ∃ (vs : List V) (menu : List (Str × Int × List (Int × Int))), H' D = some (.lst vs) ∧ IsAll H' vs (menu.map rowD) ∧ menu.length = i ∧ ∀ r ∈ menu, rowOk r) ?_ (fun i σ H' _ h => SqL.of h.2.1) (fun i x σ H' hx h => ?_) fun σ H' h => ?_⟩
    · exact ⟨⟨_, _, _, _, _, _, _, rfl⟩, k4, x4, F4.up (by omega), [], [], hD4, by simp [IsAll], rfl, fun r hr => by cases hr⟩
    · obtain ⟨⟨z2, z3, z4, z5, z6, z7, z8, rfl⟩, kL, xH, FH, vs, menu, kD, hvs, hml, hmo⟩ := h
      rw [List.getElem?_map] at hx
      obtain ⟨item, hitem, rfl⟩ := Option.map_eq_some_iff.mp hx
      have hi : i < 4 := by have := (List.getElem?_eq_some_iff.mp hitem).1; omega
      walk_at "go"
      refine i_lst ?_
      walk_at "go"
      refine i_tup ?_
      walk_at "go"
      refine i_lst ?_
      walk_at "go"
      refine i_draw FH (by omega) (by decide) (by decide) fun H5 a5 x5 F5 a50 a51 => ?_
      walk_at "go"
      refine ⟨sz (by simp), fun p6 hp6 => ?_⟩
      have e6 := Ex.new (o := HO.lst [V.int 0, V.int 1, V.int 7, V.int 250, V.int 6000, V.int a5]) hp6
      have k6 : (upd H5 p6 (.lst [V.int 0, V.int 1, V.int 7, V.int 250, V.int 6000, V.int a5])) p6 = some (.lst (([0, 1, 7, 250, 6000, a5] : List Int).map V.int)) := upd_same
      have F6 := F5.ex_ e6
      have x6 := x5.trans e6.fx
      have n6 := F5.ne hp6
      generalize upd H5 p6 (.lst [V.int 0, V.int 1, V.int 7, V.int 250, V.int 6000, V.int a5]) = H6 at e6 k6 F6 x6 ⊢
      walk_at "go"
      refine i_draw F6 (by omega) (by decide) (by decide) fun H7 a7 x7 F7 a70 a71 => ?_
      walk_at "go"
      obtain ⟨pc, hat, hpm⟩ := at_map V.int (xs := ([0, 1, 7, 250, 6000, a5] : List Int)) a70 (by show a7 < 6; omega)
      have hpc : 0 ≤ pc ∧ pc ≤ 6000 := by
        simp only [List.mem_cons, List.not_mem_nil, or_false] at hpm
        omega
      refine ⟨p6, _, _, _, rfl, rfl, SqL.of (x7 _ _ k6 n6), hat, ?_⟩
      walk_at "go"
      refine ⟨sz (by simp), fun p8 hp8 => ?_⟩
      have e8 := Ex.new (o := HO.tup [V.int 0, V.int pc]) hp8
      have k8 : (upd H7 p8 (.tup [V.int 0, V.int pc])) p8 = some (.tup [V.int 0, V.int pc]) := upd_same
      have F8 := F7.ex_ e8
      have x8 := (x6.trans x7).trans e8.fx
      generalize upd H7 p8 (.tup [V.int 0, V.int pc]) = H8 at e8 k8 F8 x8 ⊢
      walk_at "go"
      refine ⟨sz (by simp), fun pr hpr => ?_⟩
      have e9 := Ex.new (o := HO.lst [V.ref p8]) hpr
      have k9 : (upd H8 pr (.lst [V.ref p8])) pr = some (.lst [V.ref p8]) := upd_same
      have F9 := F8.ex_ e9
      have x9 := x8.trans e9.fx
      have npf := F8.ne hpr
      have k89 := e9 _ _ k8
      have npD : pr ≠ D := fun z => by rw [z, x8 _ _ kD nDf] at hpr; cases hpr
      have npL : pr ≠ L2 := fun z => by rw [z, x8 _ _ kL nL2f] at hpr; cases hpr
      have hprH : H pr = none := by
        cases e : H pr with
        | none => rfl
        | some o => rw [x8 _ _ (xH _ _ e npf) npf] at hpr; cases hpr
      generalize upd H8 pr (.lst [V.ref p8]) = H9 at e9 k9 F9 x9 k89 ⊢
      clear e6 k6 F6 x6 x5 F5 x7 F7 e8 k8 F8 e9
      walk_at "go"
      refine i_draw F9 (by omega) (by decide) (by decide) fun H10 a10 x10 F10 a100 a101 => ?_
      walk_at "go"
      have kD10 := x10 _ _ (x9 _ _ kD nDf) nDf
      have kL10 := x10 _ _ (x9 _ _ kL nL2f) nL2f
      have x1H := (xH.trans x9).trans x10
      have t10 := FH.tex (x9.trans x10)
      have kp10 := x10 _ _ k9 npf
      have k810 := F9.tex x10 _ _ k89
      refine i_opt (fun σ H' => σ = [some (.ref f), some (.ref D), some (.str item), some (.ref pr), z4, z5, z6, z7, z8] ∧ Fx f H H' ∧ H' D = some (.lst vs) ∧ IsAll H' vs (menu.map rowD) ∧ H' L2 = some (.lst (nm.map V.str)) ∧ Feed H' f c (n + 1 + 8 * i + 6) ∧
        ∃ (us : List V) (prices : List (Int × Int)), H' pr = some (.lst us) ∧ IsAll H' us (prices.map priceD) ∧ us.length ≤ 2 ∧ rowOk (item, 0, prices)) (fun σ H' h => ?_) (fun e kk => ?_) (fun e => ?_)
      · obtain ⟨rfl, yH, yD, yvs, yL, yF, us, prices, yp, yus, yl, yok⟩ := h
        walk_at "go"
        refine ⟨ty_lst yD, ?_⟩
        walk_at "go"
        refine i_tup ?_
        walk_at "go"
        refine i_draw yF (by omega) (by decide) (by decide) fun H11 a11 x11 F11 a110 a111 => ?_
        walk_at "go"
        refine ⟨pr, us, rfl, .inl ⟨SqL.of (x11 _ _ yp npf), fun p12 hp12 => ?_⟩⟩
        have e12 := Ex.new (o := HO.tup us) hp12
        have k12 : (upd H11 p12 (.tup us)) p12 = some (.tup us) := upd_same
        generalize upd H11 p12 (.tup us) = H12 at e12 k12 ⊢
        walk_at "go"
        refine ⟨sz (by simp), fun p13 hp13 => ?_⟩
        have e13 := Ex.new (o := HO.tup [V.str item, V.int a11, V.ref p12]) hp13
        have k13 : (upd H12 p13 (.tup [V.str item, V.int a11, V.ref p12])) p13 = some (.tup [V.str item, V.int a11, V.ref p12]) := upd_same
        generalize upd H12 p13 (.tup [V.str item, V.int a11, V.ref p12]) = H13 at e13 k13 ⊢
        have x13' : Fx f H' H13 := x11.trans (e12.trans e13).fx
        have F13 := (F11.ex_ e12).ex_ e13
        have t13 := yF.tex x13'
        walk_at "go"
        have yD13 := x13' _ _ yD nDf
        have hvl : vs.length = i := by rw [hvs.len, List.length_map, hml]
        refine ⟨D, vs, _, rfl, rfl, yD13, szl (by omega), ?_⟩
        have t14 : TEx H13 (upd H13 D (.lst (vs ++ [V.ref p13]))) := TEx.mut yD13 fun _ => by simp
        refine ⟨⟨_, _, _, _, _, _, _, rfl⟩, by rw [upd_ne (Ne.symm nDL)]; exact x13' _ _ yL nL2f, (yH.trans x13').mut hD, (F13.put nDf nDc).up (by omega), _, menu ++ [(item, a11, prices)], upd_same, ?_, by simp [hml], ?_⟩
        · rw [List.map_append]
          refine IsAll.snoc (IsAll.mono (t13.trans t14) _ yvs) (Is.mono t14 _ (is_tup k13 ?_))
          simp only [IsAll, Is, and_true, true_and]
          exact ⟨p12, us, rfl, e13 _ _ k12, IsAll.mono (t13) _ yus⟩
        · intro r hr
          rcases List.mem_append.mp hr with hr | hr
          · exact hmo r hr
          · rw [List.mem_singleton.mp hr]; exact yok
      · walk_at "go"
        refine ⟨ty_lst kp10, ?_⟩
        walk_at "go"
        refine i_tup ?_
        walk_at "go"
        refine i_draw F10 (by omega) (by decide) (by decide) fun H11 a11 x11 F11 a110 a111 => ?_
        walk_at "go"
        refine i_draw F11 (by omega) (by decide) (by decide) fun H12 a12 x12 F12 a120 a121 => ?_
        walk_at "go"
        refine ⟨sz (by simp), fun p13 hp13 => ?_⟩
        have e13 := Ex.new (o := HO.tup [V.int (1 + a11), V.int a12]) hp13
        have k13 : (upd H12 p13 (.tup [V.int (1 + a11), V.int a12])) p13 = some (.tup [V.int (1 + a11), V.int a12]) := upd_same
        generalize upd H12 p13 (.tup [V.int (1 + a11), V.int a12]) = H13 at e13 k13 ⊢
        have x13' : Fx f H10 H13 := (x11.trans x12).trans e13.fx
        have F13 := F12.ex_ e13
        walk_at "go"
        have kp13 := x13' _ _ kp10 npf
        have npc : pr ≠ c := F.nec hprH
        refine ⟨pr, [V.ref p8], _, rfl, rfl, kp13, szl (by simp), ?_⟩
        have t14 : TEx H13 (upd H13 pr (.lst ([V.ref p8] ++ [V.ref p13]))) := TEx.mut kp13 fun _ => by simp
        have t1014 := (F10.tex x13').trans t14
        refine kk _ _ ⟨rfl, (x1H.trans x13').mut hprH, by rw [upd_ne (Ne.symm npD)]; exact x13' _ _ kD10 nDf, IsAll.mono (t10.trans t1014) _ hvs, by rw [upd_ne (Ne.symm npL)]; exact x13' _ _ kL10 nL2f, (F13.put npf npc).up (by omega), _, [(0, pc), (1 + a11, a12)], upd_same, ?_, by simp, ⟨(0, pc), by simp, by simp⟩, by simp, ?_⟩
        · simp only [List.map_cons, List.map_nil, List.cons_append, List.nil_append, IsAll, and_true]
          exact ⟨Is.mono t1014 _ (is_tup k810 (by simp [IsAll, Is])), Is.mono t14 _ (is_tup k13 (by simp [IsAll, Is]))⟩
        · intro p hp
          simp only [List.mem_cons, List.not_mem_nil, or_false] at hp
          rcases hp with rfl | rfl
          · exact hpc
          · show 0 ≤ a12 ∧ a12 ≤ 6000; omega
      · refine ⟨rfl, x1H, kD10, IsAll.mono t10 _ hvs, kL10, F10.up (by omega), _, [(0, pc)], kp10, ?_, by simp, ⟨(0, pc), by simp, by simp⟩, by simp, ?_⟩
        · simp only [List.map_cons, List.map_nil, IsAll, and_true]
          exact is_tup k810 (by simp [IsAll, Is])
        · intro p hp
          rw [List.mem_singleton.mp hp]; exact hpc
    · obtain ⟨⟨z2, z3, z4, z5, z6, z7, z8, rfl⟩, kL, xH, FH, vs, menu, kD, hvs, hml, hmo⟩ := h
      rw [List.length_map, hnml] at hml FH
      have hne : menu ≠ [] := fun z => by rw [z] at hml; simp at hml; omega
      have hm4 : menu.length ≤ 4 := by omega
      clear kL k4 hD4 F4 x4 e4 hnl
      generalize hN : n + 1 + 8 * (1 + r).toNat = N at FH
      have hN1 : N ≤ n + 40 := by omega
      walk_at "go"
      refine i_lst ?_
      walk_at "go"
      refine ⟨sz (by simp), fun O hO => ?_⟩
      have e5 := Ex.new (o := HO.lst []) hO
      have k5 : (upd H' O (.lst [])) O = some (.lst []) := upd_same
      have F5 := FH.ex_ e5
      have x5 := xH.trans e5.fx
      have nOf := FH.ne hO
      have nOD : O ≠ D := fun z => by rw [z, kD] at hO; cases hO
      have kD5 := e5 _ _ kD
      have hvs5 := IsAll.mono e5.tex _ hvs
      have hOH : H O = none := by
        cases e : H O with
        | none => rfl
        | some o => rw [xH _ _ e nOf] at hO; cases hO
      have nOc := F.nec hOH
      generalize upd H' O (.lst []) = H5 at e5 k5 F5 x5 kD5 hvs5 ⊢
      walk_at "go"
      refine i_draw F5 (by omega) (by decide) (by decide) fun H6 g x6 F6 g0 g1 => ?_
      walk_at "go"
      have x56 := x5.trans x6
      have kD6 := x6 _ _ kD5 nDf
      have kO6 := x6 _ _ k5 nOf
      have hvs6 := IsAll.mono (F5.tex x6) _ hvs5
      refine ⟨g, rfl, by omega, by omega, for_range (fun i σ H' => (∃ z2 z3 z5 z6 z7 z8, σ = [some (.ref f), some (.ref D), z2, z3, some (.ref O), z5, z6, z7, z8]) ∧ H' D = some (.lst vs) ∧ IsAll H' vs (menu.map rowD) ∧ Fx f H H' ∧ Feed H' f c (N + 1 + 10 * i) ∧
        ∃ (us : List V) (offs : List (List Str × Int × Int × Int)), H' O = some (.lst us) ∧ IsAll H' us (offs.map offD) ∧ offs.length = i ∧ ∀ o ∈ offs, o.1.length ≤ 4 ∧ 0 ≤ o.2.2.2 ∧ o.2.2.2 ≤ 100) ?_ (fun i σ H' hi h => ?_) fun σ H' h => ?_⟩
      · exact ⟨⟨_, _, _, _, _, _, rfl⟩, kD6, hvs6, x56, F6, [], [], kO6, by simp [IsAll], rfl, fun o ho => by cases ho⟩
      · obtain ⟨⟨y2, y3, y5, y6, y7, y8, rfl⟩, yD, yvs, yH, yF, us, offs, yO, yus, yol, yok⟩ := h
        have hi3 : i < 2 := by omega
        walk_at "go"
        refine ⟨D, rfl, ⟨_, SqL.of yD⟩, fun E1 hE1 => lc_list (xs := vs) (fun j H'' => ∃ out : List Str, H'' E1 = some (.lst (out.map V.str)) ∧ out.length ≤ j ∧ Fx f H' H'' ∧ Feed H'' f c (N + 1 + 10 * i + j)) ?_ (fun j H'' _ h => ?_) (fun j x H'' hx h => ?_) fun H'' h => ?_⟩
        · exact ⟨[], upd_same, Nat.le_refl _, (Ex.new hE1).fx, yF.ex_ (Ex.new hE1)⟩
        · obtain ⟨out, _, _, ex, _⟩ := h
          exact SqL.of (ex _ _ yD nDf)
        · obtain ⟨out, ko, hol, ex, hF⟩ := h
          obtain ⟨dd, hdd, hxi⟩ := yvs.at hx
          rw [List.getElem?_map] at hdd
          obtain ⟨row, hrow, rfl⟩ := Option.map_eq_some_iff.mp hdd
          have hj : j < 4 := by have := (List.getElem?_eq_some_iff.mp hrow).1; omega
          have nEf := yF.ne hE1
          have nEc : E1 ≠ c := yF.nec hE1
          walk_at "go"
          refine i_draw hF (by omega) (by decide) (by decide) fun H7 a7 x7 F7 a70 a71 => ?_
          walk_at "go"
          have hx7 := Is.mono (yF.tex (ex.trans x7)) _ hxi
          have ko7 := x7 _ _ ko nEf
          refine i_ite (fun e => ?_) fun e => ?_
          · walk_at "go"
            refine ix_isS (i := 0) hx7 rfl ?_
            refine ⟨_, ko7, szl (by rw [List.length_map]; omega), out ++ [row.1], by rw [upd_same, List.map_append]; rfl, by simp; omega, (ex.trans x7).mut hE1, (F7.put nEf nEc).up (by omega)⟩
          · exact ⟨out, ko7, by omega, ex.trans x7, F7.up (by omega)⟩
        · obtain ⟨out, ko, hol, ex, hF⟩ := h
          have hvl : vs.length ≤ 4 := by rw [yvs.len, List.length_map]; exact hm4
          walk_at "go"
          refine ⟨E1, _, rfl, .inl ⟨SqL.of ko, fun p8 hp8 => ?_⟩⟩
          have e8 := Ex.new (o := HO.tup (out.map V.str)) hp8
          have k8 : (upd H'' p8 (.tup (out.map V.str))) p8 = some (.tup (out.map V.str)) := upd_same
          have F8 := hF.ex_ e8
          have x8 := ex.trans e8.fx
          generalize upd H'' p8 (.tup (out.map V.str)) = H8 at e8 k8 F8 x8 ⊢
          walk_at "go"
          refine i_draw F8 (by omega) (by decide) (by decide) fun H9 a9 x9 F9 a90 a91 => ?_
          walk_at "go"
          have k9 := F8.tex x9 _ _ k8
          have x89 := x8.trans x9
          have kO9 := x89 _ _ yO nOf
          refine ⟨ty_lst kO9, ?_⟩
          walk_at "go"
          refine i_tup ?_
          walk_at "go"
          refine i_draw F9 (by omega) (by decide) (by decide) fun H10 a10 x10 F10 a100 a101 => ?_
          walk_at "go"
          refine i_lst ?_
          walk_at "go"
          refine ⟨sz (by simp), fun p11 hp11 => ?_⟩
          have e11 := Ex.new (o := HO.lst [V.int 0, V.int 100, V.int 50, V.int 33, V.int 1]) hp11
          have k11 : (upd H10 p11 (.lst [V.int 0, V.int 100, V.int 50, V.int 33, V.int 1])) p11 = some (.lst (([0, 100, 50, 33, 1] : List Int).map V.int)) := upd_same
          have F11 := F10.ex_ e11
          have x11 := (x89.trans x10).trans e11.fx
          have n11 := F10.ne hp11
          have k911 := e11 _ _ (F9.tex x10 _ _ k9)
          generalize upd H10 p11 (.lst [V.int 0, V.int 100, V.int 50, V.int 33, V.int 1]) = H11 at e11 k11 F11 x11 k911 ⊢
          walk_at "go"
          refine i_draw F11 (by omega) (by decide) (by decide) fun H12 a12 x12 F12 a120 a121 => ?_
          walk_at "go"
          obtain ⟨pc, hat, hpm⟩ := at_map V.int (xs := ([0, 100, 50, 33, 1] : List Int)) a120 (by show a12 < 5; omega)
          have hpc : 0 ≤ pc ∧ pc ≤ 100 := by
            simp only [List.mem_cons, List.not_mem_nil, or_false] at hpm
            omega
          refine ⟨p11, _, _, _, rfl, rfl, SqL.of (x12 _ _ k11 n11), hat, ?_⟩
          walk_at "go"
          refine ⟨sz (by simp), fun p13 hp13 => ?_⟩
          have e13 := Ex.new (o := HO.tup [V.ref p8, V.int a9, V.int (a9 + a10), V.int pc]) hp13
          have k13 : (upd H12 p13 (.tup [V.ref p8, V.int a9, V.int (a9 + a10), V.int pc])) p13 = some (.tup [V.ref p8, V.int a9, V.int (a9 + a10), V.int pc]) := upd_same
          have F13 := F12.ex_ e13
          have x13 := (x11.trans x12).trans e13.fx
          have k813 := e13 _ _ (F11.tex x12 _ _ k911)
          generalize upd H12 p13 (.tup [V.ref p8, V.int a9, V.int (a9 + a10), V.int pc]) = H13 at e13 k13 F13 x13 k813 ⊢
          walk_at "go"
          have kO13 := x13 _ _ yO nOf
          have hul : us.length = i := by rw [yus.len, List.length_map, yol]
          refine ⟨O, us, _, rfl, rfl, kO13, szl (by omega), ?_⟩
          have t14 : TEx H13 (upd H13 O (.lst (us ++ [V.ref p13]))) := TEx.mut kO13 fun _ => by simp
          have t013 := yF.tex x13
          refine ⟨⟨_, _, _, _, _, _, rfl⟩, by rw [upd_ne (Ne.symm nOD)]; exact x13 _ _ yD nDf, IsAll.mono (t013.trans t14) _ yvs, (yH.trans x13).mut hOH, (F13.put nOf nOc).up (by omega), _, offs ++ [(out, a9, a9 + a10, pc)], upd_same, ?_, by simp [yol], ?_⟩
          · rw [List.map_append]
            refine IsAll.snoc (IsAll.mono (t013.trans t14) _ yus) (Is.mono t14 _ (is_tup k13 ?_))
            simp only [IsAll, Is, and_true]
            exact ⟨p8, _, rfl, k813, is_strs out⟩
          · intro o ho
            rcases List.mem_append.mp ho with ho | ho
            · exact yok o ho
            · rw [List.mem_singleton.mp ho]; exact ⟨by show out.length ≤ 4; omega, hpc⟩
      · obtain ⟨⟨y2, y3, y5, y6, y7, y8, rfl⟩, yD, yvs, yH, yF, us, offs, yO, yus, yol, yok⟩ := h
        have hg2 : g.toNat ≤ 2 := by omega
        walk_at "go"
        refine i_tup ?_
        walk_at "go"
        refine ⟨D, vs, rfl, .inl ⟨SqL.of yD, fun p8 hp8 => ?_⟩⟩
        have e8 := Ex.new (o := HO.tup vs) hp8
        have k8 : (upd H' p8 (.tup vs)) p8 = some (.tup vs) := upd_same
        generalize upd H' p8 (.tup vs) = H8 at e8 k8 ⊢
        walk_at "go"
        refine ⟨O, us, rfl, .inl ⟨SqL.of (e8 _ _ yO), fun p9 hp9 => ?_⟩⟩
        have e9 := Ex.new (o := HO.tup us) hp9
        have k9 : (upd H8 p9 (.tup us)) p9 = some (.tup us) := upd_same
        generalize upd H8 p9 (.tup us) = H9 at e9 k9 ⊢
        have F9 := (yF.ex_ e8).ex_ e9
        walk_at "go"
        refine i_draw F9 (by omega) (by decide) (by decide) fun H10 a10 x10 F10 a100 a101 => ?_
        walk_at "go"
        refine i_draw F10 (by omega) (by decide) (by decide) fun H11 a11 x11 F11 a110 a111 => ?_
        walk_at "go"
        refine ⟨sz (by simp), fun p12 hp12 => ?_⟩
        have e12 := Ex.new (o := HO.tup [V.ref p8, V.ref p9, V.int a10, V.int (1 + a11)]) hp12
        have t912 := (F9.tex (x10.trans x11)).trans e12.tex
        have xx := ((x10.trans x11).trans e12.fx)
        refine q _ (.ref p12) ⟨menu, offs, a10, 1 + a11⟩ ((yH.trans (e8.trans e9).fx).trans xx) ((F11.ex_ e12).up (by omega)) ?_ (is_tup upd_same ?_)
        · exact ⟨hne, hm4, fun r hr => (hmo r hr).1, fun r hr => (hmo r hr).2.1, fun r hr => (hmo r hr).2.2, by show offs.length ≤ 2; omega, fun o ho => (yok o ho).1, fun o ho => (yok o ho).2⟩
        · simp only [IsAll, Is, and_true]
          exact ⟨⟨p8, vs, rfl, t912 _ _ (e9 _ _ k8), IsAll.mono ((e8.trans e9).tex.trans t912) _ yvs⟩, ⟨p9, us, rfl, t912 _ _ k9, IsAll.mono ((e8.trans e9).tex.trans t912) _ yus⟩⟩
end

theorem i_alt {b : Bool} {ta tb : TE} {σ : L2.St} {H : Hp} {G : VK} (inv : V → Hp → Prop) (fin : ∀ v H', inv v H' → G v H') (h1 : b = true → (∀ v H', inv v H' → G v H') → ta σ H G) (h2 : b = false → (∀ v H', inv v H' → G v H') → tb σ H G) : if b = true then ta σ H G else tb σ H G := by
  cases b with
  | true => rw [if_pos rfl]; exact h1 rfl fin
  | false => rw [if_neg (by decide)]; exact h2 rfl fin
def names12 : List Str := ["ann", "bo", "c", "zz", "dora", "b", "eve", "abcdefgh", "fay", "gus", "hal", "ida"]
def names6 : List Str := ["t", "u", "wide", "a", "tt", "z"]
structure CastOk (cs : List (Str × Str)) : Prop where
  nd : (keys cs).Nodup
  low : 2 ≤ cs.length
  few : cs.length ≤ 12
  tab : ∀ p ∈ cs, p.2 ≠ ""
  nm : ∀ z ∈ keys cs, z ∈ names12
section
variable {P : Program} {w : World} {K : PySem.W.Frag} {mg : Str → Option Value} {base : Heap} {k : Nat}
abbrev N_law_cast : List Str := ["_law_feed_here", "_law_tables", "_law_many", "_law_found", "_law_seat"]
abbrev P_law_cast : List Str := ["_law_feed_here"]
theorem sc_law_cast : FnScope N_law_cast P_law_cast (defScope s_law_cast) := ⟨rfl, rfl, rfl, by decide +kernel, rfl, by decide +kernel, by decide +kernel⟩
def sp_law_cast : Sp := fun vs H Q _ => ∃ (f c : Addr) (n : Nat), vs = [.ref f] ∧ Feed H f c n ∧ n ≤ 90000 ∧ ∀ (H' : Hp) (p : Addr) (cs : List (Str × Str)), Fx f H H' → Feed H' f c (n + 40) → H p = none → H' p = some (.dK (tabK cs)) → CastOk cs → Q (.ref p) H'
theorem ok_law_cast (d : Dn K mg d_law_cast) (T : Tb w K mg) (c_law_draw : Cal P w K mg base 1 "_law_draw" [] sp_law_draw) : Cal P w K mg base 2 "_law_cast" [] sp_law_cast := by
  refine d.cal sc_law_cast (fun vs H Q E h => ?_) (fun f fd F => ⟨[], .nil, F.bindsN fun _ _ _ _ _ _ us hl => match us, hl with | [_], _ => rfl⟩) fun f cdv A outer s H vs Q E hr h => have hu := hu_of hr; ⟨_, PSs.nox (pss_cons (ps_set (i := 1) sc_law_cast.nd rfl (Or.inl rfl) (pe_slice sl_list (pe_lst (pa_cons pe_str (pa_cons pe_str (pa_cons pe_str (pa_cons pe_str (pa_cons pe_str (pa_cons pe_str pa_nil))))))) po_none (po_some (pe_ifExp (pt_cmpR op_eq (pe_cl c_law_draw hr (pa_cons (pv 0) (pa_cons pe_int pa_nil))) pe_int (nomark _)) pe_int (pe_op op_add pe_int (pe_cl c_law_draw hr (pa_cons (pv 0) (pa_cons pe_int pa_nil)))))))) (pss_cons (ps_set (i := 2) sc_law_cast.nd rfl (Or.inl rfl) (pe_ifExp (pt_cmpR op_eq (pe_cl c_law_draw hr (pa_cons (pv 0) (pa_cons pe_int pa_nil))) pe_int (nomark _)) pe_int (pe_op op_add pe_int (pe_cl c_law_draw hr (pa_cons (pv 0) (pa_cons pe_int pa_nil)))))) (pss_cons (ps_set (i := 3) sc_law_cast.nd rfl (Or.inl rfl) pe_dnewK) (pss_cons (ps_for PassesOwn.never rfl (pi_list (pe_slice sl_list (pe_lst (pa_cons pe_str (pa_cons pe_str (pa_cons pe_str (pa_cons pe_str (pa_cons pe_str (pa_cons pe_str (pa_cons pe_str (pa_cons pe_str (pa_cons pe_str (pa_cons pe_str (pa_cons pe_str (pa_cons pe_str pa_nil))))))))))))) po_none (po_some (pv 2)))) (pg_name (i := 4) sc_law_cast.nd rfl (Or.inl rfl)) (pss_one (ps_dput hu (pv 3) (pv 4) (pe_ifExp (pt_cmpR op_gt (pe_cl c_law_draw hr (pa_cons (pv 0) (pa_cons pe_int pa_nil))) pe_int (nomark _)) (pe_ix ix_list (pv 1) pe_int (fun _ _ => rfl)) (pe_ix ix_list (pv 1) (pe_cl c_law_draw hr (pa_cons (pv 0) (pa_cons (pe_callB call_len_seq rfl T.len boot_len (pa_cons (pv 1) pa_nil)) pa_nil))) (fun _ _ => rfl))) rfl))) (pss_one (ps_ret (pv 3))))))), ?_⟩
  · obtain ⟨_, _, _, rfl, _⟩ := h; rfl
  · obtain ⟨f, c, n, rfl, F, hn, q⟩ := h
    walk_at "go"
    refine i_lst ?_
    walk_at "go"
    refine ⟨sz (by simp), fun L hL => ?_⟩
    have e1 := Ex.new (o := HO.lst [V.str "t", V.str "u", V.str "wide", V.str "a", V.str "tt", V.str "z"]) hL
    have k1 : (upd H L (.lst [V.str "t", V.str "u", V.str "wide", V.str "a", V.str "tt", V.str "z"])) L = some (.lst (names6.map V.str)) := upd_same
    have F1 := F.ex_ e1
    have nLf := F.ne hL
    generalize upd H L (.lst [V.str "t", V.str "u", V.str "wide", V.str "a", V.str "tt", V.str "z"]) = H1 at e1 k1 F1 ⊢
    walk_at "go"
    refine i_draw F1 (by omega) (by decide) (by decide) fun H2 a2 x2 F2 a20 a21 => ?_
    walk_at "go"
    refine i_alt (fun v H' => ∃ j : Int, v = .int j ∧ Fx f H1 H' ∧ Feed H' f c (n + 2) ∧ 1 ≤ j ∧ j ≤ 6) (fun v H' h => ?_) (fun e kk => ?_) (fun e kk => ?_)
    rotate_left
    · exact kk _ _ ⟨6, rfl, x2, F2.up (by omega), by omega, by omega⟩
    · walk_at "go"
      refine i_draw F2 (by omega) (by decide) (by decide) fun H3 a3 x3 F3 a30 a31 => ?_
      exact i_I0 (kk _ _ ⟨1 + a3, rfl, x2.trans x3, F3, by omega, by omega⟩)
    obtain ⟨j, rfl, xj, Fj, j1, j6⟩ := h
    walk_at "go"
    have kL := xj _ _ k1 nLf
    refine ⟨L, _, rfl, SqL.of kL, fun B hB => ?_⟩
    rw [cut_to _ _ (by omega) (by show j ≤ 6; omega), ← List.map_take]
    have e4 := Ex.new (o := HO.lst ((names6.take j.toNat).map V.str)) hB
    have k4 : (upd H' B (.lst ((names6.take j.toNat).map V.str))) B = some (.lst ((names6.take j.toNat).map V.str)) := upd_same
    have F4 := Fj.ex_ e4
    have x4 := (e1.fx.trans xj).trans e4.fx
    have nBf := Fj.ne hB
    generalize htb : names6.take j.toNat = tb at e4 k4 F4 x4
    have htl : 1 ≤ tb.length := by rw [← htb, List.length_take]; show 1 ≤ min _ 6; omega
    have htl6 : tb.length ≤ 6 := by rw [← htb, List.length_take]; show min _ 6 ≤ 6; omega
    have htm : ∀ z ∈ tb, z ≠ "" := fun z hz => by
      have hz : z ∈ names6 := List.mem_of_mem_take (by rw [htb]; exact hz)
      simp only [names6, List.mem_cons, List.not_mem_nil, or_false] at hz
      rcases hz with rfl | rfl | rfl | rfl | rfl | rfl <;> decide
    generalize upd H' B (.lst (tb.map V.str)) = H4 at e4 k4 F4 x4 ⊢
    clear kL xj Fj x2 F2
    walk_at "go"
    refine i_draw F4 (by omega) (by decide) (by decide) fun H5 a5 x5 F5 a50 a51 => ?_
    walk_at "go"
    refine i_alt (fun v H' => ∃ j : Int, v = .int j ∧ Fx f H4 H' ∧ Feed H' f c (n + 4) ∧ 2 ≤ j ∧ j ≤ 12) (fun v H' h => ?_) (fun e kk => ?_) (fun e kk => ?_)
    rotate_left
    · exact kk _ _ ⟨12, rfl, x5, F5.up (by omega), by omega, by omega⟩
    · walk_at "go"
      refine i_draw F5 (by omega) (by decide) (by decide) fun H6 a6 x6 F6 a60 a61 => ?_
      exact i_I0 (kk _ _ ⟨2 + a6, rfl, x5.trans x6, F6, by omega, by omega⟩)
    clear F5 x5
    obtain ⟨j2, rfl, xj, Fj, j21, j26⟩ := h
    walk_at "go"
    intro D H7 hD e7 k7
    have kB7 := e7 _ _ (xj _ _ k4 nBf)
    have F7 := Fj.ex_ e7
    have x7 := (x4.trans xj).trans e7.fx
    have nDf := Fj.ne hD
    have hDH : H D = none := by
      cases e : H D with
      | none => rfl
      | some o => rw [xj _ _ (x4 _ _ e nDf) nDf] at hD; cases hD
    have nDc := F.nec hDH
    have nDB : B ≠ D := fun z => by rw [← z, xj _ _ k4 nBf] at hD; cases hD
    walk_at "go"
    refine i_lst ?_
    walk_at "go"
    refine ⟨sz (by simp), fun M hM => ?_⟩
    have e8 := Ex.new (o := HO.lst [V.str "ann", V.str "bo", V.str "c", V.str "zz", V.str "dora", V.str "b", V.str "eve", V.str "abcdefgh", V.str "fay", V.str "gus", V.str "hal", V.str "ida"]) hM
    have k8 : (upd H7 M (.lst [V.str "ann", V.str "bo", V.str "c", V.str "zz", V.str "dora", V.str "b", V.str "eve", V.str "abcdefgh", V.str "fay", V.str "gus", V.str "hal", V.str "ida"])) M = some (.lst (names12.map V.str)) := upd_same
    have F8 := F7.ex_ e8
    have x8 := x7.trans e8.fx
    generalize upd H7 M (.lst [V.str "ann", V.str "bo", V.str "c", V.str "zz", V.str "dora", V.str "b", V.str "eve", V.str "abcdefgh", V.str "fay", V.str "gus", V.str "hal", V.str "ida"]) = H8 at e8 k8 F8 x8 ⊢
    walk_at "go"
    refine ⟨M, _, rfl, SqL.of k8, fun M2 hM2 => ?_⟩
    rw [cut_to _ _ (by omega) (by show j2 ≤ 12; omega), ← List.map_take]
    have hnd : (names12.take j2.toNat).Nodup := List.Sublist.nodup (List.take_sublist _ _) (by decide)
    generalize hss : names12.take j2.toNat = ss at hnd
    have hsl : ss.length = j2.toNat := by rw [← hss, List.length_take]; show min _ 12 = _; omega
    have e9 := Ex.new (o := HO.lst (ss.map V.str)) hM2
    have k9 : (upd H8 M2 (.lst (ss.map V.str))) M2 = some (.lst (ss.map V.str)) := upd_same
    have F9 := F8.ex_ e9
    have x9 := x8.trans e9.fx
    have nMf := F8.ne hM2
    have nDM : M2 ≠ D := fun z => by rw [z, e8 _ _ k7] at hM2; cases hM2
    have kB9 := e9 _ _ (e8 _ _ kB7)
    have kD9 := e9 _ _ (e8 _ _ k7)
    generalize upd H8 M2 (.lst (ss.map V.str)) = H9 at e9 k9 F9 x9 kB9 kD9 ⊢
    refine ⟨M2, rfl, ⟨_, SqL.of k9⟩, for_list (xs := ss.map V.str) (fun i σ H' => (∃ z2 z4, σ = [some (.ref f), some (.ref B), z2, some (.ref D), z4]) ∧ H' M2 = some (.lst (ss.map V.str)) ∧ H' B = some (.lst (tb.map V.str)) ∧ Fx f H H' ∧ Feed H' f c (n + 4 + 2 * i) ∧
      ∃ cs : List (Str × Str), H' D = some (.dK (tabK cs)) ∧ keys cs = ss.take i ∧ ∀ p ∈ cs, p.2 ≠ "") ?_ (fun i σ H' _ h => SqL.of h.2.1) (fun i x σ H' hx h => ?_) fun σ H' h => ?_⟩
    · exact ⟨⟨_, _, rfl⟩, k9, kB9, x9, F9, [], kD9, rfl, fun p hp => by cases hp⟩
    · obtain ⟨⟨z2, z4, rfl⟩, yM, yB, yH, yF, cs, yD, yk, yt⟩ := h
      rw [List.getElem?_map] at hx
      obtain ⟨z, hz, rfl⟩ := Option.map_eq_some_iff.mp hx
      have hi : i < 12 := by have := (List.getElem?_eq_some_iff.mp hz).1; omega
      walk_at "go"
      refine i_draw yF (by omega) (by decide) (by decide) fun H10 a10 x10 F10 a100 a101 => ?_
      walk_at "go"
      refine i_alt (fun v H'' => ∃ t : Str, v = .str t ∧ t ∈ tb ∧ Fx f H' H'' ∧ Feed H'' f c (n + 4 + 2 * i + 2)) (fun v H'' h => ?_) (fun e kk => ?_) (fun e kk => ?_)
      rotate_left
      · walk_at "go"
        obtain ⟨t, hat, htt⟩ := at_map V.str (xs := tb) (r := 0) (by omega) (by omega)
        exact ⟨B, _, _, _, rfl, rfl, SqL.of (x10 _ _ yB nBf), hat, kk _ _ ⟨t, rfl, htt, x10, F10.up (by omega)⟩⟩
      · walk_at "go"
        refine ⟨B, _, rfl, .inl (SqL.of (x10 _ _ yB nBf)), ?_⟩
        walk_at "go"
        rw [List.length_map]
        refine i_draw F10 (by omega) (by omega) (by omega) fun H11 a11 x11 F11 a110 a111 => ?_
        obtain ⟨t, hat, htt⟩ := at_map V.str (xs := tb) a110 (by omega)
        exact ⟨B, _, _, _, rfl, rfl, SqL.of (x11 _ _ (x10 _ _ yB nBf) nBf), hat, kk _ _ ⟨t, rfl, htt, x10.trans x11, F11.up (by omega)⟩⟩
      obtain ⟨t, rfl, htt, yx, yF2⟩ := h
      walk_at "go"
      have yD2 := yx _ _ yD nDf
      have hcl : cs.length ≤ 12 := by
        have : (keys cs).length = cs.length := by unfold keys; rw [List.length_map]
        rw [← this, yk, List.length_take]; omega
      refine ⟨D, _, rfl, DPut.k (k := Sum.inr z) yD2 (szl (by unfold tabK; rw [List.length_map]; omega)), ?_⟩
      have hnk : z ∉ keys cs := fun hm => by
        rw [yk] at hm
        obtain ⟨jj, hj, ej⟩ := List.getElem_of_mem hm
        rw [List.length_take] at hj
        rw [List.getElem_take] at ej
        have a1 : ss[jj]? = some z := by rw [List.getElem?_eq_getElem (by omega), ej]
        have := (List.getElem?_inj (List.getElem?_eq_some_iff.mp a1).1 hnd).mp (a1.trans hz.symm)
        omega
      have hput : putK (tabK cs) (Sum.inr z) (.str t) = tabK (cs ++ [(z, t)]) := by
        rw [← aput_new t hnk]; exact putK_enc _ inr_inj V.str cs z t
      rw [hput]
      refine ⟨⟨_, _, rfl⟩, by rw [upd_ne nDM]; exact yx _ _ yM nMf, by rw [upd_ne nDB]; exact yx _ _ yB nBf, (yH.trans yx).mut hDH, (yF2.put nDf nDc).up (by omega), _, upd_same, ?_, ?_⟩
      · rw [take_snoc hz]; unfold keys at yk ⊢; rw [List.map_append, yk]; rfl
      · intro p hp
        rcases List.mem_append.mp hp with hp | hp
        · exact yt p hp
        · rw [List.mem_singleton.mp hp]; exact htm t htt
    · obtain ⟨⟨z2, z4, rfl⟩, yM, yB, yH, yF, cs, yD, yk, yt⟩ := h
      rw [List.length_map] at yk yF
      rw [List.take_of_length_le (Nat.le_refl _)] at yk
      have hcl : cs.length = ss.length := by rw [← yk]; unfold keys; rw [List.length_map]
      walk_at "go"
      exact q H' D cs yH (yF.up (by omega)) hDH yD ⟨by rw [yk]; exact hnd, by omega, by omega, yt, fun z hz => by rw [yk, ← hss] at hz; exact List.mem_of_mem_take hz⟩
abbrev N_law_friends : List Str := ["_law_feed_here", "_law_cast_here", "_law_seat", "_law_found", "_law_one"]
abbrev P_law_friends : List Str := ["_law_feed_here", "_law_cast_here", "_law_seat"]
theorem sc_law_friends : FnScope N_law_friends P_law_friends (defScope s_law_friends) := ⟨rfl, rfl, rfl, by decide +kernel, rfl, by decide +kernel, by decide +kernel⟩
def sp_law_friends (K : PySem.W.Frag) : Sp := fun vs H Q _ => ∃ (f c : Addr) (n : Nat) (a : Addr) (cs : List (Str × Str)) (z t : Str), vs = [.ref f, .ref a, .str z] ∧ Feed H f c n ∧ n ≤ 90000 ∧ H a = some (.dK (tabK cs)) ∧ CastOk cs ∧ aget cs z = some t ∧
  ∀ (H' : Hp) (p : Addr) (ss : List Str), Fx f H H' → Feed H' f c (n + 12) → H' p = some (.tup (ss.map V.str)) → ss ≠ [] → ss.Nodup → ss.length ≤ 12 → (∀ y ∈ ss, aget cs y = some t) → Q (.ref p) H'
theorem tabK_keys (l : List (Str × Str)) : (tabK l).map (·.1) = (keys l).map Sum.inr := by unfold tabK keys; rw [List.map_map, List.map_map]; rfl
theorem ok_law_friends (d : Dn K mg d_law_friends) (T : Tb w K mg) (c_law_draw : Cal P w K mg base 1 "_law_draw" [] sp_law_draw) : Cal P w K mg base 2 "_law_friends" [] (sp_law_friends K) := by
  refine d.cal sc_law_friends (fun vs H Q E h => ?_) (fun f fd F => ⟨[], .nil, F.bindsN fun _ _ _ _ _ _ us hl => match us, hl with | [_, _, _], _ => rfl⟩) fun f cdv A outer s H vs Q E hr h => have hu := hu_of hr; ⟨_, PSs.nox (pss_cons (ps_setLc (i := 3) rfl sc_law_friends.nd rfl rfl (sw_true rfl rfl rfl (by decide +kernel)) (pi_list (pe_callB (call_sortedD rfl) rfl T.sorted boot_sorted (pa_cons (pv 1) pa_nil))) (blkOk_by (own := [("_law_one", 4)]) (N := N_law_friends) (sc := defScope s_law_friends) (by decide +kernel)) (fun _ _ _ _ _ => (pg_name (i := 4) sc_law_friends.nd rfl (Or.inl rfl))) (fun _ _ _ _ _ => (pts_one (PW.pt (pw_or (pt_cmpR op_eq (pv 4) (pv 2) (nomark _)) (pw_or1 (PW.pt (pw_and (pt_cmpR op_eq (pe_dget hu (pv 1) (pv 4) (fun _ _ => rfl)) (pe_dget hu (pv 1) (pv 2) (fun _ _ => rfl)) (nomark _)) (pw_and1 (pt_cmpR op_eq (pe_cl c_law_draw hr (pa_cons (pv 0) (pa_cons pe_int pa_nil))) pe_int (nomark _)))))))))) (fun _ _ _ _ _ => (pv 4))) (pss_one (ps_ret (pe_callTy call_tuple_of rfl T.tuple boot_tuple (pa_cons (pv 3) pa_nil))))), ?_⟩
  · obtain ⟨_, _, _, _, _, _, _, rfl, _⟩ := h; rfl
  · obtain ⟨f, c, n, a, cs, z, t, rfl, F, hn, ha, cok, hz, q⟩ := h
    have haf : a ≠ f := fun e => by obtain ⟨_, _, _, h1, _⟩ := F.ex; rw [e, h1] at ha; cases ha
    walk_at "go"
    refine ⟨a, _, keys cs, rfl, .inl ha, tabK_keys cs, by unfold keys; rw [List.length_map]; have := cok.few; omega, fun ys L hperm _ hL => ?_⟩
    have e1 := Ex.new (o := HO.lst (ys.map V.str)) hL
    have k1 : (upd H L (.lst (ys.map V.str))) L = some (.lst (ys.map V.str)) := upd_same
    have F1 := F.ex_ e1
    have nLf := F.ne hL
    have ha1 := e1 _ _ ha
    generalize upd H L (.lst (ys.map V.str)) = H1 at e1 k1 F1 ha1 ⊢
    have hyl : ys.length ≤ 12 := by rw [hperm.length_eq]; unfold keys; rw [List.length_map]; exact cok.few
    have hynd : ys.Nodup := hperm.nodup_iff.mpr cok.nd
    have hzy : z ∈ ys := hperm.mem_iff.mpr (aget_some_iff.mp ⟨t, hz⟩)
    refine ⟨L, rfl, ⟨_, SqL.of k1⟩, fun D hD => lc_list (xs := ys.map V.str) (fun i H' => ∃ out : List Str, H' D = some (.lst (out.map V.str)) ∧ out.Sublist (ys.take i) ∧ (z ∈ ys.take i → z ∈ out) ∧ (∀ y ∈ out, aget cs y = some t) ∧ Fx f H1 H' ∧ Feed H' f c (n + i)) ?_ (fun i H' _ h => ?_) (fun i x H' hx h => ?_) fun H' h => ?_⟩
    · exact ⟨[], upd_same, List.nil_sublist _, fun h => (by simp at h), fun y hy => (by cases hy), (Ex.new hD).fx, F1.ex_ (Ex.new hD)⟩
    · obtain ⟨out, _, _, _, _, ex, _⟩ := h
      exact SqL.of (ex _ _ k1 nLf)
    · obtain ⟨out, ko, hos, hoz, hot, ex, yF⟩ := h
      rw [List.getElem?_map] at hx
      obtain ⟨y, hy, rfl⟩ := Option.map_eq_some_iff.mp hx
      have hi : i < 12 := by have := (List.getElem?_eq_some_iff.mp hy).1; omega
      have nDf := F1.ne hD
      have nDc := F1.nec hD
      have hol : out.length ≤ 12 := Nat.le_trans hos.length_le (by rw [List.length_take]; omega)
      obtain ⟨ty, hty⟩ := aget_some_iff.mpr (hperm.mem_iff.mp (List.mem_of_getElem? hy))
      have ha2 := ex _ _ ha1 haf
      have yes : ∀ (H'' : Hp), Fx f H' H'' → Feed H'' f c (n + i + 1) → aget cs y = some t → ∃ acc, H'' D = some (.lst acc) ∧ acc.length < sizeLine ∧ ∃ out : List Str, (upd H'' D (.lst (acc ++ [V.str y]))) D = some (.lst (out.map V.str)) ∧ out.Sublist (ys.take (i + 1)) ∧ (z ∈ ys.take (i + 1) → z ∈ out) ∧ (∀ y ∈ out, aget cs y = some t) ∧ Fx f H1 (upd H'' D (.lst (acc ++ [V.str y]))) ∧ Feed (upd H'' D (.lst (acc ++ [V.str y]))) f c (n + (i + 1)) := fun H'' xx FF hyt => by
        refine ⟨_, xx _ _ ko nDf, szl (by rw [List.length_map]; omega), out ++ [y], by rw [upd_same, List.map_append]; rfl, ?_, fun hm => ?_, fun y2 hy2 => ?_, (ex.trans xx).mut hD, (FF.put nDf nDc).up (by omega)⟩
        · rw [take_snoc hy]; exact hos.append (List.Sublist.refl _)
        · rw [take_snoc hy] at hm
          rcases List.mem_append.mp hm with hm | hm
          · exact List.mem_append_left _ (hoz hm)
          · exact List.mem_append_right _ hm
        · rcases List.mem_append.mp hy2 with hy2 | hy2
          · exact hot y2 hy2
          · rw [List.mem_singleton.mp hy2]; exact hyt
      have no : ∀ (H'' : Hp), Fx f H' H'' → Feed H'' f c (n + i + 1) → y ≠ z → ∃ out : List Str, H'' D = some (.lst (out.map V.str)) ∧ out.Sublist (ys.take (i + 1)) ∧ (z ∈ ys.take (i + 1) → z ∈ out) ∧ (∀ y ∈ out, aget cs y = some t) ∧ Fx f H1 H'' ∧ Feed H'' f c (n + (i + 1)) := fun H'' xx FF hne => by
        refine ⟨out, xx _ _ ko nDf, ?_, fun hm => ?_, hot, ex.trans xx, FF.up (by omega)⟩
        · rw [take_snoc hy]; exact hos.trans (List.sublist_append_left _ _)
        · rw [take_snoc hy] at hm
          rcases List.mem_append.mp hm with hm | hm
          · exact hoz hm
          · exact absurd (List.mem_singleton.mp hm).symm hne
      walk_at "go"
      refine i_ite (fun e => ?_) fun e => ?_
      · have e : y = z := by simpa using e
        walk_at "go"
        exact yes H' Fx.refl (yF.up (by omega)) (by rw [e]; exact hz)
      · have e : ¬ y = z := by simpa using e
        walk_at "go"
        refine gS (.inl ha2) (by rw [tab_get, hty]; rfl) ?_
        walk_at "go"
        refine gS (.inl ha2) (by rw [tab_get, hz]; rfl) ?_
        walk_at "go"
        refine i_ite (fun e2 => ?_) fun e2 => ?_
        · have e2 : ty = t := by simpa using e2
          walk_at "go"
          refine i_draw yF (by omega) (by decide) (by decide) fun H5 a5 x5 F5 a50 a51 => ?_
          walk_at "go"
          refine i_ite (fun e3 => ?_) fun e3 => ?_
          · walk_at "go"
            exact yes H5 x5 F5 (by rw [hty, e2])
          · walk_at "go"
            exact no H5 x5 F5 e
        · walk_at "go"
          exact no H' Fx.refl (yF.up (by omega)) e
    · obtain ⟨out, ko, hos, hoz, hot, ex, yF⟩ := h
      rw [List.length_map, List.take_of_length_le (Nat.le_refl _)] at hos hoz
      rw [List.length_map] at yF
      walk_at "go"
      refine ⟨D, _, rfl, .inl ⟨SqL.of ko, fun l hl => ?_⟩⟩
      refine q _ l out ((e1.fx.trans ex).trans (Ex.new hl).fx) ((yF.ex_ (Ex.new hl)).up (by omega)) upd_same (List.ne_nil_of_mem (hoz hzy)) (hos.nodup hynd) (Nat.le_trans hos.length_le hyl) hot
end

def Fx2 (f s : Addr) (H H' : Hp) : Prop := ∀ a o, H a = some o → a ≠ f → a ≠ s → H' a = some o
theorem Fx.two {f s : Addr} {H H' : Hp} (x : Fx f H H') : Fx2 f s H H' := fun a o h h1 _ => x a o h h1
theorem Fx2.trans {f s : Addr} {H H1 H2 : Hp} (a : Fx2 f s H H1) (b : Fx2 f s H1 H2) : Fx2 f s H H2 := fun x o h n1 n2 => b x o (a x o h n1 n2) n1 n2
theorem i_optS {t : TT} {S : TS} {Dd : Ends} {σ : L2.St} {H : Hp} (inv : L2.St → Hp → Prop) (fin : ∀ σ' H', inv σ' H' → Dd.nx σ' H') (h : (∀ σ' H', inv σ' H' → Dd.nx σ' H') → t σ H fun b H1 => if b = true then S Dd σ H1 else tNext Dd σ H1) : tIfS t S tNext Dd σ H := h fin
def AskOk (cs : List (Str × Str)) : Deed → Prop
  | .ask _ _ _ ss => ss ≠ [] ∧ ss.Nodup ∧ ss.length ≤ 12 ∧ ∃ t, ∀ z ∈ ss, aget cs z = some t
  | .rush _ _ => True
  | .serve _ => True
  | .strike _ => True
  | _ => False
section
variable {P : Program} {w : World} {K : PySem.W.Frag} {mg : Str → Option Value} {base : Heap} {k : Nat}
abbrev N_law_dish_deed : List Str := ["_law_feed_here", "_law_house_here", "_law_cast_here", "_law_asked", "_law_word", "_law_items", "_law_pool", "_law_dish", "_law_item", "_law_seat", "_law_row", "_law_one"]
abbrev P_law_dish_deed : List Str := ["_law_feed_here", "_law_house_here", "_law_cast_here", "_law_asked", "_law_word"]
theorem sc_law_dish_deed : FnScope N_law_dish_deed P_law_dish_deed (defScope s_law_dish_deed) := ⟨rfl, rfl, rfl, by decide +kernel, rfl, by decide +kernel, by decide +kernel⟩
def sp_law_dish_deed (K : PySem.W.Frag) : Sp := fun vs H Q _ => ∃ (f c : Addr) (n : Nat) (hv : V) (hs : House) (a : Addr) (cs : List (Str × Str)) (s : Addr) (as : List Int) (wd : Str), vs = [.ref f, hv, .ref a, .ref s, .str wd] ∧ Feed H f c n ∧ n ≤ 85000 ∧ Is H hv hs.d ∧ hs.Ok ∧
  H a = some (.dK (tabK cs)) ∧ CastOk cs ∧ H s = some (.lst (as.map V.int)) ∧ as.length ≤ 60 ∧ s ≠ f ∧ s ≠ c ∧ (wd = "ask" ∨ ((wd = "serve" ∨ wd = "strike") ∧ as ≠ [])) ∧
  ∀ (H' : Hp) (v : V) (dd : Deed) (as' : List Int), Fx2 f s H H' → Feed H' f c (n + 30) → H' s = some (.lst (as'.map V.int)) → as'.length ≤ as.length + 1 → as' ≠ [] → Is H' v dd.d → AskOk cs dd → Q v H'
theorem ok_law_dish_deed (d : Dn K mg d_law_dish_deed) (T : Tb w K mg) (c_law_draw : Cal P w K mg base 1 "_law_draw" [] sp_law_draw) (c_law_friends : Cal P w K mg base 2 "_law_friends" [] (sp_law_friends K)) : Cal P w K mg base 3 "_law_dish_deed" [] (sp_law_dish_deed K) := by
  refine d.cal sc_law_dish_deed (fun vs H Q E h => ?_) (fun f fd F => ⟨[], .nil, F.bindsN fun _ _ _ _ _ _ us hl => match us, hl with | [_, _, _, _, _], _ => rfl⟩) fun f cdv A outer s H vs Q E hr h => have hu := hu_of hr; ⟨_, PSs.nox (pss_cons (ps_setLc (i := 5) rfl sc_law_dish_deed.nd rfl rfl (sw_true rfl rfl rfl (by decide +kernel)) (pi_tup (pe_ix ix_tup (pv 1) pe_int (fun _ _ => rfl))) (blkOk_by (own := [("_law_row", 10)]) (N := N_law_dish_deed) (sc := defScope s_law_dish_deed) (by decide +kernel)) (fun _ _ _ _ _ => (pg_name (i := 10) sc_law_dish_deed.nd rfl (Or.inl rfl))) (fun _ _ _ _ _ => pts_nil) (fun _ _ _ _ _ => (pe_ix (ix_tupK K rfl) (pv 10) pe_int (fun _ _ => rfl)))) (pss_cons (ps_if (pt_cmpR op_eq (pv 4) pe_str (nomark _)) (pss_cons (ps_set (i := 6) sc_law_dish_deed.nd rfl (Or.inl rfl) (pe_lst (pa_cons pe_int (pa_cons pe_int (pa_cons pe_int (pa_cons pe_int (pa_cons pe_int (pa_cons pe_int (pa_cons pe_int (pa_cons pe_int (pa_cons pe_int (pa_cons pe_int (pa_cons pe_int (pa_cons pe_int (pa_cons pe_int (pa_cons pe_int (pa_cons pe_int pa_nil))))))))))))))))) (pss_cons (ps_set (i := 7) sc_law_dish_deed.nd rfl (Or.inl rfl) (pe_ix ix_list (pe_op op_cat (pe_lc rfl sc_law_dish_deed.nd (pi_list (pv 6)) (blkOk_by (own := [("_law_one", 11)]) (N := N_law_dish_deed) (sc := defScope s_law_dish_deed) (by decide +kernel)) (fun _ _ _ _ _ => (pg_name (i := 11) sc_law_dish_deed.nd rfl (Or.inl rfl))) (fun _ _ _ _ _ => (pts_one (pt_cmpR (op_notInK K rfl) (pv 11) (pv 3) (by rfl)))) (fun _ _ _ _ _ => (pv 11))) (pv 3)) pe_int (fun _ _ => rfl))) (pss_cons (ps_if (PW.pt (pw_and (pt_cmpR (op_neD hr.units) (pv 3) (pe_lst pa_nil) (nomark _)) (pw_and1 (pt_cmpR op_eq (pe_cl c_law_draw hr (pa_cons (pv 0) (pa_cons pe_int pa_nil))) pe_int (nomark _))))) (pss_one (ps_set (i := 7) sc_law_dish_deed.nd rfl (Or.inl rfl) (pe_ix ix_list (pv 3) (pe_cl c_law_draw hr (pa_cons (pv 0) (pa_cons (pe_callB call_len_seq rfl T.len boot_len (pa_cons (pv 3) pa_nil)) pa_nil))) (fun _ _ => rfl)))) pss_nil) (pss_cons (ps_set (i := 8) sc_law_dish_deed.nd rfl (Or.inl rfl) (pe_ifExp (pt_cmpR op_gt (pe_cl c_law_draw hr (pa_cons (pv 0) (pa_cons pe_int pa_nil))) pe_int (nomark _)) (pe_ix ix_list (pv 5) (pe_cl c_law_draw hr (pa_cons (pv 0) (pa_cons (pe_callB call_len_seq rfl T.len boot_len (pa_cons (pv 5) pa_nil)) pa_nil))) (fun _ _ => rfl)) pe_str)) (pss_cons (ps_set (i := 9) sc_law_dish_deed.nd rfl (Or.inl rfl) (pe_ix ix_list (pe_callB (call_sortedD rfl) rfl T.sorted boot_sorted (pa_cons (pv 2) pa_nil)) (pe_cl c_law_draw hr (pa_cons (pv 0) (pa_cons (pe_callB call_lenD rfl T.len boot_len (pa_cons (pv 2) pa_nil)) pa_nil))) (fun _ _ => rfl))) (pss_cons (ps_if (pt_cmpR op_notIn_seq (pv 7) (pv 3) (by rfl)) (pss_one (ps_expr (pe_bm PySem.F.plainAttrs_list PySem.F.slot_list_append PySem.F.type_list_append mt_append (pv 3) (pa_cons (pv 7) pa_nil)))) pss_nil) (pss_one (ps_ret (pe_tup (pa_cons (pv 4) (pa_cons (pv 7) (pa_cons (pv 8) (pa_cons (pe_cl c_law_draw hr (pa_cons (pv 0) (pa_cons pe_int pa_nil))) (pa_cons (pe_cl c_law_friends hr (pa_cons (pv 0) (pa_cons (pv 2) (pa_cons (pv 9) pa_nil)))) pa_nil)))))))))))))) pss_nil) (pss_cons (ps_set (i := 7) sc_law_dish_deed.nd rfl (Or.inl rfl) (pe_ifExp (pt_cmpR op_gt (pe_cl c_law_draw hr (pa_cons (pv 0) (pa_cons pe_int pa_nil))) pe_int (nomark _)) (pe_ix ix_list (pv 3) (pe_cl c_law_draw hr (pa_cons (pv 0) (pa_cons (pe_callB call_len_seq rfl T.len boot_len (pa_cons (pv 3) pa_nil)) pa_nil))) (fun _ _ => rfl)) pe_int)) (pss_cons (ps_if (pt_cmpR op_eq (pv 4) pe_str (nomark _)) pss_never pss_nil) (pss_one (ps_ret (pe_tup (pa_cons (pv 4) (pa_cons (pv 7) pa_nil))))))))), ?_⟩
  · obtain ⟨_, _, _, _, _, _, _, _, _, _, rfl, _⟩ := h; rfl
  · obtain ⟨f, c, n, hv, hs, a, cs, s, as, wd, rfl, F, hn, hh, hok, ha, cok, hs0, hasl, nsf, nsc, hwd, q⟩ := h
    have haf : a ≠ f := fun e => by obtain ⟨_, _, _, h1, _⟩ := F.ex; rw [e, h1] at ha; cases ha
    walk_at "go"
    refine ix_is (i := 0) hh rfl fun mv hm => ?_
    unfold menuD at hm
    simp only [Is] at hm
    obtain ⟨ma, mx, rfl, hma, hmx⟩ := hm
    refine ⟨ma, rfl, ⟨_, SqT.of hma⟩, fun D hD => lc_tupE hs.menu (fun _ => true) (fun r => .str r.1) (by rw [hmx.len, List.length_map]) (SqT.of hma) hD (by have := hok.few; omega) (fun i x r H' Kt Ks hx hd e ht _ => ?_) fun H1 e1 h1 => ?_⟩
    · obtain ⟨z, hz, hi⟩ := hmx.get (i := i) (d := rowD r) (by rw [List.getElem?_map, hd]; rfl)
      rw [hx] at hz
      cases hz
      walk_at "go"
      refine ix_isS (i := 0) (Is.mono e.tex _ hi) rfl ?_
      exact ht rfl _ (Ex.refl _)
    have h1 : H1 D = some (.lst ((hs.menu.map fun r => r.1).map V.str)) := by rw [h1, filter_all, List.map_map]; rfl
    have hil : (hs.menu.map fun r => r.1).length = hs.menu.length := List.length_map _
    have hil1 : 1 ≤ (hs.menu.map fun r => r.1).length := by rw [hil]; exact List.length_pos_iff.mpr hok.ne
    have hil4 : (hs.menu.map fun r => r.1).length ≤ 4 := by rw [hil]; exact hok.few
    generalize (hs.menu.map fun r => r.1) = items at h1 hil1 hil4
    clear hil
    have F1 := F.ex_ e1
    have hs1 := e1 _ _ hs0
    have ha1 := e1 _ _ ha
    have nDf := F.ne hD
    have nDs : D ≠ s := fun z => by rw [z, hs0] at hD; cases hD
    have hasf : a ≠ s := fun z => by rw [z, hs0] at ha; cases ha
    walk_at "go"
    refine i_ite (fun e => ?_) fun e => ?_
    · have e : wd = "ask" := by simpa using e
      subst e
      walk_at "go"
      refine i_lst ?_
      walk_at "go"
      refine ⟨sz (by simp), fun L hL => ?_⟩
      have e2 := Ex.new (o := HO.lst [V.int 3, V.int 1, V.int 12, V.int 40, V.int 7, V.int 999, V.int 2, V.int 100, V.int 5, V.int 0, V.int 8, V.int 77, V.int 31, V.int 6, V.int 4]) hL
      have k2 : (upd H1 L (.lst [V.int 3, V.int 1, V.int 12, V.int 40, V.int 7, V.int 999, V.int 2, V.int 100, V.int 5, V.int 0, V.int 8, V.int 77, V.int 31, V.int 6, V.int 4])) L = some (.lst (([3, 1, 12, 40, 7, 999, 2, 100, 5, 0, 8, 77, 31, 6, 4] : List Int).map V.int)) := upd_same
      generalize upd H1 L (.lst [V.int 3, V.int 1, V.int 12, V.int 40, V.int 7, V.int 999, V.int 2, V.int 100, V.int 5, V.int 0, V.int 8, V.int 77, V.int 31, V.int 6, V.int 4]) = H2 at e2 k2 ⊢
      have hs2 := e2 _ _ hs1
      walk_at "go"
      refine ⟨L, rfl, ⟨_, SqL.of k2⟩, fun D2 hD2 => lc_listE ([3, 1, 12, 40, 7, 999, 2, 100, 5, 0, 8, 77, 31, 6, 4] : List Int) (fun z => !decide (z ∈ as)) V.int rfl (SqL.of k2) hD2 (by decide) (fun i x z H' Kt Ks hx hd ee ht hf => ?_) fun H3 e3 h3 => ?_⟩
      · rw [List.getElem?_map, hd] at hx
        cases hx
        walk_at "go"
        refine i_ninI (.inl (SqL.of (ee _ _ hs2))) ?_
        walk_at "go"
        refine i_ite (fun e => ?_) fun e => ?_
        · walk_at "go"; exact ht e _ (Ex.refl _)
        · exact hf e _ (Ex.refl _)
      have hfree : (([3, 1, 12, 40, 7, 999, 2, 100, 5, 0, 8, 77, 31, 6, 4] : List Int).filter fun z => !decide (z ∈ as)) ++ as ≠ [] := fun z => by
        obtain ⟨z1, z2⟩ := List.append_eq_nil_iff.mp z
        subst z2
        simp at z1
      have hfl : (([3, 1, 12, 40, 7, 999, 2, 100, 5, 0, 8, 77, 31, 6, 4] : List Int).filter fun z => !decide (z ∈ as)).length ≤ 15 := List.length_filter_le _ _
      generalize (([3, 1, 12, 40, 7, 999, 2, 100, 5, 0, 8, 77, 31, 6, 4] : List Int).filter fun z => !decide (z ∈ as)) = fr at h3 hfree hfl
      walk_at "go"
      have hs3 := e3 _ _ hs2
      refine ⟨D2, s, _, _, rfl, rfl, h3, hs3, sz (by rw [List.length_map, List.length_map]; omega), fun p4 hp4 => ?_⟩
      have e4 := Ex.new (o := HO.lst (fr.map V.int ++ as.map V.int)) hp4
      have k4 : (upd H3 p4 (.lst (fr.map V.int ++ as.map V.int))) p4 = some (.lst ((fr ++ as).map V.int)) := by rw [upd_same, List.map_append]
      generalize upd H3 p4 (.lst (fr.map V.int ++ as.map V.int)) = H4 at e4 k4 ⊢
      obtain ⟨dish0, hdish, _⟩ := at_map V.int (xs := fr ++ as) (r := 0) (by omega) (by have := List.length_pos_iff.mpr hfree; omega)
      walk_at "go"
      refine ⟨p4, _, 0, _, rfl, rfl, SqL.of k4, hdish, ?_⟩
      have e14 := (e2.trans e3).trans e4
      have F4 := F1.ex_ e14
      have hs4 := e14 _ _ hs1
      have ha4 := e14 _ _ ha1
      have h14 := e14 _ _ h1
      have x4 : Fx f H H4 := (e1.trans e14).fx
      clear e2 k2 hs2 e3 h3 hs3 e4 k4 hdish
      have F4' := F4
      with_reducible apply i_gN
      with_reducible apply i_seq
      with_reducible refine i_optS (fun σ H' => ∃ dish : Int, σ = [some (.ref f), some hv, some (.ref a), some (.ref s), some (.str "ask"), some (.ref D), some (.ref L), some (.int dish), none, none, none, none] ∧ Fx f H4 H' ∧ Feed H' f c (n + 2)) (fun σ H' h => ?_) fun kk => ?_
      rotate_left
      · walk_at "go"
        refine i_lst ?_
        walk_at "go"
        refine ⟨sz (by simp), fun p5 hp5 => i_neN (SqL.of (Ex.new hp5 _ _ hs4)) (SqL.of upd_same) ?_⟩
        have e5 := Ex.new (o := HO.lst []) hp5
        generalize upd H4 p5 (.lst []) = H5 at e5 ⊢
        have F5 := F4.ex_ e5
        walk_at "go"
        refine i_ite (fun e => ?_) fun e => ?_
        · have hne : as ≠ [] := by simpa using e
          have hpos := List.length_pos_iff.mpr hne
          walk_at "go"
          refine i_draw F5 (by omega) (by decide) (by decide) fun H6 a6 x6 F6 a60 a61 => ?_
          walk_at "go"
          have hs6 := x6 _ _ (e5 _ _ hs4) nsf
          refine i_ite (fun e => ?_) fun e => ?_
          · walk_at "go"
            refine ⟨s, _, rfl, .inl (SqL.of hs6), ?_⟩
            walk_at "go"
            rw [List.length_map]
            refine i_draw F6 (by omega) (by omega) (by omega) fun H7 a7 x7 F7 a70 a71 => ?_
            obtain ⟨d7, hat, _⟩ := at_map V.int (xs := as) a70 (by omega)
            refine ⟨s, _, _, _, rfl, rfl, SqL.of (x7 _ _ hs6 nsf), hat, ?_⟩
            exact kk _ _ ⟨d7, rfl, (e5.fx.trans x6).trans x7, F7⟩
          · exact kk _ _ ⟨dish0, rfl, e5.fx.trans x6, F6.up (by omega)⟩
        · exact kk _ _ ⟨dish0, rfl, e5.fx, F5.up (by omega)⟩
      obtain ⟨dish, rfl, x5, F5⟩ := h
      have ha5 := x5 _ _ ha4 haf
      have hs5 := x5 _ _ hs4 nsf
      have h15 := x5 _ _ h14 nDf
      have x05 := x4.trans x5
      clear F4 F4' x4 x5 hs4 ha4 h14 e14 F1 hs1 ha1 h1 hmx hma
      walk_at "go"
      refine i_draw F5 (by omega) (by decide) (by decide) fun H6 a6 x6 F6 a60 a61 => ?_
      walk_at "go"
      refine i_alt (fun v H'' => ∃ t : Str, v = .str t ∧ Fx f H' H'' ∧ Feed H'' f c (n + 4)) (fun v H'' h => ?_) (fun e kk => ?_) (fun e kk => ?_)
      rotate_left
      · walk_at "go"
        refine ⟨D, _, rfl, .inl (SqL.of (x6 _ _ h15 nDf)), ?_⟩
        walk_at "go"
        rw [List.length_map]
        refine i_draw F6 (by omega) (by omega) (by omega) fun H7 a7 x7 F7 a70 a71 => ?_
        obtain ⟨t, hat, _⟩ := at_map V.str (xs := items) a70 (by omega)
        exact ⟨D, _, _, _, rfl, rfl, SqL.of (x7 _ _ (x6 _ _ h15 nDf) nDf), hat, kk _ _ ⟨t, rfl, x6.trans x7, F7⟩⟩
      · exact kk _ _ ⟨"none", rfl, x6, F6.up (by omega)⟩
      obtain ⟨item, rfl, x7, F7⟩ := h
      have ha7 := x7 _ _ ha5 haf
      have hs7 := x7 _ _ hs5 nsf
      have x07 := x05.trans x7
      clear F5 F6 x6 ha5 hs5 h15 x05 x7
      walk_at "go"
      refine ⟨a, _, keys cs, rfl, .inl ha7, tabK_keys cs, by unfold keys; rw [List.length_map]; have := cok.few; omega, fun ys L8 hperm _ hL8 => ?_⟩
      have e8 := Ex.new (o := HO.lst (ys.map V.str)) hL8
      have k8 : (upd H'' L8 (.lst (ys.map V.str))) L8 = some (.lst (ys.map V.str)) := upd_same
      have F8 := F7.ex_ e8
      have nL8 := F7.ne hL8
      generalize upd H'' L8 (.lst (ys.map V.str)) = H8 at e8 k8 F8 ⊢
      have hyl : ys.length = cs.length := by rw [hperm.length_eq]; unfold keys; rw [List.length_map]
      have hcl := cok.low
      have hcl2 := cok.few
      walk_at "go"
      refine ⟨a, _, rfl, e8 _ _ ha7, ?_⟩
      walk_at "go"
      rw [show (tabK cs).length = cs.length by unfold tabK; rw [List.length_map]]
      refine i_draw F8 (by omega) (by omega) (by omega) fun H9 a9 x9 F9 a90 a91 => ?_
      obtain ⟨seat, hat, hseat⟩ := at_map V.str (xs := ys) a90 (by omega)
      refine ⟨L8, _, _, _, rfl, rfl, SqL.of (x9 _ _ k8 nL8), hat, ?_⟩
      obtain ⟨ty, hty⟩ := aget_some_iff.mpr (hperm.mem_iff.mp hseat)
      have x09 := (x07.trans e8.fx).trans x9
      have ha9 := x9 _ _ (e8 _ _ ha7) haf
      have hs9 := x9 _ _ (e8 _ _ hs7) nsf
      with_reducible apply i_gN
      with_reducible apply i_seq
      with_reducible refine i_optS (fun σ H' => σ = [some (.ref f), some hv, some (.ref a), some (.ref s), some (.str "ask"), some (.ref D), some (.ref L), some (.int dish), some (.str item), some (.str seat), none, none] ∧ Fx2 f s H H' ∧ Feed H' f c (n + 5) ∧ H' a = some (.dK (tabK cs)) ∧
        ∃ as' : List Int, H' s = some (.lst (as'.map V.int)) ∧ as'.length ≤ as.length + 1 ∧ as' ≠ []) (fun σ H' h => ?_) fun kk => ?_
      rotate_left
      · walk_at "go"
        refine i_ninI (.inl (SqL.of hs9)) ?_
        walk_at "go"
        refine i_ite (fun e => ?_) fun e => ?_
        · walk_at "go"
          refine ⟨ty_lst hs9, ?_⟩
          walk_at "go"
          refine ⟨s, _, _, rfl, rfl, hs9, szl (by rw [List.length_map]; omega), ?_⟩
          refine kk _ _ ⟨rfl, fun b o hb n1 n2 => by rw [upd_ne n2]; exact x09 _ _ hb n1, (F9.put nsf nsc).up (by omega), by rw [upd_ne hasf]; exact ha9, as ++ [dish], by rw [upd_same, List.map_append]; rfl, by simp, by simp⟩
        · have e : dish ∈ as := by simpa using e
          exact kk _ _ ⟨rfl, x09.two, F9.up (by omega), ha9, as, hs9, by omega, List.ne_nil_of_mem e⟩
      obtain ⟨rfl, x10, F10, ha10, as', hs10, hal, hane⟩ := h
      walk_at "go"
      refine i_tup ?_
      walk_at "go"
      refine i_draw F10 (by omega) (by decide) (by decide) fun H11 a11 x11 F11 a110 a111 => ?_
      walk_at "go"
      refine ⟨f, c, n + 6, a, cs, seat, ty, rfl, F11, by omega, x11 _ _ ha10 haf, cok, hty, fun H12 p12 ss x12 F12 k12 sne snd sln sall => ?_⟩
      walk_at "go"
      refine ⟨sz (by simp), fun p13 hp13 => ?_⟩
      have e13 := Ex.new (o := HO.tup [.str "ask", .int dish, .str item, .int a11, .ref p12]) hp13
      have x113 := (x11.trans x12).trans e13.fx
      refine q _ (.ref p13) (.ask dish item a11 ss) as' (x10.trans x113.two) ((F12.ex_ e13).up (by omega)) (x113 _ _ hs10 nsf) hal hane (is_tup upd_same ?_) ⟨sne, snd, sln, ty, sall⟩
      simp only [IsAll, Is, and_true, true_and]
      exact ⟨p12, _, rfl, e13 _ _ k12, is_strs ss⟩
    · have e : ¬ wd = "ask" := by simpa using e
      obtain ⟨hwd, hne⟩ := hwd.resolve_left e
      have hpos := List.length_pos_iff.mpr hne
      walk_at "go"
      refine i_draw F1 (by omega) (by decide) (by decide) fun H6 a6 x6 F6 a60 a61 => ?_
      walk_at "go"
      have hs6 := x6 _ _ hs1 nsf
      refine i_alt (fun v H'' => ∃ t : Int, v = .int t ∧ Fx f H H'' ∧ Feed H'' f c (n + 2) ∧ H'' s = some (.lst (as.map V.int))) (fun v H'' h => ?_) (fun e kk => ?_) (fun e kk => ?_)
      rotate_left
      · walk_at "go"
        refine ⟨s, _, rfl, .inl (SqL.of hs6), ?_⟩
        walk_at "go"
        rw [List.length_map]
        refine i_draw F6 (by omega) (by omega) (by omega) fun H7 a7 x7 F7 a70 a71 => ?_
        obtain ⟨t, hat, _⟩ := at_map V.int (xs := as) a70 (by omega)
        exact ⟨s, _, _, _, rfl, rfl, SqL.of (x7 _ _ hs6 nsf), hat, kk _ _ ⟨t, rfl, (e1.fx.trans x6).trans x7, F7, x7 _ _ hs6 nsf⟩⟩
      · exact kk _ _ ⟨500, rfl, e1.fx.trans x6, F6.up (by omega), hs6⟩
      obtain ⟨dish, rfl, x7, F7, hs7⟩ := h
      walk_at "go"
      refine i_ite (fun e => ?_) fun _ => ?_
      · have e : wd = "change" := by simpa using e
        rw [e] at hwd
        exact absurd hwd (by decide)
      walk_at "go"
      refine i_tup ?_
      walk_at "go"
      refine ⟨sz (by simp), fun p13 hp13 => ?_⟩
      have e13 := Ex.new (o := HO.tup [.str wd, .int dish]) hp13
      rcases hwd with rfl | rfl
      · exact q _ (.ref p13) (.serve dish) as (x7.trans e13.fx).two ((F7.ex_ e13).up (by omega)) (e13 _ _ hs7) (by omega) hne (is_tup upd_same (by simp [IsAll, Is])) trivial
      · exact q _ (.ref p13) (.strike dish) as (x7.trans e13.fx).two ((F7.ex_ e13).up (by omega)) (e13 _ _ hs7) (by omega) hne (is_tup upd_same (by simp [IsAll, Is])) trivial
abbrev N_law_deed : List Str := ["_law_feed_here", "_law_house_here", "_law_cast_here", "_law_asked", "_law_word", "_law_names", "_law_seat", "_law_other", "_law_pence"]
abbrev P_law_deed : List Str := ["_law_feed_here", "_law_house_here", "_law_cast_here", "_law_asked", "_law_word"]
theorem sc_law_deed : FnScope N_law_deed P_law_deed (defScope s_law_deed) := ⟨rfl, rfl, rfl, by decide +kernel, rfl, by decide +kernel, by decide +kernel⟩
def sp_law_deed (K : PySem.W.Frag) : Sp := fun vs H Q _ => ∃ (f c : Addr) (n : Nat) (hv : V) (hs : House) (a : Addr) (cs : List (Str × Str)) (s : Addr) (as : List Int) (wd : Str), vs = [.ref f, hv, .ref a, .ref s, .str wd] ∧ Feed H f c n ∧ n ≤ 80000 ∧ Is H hv hs.d ∧ hs.Ok ∧
  H a = some (.dK (tabK cs)) ∧ CastOk cs ∧ H s = some (.lst (as.map V.int)) ∧ as.length ≤ 60 ∧ s ≠ f ∧ s ≠ c ∧ (wd = "ask" ∨ ((wd = "serve" ∨ wd = "strike" ∨ wd = "rush") ∧ as ≠ [])) ∧
  ∀ (H' : Hp) (v : V) (dd : Deed) (as' : List Int), Fx2 f s H H' → Feed H' f c (n + 31) → H' s = some (.lst (as'.map V.int)) → as'.length ≤ as.length + 1 → as' ≠ [] → Is H' v dd.d → AskOk cs dd → Q v H'
theorem ok_law_deed (d : Dn K mg d_law_deed) (T : Tb w K mg) (c_law_draw : Cal P w K mg base 1 "_law_draw" [] sp_law_draw) (c_law_dish_deed : Cal P w K mg base 3 "_law_dish_deed" [] (sp_law_dish_deed K)) : Cal P w K mg base 4 "_law_deed" [] (sp_law_deed K) := by
  refine d.cal sc_law_deed (fun vs H Q E h => ?_) (fun f fd F => ⟨[], .nil, F.bindsN fun _ _ _ _ _ _ us hl => match us, hl with | [_, _, _, _, _], _ => rfl⟩) fun f cdv A outer s H vs Q E hr h => have hu := hu_of hr; ⟨_, PSs.nox (pss_cons (ps_if (pt_cmpR op_in_seq (pv 4) (pe_tup (pa_cons pe_str (pa_cons pe_str (pa_cons pe_str (pa_cons pe_str (pa_cons pe_str pa_nil)))))) (by rfl)) (pss_one (ps_ret (pe_cl c_law_dish_deed hr (pa_cons (pv 0) (pa_cons (pv 1) (pa_cons (pv 2) (pa_cons (pv 3) (pa_cons (pv 4) pa_nil)))))))) pss_nil) (pss_cons (ps_set (i := 5) sc_law_deed.nd rfl (Or.inl rfl) (pe_callB (call_sortedD rfl) rfl T.sorted boot_sorted (pa_cons (pv 2) pa_nil))) (pss_cons (ps_set (i := 6) sc_law_deed.nd rfl (Or.inl rfl) (pe_ix ix_list (pv 5) (pe_cl c_law_draw hr (pa_cons (pv 0) (pa_cons (pe_callB call_len_seq rfl T.len boot_len (pa_cons (pv 5) pa_nil)) pa_nil))) (fun _ _ => rfl))) (pss_cons (ps_if (pt_cmpR op_in_seq (pv 4) (pe_tup (pa_cons pe_str (pa_cons pe_str pa_nil))) (by rfl)) (pss_one (ps_ret (pe_tup (pa_cons (pv 4) (pa_cons (pe_dget hu (pv 2) (pv 6) (fun _ _ => rfl)) (pa_cons (pe_cl c_law_draw hr (pa_cons (pv 0) (pa_cons pe_int pa_nil))) pa_nil)))))) pss_nil) pss_never)))), ?_⟩
  · obtain ⟨_, _, _, _, _, _, _, _, _, _, rfl, _⟩ := h; rfl
  · obtain ⟨f, c, n, hv, hs, a, cs, s, as, wd, rfl, F, hn, hh, hok, ha, cok, hs0, hasl, nsf, nsc, hwd, q⟩ := h
    have haf : a ≠ f := fun e => by obtain ⟨_, _, _, h1, _⟩ := F.ex; rw [e, h1] at ha; cases ha
    walk_at "go"
    refine i_tup ?_
    walk_at "go"
    refine ⟨sz (by simp), fun p1 hp1 => ?_⟩
    have e1 := Ex.new (o := HO.tup [.str "ask", .str "change", .str "serve", .str "back", .str "strike"]) hp1
    have k1 : (upd H p1 (.tup [.str "ask", .str "change", .str "serve", .str "back", .str "strike"])) p1 = some (.tup ((["ask", "change", "serve", "back", "strike"] : List Str).map V.str)) := upd_same
    have F1 := F.ex_ e1
    have ha1 := e1 _ _ ha
    have hs1 := e1 _ _ hs0
    have hh1 := Is.mono e1.tex _ hh
    generalize upd H p1 (.tup [.str "ask", .str "change", .str "serve", .str "back", .str "strike"]) = H1 at e1 k1 F1 ha1 hs1 hh1 ⊢
    refine i_inS (.inr (SqT.of k1)) ?_
    walk_at "go"
    refine i_ite (fun e => ?_) fun e => ?_
    · have e : wd ∈ (["ask", "change", "serve", "back", "strike"] : List Str) := by simpa using e
      walk_at "go"
      refine ⟨f, c, n, hv, hs, a, cs, s, as, wd, rfl, F1, by omega, hh1, hok, ha1, cok, hs1, hasl, nsf, nsc, ?_, fun H2 v dd as' x2 F2 k2 l2 ne2 i2 ok2 => ?_⟩
      · rcases hwd with h | ⟨h | h | h, hne⟩
        · exact .inl h
        · exact .inr ⟨.inl h, hne⟩
        · exact .inr ⟨.inr h, hne⟩
        · rw [h] at e; exact absurd e (by decide)
      · exact q H2 v dd as' (e1.fx.two.trans x2) (F2.up (by omega)) k2 l2 ne2 i2 ok2
    · have e : ¬ wd ∈ (["ask", "change", "serve", "back", "strike"] : List Str) := by simpa using e
      have hr : wd = "rush" ∧ as ≠ [] := by
        rcases hwd with h | ⟨h | h | h, hne⟩
        · rw [h] at e; exact absurd (by decide) e
        · rw [h] at e; exact absurd (by decide) e
        · rw [h] at e; exact absurd (by decide) e
        · exact ⟨h, hne⟩
      obtain ⟨rfl, hne⟩ := hr
      walk_at "go"
      refine ⟨a, _, keys cs, rfl, .inl ha1, tabK_keys cs, by unfold keys; rw [List.length_map]; have := cok.few; omega, fun ys L8 hperm _ hL8 => ?_⟩
      have e8 := Ex.new (o := HO.lst (ys.map V.str)) hL8
      have k8 : (upd H1 L8 (.lst (ys.map V.str))) L8 = some (.lst (ys.map V.str)) := upd_same
      have F8 := F1.ex_ e8
      have nL8 := F1.ne hL8
      generalize upd H1 L8 (.lst (ys.map V.str)) = H8 at e8 k8 F8 ⊢
      have hyl : ys.length = cs.length := by rw [hperm.length_eq]; unfold keys; rw [List.length_map]
      have hcl := cok.low
      have hcl2 := cok.few
      walk_at "go"
      refine ⟨L8, _, rfl, .inl (SqL.of k8), ?_⟩
      walk_at "go"
      rw [List.length_map]
      refine i_draw F8 (by omega) (by omega) (by omega) fun H9 a9 x9 F9 a90 a91 => ?_
      obtain ⟨seat, hat, hseat⟩ := at_map V.str (xs := ys) a90 (by omega)
      refine ⟨L8, _, _, _, rfl, rfl, SqL.of (x9 _ _ k8 nL8), hat, ?_⟩
      obtain ⟨ty, hty⟩ := aget_some_iff.mpr (hperm.mem_iff.mp hseat)
      have ha9 := x9 _ _ (e8 _ _ ha1) haf
      have hs9 := x9 _ _ (e8 _ _ hs1) nsf
      walk_at "go"
      refine i_tup ?_
      walk_at "go"
      refine ⟨sz (by simp), fun p10 hp10 => ?_⟩
      have e10 := Ex.new (o := HO.tup [.str "fire", .str "rush"]) hp10
      have k10 : (upd H9 p10 (.tup [.str "fire", .str "rush"])) p10 = some (.tup ((["fire", "rush"] : List Str).map V.str)) := upd_same
      generalize upd H9 p10 (.tup [.str "fire", .str "rush"]) = H10 at e10 k10 ⊢
      refine i_inS (.inr (SqT.of k10)) ?_
      walk_at "go"
      refine i_ite (fun _ => ?_) fun e => absurd e (by decide)
      walk_at "go"
      refine i_tup ?_
      walk_at "go"
      refine gS (.inl (e10 _ _ ha9)) (by rw [tab_get, hty]; rfl) ?_
      walk_at "go"
      refine i_draw (F9.ex_ e10) (by omega) (by omega) (by omega) fun H11 a11 x11 F11 a110 a111 => ?_
      walk_at "go"
      refine ⟨sz (by simp), fun p12 hp12 => ?_⟩
      have e12 := Ex.new (o := HO.tup [.str "rush", .str ty, .int a11]) hp12
      have xx := (x11.trans e12.fx)
      exact q _ (.ref p12) (.rush ty a11) as ((((e1.fx.trans e8.fx).trans x9).trans e10.fx).trans xx).two ((F11.ex_ e12).up (by omega)) (xx _ _ (e10 _ _ hs9) nsf) (by omega) hne (is_tup upd_same (by simp [IsAll, Is])) trivial
end

def words6 : List Str := ["ask", "ask", "ask", "strike", "rush", "serve"]
def sitsOf (cs : List (Str × Str)) : List Deed := cs.map fun p => .sit p.1 p.2
structure BookOk (cs : List (Str × Str)) (ps : List Page) : Prop where
  deeds : ∃ ds : List Deed, ps.map (·.deed) = sitsOf cs ++ ds ∧ ∀ dd ∈ ds, AskOk cs dd
  min : ∀ pg ∈ ps, 0 ≤ pg.minute
  mono : (ps.map (·.minute)).Pairwise (· ≤ ·)
  few : ps.length ≤ 60
section
variable {P : Program} {w : World} {K : PySem.W.Frag} {mg : Str → Option Value} {base : Heap} {k : Nat}
abbrev N_law_book : List Str := ["_law_feed_here", "_law_house_here", "_law_words", "_law_cast_here", "_law_asked", "_law_deeds", "_law_seat", "_law_many", "_law_word", "_law_found", "_law_minute", "_law_k"]
abbrev P_law_book : List Str := ["_law_feed_here", "_law_house_here", "_law_words"]
theorem sc_law_book : FnScope N_law_book P_law_book (defScope s_law_book) := ⟨rfl, rfl, rfl, by decide +kernel, rfl, by decide +kernel, by decide +kernel⟩
def sp_law_book (K : PySem.W.Frag) : Sp := fun vs H Q _ => ∃ (f c : Addr) (n : Nat) (hv : V) (hs : House) (wl : Addr), vs = [.ref f, hv, .ref wl] ∧ Feed H f c n ∧ n ≤ 1000 ∧ Is H hv hs.d ∧ hs.Ok ∧ H wl = some (.lst (words6.map V.str)) ∧
  ∀ (H' : Hp) (p : Addr) (ps : List Page) (cs : List (Str × Str)), Fx f H H' → Feed H' f c (n + 3000) → Is H' (.ref p) (bookD ps) → CastOk cs → BookOk cs ps → Q (.ref p) H'
theorem ok_law_book (d : Dn K mg d_law_book) (T : Tb w K mg) (c_law_draw : Cal P w K mg base 1 "_law_draw" [] sp_law_draw) (c_law_cast : Cal P w K mg base 2 "_law_cast" [] sp_law_cast) (c_law_deed : Cal P w K mg base 4 "_law_deed" [] (sp_law_deed K)) : Cal P w K mg base 5 "_law_book" [] (sp_law_book K) := by
  refine d.cal sc_law_book (fun vs H Q E h => ?_) (fun f fd F => ⟨[], .nil, F.bindsN fun _ _ _ _ _ _ us hl => match us, hl with | [_, _, _], _ => rfl⟩) fun f cdv A outer s H vs Q E hr h => have hu := hu_of hr; ⟨_, PSs.nox (pss_cons (ps_par3 (i := 3) (j := 4) (l := 5) rfl sc_law_book.nd (by rfl) (by rfl) (by rfl) (by decide) (by decide) (by decide) (by rfl) (by rfl) (by rfl) (pa_cons (pe_cl c_law_cast hr (pa_cons (pv 0) pa_nil)) (pa_cons (pe_lst pa_nil) (pa_cons (pe_lst pa_nil) pa_nil))) (by rfl)) (pss_cons (ps_lock (ps_for PassesOwn.never rfl (pi_keys (pv 3)) (pg_name (i := 6) sc_law_book.nd rfl (Or.inl rfl)) (pss_one (ps_expr (pe_bm PySem.F.plainAttrs_list PySem.F.slot_list_append PySem.F.type_list_append mt_append (pv 5) (pa_cons (pe_tup (pa_cons pe_str (pa_cons (pv 6) (pa_cons (pe_dget hu (pv 3) (pv 6) (fun _ _ => rfl)) pa_nil)))) pa_nil)))))) (pss_cons (ps_set (i := 7) sc_law_book.nd rfl (Or.inl rfl) (pe_ifExp (pt_cmpR op_eq (pe_cl c_law_draw hr (pa_cons (pv 0) (pa_cons pe_int pa_nil))) pe_int (nomark _)) pe_int (pe_op op_add pe_int (pe_cl c_law_draw hr (pa_cons (pv 0) (pa_cons pe_int pa_nil)))))) (pss_cons (ps_for PassesOwn.never rfl (pi_list (pe_op op_cat (pe_op op_rep (pe_lst (pa_cons pe_str pa_nil)) pe_int) (pe_lc rfl sc_law_book.nd (pi_range1 rfl T.range (pa_cons (pv 7) pa_nil)) (blkOk_by (own := [("_law_k", 11)]) (N := N_law_book) (sc := defScope s_law_book) (by decide +kernel)) (fun _ _ _ _ _ => (pg_name (i := 11) sc_law_book.nd rfl (Or.inl rfl))) (fun _ _ _ _ _ => pts_nil) (fun _ _ _ _ _ => (pe_ix (ix_listK K rfl) (pv 2) (pe_cl c_law_draw hr (pa_cons (pv 0) (pa_cons (pe_callB (call_lenK K rfl) rfl T.len boot_len (pa_cons (pv 2) pa_nil)) pa_nil))) (fun _ _ => rfl)))))) (pg_name (i := 8) sc_law_book.nd rfl (Or.inl rfl)) (pss_one (ps_expr (pe_bm PySem.F.plainAttrs_list PySem.F.slot_list_append PySem.F.type_list_append mt_append (pv 5) (pa_cons (pe_cl c_law_deed hr (pa_cons (pv 0) (pa_cons (pv 1) (pa_cons (pv 3) (pa_cons (pv 4) (pa_cons (pv 8) pa_nil)))))) pa_nil))))) (pss_cons (ps_par (i := 9) (j := 10) rfl sc_law_book.nd (by rfl) (by rfl) (by decide) (by rfl) (by rfl) (pa_cons (pe_lst pa_nil) (pa_cons (pe_cl c_law_draw hr (pa_cons (pv 0) (pa_cons pe_int pa_nil))) pa_nil)) (by rfl)) (pss_cons (ps_for PassesOwn.never rfl (pi_range1 rfl T.range (pa_cons (pe_callB call_len_seq rfl T.len boot_len (pa_cons (pv 5) pa_nil)) pa_nil)) (pg_name (i := 11) sc_law_book.nd rfl (Or.inl rfl)) (pss_cons (ps_set (i := 10) sc_law_book.nd rfl (Or.inl rfl) (pe_op op_add (pv 10) (pe_ix ix_list (pe_lst (pa_cons pe_int (pa_cons pe_int (pa_cons pe_int (pa_cons pe_int (pa_cons pe_int pa_nil)))))) (pe_cl c_law_draw hr (pa_cons (pv 0) (pa_cons pe_int pa_nil))) (fun _ _ => rfl)))) (pss_one (ps_expr (pe_bm PySem.F.plainAttrs_list PySem.F.slot_list_append PySem.F.type_list_append mt_append (pv 9) (pa_cons (pe_tup (pa_cons (pe_tup (pa_cons (pv 10) (pa_cons (pv 11) pa_nil))) (pa_cons (pe_ix ix_list (pv 5) (pv 11) (fun _ _ => rfl)) pa_nil))) pa_nil)))))) (pss_one (ps_ret (pe_callTy call_tuple_of rfl T.tuple boot_tuple (pa_cons (pv 9) pa_nil)))))))))), ?_⟩
  · obtain ⟨_, _, _, _, _, _, rfl, _⟩ := h; rfl
  · obtain ⟨f, c, n, hv, hs, wl, rfl, F, hn, hh, hok, hwl, q⟩ := h
    have hwf : wl ≠ f := fun e => by obtain ⟨_, _, _, h1, _⟩ := F.ex; rw [e, h1] at hwl; cases hwl
    walk_at "go"
    refine ⟨f, c, n, rfl, F, by omega, fun H1 C cs x1 F1 hC h1 cok => ?_⟩
    walk_at "go"
    refine i_lst ?_
    walk_at "go"
    refine ⟨sz (by simp), fun A2 hA2 => ?_⟩
    have e2 := Ex.new (o := HO.lst []) hA2
    have k2 : (upd H1 A2 (.lst [])) A2 = some (.lst []) := upd_same
    generalize upd H1 A2 (.lst []) = H2 at e2 k2 ⊢
    walk_at "go"
    refine i_lst ?_
    walk_at "go"
    refine ⟨sz (by simp), fun E hE => ?_⟩
    have e3 := Ex.new (o := HO.lst []) hE
    have k3 : (upd H2 E (.lst [])) E = some (.lst []) := upd_same
    generalize upd H2 E (.lst []) = H3 at e3 k3 ⊢
    have nCf : C ≠ f := F.ne hC
    have F3 := (F1.ex_ e2).ex_ e3
    have x3 : Fx f H H3 := (x1.trans e2.fx).trans e3.fx
    have kC3 := e3 _ _ (e2 _ _ h1)
    have kA3 := e3 _ _ k2
    have nAf : A2 ≠ f := F1.ne hA2
    have nEf : E ≠ f := (F1.ex_ e2).ne hE
    have none_of : ∀ {H' : Hp} {p : Addr}, Fx f H H' → H' p = none → p ≠ f → H p = none := fun {H' p} x hp hne => by
      cases e : H p with
      | none => rfl
      | some o => rw [x _ _ e hne] at hp; cases hp
    have hAH := none_of x1 hA2 nAf
    have hEH := none_of (x1.trans e2.fx) hE nEf
    have nAc := F.nec hAH
    have nEc := F.nec hEH
    have nEA : E ≠ A2 := fun z => by rw [z, k2] at hE; cases hE
    have nCA : C ≠ A2 := fun z => by rw [← z, h1] at hA2; cases hA2
    have nCE : C ≠ E := fun z => by rw [← z, e2 _ _ h1] at hE; cases hE
    have nwA : wl ≠ A2 := fun z => by rw [← z, hwl] at hAH; cases hAH
    have nwE : wl ≠ E := fun z => by rw [← z, hwl] at hEH; cases hEH
    have hwl3 := x3 _ _ hwl hwf
    have hcl := cok.few
    walk_at "go"
    refine i_lock C kC3 trivial fun o => ?_
    walk_at "go"
    have hlen : (tabK cs).length = cs.length := by unfold tabK; rw [List.length_map]
    refine ⟨C, o, rfl, .inl ⟨_, upd_same, for_itk (fun i σ H' => (∃ z6, σ = [some (.ref f), some hv, some (.ref wl), some (.ref C), some (.ref A2), some (.ref E), z6, none, none, none, none, none]) ∧ (∀ a u, (upd H3 C (.frz o (.dK (tabK cs)))) a = some u → a ≠ E → H' a = some u) ∧
      ∃ vs : List V, H' E = some (.lst vs) ∧ IsAll H' vs ((sitsOf (cs.take i)).map Deed.d)) ?_ (fun i σ H' h => h.2.1 _ _ upd_same nCE) (fun i kk v σ H' hk h => ?_) fun σ H' h => ?_⟩⟩
    · exact ⟨⟨_, rfl⟩, fun a u h _ => h, [], by rw [upd_ne (Ne.symm nCE)]; exact k3, by simp [sitsOf, IsAll]⟩
    · obtain ⟨⟨z6, rfl⟩, fr, vs, kE, hvs⟩ := h
      unfold tabK at hk
      rw [List.getElem?_map] at hk
      obtain ⟨pr, hpr, hkv⟩ := Option.map_eq_some_iff.mp hk
      cases hkv
      have hi : i < 12 := by have := (List.getElem?_eq_some_iff.mp hpr).1; omega
      walk_at "go"
      refine ⟨ty_lst kE, ?_⟩
      walk_at "go"
      refine i_tup ?_
      walk_at "go"
      refine gS (.inr ⟨o, fr _ _ upd_same nCE⟩) (by rw [tab_get, aget_of_mem cok.nd (show (pr.1, pr.2) ∈ cs from List.mem_of_getElem? hpr)]; rfl) ?_
      walk_at "go"
      refine ⟨sz (by simp), fun tp htp => ?_⟩
      have e4 := Ex.new (o := HO.tup [.str "sit", kV (Sum.inr pr.1), .str pr.2]) htp
      have k4 : (upd H' tp (.tup [.str "sit", kV (Sum.inr pr.1), .str pr.2])) tp = some (.tup [.str "sit", kV (Sum.inr pr.1), .str pr.2]) := upd_same
      generalize upd H' tp (.tup [.str "sit", kV (Sum.inr pr.1), .str pr.2]) = H4 at e4 k4 ⊢
      walk_at "go"
      have hvl : vs.length ≤ 12 := by rw [hvs.len]; unfold sitsOf; rw [List.length_map, List.length_map, List.length_take]; omega
      refine ⟨E, vs, _, rfl, rfl, e4 _ _ kE, szl (by omega), ?_⟩
      have t5 : TEx H4 (upd H4 E (.lst (vs ++ [.ref tp]))) := TEx.mut (e4 _ _ kE) fun _ => by simp
      refine ⟨⟨_, rfl⟩, fun a u h ne => by rw [upd_ne ne]; exact e4 _ _ (fr a u h ne), _, upd_same, ?_⟩
      rw [take_snoc hpr]
      unfold sitsOf at hvs ⊢
      rw [List.map_append, List.map_append]
      exact IsAll.snoc (IsAll.mono (e4.tex.trans t5) _ hvs) (Is.mono t5 _ (is_tup k4 (by simp [IsAll, Is, kV])))
    obtain ⟨⟨z6, rfl⟩, fr, vs, kE, hvs⟩ := h
    rw [hlen, List.take_of_length_le (Nat.le_refl _)] at hvs
    have kCf := fr _ _ upd_same nCE
    refine ⟨kCf, ?_⟩
    have fr3 : ∀ a u, H3 a = some u → a ≠ E → (upd H' C (.dK (tabK cs))) a = some u := fun a u h ne => by
      by_cases ec : a = C
      · rw [ec] at h ⊢; rw [upd_same, ← h]; exact kC3.symm
      · rw [upd_ne ec]; exact fr a u (by rw [upd_ne ec]; exact h) ne
    have kE4 : (upd H' C (.dK (tabK cs))) E = some (.lst vs) := by rw [upd_ne (Ne.symm nCE)]; exact kE
    have hvs4 := IsAll.mono (TEx.mut (o' := .dK (tabK cs)) kCf fun _ => by simp) _ hvs
    have kC4 : (upd H' C (.dK (tabK cs))) C = some (.dK (tabK cs)) := upd_same
    generalize upd H' C (.dK (tabK cs)) = H4 at fr3 kE4 hvs4 kC4 ⊢
    have x4 : Fx f H H4 := fun a u h ne => fr3 a u (x3 a u h ne) fun z => by rw [z, hEH] at h; cases h
    have F4 : Feed H4 f c (n + 40) := by
      obtain ⟨xs, a, l, g1, g2, g3, g4, g5, g6⟩ := F3.ex
      exact ⟨xs, a, l, fr3 _ _ g1 (Ne.symm nEf), fr3 _ _ g2 (Ne.symm nEc), g3, g4, g5, g6⟩
    have kA4 := fr3 _ _ kA3 (Ne.symm nEA)
    have hwl4 := fr3 _ _ hwl3 nwE
    have hh4 := Is.mono (F.tex x4) _ hh
    clear fr kE hvs kCf fr3 F3 x3 kC3 kA3 hwl3 e2 e3 k2 k3 h1 F1 x1
    walk_at "go"
    refine i_draw F4 (by omega) (by decide) (by decide) fun H5 a5 x5 F5 a50 a51 => ?_
    walk_at "go"
    refine i_alt (fun v H' => ∃ j : Int, v = .int j ∧ Fx f H4 H' ∧ Feed H' f c (n + 42) ∧ 0 ≤ j ∧ j ≤ 24) (fun v H' h => ?_) (fun e kk => ?_) (fun e kk => ?_)
    rotate_left
    · exact kk _ _ ⟨24, rfl, x5, F5.up (by omega), by omega, by omega⟩
    · walk_at "go"
      refine i_draw F5 (by omega) (by decide) (by decide) fun H6 a6 x6 F6 a60 a61 => ?_
      exact i_I0 (kk _ _ ⟨4 + a6, rfl, x5.trans x6, F6, by omega, by omega⟩)
    clear F5 x5
    obtain ⟨mn, rfl, x5, F5, mn0, mn24⟩ := h
    have nlst : ∀ {H' : Hp} {p : Addr}, Feed H' f c n → H' p = none → p ≠ f := fun F hp => F.ne hp
    have t45 := F4.tex x5
    have kE5 := x5 _ _ kE4 nEf
    have kA5 := x5 _ _ kA4 nAf
    have kC5 := x5 _ _ kC4 nCf
    have hwl5 := x5 _ _ hwl4 hwf
    have hvs5 := IsAll.mono t45 _ hvs4
    have hh5 := Is.mono t45 _ hh4
    have x05 := x4.trans x5
    clear kE4 kA4 kC4 hwl4 hvs4 hh4 x4 x5 F4 t45
    walk_at "go"
    refine i_lst ?_
    walk_at "go"
    refine ⟨sz (by simp), fun p6 hp6 => ?_⟩
    have e6 := Ex.new (o := HO.lst [V.str "ask"]) hp6
    have k6 : (upd H' p6 (.lst [V.str "ask"])) p6 = some (.lst [V.str "ask"]) := upd_same
    generalize upd H' p6 (.lst [V.str "ask"]) = H6 at e6 k6 ⊢
    walk_at "go"
    refine ⟨p6, 3, _, rfl, rfl, k6, by omega, by omega, sz (by simp), fun p7 hp7 => ?_⟩
    have e7 := Ex.new (o := HO.lst (List.replicate (Int.toNat 3) [V.str "ask"]).flatten) hp7
    have k7 : (upd H6 p7 (.lst (List.replicate (Int.toNat 3) [V.str "ask"]).flatten)) p7 = some (.lst ((["ask", "ask", "ask"] : List Str).map V.str)) := upd_same
    have n7f := (F5.ex_ e6).ne hp7
    generalize upd H6 p7 (.lst (List.replicate (Int.toNat 3) [V.str "ask"]).flatten) = H7 at e7 k7 ⊢
    have e67 := e6.trans e7
    have F7 := F5.ex_ e67
    walk_at "go"
    refine ⟨mn, rfl, by omega, by omega, fun D hD => lc_range (fun i H'' => ∃ ws : List Str, H'' D = some (.lst (ws.map V.str)) ∧ ws.length = i ∧ (∀ z ∈ ws, z ∈ words6) ∧ Fx f H7 H'' ∧ Feed H'' f c (n + 42 + i)) ?_ (fun i H'' hi h => ?_) fun H'' h => ?_⟩
    · exact ⟨[], upd_same, rfl, fun z hz => (by cases hz), (Ex.new hD).fx, F7.ex_ (Ex.new hD)⟩
    · obtain ⟨ws, kD, hwl', hwm, ex, hF⟩ := h
      have hi : i < 24 := by omega
      have nDf := F7.ne hD
      have nDc := F7.nec hD
      have hw2 := ex _ _ (e67 _ _ hwl5) hwf
      walk_at "go"
      refine ⟨wl, _, rfl, .inl (SqL.of hw2), ?_⟩
      walk_at "go"
      rw [List.length_map]
      refine i_draw hF (by omega) (by decide) (by decide) fun H8 a8 x8 F8 a80 a81 => ?_
      obtain ⟨z, hat, hz⟩ := at_map V.str (xs := words6) a80 (by exact a81)
      refine ⟨wl, _, _, _, rfl, rfl, SqL.of (x8 _ _ hw2 hwf), hat, ?_⟩
      refine ⟨_, x8 _ _ kD nDf, szl (by rw [List.length_map]; omega), ws ++ [z], by rw [upd_same, List.map_append]; rfl, by simp [hwl'], fun y hy => ?_, (ex.trans x8).mut hD, (F8.put nDf nDc).up (by omega)⟩
      rcases List.mem_append.mp hy with hy | hy
      · exact hwm y hy
      · rw [List.mem_singleton.mp hy]; exact hz
    obtain ⟨ws, kD, hwl', hwm, x8, F8⟩ := h
    have k78 := x8 _ _ k7 n7f
    refine ⟨p7, D, _, _, rfl, rfl, k78, kD, sz (by simp; omega), fun W2 hW2 => ?_⟩
    have e9 := Ex.new (o := HO.lst ((["ask", "ask", "ask"] : List Str).map V.str ++ ws.map V.str)) hW2
    have k9 : (upd H'' W2 (.lst ((["ask", "ask", "ask"] : List Str).map V.str ++ ws.map V.str))) W2 = some (.lst (((["ask", "ask", "ask"] : List Str) ++ ws).map V.str)) := by rw [upd_same, List.map_append]
    have n9f := F8.ne hW2
    generalize upd H'' W2 (.lst ((["ask", "ask", "ask"] : List Str).map V.str ++ ws.map V.str)) = H9 at e9 k9 ⊢
    have x59 : Fx f H' H9 := (e67.fx.trans x8).trans e9.fx
    have F9 : Feed H9 f c (n + 66) := (F8.ex_ e9).up (by omega)
    have t59 := F5.tex x59
    have kE9 := x59 _ _ kE5 nEf
    have kA9 := x59 _ _ kA5 nAf
    have kC9 := x59 _ _ kC5 nCf
    have hvs9 := IsAll.mono t59 _ hvs5
    have hh9 := Is.mono t59 _ hh5
    have x09 := x05.trans x59
    have nWA : W2 ≠ A2 := fun z => by rw [z] at hW2; rw [x8 _ _ (e67 _ _ kA5) nAf] at hW2; cases hW2
    have nWE : W2 ≠ E := fun z => by rw [z] at hW2; rw [x8 _ _ (e67 _ _ kE5) nEf] at hW2; cases hW2
    have hwsl : ((["ask", "ask", "ask"] : List Str) ++ ws).length ≤ 27 := by simp; omega
    have hw3 : ∀ (i : Nat) (z : Str), ((["ask", "ask", "ask"] : List Str) ++ ws)[i]? = some z → z = "ask" ∨ (0 < i ∧ (z = "serve" ∨ z = "strike" ∨ z = "rush")) := fun i z h => by
      match i, h with
      | 0, h => exact .inl (by simpa using h.symm)
      | 1, h => exact .inl (by simpa using h.symm)
      | 2, h => exact .inl (by simpa using h.symm)
      | i + 3, h =>
        have hz : z ∈ words6 := hwm z (List.mem_of_getElem? (by simpa using h))
        simp only [words6, List.mem_cons, List.not_mem_nil, or_false] at hz
        rcases hz with rfl | rfl | rfl | rfl | rfl | rfl
        · exact .inl rfl
        · exact .inl rfl
        · exact .inl rfl
        · exact .inr ⟨by omega, .inr (.inl rfl)⟩
        · exact .inr ⟨by omega, .inr (.inr rfl)⟩
        · exact .inr ⟨by omega, .inl rfl⟩
    generalize ((["ask", "ask", "ask"] : List Str) ++ ws) = wz at k9 hwsl hw3
    clear kE5 kA5 kC5 hwl5 hvs5 hh5 x05 x59 F5 t59 e6 k6 e7 k7 e67 F7 kD x8 F8 k78 e9
    refine ⟨W2, rfl, ⟨_, SqL.of k9⟩, for_list (xs := wz.map V.str) (fun i σ H' => (∃ z6 z8, σ = [some (.ref f), some hv, some (.ref wl), some (.ref C), some (.ref A2), some (.ref E), z6, some (.int mn), z8, none, none, none]) ∧ H' W2 = some (.lst (wz.map V.str)) ∧ H' C = some (.dK (tabK cs)) ∧ Fx f H H' ∧ Is H' hv hs.d ∧ Feed H' f c (n + 66 + 31 * i) ∧
      (∃ as : List Int, H' A2 = some (.lst (as.map V.int)) ∧ as.length ≤ i ∧ (0 < i → as ≠ [])) ∧ ∃ (vs : List V) (ds : List Deed), H' E = some (.lst vs) ∧ IsAll H' vs ((sitsOf cs ++ ds).map Deed.d) ∧ ds.length = i ∧ ∀ dd ∈ ds, AskOk cs dd) ?_ (fun i σ H' _ h => SqL.of h.2.1) (fun i x σ H' hx h => ?_) fun σ H' h => ?_⟩
    · exact ⟨⟨_, _, rfl⟩, k9, kC9, x09, hh9, F9, ⟨[], kA9, Nat.le_refl _, fun h => absurd h (by omega)⟩, vs, [], kE9, by rw [List.append_nil]; exact hvs9, rfl, fun dd hd => by cases hd⟩
    · obtain ⟨⟨z6, z8, rfl⟩, yW, yC, yH, yh, yF, ⟨as, yA, yal, yan⟩, vs', ds, yE, yvs, ydl, yok⟩ := h
      rw [List.getElem?_map] at hx
      obtain ⟨z, hz, rfl⟩ := Option.map_eq_some_iff.mp hx
      have hi : i < 27 := by have := (List.getElem?_eq_some_iff.mp hz).1; omega
      walk_at "go"
      refine ⟨ty_lst yE, ?_⟩
      walk_at "go"
      refine ⟨f, c, n + 66 + 31 * i, hv, hs, C, cs, A2, as, z, rfl, yF, by omega, yh, hok, yC, cok, yA, by omega, nAf, nAc, ?_, fun H10 v dd as' x10 F10 k10 l10 ne10 i10 ok10 => ?_⟩
      · rcases hw3 i z hz with h | ⟨h0, h⟩
        · exact .inl h
        · exact .inr ⟨h, yan h0⟩
      have t10 : TEx H' H10 := fun a xs h => x10 a _ h (fun e => by obtain ⟨_, _, _, g1, _⟩ := yF.ex; rw [e, g1] at h; cases h) fun e => by rw [e, yA] at h; cases h
      have yE10 := x10 _ _ yE nEf nEA
      walk_at "go"
      have hvl : vs'.length ≤ 39 := by rw [yvs.len]; unfold sitsOf; rw [List.length_map, List.length_append, List.length_map]; omega
      refine ⟨E, vs', _, rfl, rfl, yE10, szl (by omega), ?_⟩
      have t11 : TEx H10 (upd H10 E (.lst (vs' ++ [v]))) := TEx.mut yE10 fun _ => by simp
      have x010 : Fx f H H10 := fun a u h ne => x10 a u (yH a u h ne) ne fun e => by rw [e, hAH] at h; cases h
      refine ⟨⟨_, _, rfl⟩, by rw [upd_ne nWE]; exact x10 _ _ yW n9f nWA, by rw [upd_ne nCE]; exact x10 _ _ yC nCf nCA, x010.mut hEH, Is.mono (t10.trans t11) _ yh, (F10.put nEf nEc).up (by omega), ⟨as', by rw [upd_ne (Ne.symm nEA)]; exact k10, by omega, fun _ => ne10⟩, _, ds ++ [dd], upd_same, ?_, by simp [ydl], fun d2 hd2 => ?_⟩
      · rw [← List.append_assoc, List.map_append]
        exact IsAll.snoc (IsAll.mono (t10.trans t11) _ yvs) (Is.mono t11 _ i10)
      · rcases List.mem_append.mp hd2 with hd2 | hd2
        · exact yok d2 hd2
        · rw [List.mem_singleton.mp hd2]; exact ok10
    obtain ⟨⟨z6, z8, rfl⟩, yW, yC, yH, yh, yF, _, vs', ds, yE, yvs, ydl, yok⟩ := h
    rw [List.length_map] at yF ydl
    have hvl : vs'.length ≤ 39 := by rw [yvs.len]; unfold sitsOf; rw [List.length_map, List.length_append, List.length_map]; omega
    walk_at "go"
    refine i_lst ?_
    walk_at "go"
    refine ⟨sz (by simp), fun G hG => ?_⟩
    have e12 := Ex.new (o := HO.lst []) hG
    have k12 : (upd H' G (.lst [])) G = some (.lst []) := upd_same
    have F12 := yF.ex_ e12
    have nGf := yF.ne hG
    have hGH := none_of yH hG nGf
    have nGc := F.nec hGH
    have nGE : G ≠ E := fun z => by rw [z, yE] at hG; cases hG
    generalize upd H' G (.lst []) = H12 at e12 k12 F12 ⊢
    walk_at "go"
    refine i_draw F12 (by omega) (by decide) (by decide) fun H13 a13 x13 F13 a130 a131 => ?_
    walk_at "go"
    have x013 := (yH.trans e12.fx).trans x13
    have t13 := yF.tex (e12.fx.trans x13)
    have kE13 := x13 _ _ (e12 _ _ yE) nEf
    have kG13 := x13 _ _ k12 nGf
    have hvs13 := IsAll.mono t13 _ yvs
    refine ⟨E, _, rfl, .inl (SqL.of kE13), ?_⟩
    refine ⟨_, rfl, by omega, by omega, for_range (fun i σ H' => (∃ (mi : Int) (z11 : Option V) (gs : List V) (ps : List Page), σ = [some (.ref f), some hv, some (.ref wl), some (.ref C), some (.ref A2), some (.ref E), z6, some (.int mn), z8, some (.ref G), some (.int mi), z11] ∧ H' G = some (.lst gs) ∧ IsAll H' gs (ps.map Page.d) ∧ ps.map (·.deed) = (sitsOf cs ++ ds).take i ∧ 0 ≤ mi ∧ (∀ pg ∈ ps, 0 ≤ pg.minute ∧ pg.minute ≤ mi) ∧ (ps.map (·.minute)).Pairwise (· ≤ ·)) ∧
      H' E = some (.lst vs') ∧ IsAll H' vs' ((sitsOf cs ++ ds).map Deed.d) ∧ Fx f H H' ∧ Feed H' f c (n + 1000 + i)) ?_ (fun i σ H' hi h => ?_) fun σ H' h => ?_⟩
    · exact ⟨⟨a13, _, [], [], rfl, kG13, by simp [IsAll], rfl, a130, fun pg hpg => (by cases hpg), List.Pairwise.nil⟩, kE13, hvs13, x013, F13.up (by omega)⟩
    · obtain ⟨⟨mi, z11, gs, ps, rfl, wG, wgs, wps, wmi, wmin, wmono⟩, wE, wvs, wH, wF⟩ := h
      have hi : i < vs'.length := by omega
      walk_at "go"
      refine i_lst ?_
      walk_at "go"
      refine ⟨sz (by simp), fun p14 hp14 => ?_⟩
      have e14 := Ex.new (o := HO.lst [V.int 0, V.int 0, V.int 1, V.int 5, V.int 40]) hp14
      have k14 : (upd H' p14 (.lst [V.int 0, V.int 0, V.int 1, V.int 5, V.int 40])) p14 = some (.lst (([0, 0, 1, 5, 40] : List Int).map V.int)) := upd_same
      have n14 := wF.ne hp14
      have F14 := wF.ex_ e14
      generalize upd H' p14 (.lst [V.int 0, V.int 0, V.int 1, V.int 5, V.int 40]) = H14 at e14 k14 F14 ⊢
      walk_at "go"
      refine i_draw F14 (by omega) (by decide) (by decide) fun H15 a15 x15 F15 a150 a151 => ?_
      obtain ⟨dm, hat, hdm⟩ := at_map V.int (xs := ([0, 0, 1, 5, 40] : List Int)) a150 (by show a15 < 5; omega)
      have hdm0 : 0 ≤ dm := by
        simp only [List.mem_cons, List.not_mem_nil, or_false] at hdm
        omega
      refine ⟨p14, _, _, _, rfl, rfl, SqL.of (x15 _ _ k14 n14), hat, ?_⟩
      walk_at "go"
      have x115 := e14.fx.trans x15
      have t15 := wF.tex x115
      have wG15 := x115 _ _ wG nGf
      have wE15 := x115 _ _ wE nEf
      have hdlen : i < (sitsOf cs ++ ds).length := by have := wvs.len; rw [List.length_map] at this; omega
      obtain ⟨dv, hdv, hdi⟩ := wvs.get (i := i) (d := ((sitsOf cs ++ ds)[i]).d) (by rw [List.getElem?_map, List.getElem?_eq_getElem hdlen]; rfl)
      refine ⟨ty_lst wG15, ?_⟩
      walk_at "go"
      refine i_tup ?_
      walk_at "go"
      refine i_tup ?_
      walk_at "go"
      refine ⟨sz (by simp), fun p16 hp16 => ?_⟩
      have e16 := Ex.new (o := HO.tup [V.int (mi + dm), V.int (0 + (i : Int))]) hp16
      have k16 : (upd H15 p16 (.tup [V.int (mi + dm), V.int (0 + (i : Int))])) p16 = some (.tup [V.int (mi + dm), V.int (0 + (i : Int))]) := upd_same
      generalize upd H15 p16 (.tup [V.int (mi + dm), V.int (0 + (i : Int))]) = H16 at e16 k16 ⊢
      walk_at "go"
      refine ⟨E, _, _, dv, rfl, rfl, SqL.of (e16 _ _ wE15), by rw [Int.zero_add]; exact atI_nat hdv, ?_⟩
      walk_at "go"
      refine ⟨sz (by simp), fun p17 hp17 => ?_⟩
      have e17 := Ex.new (o := HO.tup [V.ref p16, dv]) hp17
      have k17 : (upd H16 p17 (.tup [V.ref p16, dv])) p17 = some (.tup [V.ref p16, dv]) := upd_same
      generalize upd H16 p17 (.tup [V.ref p16, dv]) = H17 at e17 k17 ⊢
      have e1517 := e16.trans e17
      have wG17 := e1517 _ _ wG15
      walk_at "go"
      have hgl : gs.length ≤ 39 := by
        rw [wgs.len, List.length_map]
        have : (ps.map (·.deed)).length = ps.length := List.length_map _
        rw [← this, wps, List.length_take]; omega
      refine ⟨G, gs, _, rfl, rfl, wG17, szl (by omega), ?_⟩
      have t18 : TEx H17 (upd H17 G (.lst (gs ++ [V.ref p17]))) := TEx.mut wG17 fun _ => by simp
      have t017 := t15.trans e1517.tex
      refine ⟨⟨mi + dm, _, _, ps ++ [⟨mi + dm, 0 + (i : Int), (sitsOf cs ++ ds)[i]⟩], rfl, upd_same, ?_, ?_, by omega, fun pg hpg => ?_, ?_⟩, by rw [upd_ne (Ne.symm nGE)]; exact e1517 _ _ wE15, IsAll.mono (t017.trans t18) _ wvs, ((wH.trans x115).trans e1517.fx).mut hGH, ((F15.ex_ e1517).put nGf nGc).up (by omega)⟩
      · rw [List.map_append]
        refine IsAll.snoc (IsAll.mono (t017.trans t18) _ wgs) (Is.mono t18 _ (is_tup k17 ?_))
        simp only [IsAll, and_true]
        exact ⟨is_tup (e17 _ _ k16) (by simp [IsAll, Is]), Is.mono t017 _ hdi⟩
      · rw [List.map_append, wps, take_snoc (List.getElem?_eq_getElem hdlen)]; rfl
      · rcases List.mem_append.mp hpg with hpg | hpg
        · have := wmin pg hpg; omega
        · rw [List.mem_singleton.mp hpg]; exact ⟨by show 0 ≤ mi + dm; omega, Int.le_refl _⟩
      · rw [List.map_append]
        refine List.pairwise_append.mpr ⟨wmono, by simp, fun x hx y hy => ?_⟩
        obtain ⟨pg, hpg, rfl⟩ := List.mem_map.mp hx
        have hy : y = mi + dm := by simpa using hy
        have := (wmin pg hpg).2
        omega
    · obtain ⟨⟨mi, z11, gs, ps, rfl, wG, wgs, wps, wmi, wmin, wmono⟩, wE, wvs, wH, wF⟩ := h
      have hvl2 : (sitsOf cs ++ ds).length = vs'.length := by have := wvs.len; rw [List.length_map] at this; exact this.symm
      have hpl : ps.map (·.deed) = sitsOf cs ++ ds := by rw [wps, List.take_of_length_le (by rw [hvl2]; omega)]
      walk_at "go"
      refine ⟨G, gs, rfl, .inl ⟨SqL.of wG, fun p18 hp18 => ?_⟩⟩
      refine q _ p18 ps cs (wH.trans (Ex.new hp18).fx) ((wF.ex_ (Ex.new hp18)).up (by omega)) (is_tup upd_same (IsAll.mono (TEx.new hp18) _ wgs)) cok ⟨⟨ds, hpl, yok⟩, fun pg hpg => (wmin pg hpg).1, wmono, ?_⟩
      have : (ps.map (·.deed)).length = ps.length := List.length_map _
      rw [hpl] at this
      omega
end

/-! ### sorted lists of texts -/
theorem sorted_pair {l : List Str} (h : sortedS l = true) : l.Pairwise fun a b => ¬ b.cps.toList < a.cps.toList := by
  have key : ∀ (l : List Str) (p : Str), risingS p l = true → (p :: l).Pairwise fun a b => ¬ b.cps.toList < a.cps.toList := by
    intro l
    induction l with
    | nil => intro p _; simp
    | cons x r ih =>
      intro p h
      have h : (!ltCps x.cps.toList p.cps.toList && risingS x r) = true := h
      rw [Bool.and_eq_true] at h
      have h1 : ¬ x.cps.toList < p.cps.toList := by
        have := h.1
        rw [ltCps_eq] at this
        simpa using this
      have h2 := ih x h.2
      refine List.pairwise_cons.mpr ⟨fun y hy => ?_, h2⟩
      rcases List.mem_cons.mp hy with rfl | hy
      · exact h1
      · have h3 := (List.pairwise_cons.mp h2).1 y hy
        exact fun z => h3 (Std.lt_of_lt_of_le z (Std.not_lt.mp h1))
  cases l with
  | nil => exact List.Pairwise.nil
  | cons x r => exact key r x h
theorem sorted_eq {a b : List Str} (ha : sortedS a = true) (hb : sortedS b = true) (h : a.Perm b) : a = b := by
  refine List.Perm.eq_of_pairwise (fun x y _ _ h1 h2 => ?_) (sorted_pair ha) (sorted_pair hb) h
  have : x.cps.toList = y.cps.toList := Std.le_antisymm (Std.not_lt.mp h1) (Std.not_lt.mp h2)
  cases x; cases y
  simp only [Str.mk.injEq]
  exact Array.toList_inj.mp this
def NextOk (l : List (Str × Int)) : Deed → Prop
  | .take s o p => s ≠ o ∧ s ∈ keys l ∧ ∃ v, aget l o = some v ∧ 1 ≤ p ∧ p ≤ v
  | .even ss => ss ≠ [] ∧ ss.Nodup ∧ ss.length ≤ 12 ∧ ∀ z ∈ ss, z ∈ keys l
  | _ => False
section
variable {P : Program} {w : World} {K : PySem.W.Frag} {mg : Str → Option Value} {base : Heap} {k : Nat}
abbrev N_law_next : List Str := ["_law_feed_here", "_law_owed", "_law_names", "_law_seat", "_law_other", "_law_pence", "_law_some", "_law_one"]
abbrev P_law_next : List Str := ["_law_feed_here", "_law_owed"]
theorem sc_law_next : FnScope N_law_next P_law_next (defScope s_law_next) := ⟨rfl, rfl, rfl, by decide +kernel, rfl, by decide +kernel, by decide +kernel⟩
def sp_law_next : Sp := fun vs H Q _ => ∃ (f c : Addr) (n : Nat) (a : Addr) (l : List (Str × Int)), vs = [.ref f, .ref a] ∧ Feed H f c n ∧ n ≤ 90000 ∧ H a = some (.dK (penK l)) ∧ (keys l).Nodup ∧ 2 ≤ l.length ∧ l.length ≤ 12 ∧ (∀ p ∈ l, 0 ≤ p.2 ∧ p.2 < 1000000000) ∧
  ∀ (H' : Hp) (v : V) (dd : Deed), Fx f H H' → Feed H' f c (n + 30) → Is H' v dd.d → NextOk l dd → Q v H'
theorem ok_law_next (d : Dn K mg d_law_next) (T : Tb w K mg) (c_law_draw : Cal P w K mg base 1 "_law_draw" [] sp_law_draw) : Cal P w K mg base 2 "_law_next" [] sp_law_next := by
  refine d.cal sc_law_next (fun vs H Q E h => ?_) (fun f fd F => ⟨[], .nil, F.bindsN fun _ _ _ _ _ _ us hl => match us, hl with | [_, _], _ => rfl⟩) fun f cdv A outer s H vs Q E hr h => have hu := hu_of hr; ⟨_, PSs.nox (pss_cons (ps_set (i := 2) sc_law_next.nd rfl (Or.inl rfl) (pe_callB (call_sortedD rfl) rfl T.sorted boot_sorted (pa_cons (pv 1) pa_nil))) (pss_cons (ps_set (i := 3) sc_law_next.nd rfl (Or.inr rfl) (pe_ix ix_list (pv 2) (pe_cl c_law_draw hr (pa_cons (pv 0) (pa_cons (pe_callB call_len_seq rfl T.len boot_len (pa_cons (pv 2) pa_nil)) pa_nil))) (fun _ _ => rfl))) (pss_cons (ps_set (i := 4) sc_law_next.nd rfl (Or.inr rfl) (pe_ix ix_list (pv 2) (pe_op op_mod (pe_op op_add (pe_op op_add (pe_bm PySem.F.plainAttrs_list PySem.F.slot_list_index PySem.F.type_list_index mt_index (pv 2) (pa_cons (pv 3) pa_nil)) pe_int) (pe_cl c_law_draw hr (pa_cons (pv 0) (pa_cons (pe_op op_sub (pe_callB call_len_seq rfl T.len boot_len (pa_cons (pv 2) pa_nil)) pe_int) pa_nil)))) (pe_callB call_len_seq rfl T.len boot_len (pa_cons (pv 2) pa_nil))) (fun _ _ => rfl))) (pss_cons (ps_if (PW.pt (pw_and (pt_cmpR op_eq (pe_cl c_law_draw hr (pa_cons (pv 0) (pa_cons pe_int pa_nil))) pe_int (nomark _)) (pw_and1 (pt_cmpR op_gt (pe_dget hu (pv 1) (pv 4) (fun _ _ => rfl)) pe_int (nomark _))))) (pss_cons (ps_set (i := 5) sc_law_next.nd rfl (Or.inl rfl) (pe_ix ix_list (pe_lst (pa_cons pe_int (pa_cons (pe_dget hu (pv 1) (pv 4) (fun _ _ => rfl)) (pa_cons (pe_op op_add (pe_op op_fdiv (pe_dget hu (pv 1) (pv 4) (fun _ _ => rfl)) pe_int) pe_int) (pa_cons (pe_op op_add pe_int (pe_cl c_law_draw hr (pa_cons (pv 0) (pa_cons (pe_dget hu (pv 1) (pv 4) (fun _ _ => rfl)) pa_nil)))) pa_nil))))) (pe_cl c_law_draw hr (pa_cons (pv 0) (pa_cons pe_int pa_nil))) (fun _ _ => rfl))) (pss_one (ps_ret (pe_tup (pa_cons pe_str (pa_cons (pv 3) (pa_cons (pv 4) (pa_cons (pe_callB (call_min2 rfl) rfl T.min boot_min (pa_cons (pv 5) (pa_cons (pe_dget hu (pv 1) (pv 4) (fun _ _ => rfl)) pa_nil))) pa_nil)))))))) pss_nil) (pss_cons (ps_setLc (i := 6) rfl sc_law_next.nd rfl rfl (sw_true rfl rfl rfl (by decide +kernel)) (pi_list (pv 2)) (blkOk_by (own := [("_law_one", 7)]) (N := N_law_next) (sc := defScope s_law_next) (by decide +kernel)) (fun _ _ _ _ _ => (pg_name (i := 7) sc_law_next.nd rfl (Or.inl rfl))) (fun _ _ _ _ _ => (pts_one (PW.pt (pw_or (pt_cmpR (op_inK K rfl) (pv 7) (pe_tup (pa_cons (pv 3) (pa_cons (pv 4) pa_nil))) (by rfl)) (pw_or1 (pt_cmpR op_eq (pe_cl c_law_draw hr (pa_cons (pv 0) (pa_cons pe_int pa_nil))) pe_int (nomark _))))))) (fun _ _ _ _ _ => (pv 7))) (pss_one (ps_ret (pe_tup (pa_cons pe_str (pa_cons (pe_callTy call_tuple_of rfl T.tuple boot_tuple (pa_cons (pv 6) pa_nil)) pa_nil)))))))))), ?_⟩
  · obtain ⟨_, _, _, _, _, rfl, _⟩ := h; rfl
  · obtain ⟨f, c, n, a, l, rfl, F, hn, ha, nd, l2, l12, lv, q⟩ := h
    have haf : a ≠ f := fun e => by obtain ⟨_, _, _, h1, _⟩ := F.ex; rw [e, h1] at ha; cases ha
    walk_at "go"
    refine ⟨a, _, keys l, rfl, .inl ha, penK_keys l, by unfold keys; rw [List.length_map]; omega, fun ys L hperm _ hL => ?_⟩
    have e1 := Ex.new (o := HO.lst (ys.map V.str)) hL
    have k1 : (upd H L (.lst (ys.map V.str))) L = some (.lst (ys.map V.str)) := upd_same
    have F1 := F.ex_ e1
    have nLf := F.ne hL
    have ha1 := e1 _ _ ha
    generalize upd H L (.lst (ys.map V.str)) = H1 at e1 k1 F1 ha1 ⊢
    have hyl : ys.length = l.length := by rw [hperm.length_eq]; unfold keys; rw [List.length_map]
    have hynd : ys.Nodup := hperm.nodup_iff.mpr nd
    walk_at "go"
    refine ⟨L, _, rfl, .inl (SqL.of k1), ?_⟩
    walk_at "go"
    rw [List.length_map]
    refine i_draw F1 (by omega) (by omega) (by omega) fun H2 a2 x2 F2 a20 a21 => ?_
    have k2 := x2 _ _ k1 nLf
    have ha2 := x2 _ _ ha1 haf
    have hjl : a2.toNat < ys.length := by omega
    have hj : ys[a2.toNat]? = some ys[a2.toNat] := List.getElem?_eq_getElem hjl
    have hat : atI (ys.map V.str) a2 = some (.str ys[a2.toNat]) := by
      have := atI_nat (xs := ys.map V.str) (j := a2.toNat) (v := .str ys[a2.toNat]) (by rw [List.getElem?_map, hj]; rfl)
      rwa [show ((a2.toNat : Nat) : Int) = a2 by omega] at this
    refine ⟨L, _, _, _, rfl, rfl, SqL.of k2, hat, ?_⟩
    generalize hse : ys[a2.toNat] = seat at hj hat
    have hsk : seat ∈ keys l := hperm.mem_iff.mp (List.mem_of_getElem? hj)
    walk_at "go"
    refine ⟨ty_lst k2, ?_⟩
    walk_at "go"
    refine ⟨L, ys.map V.str, .str seat, a2.toNat, .str seat, rfl, rfl, SqL.of k2, rfl, by simp [flatV], by rw [List.getElem?_map, hj]; rfl, by simp [eqV], fun m z' hm hz' => ?_, ?_⟩
    · rw [List.getElem?_map] at hz'
      obtain ⟨y, hy, rfl⟩ := Option.map_eq_some_iff.mp hz'
      by_cases ey : y = seat
      · rw [ey] at hy
        have := (List.getElem?_inj (List.getElem?_eq_some_iff.mp hy).1 hynd).mp (hy.trans hj.symm)
        omega
      · simpa [eqV] using ey
    walk_at "go"
    refine ⟨L, _, rfl, .inl (SqL.of k2), ?_⟩
    walk_at "go"
    rw [List.length_map]
    refine i_draw F2 (by omega) (by omega) (by omega) fun H3 a3 x3 F3 a30 a31 => ?_
    have k3 := x3 _ _ k2 nLf
    have ha3 := x3 _ _ ha2 haf
    walk_at "go"
    refine ⟨L, _, rfl, .inl (SqL.of k3), ?_⟩
    walk_at "go"
    rw [List.length_map]
    refine i_I (by show (0 : Int) < ys.length; omega) ?_
    generalize hi2 : (((a2.toNat : Nat) : Int) + 1 + a3) % (ys.length : Int) = i2
    have i20 : 0 ≤ i2 := by rw [← hi2]; exact Int.emod_nonneg _ (by omega)
    have i21 : i2 < ys.length := by rw [← hi2]; exact Int.emod_lt_of_pos _ (by omega)
    have i2n : i2.toNat ≠ a2.toNat := fun z => by
      have h1 : ((a2.toNat : Nat) : Int) + 1 + a3 = i2 + ys.length * ((((a2.toNat : Nat) : Int) + 1 + a3) / (ys.length : Int)) := by rw [← hi2]; have := Int.emod_add_mul_ediv (((a2.toNat : Nat) : Int) + 1 + a3) (ys.length : Int); omega
      generalize (((a2.toNat : Nat) : Int) + 1 + a3) / (ys.length : Int) = qq at h1
      have h2 : 1 + a3 = ys.length * qq := by omega
      have h3 : 0 < qq := by
        rcases Int.lt_or_le 0 qq with h | h
        · exact h
        · have := Int.mul_nonpos_of_nonneg_of_nonpos (a := (ys.length : Int)) (b := qq) (by omega) h
          omega
      have h4 : (ys.length : Int) * 1 ≤ ys.length * qq := Int.mul_le_mul_of_nonneg_left (by omega) (by omega)
      omega
    have hoj : ys[i2.toNat]? = some (ys[i2.toNat]'(by omega)) := List.getElem?_eq_getElem (by omega)
    have hat2 : atI (ys.map V.str) i2 = some (.str (ys[i2.toNat]'(by omega))) := by
      have := atI_nat (xs := ys.map V.str) (j := i2.toNat) (v := .str (ys[i2.toNat]'(by omega))) (by rw [List.getElem?_map, hoj]; rfl)
      rwa [show ((i2.toNat : Nat) : Int) = i2 by omega] at this
    refine ⟨L, _, _, _, rfl, rfl, SqL.of k3, hat2, ?_⟩
    generalize (ys[i2.toNat]'(by omega)) = other at hoj hat2
    have hok : other ∈ keys l := hperm.mem_iff.mp (List.mem_of_getElem? hoj)
    have hne : seat ≠ other := fun z => by
      rw [← z] at hoj
      exact i2n ((List.getElem?_inj (by omega) hynd).mp (hoj.trans hj.symm))
    obtain ⟨vo, hvo⟩ := aget_some_iff.mpr hok
    have hvr := lv _ (aget_mem hvo)
    have hget : valV (penK l) (Sum.inr other) = some (.int vo) := by rw [pen_get, hvo]; rfl
    have x03 := (e1.fx.trans x2).trans x3
    clear hat hat2 k2 ha2 k1 ha1 F1 F2 x2 x3
    with_reducible apply i_gN
    with_reducible apply i_seq
    with_reducible refine i_optS (fun σ H' => (σ = [some (.ref f), some (.ref a), some (.ref L), some (.str seat), some (.str other), none, none, none]) ∧ Fx f H H' ∧ Feed H' f c (n + 3) ∧ H' L = some (.lst (ys.map V.str))) (fun σ H' h => ?_) fun kk => ?_
    rotate_left
    · walk_at "go"
      refine i_draw F3 (by omega) (by omega) (by omega) fun H4 a4 x4 F4 a40 a41 => ?_
      walk_at "go"
      refine i_ite (fun e => ?_) fun e => ?_
      · walk_at "go"
        have ha4 := x4 _ _ ha3 haf
        refine gS (.inl ha4) hget ?_
        walk_at "go"
        refine i_ite (fun e2 => ?_) fun e2 => ?_
        · have hpos : 0 < vo := by simpa using e2
          walk_at "go"
          refine i_lst ?_
          walk_at "go"
          refine gS (.inl ha4) hget ?_
          walk_at "go"
          refine gS (.inl ha4) hget ?_
          walk_at "go"
          refine gS (.inl ha4) hget ?_
          walk_at "go"
          refine i_draw F4 (by omega) (by omega) (by omega) fun H5 a5 x5 F5 a50 a51 => ?_
          have ha5 := x5 _ _ ha4 haf
          walk_at "go"
          refine ⟨sz (by simp), fun p6 hp6 => ?_⟩
          have e6 := Ex.new (o := HO.lst [V.int 1, V.int vo, V.int (vo / 2 + 1), V.int (1 + a5)]) hp6
          have k6 : (upd H5 p6 (.lst [V.int 1, V.int vo, V.int (vo / 2 + 1), V.int (1 + a5)])) p6 = some (.lst (([1, vo, vo / 2 + 1, 1 + a5] : List Int).map V.int)) := upd_same
          have F6 := F5.ex_ e6
          have n6 := F5.ne hp6
          have ha6 := e6 _ _ ha5
          generalize upd H5 p6 (.lst [V.int 1, V.int vo, V.int (vo / 2 + 1), V.int (1 + a5)]) = H6 at e6 k6 F6 ha6 ⊢
          walk_at "go"
          refine i_draw F6 (by omega) (by omega) (by omega) fun H7 a7 x7 F7 a70 a71 => ?_
          obtain ⟨pc, hat7, hpm⟩ := at_map V.int (xs := ([1, vo, vo / 2 + 1, 1 + a5] : List Int)) a70 (by show a7 < 4; omega)
          have hpc : 1 ≤ pc := by
            simp only [List.mem_cons, List.not_mem_nil, or_false] at hpm
            omega
          have ha7 := x7 _ _ ha6 haf
          refine ⟨p6, _, _, _, rfl, rfl, SqL.of (x7 _ _ k6 n6), hat7, ?_⟩
          walk_at "go"
          refine i_tup ?_
          walk_at "go"
          refine gS (.inl ha7) hget ?_
          walk_at "go"
          refine ⟨pc, vo, rfl, ?_⟩
          walk_at "go"
          refine ⟨sz (by simp), fun p8 hp8 => ?_⟩
          have e8 := Ex.new (o := HO.tup [.str "take", .str seat, .str other, .int (if vo < pc then vo else pc)]) hp8
          refine q _ (.ref p8) (.take seat other (if vo < pc then vo else pc)) (((((x03.trans x4).trans x5).trans e6.fx).trans x7).trans e8.fx) ((F7.ex_ e8).up (by omega)) (is_tup upd_same (by simp [IsAll, Is])) ⟨hne, hsk, vo, hvo, ?_, ?_⟩
          · by_cases h : vo < pc
            · rw [if_pos h]; omega
            · rw [if_neg h]; omega
          · by_cases h : vo < pc
            · rw [if_pos h]; omega
            · rw [if_neg h]; omega
        · exact kk _ _ ⟨rfl, x03.trans x4, F4.up (by omega), x4 _ _ k3 nLf⟩
      · exact kk _ _ ⟨rfl, x03.trans x4, F4.up (by omega), x4 _ _ k3 nLf⟩
    obtain ⟨rfl, x4, F4, k4⟩ := h
    walk_at "go"
    refine ⟨L, rfl, ⟨_, SqL.of k4⟩, fun D hD => lc_list (xs := ys.map V.str) (fun i H'' => ∃ out : List Str, H'' D = some (.lst (out.map V.str)) ∧ out.Sublist (ys.take i) ∧ (seat ∈ ys.take i → seat ∈ out) ∧ Fx f H' H'' ∧ Feed H'' f c (n + 3 + i)) ?_ (fun i H'' _ h => ?_) (fun i x H'' hx h => ?_) fun H'' h => ?_⟩
    · exact ⟨[], upd_same, List.nil_sublist _, fun h => (by simp at h), (Ex.new hD).fx, F4.ex_ (Ex.new hD)⟩
    · obtain ⟨out, _, _, _, ex, _⟩ := h
      exact SqL.of (ex _ _ k4 nLf)
    · obtain ⟨out, ko, hos, hoz, ex, yF⟩ := h
      rw [List.getElem?_map] at hx
      obtain ⟨y, hy, rfl⟩ := Option.map_eq_some_iff.mp hx
      have hi : i < 12 := by have := (List.getElem?_eq_some_iff.mp hy).1; omega
      have nDf := F4.ne hD
      have nDc := F4.nec hD
      have hol : out.length ≤ 12 := Nat.le_trans hos.length_le (by rw [List.length_take]; omega)
      have yes : ∀ (H3 : Hp), Fx f H'' H3 → Feed H3 f c (n + 3 + i + 1) → ∃ acc, H3 D = some (.lst acc) ∧ acc.length < sizeLine ∧ ∃ out : List Str, (upd H3 D (.lst (acc ++ [V.str y]))) D = some (.lst (out.map V.str)) ∧ out.Sublist (ys.take (i + 1)) ∧ (seat ∈ ys.take (i + 1) → seat ∈ out) ∧ Fx f H' (upd H3 D (.lst (acc ++ [V.str y]))) ∧ Feed (upd H3 D (.lst (acc ++ [V.str y]))) f c (n + 3 + (i + 1)) := fun H3 xx FF => by
        refine ⟨_, xx _ _ ko nDf, szl (by rw [List.length_map]; omega), out ++ [y], by rw [upd_same, List.map_append]; rfl, ?_, fun hm => ?_, (ex.trans xx).mut hD, (FF.put nDf nDc).up (by omega)⟩
        · rw [take_snoc hy]; exact hos.append (List.Sublist.refl _)
        · rw [take_snoc hy] at hm
          rcases List.mem_append.mp hm with hm | hm
          · exact List.mem_append_left _ (hoz hm)
          · exact List.mem_append_right _ hm
      have no : ∀ (H3 : Hp), Fx f H'' H3 → Feed H3 f c (n + 3 + i + 1) → y ≠ seat → ∃ out : List Str, H3 D = some (.lst (out.map V.str)) ∧ out.Sublist (ys.take (i + 1)) ∧ (seat ∈ ys.take (i + 1) → seat ∈ out) ∧ Fx f H' H3 ∧ Feed H3 f c (n + 3 + (i + 1)) := fun H3 xx FF hn' => by
        refine ⟨out, xx _ _ ko nDf, ?_, fun hm => ?_, ex.trans xx, FF.up (by omega)⟩
        · rw [take_snoc hy]; exact hos.trans (List.sublist_append_left _ _)
        · rw [take_snoc hy] at hm
          rcases List.mem_append.mp hm with hm | hm
          · exact hoz hm
          · exact absurd (List.mem_singleton.mp hm).symm hn'
      walk_at "go"
      refine i_tup ?_
      walk_at "go"
      refine ⟨sz (by simp), fun p9 hp9 => ?_⟩
      have e9 := Ex.new (o := HO.tup [.str seat, .str other]) hp9
      have k9 : (upd H'' p9 (.tup [.str seat, .str other])) p9 = some (.tup (([seat, other] : List Str).map V.str)) := upd_same
      have F9 := yF.ex_ e9
      generalize upd H'' p9 (.tup [.str seat, .str other]) = H9 at e9 k9 F9 ⊢
      refine i_inS (.inr (SqT.of k9)) ?_
      walk_at "go"
      refine i_ite (fun e => ?_) fun e => ?_
      · walk_at "go"
        exact yes H9 e9.fx (F9.up (by omega))
      · have e : ¬ y ∈ ([seat, other] : List Str) := by simpa using e
        have hys : y ≠ seat := fun z => e (by rw [z]; simp)
        walk_at "go"
        refine i_draw F9 (by omega) (by decide) (by decide) fun H5 a5 x5 F5 a50 a51 => ?_
        walk_at "go"
        refine i_ite (fun e3 => ?_) fun e3 => ?_
        · walk_at "go"
          exact yes H5 (e9.fx.trans x5) F5
        · exact no H5 (e9.fx.trans x5) F5 hys
    · obtain ⟨out, ko, hos, hoz, ex, yF⟩ := h
      rw [List.length_map, List.take_of_length_le (Nat.le_refl _)] at hos hoz
      rw [List.length_map] at yF
      walk_at "go"
      refine i_tup ?_
      walk_at "go"
      refine ⟨D, _, rfl, .inl ⟨SqL.of ko, fun p8 hp8 => ?_⟩⟩
      have e8 := Ex.new (o := HO.tup (out.map V.str)) hp8
      have k8 : (upd H'' p8 (.tup (out.map V.str))) p8 = some (.tup (out.map V.str)) := upd_same
      generalize upd H'' p8 (.tup (out.map V.str)) = H8 at e8 k8 ⊢
      walk_at "go"
      refine ⟨sz (by simp), fun p9 hp9 => ?_⟩
      have e9 := Ex.new (o := HO.tup [.str "even", .ref p8]) hp9
      refine q _ (.ref p9) (.even out) ((x4.trans ex).trans (e8.trans e9).fx) ((yF.ex_ (e8.trans e9)).up (by omega)) (is_tup upd_same ?_) ⟨List.ne_nil_of_mem (hoz (List.mem_of_getElem? hj)), hos.nodup hynd, Nat.le_trans hos.length_le (by omega), fun z hz => hperm.mem_iff.mp (hos.subset hz)⟩
      simp only [IsAll, Is, and_true, true_and]
      exact ⟨p8, _, rfl, e9 _ _ k8, is_strs out⟩
end

/-! ### == of lists of texts -/
theorem lay_strs (l : List Str) (h : ∀ z ∈ l, PyData.strOk z = true) : PyData.canLayAll0 (l.map PyData.str) = true := by
  induction l with
  | nil => rfl
  | cons x l ih => simp [PyData.canLayAll0, PyData.canLay0, h x List.mem_cons_self, ih fun z hz => h z (List.mem_cons_of_mem _ hz)]
theorem depth_strs (l : List Str) : PyData.depthAll (l.map PyData.str) ≤ 1 := by
  induction l with
  | nil => simp [PyData.depthAll]
  | cons x l ih => simp [PyData.depthAll, PyData.depth]; omega
theorem shaped_strs (l : List Str) (h : ∀ z ∈ l, PyData.strOk z = true) : SeqAt.shaped (.list (l.map PyData.str)) = true := by
  have h1 := depth_strs l
  have h2 : PyData.depth (.list (l.map PyData.str)) ≤ 64 := by simp only [PyData.depth]; omega
  show (PyData.canLay0 (.list (l.map PyData.str)) && decide (PyData.depth (.list (l.map PyData.str)) ≤ 64)) = true
  rw [Bool.and_eq_true]
  exact ⟨by simp only [PyData.canLay0]; exact lay_strs l h, decide_eq_true h2⟩
theorem eqvAll_strs (l : List Str) : PyData.eqvAll (l.map PyData.str) (l.map PyData.str) = true := by
  induction l with
  | nil => rfl
  | cons x l ih => simp [PyData.eqvAll, PyData.eqv, ih]
theorem dp_strs {K : PySem.W.Frag} {H : Hp} (l : List Str) : DpAll K H (l.map V.str) (l.map PyData.str) := by
  induction l with
  | nil => exact .nil
  | cons x l ih => exact .cons (.str x) ih
theorem i_neStr {K : PySem.W.Frag} {H : Hp} {a b : Addr} {l : List Str} {Q : VK} (ok : ∀ z ∈ l, PyData.strOk z = true) (h : SqL K H a (l.map V.str)) (h2 : SqL K H b (l.map V.str)) (q : Q (.bl false) H) : rNeD K (.ref a) (.ref b) H Q :=
  ⟨_, _, .lst h (dp_strs l), .lst h2 (dp_strs l), shaped_strs l ok, shaped_strs l ok, by simp only [PyData.eqv, eqvAll_strs, Bool.not_true]; exact q⟩
theorem names12_ok : ∀ z ∈ names12, PyData.strOk z = true := by decide +kernel
theorem hu65 {A : Around} {k : Nat} (hr : Room k A) : A.units + 65 < cLine := by have := hr.un; omega
theorem last_d (ps : List Page) (pg : Page) : bookD (ps ++ [pg]) = .tup (ps.map Page.d ++ [pg.d]) := by unfold bookD; rw [List.map_append]; rfl
/-- what an even or a take has to do -/
def Turned (st0 st : St) : Deed → Prop
  | .even ss => ss ≠ [] ∧ ss.length ≤ 100 ∧ (∀ z ∈ ss, z ∈ keys st0.tables) ∧ (∀ z ∈ keys st0.tables, z ∉ ss → owed st z = owed st0 z) ∧ ∀ x ∈ ss, ∀ y ∈ ss, owed st x - owed st y < 2
  | .take s o p => s ≠ o ∧ s ∈ keys st0.tables ∧ o ∈ keys st0.tables ∧ ∀ z ∈ keys st0.tables, owed st z = if z = o then owed st0 o - p else if z = s then owed st0 s + p else owed st0 z
  | _ => False
theorem i_orV {ta tb : TE} {σ : L2.St} {H : Hp} {Q : VK} (h : ta σ H fun x H1 => ∃ c, x = .bl c ∧ if c = true then Q (.bl true) H1 else tb σ H1 Q) : tOrV ta tb σ H Q := h
section
variable {P : Program} {w : World} {K : PySem.W.Frag} {mg : Str → Option Value} {base : Heap} {k : Nat}
theorem penL_put {ys : List Str} {f : Str → Int} {z : Str} (v : Int) (h : z ∈ ys) : aput (penL ys f) z v = penL ys fun s => if s = z then v else f s := by
  unfold aput
  rw [if_pos]
  · unfold penL
    rw [List.map_map]
    refine List.map_congr_left fun p _ => ?_
    show (if p = z then (p, v) else (p, f p)) = (p, if p = z then v else f p)
    by_cases e : p = z <;> simp [e]
  · exact List.any_eq_true.mpr ⟨(z, f z), List.mem_map.mpr ⟨z, h, rfl⟩, decide_eq_true rfl⟩
theorem penL_vals (ys : List Str) (f : Str → Int) : (penL ys f).map (·.2) = ys.map f := by unfold penL; rw [List.map_map]; rfl
theorem penL_flat (ys : List Str) (f : Str → Int) : ∀ p ∈ penK (penL ys f), flatB p.2 = true := by
  intro p hp
  unfold penK at hp
  obtain ⟨q, _, rfl⟩ := List.mem_map.mp hp
  rfl
/-- dict(to_pay(..)) -/
theorem paid_nd {ys : List Str} (h : ys.Nodup) (f : Str → Int) : ((penK (penL ys f)).map (·.1)).Nodup := by
  rw [penK_keys, keys_penL]
  exact List.Pairwise.map (f := (Sum.inr : Str → Key)) (fun a b h e => h (inr_inj _ _ e)) h
abbrev N_law_is_parted : List Str := ["_law_house_here", "_law_book_here", "_law_ahead", "_law_deed_here", "_law_behind", "_law_some", "_law_seat", "_law_other", "_law_pence", "_law_due", "_law_one"]
abbrev P_law_is_parted : List Str := ["_law_house_here", "_law_book_here", "_law_ahead"]
theorem sc_law_is_parted : FnScope N_law_is_parted P_law_is_parted (defScope s_law_is_parted) := ⟨rfl, rfl, rfl, by decide +kernel, rfl, by decide +kernel, by decide +kernel⟩
def sp_law_is_parted (K : PySem.W.Frag) : Sp := fun vs H Q _ => ∃ (hv bv : V) (a : Addr) (hs : House) (ps : List Page) (pg : Page) (ys : List Str), vs = [hv, bv, .ref a] ∧ Is H hv hs.d ∧ Is H bv (bookD (ps ++ [pg])) ∧ hs.Ok ∧ Good hs (ps ++ [pg]) ∧ H a = some (.dK (penK (penL ys (owed (walk hs ps))))) ∧
  ys.Perm (keys (walk hs ps).tables) ∧ sortedS ys = true ∧ keys (walk hs (ps ++ [pg])).tables = keys (walk hs ps).tables ∧ (∀ z ∈ ys, z ∈ names12) ∧ ys.length ≤ 20 ∧ (ys.map (owed (walk hs (ps ++ [pg])))).sum = (ys.map (owed (walk hs ps))).sum ∧
  Turned (walk hs ps) (walk hs (ps ++ [pg])) pg.deed ∧ ∀ H', Ex H H' → Q (.bl true) H'
theorem ok_law_is_parted (d : Dn K mg d_law_is_parted) (T : Tb w K mg) (c_to_pay : Cal P w K mg base 9 "to_pay" [.non] (sp_to_pay K)) : Cal P w K mg base 10 "_law_is_parted" [] (sp_law_is_parted K) := by
  refine d.cal sc_law_is_parted (fun vs H Q E h => ?_) (fun f fd F => ⟨[], .nil, F.bindsN fun _ _ _ _ _ _ us hl => match us, hl with | [_, _, _], _ => rfl⟩) fun f cdv A outer s H vs Q E hr h => have hu := hu_of hr; ⟨_, PSs.nox (pss_cons (ps_asg (pe_tup (pa_cons (pe_ix ix_tup (pe_ix ix_tup (pv 1) (pe_un un_neg pe_int) (fun _ _ => rfl)) pe_int (fun _ _ => rfl)) (pa_cons (pe_callTy (call_dictPT rfl) rfl T.dict boot_dict (pa_cons (pe_cl c_to_pay hr (pa_cons (pv 0) (pa_cons (pv 1) pa_nil))) pa_nil)) pa_nil))) (pg_tup (n := 2) rfl (pgs_cons (pg_name (i := 3) sc_law_is_parted.nd rfl (Or.inr rfl)) (pgs_cons (pg_name (i := 4) sc_law_is_parted.nd rfl (Or.inr rfl)) pgs_nil)))) (pss_cons (ps_if (PW.pt (pw_or (pt_cmpR op_ne (pe_sumV rfl (pv 4) rfl T.sum) (pe_sumV rfl (pv 2) rfl T.sum) (nomark _)) (pw_or1 (pt_cmpR (op_neD hr.units) (pe_callB (call_sortedD rfl) rfl T.sorted boot_sorted (pa_cons (pv 4) pa_nil)) (pe_callB (call_sortedD rfl) rfl T.sorted boot_sorted (pa_cons (pv 2) pa_nil)) (nomark _))))) (pss_one (ps_ret pe_bl)) pss_nil) (pss_cons (ps_if (pt_cmpR op_eq (pe_ix ix_tup (pv 3) pe_int (fun _ _ => rfl)) pe_str (nomark _)) (pss_cons (ps_if (pt_cmpR (op_neD hr.units) (pe_lock (pe_lc rfl sc_law_is_parted.nd (pi_keys (pv 2)) (blkOk_by (own := [("_law_one", 10)]) (N := N_law_is_parted) (sc := defScope s_law_is_parted) (by decide +kernel)) (fun _ _ _ _ _ => (pg_name (i := 10) sc_law_is_parted.nd rfl (Or.inl rfl))) (fun _ _ _ _ _ => (pts_one (PW.pt (pw_and (pt_cmpR (op_notInK K rfl) (pv 10) (pe_ix (ix_tupK K rfl) (pv 3) pe_int (fun _ _ => rfl)) (by rfl)) (pw_and1 (pt_cmpR op_ne (pe_dget hu (pv 2) (pv 10) (fun _ _ => rfl)) (pe_dget hu (pv 4) (pv 10) (fun _ _ => rfl)) (nomark _))))))) (fun _ _ _ _ _ => (pv 10)))) (pe_lst pa_nil) (nomark _)) (pss_one (ps_ret pe_bl)) pss_nil) (pss_cons (ps_setLc (i := 5) rfl sc_law_is_parted.nd rfl rfl (sw_true rfl rfl rfl (by decide +kernel)) (pi_tup (pe_ix ix_tup (pv 3) pe_int (fun _ _ => rfl))) (blkOk_by (own := [("_law_one", 10)]) (N := N_law_is_parted) (sc := defScope s_law_is_parted) (by decide +kernel)) (fun _ _ _ _ _ => (pg_name (i := 10) sc_law_is_parted.nd rfl (Or.inl rfl))) (fun _ _ _ _ _ => pts_nil) (fun _ _ _ _ _ => (pe_dget hu (pv 4) (pv 10) (fun _ _ => rfl)))) (pss_one (ps_ret (pe_or (pe_cmpR op_lt (pe_op op_sub (pe_callB (cr_max rfl) rfl T.max boot_max (pa_cons (pv 5) pa_nil)) (pe_callB (cr_min rfl) rfl T.min boot_min (pa_cons (pv 5) pa_nil))) pe_int (nomark _)) (pe_one (pe_cmpR op_lt (pe_callB (cr_sum rfl) rfl T.sum boot_sum (pa_cons (pe_lc rfl sc_law_is_parted.nd (pi_tup (pe_ix ix_tup (pv 3) pe_int (fun _ _ => rfl))) (blkOk_by (own := [("_law_one", 10)]) (N := N_law_is_parted) (sc := defScope s_law_is_parted) (by decide +kernel)) (fun _ _ _ _ _ => (pg_name (i := 10) sc_law_is_parted.nd rfl (Or.inl rfl))) (fun _ _ _ _ _ => pts_nil) (fun _ _ _ _ _ => (pe_dget hu (pv 2) (pv 10) (fun _ _ => rfl)))) pa_nil)) pe_int (nomark _)))))))) pss_nil) (pss_cons (ps_asg (pe_slice sl_tupA (pv 3) (po_some pe_int) po_none) (pg_tup (n := 3) rfl (pgs_cons (pg_name (i := 6) sc_law_is_parted.nd rfl (Or.inl rfl)) (pgs_cons (pg_name (i := 7) sc_law_is_parted.nd rfl (Or.inl rfl)) (pgs_cons (pg_name (i := 8) sc_law_is_parted.nd rfl (Or.inl rfl)) pgs_nil))))) (pss_cons (ps_set (i := 9) sc_law_is_parted.nd rfl (Or.inl rfl) (pe_callTy call_dictD rfl T.dict boot_dict (pa_cons (pv 2) pa_nil))) (pss_cons (ps_dput hu (pv 9) (pv 6) (pe_op op_add (pe_dget hu (pv 9) (pv 6) (fun _ _ => rfl)) (pv 8)) rfl) (pss_cons (ps_dput hu (pv 9) (pv 7) (pe_op op_sub (pe_dget hu (pv 9) (pv 7) (fun _ _ => rfl)) (pv 8)) rfl) (pss_one (ps_ret (pe_cmpR (op_eq_dict hr.units0) (pv 4) (pv 9) (nomark _))))))))))), ?_⟩
  · obtain ⟨_, _, _, _, _, _, _, rfl, _⟩ := h; rfl
  · obtain ⟨hv, bv, a, hs, ps, pg, ys, rfl, hh, hb, hok, good, ha, hperm, hsort, hkeys, hnames, hyl, hsum, htn, q⟩ := h
    generalize hst0 : walk hs ps = st0 at *
    generalize hst : walk hs (ps ++ [pg]) = st at *
    have ok : st.Ok := by have := good.ok (ps ++ [pg]).length (Nat.le_refl _); rwa [List.take_of_length_le (Nat.le_refl _), hst] at this
    have hynd : ys.Nodup := hperm.nodup_iff.mpr (by rw [← hkeys]; exact ok.ndT)
    rw [last_d] at hb
    have hb' : Is H bv (bookD (ps ++ [pg])) := by rw [last_d]; exact hb
    walk_at "go"
    refine i_tup ?_
    walk_at "go"
    refine ix_last hb fun lv hlv => ?_
    walk_at "go"
    refine ix_is (i := 1) (ds := [nameD pg.minute pg.number, pg.deed.d]) hlv rfl fun dv hd => ?_
    walk_at "go"
    refine ⟨hv, bv, hs, ps ++ [pg], rfl, hh, hb', hok, good, fun H1 p as zs e1 h1 zperm zsort zpair => ?_⟩
    rw [hst, hkeys] at zperm
    rw [hst] at zpair
    have hzy : zs = ys := sorted_eq zsort hsort (zperm.trans hperm.symm)
    subst hzy
    walk_at "go"
    refine ⟨p, as, _, rfl, h1, zpair, fun b hb2 => ?_⟩
    rw [merge_pen (by rw [keys_penL]; exact hynd)]
    have e2 := Ex.new (o := HO.dK (penK (penL zs (owed st)))) hb2
    have k2 : (upd H1 b (.dK (penK (penL zs (owed st))))) b = some (.dK (penK (penL zs (owed st)))) := upd_same
    have e02 := e1.trans e2
    have hbn : b ∉ [a] := fun z => by
      have z := List.mem_singleton.mp z
      rw [z, e1 _ _ ha] at hb2; cases hb2
    generalize upd H1 b (.dK (penK (penL zs (owed st)))) = H2 at e2 k2 e02 ⊢
    walk_at "go"
    refine ⟨sz (by simp), fun p3 hp3 => ?_⟩
    have e3 := Ex.new (o := HO.tup [dv, .ref b]) hp3
    have k3 : (upd H2 p3 (.tup [dv, .ref b])) p3 = some (.tup [dv, .ref b]) := upd_same
    have kb := e3 _ _ k2
    have e03 := e02.trans e3
    generalize upd H2 p3 (.tup [dv, .ref b]) = H3 at e3 k3 kb e03 ⊢
    have ha3 := e03 _ _ ha
    have hd3 := Is.mono e03.tex _ hd
    refine ⟨p3, _, rfl, SqT.of k3, rfl, ?_⟩
    walk_at "go"
    refine ⟨b, _, _, rfl, .inl kb, pen_vals _, ?_⟩
    walk_at "go"
    refine ⟨a, _, _, rfl, .inl ha3, pen_vals _, ?_⟩
    rw [penL_vals, penL_vals, hsum]
    walk_at "go"
    refine i_ite (fun e => absurd e (by simp)) fun _ => ?_
    walk_at "go"
    refine ⟨b, _, zs, rfl, .inl kb, by rw [penK_keys, keys_penL], by omega, fun us4 p4 pe4 so4 hp4 => ?_⟩
    rw [sorted_eq so4 hsort pe4]
    have e4 := Ex.new (o := HO.lst (zs.map V.str)) hp4
    have k4 : (upd H3 p4 (.lst (zs.map V.str))) p4 = some (.lst (zs.map V.str)) := upd_same
    generalize upd H3 p4 (.lst (zs.map V.str)) = H4 at e4 k4 ⊢
    walk_at "go"
    refine ⟨a, _, zs, rfl, .inl (e4 _ _ ha3), by rw [penK_keys, keys_penL], by omega, fun us5 p5 pe5 so5 hp5 => ?_⟩
    rw [sorted_eq so5 hsort pe5]
    have e5 := Ex.new (o := HO.lst (zs.map V.str)) hp5
    have k5 : (upd H4 p5 (.lst (zs.map V.str))) p5 = some (.lst (zs.map V.str)) := upd_same
    generalize upd H4 p5 (.lst (zs.map V.str)) = H5 at e5 k5 ⊢
    refine i_neStr (fun z hz => names12_ok z (hnames z hz)) (SqL.of (e5 _ _ k4)) (SqL.of k5) ?_
    have e35 := e4.trans e5
    have e05 := e03.trans e35
    have ha5 := e35 _ _ ha3
    have kb5 := e35 _ _ kb
    have hd5 := Is.mono e35.tex _ hd3
    clear e1 h1 e2 k2 e3 k3 kb e4 k4 e5 k5 hp5 hp4 hp3 hb2 ha3 hd3 e35
    walk_at "go"
    cases hdd : pg.deed with
    | even ss =>
      rw [hdd] at htn hd5
      obtain ⟨sne, sln, sin, sout, smax⟩ := htn
      refine ix_isS (i := 0) hd5 rfl ?_
      walk_at "go"
      refine i_ite (fun _ => ?_) fun e => absurd e (by decide)
      walk_at "go"
      refine i_lockE a ha5 trivial fun ob => ?_
      walk_at "go"
      have e0l : Rx H5 (upd H5 a (.frz ob (.dK (penK (penL zs (owed st0)))))) := Rx.lockK ha5
      have nab : b ≠ a := fun z => hbn (by rw [z]; simp)
      refine ⟨a, ob, rfl, .inl ⟨_, upd_same, fun D hD => lc_itk (fun _ => false) (fun q => kV q.1) upd_same hD (by unfold penK penL; rw [List.length_map, List.length_map]; omega) (fun i kq H' Kt Ks hk ex ht hf => ?_) fun H' ex hl => ?_⟩⟩
      · unfold penK penL at hk
        rw [List.map_map, List.getElem?_map] at hk
        obtain ⟨z, hz, rfl⟩ := Option.map_eq_some_iff.mp hk
        have hzm : z ∈ zs := List.mem_of_getElem? hz
        have hzk : z ∈ keys st0.tables := hperm.mem_iff.mp hzm
        have hdl := Is.mono (e0l.tp.trans ex.tex) _ hd5
        walk_at "go"
        refine ix_is (i := 1) hdl rfl fun sv hsv => ?_
        obtain ⟨sa, rfl, hsa⟩ := Is.strs hsv
        refine i_ninS (.inr (SqT.of hsa)) ?_
        walk_at "go"
        refine i_ite (fun e => ?_) fun e => ?_
        · have e : z ∉ ss := by simpa using e
          walk_at "go"
          refine gS (.inr ⟨ob, ex _ _ upd_same⟩) (v := .int (owed st0 z)) (by rw [pen_get, penL_get hzm]; rfl) ?_
          walk_at "go"
          refine gS (.inl (ex _ _ (by rw [upd_ne nab]; exact kb5))) (v := .int (owed st z)) (by rw [pen_get, penL_get hzm]; rfl) ?_
          walk_at "go"
          refine i_ite (fun e2 => ?_) fun _ => ?_
          · have e2 : ¬ owed st0 z = owed st z := by simpa using e2
            exact absurd (sout z hzk e).symm e2
          · exact hf rfl _ (Ex.refl _)
        · exact hf rfl _ (Ex.refl _)
      · have nDa : D ≠ a := fun z => by rw [z, upd_same] at hD; cases hD
        refine ⟨ex _ _ upd_same, ?_⟩
        have e6 := unlock ha5 ex
        have hl6 : (upd H' a (.dK (penK (penL zs (owed st0))))) D = some (.lst (([] : List Int).map V.int)) := by
          rw [upd_ne nDa, hl, List.filter_eq_nil_iff.mpr (fun _ _ => by simp)]; rfl
        generalize upd H' a (.dK (penK (penL zs (owed st0)))) = H6 at e6 hl6 ⊢
        walk_at "go"
        refine i_lst ?_
        walk_at "go"
        refine ⟨sz (by simp), fun p7 hp7 => i_neN (SqL.of (Ex.new hp7 _ _ hl6)) (SqL.of upd_same) ?_⟩
        have e7 := Ex.new (o := HO.lst []) hp7
        generalize upd H6 p7 (.lst []) = H7 at e7 ⊢
        have e57 := e6.trans e7
        walk_at "go"
        refine i_ite (fun e => absurd e (by simp)) fun _ => ?_
        walk_at "go"
        refine ix_is (i := 1) (Is.mono e57.tex _ hd5) rfl fun sv hsv => ?_
        obtain ⟨sa, rfl, hsa⟩ := Is.strs hsv
        refine ⟨sa, rfl, ⟨_, SqT.of hsa⟩, fun D8 hD8 => lc_tupE ss (fun _ => true) (fun z => .int (owed st z)) (by rw [List.length_map]) (SqT.of hsa) hD8 (by omega) (fun i x z H' Kt Ks hx hz e3 ht _ => ?_) fun H8 e8 h8 => ?_⟩
        · rw [List.getElem?_map, hz] at hx
          cases hx
          walk_at "go"
          refine gS (.inl (e3 _ _ (e57 _ _ kb5))) (v := .int (owed st z)) (by rw [pen_get, penL_get (hperm.mem_iff.mpr (sin z (List.mem_of_getElem? hz)))]; rfl) ?_
          exact ht rfl _ (Ex.refl _)
        rw [filter_all] at h8
        have h8 : H8 D8 = some (.lst ((ss.map (owed st)).map V.int)) := by rw [h8, List.map_map]; rfl
        walk_at "go"
        refine i_orV ?_
        walk_at "go"
        have hp : 0 < (ss.map (owed st)).length := by rw [List.length_map]; exact List.length_pos_iff.mpr sne
        refine ⟨D8, _, rfl, SqL.of h8, hp, fun m1 hm1 _ => ?_⟩
        walk_at "go"
        refine ⟨D8, _, rfl, SqL.of h8, hp, fun m2 hm2 _ => ?_⟩
        walk_at "go"
        obtain ⟨x, hx, rfl⟩ := List.mem_map.mp hm1
        obtain ⟨y, hy, rfl⟩ := List.mem_map.mp hm2
        refine i_ite (fun _ => q H8 ((e05.trans e57).trans e8)) fun e => ?_
        have e : ¬ (owed st x - owed st y < 2) := by simpa using e
        exact absurd (smax x hx y hy) e
    | take s o p =>
      rw [hdd] at htn hd5
      obtain ⟨hne, hsk, hok2, how⟩ := htn
      refine ix_isS (i := 0) hd5 rfl ?_
      walk_at "go"
      refine i_ite (fun e => absurd e (by decide)) fun _ => ?_
      walk_at "go"
      have hd5' := hd5
      simp only [Deed.d, Is] at hd5'
      obtain ⟨da, dx, rfl, hda, hdx⟩ := hd5'
      obtain ⟨v0, v1, v2, v3, rfl, hv0, hv1, hv2, hv3⟩ := isAll4 hdx
      have hv1 := is_str hv1
      have hv2 := is_str hv2
      have hv3 := is_int hv3
      subst hv1 hv2 hv3
      have nab : b ≠ a := fun z => hbn (by rw [z]; simp)
      have hsz : s ∈ zs := hperm.mem_iff.mpr hsk
      have hoz : o ∈ zs := hperm.mem_iff.mpr hok2
      refine ⟨da, _, rfl, SqT.of hda, fun hc => absurd hc.1 (by simp [HT.sIx]), fun _ p6 hp6 => ?_⟩
      have hcut : cutV [v0, V.str s, V.str o, V.int p] (some 1) none = [V.str s, V.str o, V.int p] := rfl
      rw [hcut]
      have e6 := Ex.new (o := HO.tup [V.str s, V.str o, V.int p]) hp6
      have k6 : (upd H5 p6 (.tup [V.str s, V.str o, V.int p])) p6 = some (.tup [V.str s, V.str o, V.int p]) := upd_same
      generalize upd H5 p6 (.tup [V.str s, V.str o, V.int p]) = H6 at e6 k6 ⊢
      refine ⟨p6, _, rfl, SqT.of k6, rfl, ?_⟩
      walk_at "go"
      refine ⟨a, _, rfl, .inl (e6 _ _ ha5), fun p7 hp7 => ?_⟩
      have e7 := Ex.new (o := HO.dK (penK (penL zs (owed st0)))) hp7
      have k7 : (upd H6 p7 (.dK (penK (penL zs (owed st0))))) p7 = some (.dK (penK (penL zs (owed st0)))) := upd_same
      have kb7 := e7 _ _ (e6 _ _ kb5)
      have e57 := e6.trans e7
      have n7b : b ≠ p7 := fun z => by rw [← z, e6 _ _ kb5] at hp7; cases hp7
      have hp5 : H5 p7 = none := e6.back hp7
      generalize upd H6 p7 (.dK (penK (penL zs (owed st0)))) = H7 at e7 k7 kb7 e57 ⊢
      have hsl : ∀ f : Str → Int, (penK (penL zs f)).length < 100000 := fun f => by unfold penK penL; rw [List.length_map, List.length_map]; omega
      walk_at "go"
      refine gS (.inl k7) (v := .int (owed st0 s)) (by rw [pen_get, penL_get hsz]; rfl) ?_
      walk_at "go"
      refine ⟨p7, _, rfl, DPut.k (k := Sum.inr s) k7 (szl (hsl _)), ?_⟩
      rw [pen_put, penL_put _ hsz]
      have e8 := Ex.mut (o := .dK (penK (penL zs fun t => if t = s then owed st0 s + p else owed st0 t))) e57 hp5
      have k8 : (upd H7 p7 (.dK (penK (penL zs fun t => if t = s then owed st0 s + p else owed st0 t)))) p7 = some (.dK (penK (penL zs fun t => if t = s then owed st0 s + p else owed st0 t))) := upd_same
      have kb8 : (upd H7 p7 (.dK (penK (penL zs fun t => if t = s then owed st0 s + p else owed st0 t)))) b = some (.dK (penK (penL zs (owed st)))) := by rw [upd_ne n7b]; exact kb7
      generalize upd H7 p7 (.dK (penK (penL zs fun t => if t = s then owed st0 s + p else owed st0 t))) = H8 at e8 k8 kb8 ⊢
      walk_at "go"
      refine gS (.inl k8) (v := .int (owed st0 o)) (by rw [pen_get, penL_get hoz, if_neg (Ne.symm hne)]; rfl) ?_
      walk_at "go"
      refine ⟨p7, _, rfl, DPut.k (k := Sum.inr o) k8 (szl (hsl _)), ?_⟩
      rw [pen_put, penL_put _ hoz]
      have heq : (penL zs fun t => if t = o then owed st0 o - p else if t = s then owed st0 s + p else owed st0 t) = penL zs (owed st) := by
        unfold penL
        refine List.map_congr_left fun t ht => ?_
        rw [how t (hperm.mem_iff.mp ht)]
      rw [heq]
      have e9 := Ex.mut (o := .dK (penK (penL zs (owed st)))) e8 hp5
      walk_at "go"
      refine ⟨b, p7, _, rfl, rfl, by rw [upd_ne n7b]; exact kb8, upd_same, paid_nd hynd _, penL_flat _ _, ?_⟩
      exact q _ (e05.trans e9)
    | sit _ _ => rw [hdd] at htn; exact htn.elim
    | go _ => rw [hdd] at htn; exact htn.elim
    | ask _ _ _ _ => rw [hdd] at htn; exact htn.elim
    | rush _ _ => rw [hdd] at htn; exact htn.elim
    | serve _ => rw [hdd] at htn; exact htn.elim
    | strike _ => rw [hdd] at htn; exact htn.elim
    | pay _ _ => rw [hdd] at htn; exact htn.elim
end

theorem for_ite {K : PySem.W.Frag} {a : Addr} {xs : List V} {g : TG} {tb : TS} {D : Ends} {σ : L2.St} {H : Hp} (Pv : Nat → L2.St → Hp → Prop) (h0 : Pv 0 σ H) (hl : ∀ i σ H, Pv i σ H → SqL K H a xs)
    (hs : ∀ (i : Nat) (x : V) (T : Addr) (σ : L2.St) (H : Hp), xs[i]? = some x → Pv i σ H → H T = none → g (.ref T) σ (upd H T (.tup [.int (i : Nat), x])) fun σ2 H2 => tb { D with nx := Pv (i + 1), ct := Pv (i + 1), bk := D.nx } σ2 H2) (hd : ∀ σ H, Pv xs.length σ H → D.nx σ H) :
    ∃ W : Nat → Nat → L2.St → Hp → Prop, (∃ m, W 0 m σ H) ∧ ∀ i m σ H, W i m σ H →
      ((Ite K a).stop i H ∧ D.nx σ H) ∨ ((Ite K a).go i H ∧ ∃ N : L2.St → Hp → Prop, (∀ σ' H', N σ' H' → ∃ m', m' < m ∧ W (i + 1) m' σ' H') ∧ ∀ x H', (Ite K a).yld i H x H' → g x σ H' fun σ2 H2 => tb { D with nx := N, ct := N, bk := D.nx } σ2 H2) := by
  refine ⟨fun i m σ H => m = xs.length - i ∧ i ≤ xs.length ∧ Pv i σ H, ⟨_, rfl, Nat.zero_le _, h0⟩, ?_⟩
  rintro i m σ H ⟨rfl, hi, p⟩
  have q := hl i σ H p
  by_cases hlt : i < xs.length
  · refine .inr ⟨⟨xs, xs[i], q, List.getElem?_eq_getElem hlt⟩, Pv (i + 1), fun σ' H' p' => ⟨xs.length - (i + 1), by omega, rfl, hlt, p'⟩, fun x H' y => ?_⟩
    obtain ⟨T, z, rfl, hT, rfl, hz⟩ := y
    exact hs i z T σ H (hz xs q) p hT
  · have e : i = xs.length := by omega
    subst e
    exact .inl ⟨⟨xs, q, Nat.le_refl _⟩, hd _ _ p⟩
def payPages (m : Int) (ow : Str → Int) : Nat → List Str → List Page
  | _, [] => []
  | k, z :: r => (if 0 < ow z then [⟨m, 2 * (k : Int), .pay z (ow z)⟩] else []) ++ payPages m ow (k + 1) r
theorem payPages_snoc (m : Int) (ow : Str → Int) (z : Str) : ∀ (l : List Str) (k : Nat), payPages m ow k (l ++ [z]) = payPages m ow k l ++ (if 0 < ow z then [⟨m, 2 * ((k + l.length : Nat) : Int), .pay z (ow z)⟩] else [])
  | [], k => by simp [payPages]
  | y :: l, k => by rw [List.cons_append, payPages, payPages, payPages_snoc m ow z l (k + 1), List.append_assoc, List.length_cons]; congr 3; simp [Nat.add_assoc, Nat.add_comm 1]
def posSum (ow : Str → Int) (ys : List Str) : Int := (ys.map fun z => if 0 < ow z then ow z else 0).sum
theorem posSum_snoc (ow : Str → Int) (l : List Str) (z : Str) : posSum ow (l ++ [z]) = posSum ow l + if 0 < ow z then ow z else 0 := by unfold posSum; rw [List.map_append, List.sum_append]; simp
theorem bookD_app (a b : List Page) : bookD (a ++ b) = .tup (a.map Page.d ++ b.map Page.d) := by unfold bookD; rw [List.map_append]
theorem IsAll.app {H : Hp} : ∀ {vs : List V} {ds : List D} {ws : List V} {es : List D}, IsAll H vs ds → IsAll H ws es → IsAll H (vs ++ ws) (ds ++ es)
  | [], [], ws, es, _, h => h
  | x :: xs, d :: ds, ws, es, h, g => by simp only [IsAll, List.cons_append] at h ⊢; exact ⟨h.1, h.2.app g⟩
  | [], _ :: _, _, _, h, _ => by simp [IsAll] at h
  | _ :: _, [], _, _, h, _ => by simp [IsAll] at h
theorem idle_names {H : Hp} : ∀ {us : List V} (l : List ((Int × Int) × Str)), IsAll H us (l.map idleD) → ∃ ns : List V, IsAll H ns (l.map fun p => nameD p.1.1 p.1.2) ∧ ∀ (i : Nat) (u n : V), us[i]? = some u → ns[i]? = some n → ∃ a s, u = .ref a ∧ H a = some (.tup [n, .str s])
  | [], [], _ => ⟨[], by simp [IsAll], fun i u n h => by simp at h⟩
  | u :: us, p :: l, h => by
    simp only [List.map_cons, IsAll] at h
    obtain ⟨ns, h1, h2⟩ := idle_names l h.2
    have h3 := h.1
    unfold idleD at h3
    simp only [Is] at h3
    obtain ⟨a, xs, rfl, ha, hx⟩ := h3
    obtain ⟨n, v, rfl, hn, hv⟩ := isAll2 hx
    have hv := is_str hv
    subst hv
    refine ⟨n :: ns, by simp only [List.map_cons, IsAll]; exact ⟨hn, h1⟩, fun i u' n' e1 e2 => ?_⟩
    match i, e1, e2 with
    | 0, e1, e2 => cases e1; cases e2; exact ⟨a, _, rfl, ha⟩
    | i + 1, e1, e2 => exact h2 i u' n' (by simpa using e1) (by simpa using e2)
  | [], _ :: _, h => by simp [IsAll] at h
  | _ :: _, [], h => by simp [IsAll] at h
def nmP (p : (Int × Int) × Str) : PyData := .tuple [.int p.1.1, .int p.1.2]
theorem dp_name {K : PySem.W.Frag} {H : Hp} {v : V} {m n : Int} (h : Is H v (nameD m n)) : Dp K H v (.tuple [.int m, .int n]) := by
  unfold nameD at h
  simp only [Is] at h
  obtain ⟨a, xs, rfl, ha, hx⟩ := h
  obtain ⟨x, y, rfl, h1, h2⟩ := isAll2 hx
  have h1 := is_int h1
  have h2 := is_int h2
  subst h1 h2
  exact .tup (SqT.of ha) (.cons (.int _) (.cons (.int _) .nil))
theorem dp_names {K : PySem.W.Frag} {H : Hp} : ∀ {ns : List V} (l : List ((Int × Int) × Str)), IsAll H ns (l.map fun p => nameD p.1.1 p.1.2) → DpAll K H ns (l.map nmP)
  | [], [], _ => .nil
  | v :: vs, p :: l, h => by simp only [List.map_cons, IsAll] at h; exact .cons (dp_name h.1) (dp_names l h.2)
  | [], _ :: _, h => by simp [IsAll] at h
  | _ :: _, [], h => by simp [IsAll] at h
theorem lay_names (l : List ((Int × Int) × Str)) : PyData.canLayAll0 (l.map nmP) = true := by
  induction l with
  | nil => rfl
  | cons x l ih => simp [PyData.canLayAll0, PyData.canLay0, nmP] at ih ⊢; exact ih
theorem depth_names (l : List ((Int × Int) × Str)) : PyData.depthAll (l.map nmP) ≤ 2 := by
  induction l with
  | nil => simp [PyData.depthAll]
  | cons x l ih => simp only [List.map_cons, PyData.depthAll, nmP, PyData.depth] at ih ⊢; omega
theorem shaped_names (l : List ((Int × Int) × Str)) : SeqAt.shaped (.list (l.map nmP)) = true := by
  have h1 := depth_names l
  have h2 : PyData.depth (.list (l.map nmP)) ≤ 64 := by simp only [PyData.depth]; omega
  show (PyData.canLay0 (.list (l.map nmP)) && decide (PyData.depth (.list (l.map nmP)) ≤ 64)) = true
  rw [Bool.and_eq_true]
  exact ⟨by simp only [PyData.canLay0]; exact lay_names l, decide_eq_true h2⟩
theorem names_any (l : List ((Int × Int) × Str)) (m n : Int) (h : ∀ e ∈ l, e.1 ≠ (m, n)) : ((l.map nmP).any fun z => PyData.eqv z (.tuple [.int m, .int n])) = false := by
  rw [List.any_map, Bool.eq_false_iff]
  intro z
  obtain ⟨p, hp, he⟩ := List.any_eq_true.mp z
  have he : (p.1.1 == m && (p.1.2 == n && true)) = true := by simpa [nmP, PyData.eqv, PyData.eqvAll] using he
  simp only [Bool.and_eq_true, beq_iff_eq] at he
  exact h p hp (Prod.ext he.1 he.2.1)
section
variable {P : Program} {w : World} {K : PySem.W.Frag} {mg : Str → Option Value} {base : Heap} {k : Nat}
abbrev N_law_is_paid : List Str := ["_law_house_here", "_law_book_here", "_law_ahead", "_law_paid", "_law_minute", "_law_k", "_law_seat", "_law_left", "_law_gone_now", "_law_can_go", "_law_name", "_law_reason"]
abbrev P_law_is_paid : List Str := ["_law_house_here", "_law_book_here"]
theorem sc_law_is_paid : FnScope N_law_is_paid P_law_is_paid (defScope s_law_is_paid) := ⟨rfl, rfl, rfl, by decide +kernel, rfl, by decide +kernel, by decide +kernel⟩
structure PaidOk (hs : House) (ow : Str → Int) (pd0 mi : Int) (L1 : List Page) (ys : List Str) : Prop where
  own : ∀ z ∈ ys, 0 ≤ ow z
  few : ys.length ≤ 12
  good1 : Good hs L1
  keys1 : ∀ z ∈ ys, z ∈ keys (walk hs L1).tables
  zero : ∀ z ∈ ys, owed (walk hs L1) z = 0
  paid : ((walk hs L1).paid.map (·.2)).sum = pd0 + posSum ow ys
  left : ((allOwed (walk hs L1)).map (·.2)).sum = 0
  good2 : ∀ y0, ys.head? = some y0 → Good hs (L1 ++ [⟨mi + 1, 0, .go y0⟩])
  idle : ∀ y0, ys.head? = some y0 → ∀ e ∈ (walk hs (L1 ++ [⟨mi + 1, 0, .go y0⟩])).idle, e.1 ≠ (mi + 1, 0)
def sp_law_is_paid (K : PySem.W.Frag) : Sp := fun vs H Q _ => ∃ (hv bv : V) (hs : House) (ps : List Page) (pg : Page), vs = [hv, bv] ∧ Is H hv hs.d ∧ Is H bv (bookD (ps ++ [pg])) ∧ hs.Ok ∧ Good hs (ps ++ [pg]) ∧ keys (walk hs (ps ++ [pg])).tables ≠ [] ∧
  (∀ ys : List Str, ys.Perm (keys (walk hs (ps ++ [pg])).tables) → PaidOk hs (owed (walk hs (ps ++ [pg]))) (((walk hs (ps ++ [pg])).paid.map (·.2)).sum) (pg.minute + 1) (ps ++ [pg] ++ payPages (pg.minute + 1) (owed (walk hs (ps ++ [pg]))) 0 ys) ys) ∧ ∀ H', Q (.bl true) H'
theorem ok_law_is_paid (d : Dn K mg d_law_is_paid) (T : Tb w K mg) (c_to_pay : Cal P w K mg base 9 "to_pay" [.non] (sp_to_pay K)) (c_owes : Cal P w K mg base 9 "owes" [.non] (sp_owes K)) (c_sums : Cal P w K mg base 8 "sums" [] (sp_sums K)) (c_idle : Cal P w K mg base 8 "idle" [] (sp_idle K)) : Cal P w K mg base 10 "_law_is_paid" [] (sp_law_is_paid K) := by
  refine d.cal sc_law_is_paid (fun vs H Q E h => ?_) (fun f fd F => ⟨[], .nil, F.bindsN fun _ _ _ _ _ _ us hl => match us, hl with | [_, _], _ => rfl⟩) fun f cdv A outer s H vs Q E hr h => have hu := hu_of hr; ⟨_, PSs.nox (pss_cons (ps_set (i := 2) sc_law_is_paid.nd rfl (Or.inr rfl) (pe_callTy (call_dictPT rfl) rfl T.dict boot_dict (pa_cons (pe_cl c_to_pay hr (pa_cons (pv 0) (pa_cons (pv 1) pa_nil))) pa_nil))) (pss_cons (ps_par (i := 3) (j := 4) rfl sc_law_is_paid.nd (by rfl) (by rfl) (by decide) (by rfl) (by rfl) (pa_cons (pe_ix ix_tup (pe_cl c_sums hr (pa_cons (pv 0) (pa_cons (pv 1) pa_nil))) pe_int (fun _ _ => rfl)) (pa_cons (pe_op op_add (pe_ix ix_tup (pe_ix ix_tup (pe_ix ix_tup (pv 1) (pe_un un_neg pe_int) (fun _ _ => rfl)) pe_int (fun _ _ => rfl)) pe_int (fun _ _ => rfl)) pe_int) pa_nil)) (by rfl)) (pss_cons (ps_for PassesOwn.never rfl (pi_enum rfl T.enumerate (pa_cons (pe_callB (call_sortedD rfl) rfl T.sorted boot_sorted (pa_cons (pv 2) pa_nil)) pa_nil)) (pg_tup (n := 2) rfl (pgs_cons (pg_name (i := 5) sc_law_is_paid.nd rfl (Or.inl rfl)) (pgs_cons (pg_name (i := 6) sc_law_is_paid.nd rfl (Or.inl rfl)) pgs_nil))) (pss_one (ps_if (pt_cmpR op_gt (pe_dget hu (pv 2) (pv 6) (fun _ _ => rfl)) pe_int (nomark _)) (pss_cons (ps_set (i := 1) sc_law_is_paid.nd rfl (Or.inl rfl) (pe_op op_catT (pv 1) (pe_tup (pa_cons (pe_tup (pa_cons (pe_tup (pa_cons (pv 4) (pa_cons (pe_op op_mul pe_int (pv 5)) pa_nil))) (pa_cons (pe_tup (pa_cons pe_str (pa_cons (pv 6) (pa_cons (pe_dget hu (pv 2) (pv 6) (fun _ _ => rfl)) pa_nil)))) pa_nil))) pa_nil)))) (pss_one (ps_set (i := 3) sc_law_is_paid.nd rfl (Or.inl rfl) (pe_op op_add (pv 3) (pe_dget hu (pv 2) (pv 6) (fun _ _ => rfl)))))) pss_nil))) (pss_cons (ps_lock (ps_for PassesOwn.never rfl (pi_keys (pv 2)) (pg_name (i := 6) sc_law_is_paid.nd rfl (Or.inl rfl)) (pss_one (ps_if (pt_cmpR op_ne (pe_cl c_owes hr (pa_cons (pv 0) (pa_cons (pv 1) (pa_cons (pv 6) pa_nil)))) (pe_callB (call_min2 rfl) rfl T.min boot_min (pa_cons pe_int (pa_cons (pe_dget hu (pv 2) (pv 6) (fun _ _ => rfl)) pa_nil))) (nomark _)) (pss_one (ps_ret pe_bl)) pss_nil)))) (pss_cons (ps_set (i := 7) sc_law_is_paid.nd rfl (Or.inl rfl) (pe_callB (cr_sum rfl) rfl T.sum boot_sum (pa_cons (pe_lock (pe_lc rfl sc_law_is_paid.nd (pi_keys (pv 2)) (blkOk_by (own := [("_law_seat", 6)]) (N := N_law_is_paid) (sc := defScope s_law_is_paid) (by decide +kernel)) (fun _ _ _ _ _ => (pg_name (i := 6) sc_law_is_paid.nd rfl (Or.inl rfl))) (fun _ _ _ _ _ => pts_nil) (fun _ _ _ _ _ => (pe_callB (call_min2 rfl) rfl T.min boot_min (pa_cons pe_int (pa_cons (pe_dget hu (pv 2) (pv 6) (fun _ _ => rfl)) pa_nil)))))) pa_nil))) (pss_cons (ps_set (i := 8) sc_law_is_paid.nd rfl (Or.inl rfl) (pe_op op_catT (pv 1) (pe_tup (pa_cons (pe_tup (pa_cons (pe_tup (pa_cons (pe_op op_add (pv 4) pe_int) (pa_cons pe_int pa_nil))) (pa_cons (pe_tup (pa_cons pe_str (pa_cons (pe_ix ix_list (pe_callB (call_sortedD rfl) rfl T.sorted boot_sorted (pa_cons (pv 2) pa_nil)) pe_int (fun _ _ => rfl)) pa_nil))) pa_nil))) pa_nil)))) (pss_cons (ps_set (i := 9) sc_law_is_paid.nd rfl (Or.inl rfl) (pe_cmpR op_ge (pe_dget hu (pv 2) (pe_ix ix_list (pe_callB (call_sortedD rfl) rfl T.sorted boot_sorted (pa_cons (pv 2) pa_nil)) pe_int (fun _ _ => rfl)) (fun _ _ => rfl)) pe_int (nomark _))) (pss_cons (ps_if (pt_cmpR op_eq (pe_cmpR (op_inD (hu65 hr)) (pe_tup (pa_cons (pe_op op_add (pv 4) pe_int) (pa_cons pe_int pa_nil))) (pe_lc rfl sc_law_is_paid.nd (pi_tup (pe_cl c_idle hr (pa_cons (pv 0) (pa_cons (pv 8) pa_nil)))) (blkOk_by (own := [("_law_name", 10), ("_law_reason", 11)]) (N := N_law_is_paid) (sc := defScope s_law_is_paid) (by decide +kernel)) (fun _ _ _ _ _ => (pg_tupK (n := 2) K rfl rfl (pgs_cons (pg_name (i := 10) sc_law_is_paid.nd rfl (Or.inl rfl)) (pgs_cons (pg_name (i := 11) sc_law_is_paid.nd rfl (Or.inl rfl)) pgs_nil)))) (fun _ _ _ _ _ => pts_nil) (fun _ _ _ _ _ => (pv 10))) (by rfl)) (pv 9) (nomark _)) (pss_one (ps_ret pe_bl)) pss_nil) (pss_one (ps_ret (pe_cmpR (op_eqD hr.units) (pe_slice sl_tupA (pe_cl c_sums hr (pa_cons (pv 0) (pa_cons (pv 1) pa_nil))) (po_some pe_int) po_none) (pe_tup (pa_cons (pv 3) (pa_cons (pv 7) pa_nil))) (nomark _)))))))))))), ?_⟩
  · obtain ⟨_, _, _, _, _, rfl, _⟩ := h; rfl
  · obtain ⟨hv, bv, hs, ps, pg, rfl, hh, hb, hok, good, hkne, hpaid, q⟩ := h
    walk_at "go"
    refine ⟨hv, bv, hs, ps ++ [pg], rfl, hh, hb, hok, good, fun H1 p as ys e1 h1 hperm hsort zpair => ?_⟩
    have PO := hpaid ys hperm
    clear hpaid
    have ok : (walk hs (ps ++ [pg])).Ok := by have := good.ok (ps ++ [pg]).length (Nat.le_refl _); rwa [List.take_of_length_le (Nat.le_refl _)] at this
    have hynd : ys.Nodup := hperm.nodup_iff.mpr ok.ndT
    have hyne : ys ≠ [] := fun z => hkne (List.Perm.eq_nil (by rw [z] at hperm; exact hperm.symm))
    walk_at "go"
    refine ⟨p, as, _, rfl, h1, zpair, fun a hpa => ?_⟩
    rw [merge_pen (by rw [keys_penL]; exact hynd)]
    generalize how : owed (walk hs (ps ++ [pg])) = ow at *
    have e2 := Ex.new (o := HO.dK (penK (penL ys ow))) hpa
    have k2 : (upd H1 a (.dK (penK (penL ys ow)))) a = some (.dK (penK (penL ys ow))) := upd_same
    have e02 := e1.trans e2
    generalize upd H1 a (.dK (penK (penL ys ow))) = H2 at e2 k2 e02 ⊢
    clear e1 h1 zpair hpa e2
    have hh2 := Is.mono e02.tex _ hh
    have hb2 := Is.mono e02.tex _ hb
    have lastix : ∀ {H : Hp} {Q : VK}, Is H bv (bookD (ps ++ [pg])) → (∀ x, Is H x pg.d → Q x H) → rIxT K bv (.int (-1)) H Q := fun hb qq => by rw [last_d] at hb; exact ix_last hb qq
    walk_at "go"
    refine ⟨hv, bv, hs, ps ++ [pg], rfl, hh2, hb2, hok, good, fun H3 p3 c3 e3 h3 => ?_⟩
    walk_at "go"
    refine ⟨p3, _, 1, _, rfl, rfl, SqT.of h3, rfl, ?_⟩
    have e03 := e02.trans e3
    have hb3 := Is.mono e03.tex _ hb
    have k3 := e3 _ _ k2
    walk_at "go"
    refine lastix hb3 fun lv hlv => ?_
    walk_at "go"
    refine ix_is (i := 0) (ds := [nameD pg.minute pg.number, pg.deed.d]) hlv rfl fun nv hnv => ?_
    walk_at "go"
    refine ix_isI (i := 0) hnv rfl ?_
    walk_at "go"
    generalize hpd : ((walk hs (ps ++ [pg])).paid.map (·.2)).sum = pd0 at *
    generalize hmi : pg.minute + 1 = mi at *
    have hyl := PO.few
    have srt : ∀ us : List Str, us.Perm ys → sortedS us = true → us = ys := fun us hp hs' => sorted_eq hs' hsort hp
    refine ⟨a, _, ys, rfl, .inl k3, by rw [penK_keys, keys_penL], by omega, fun us4 p4 pe4 so4 hp4 => ?_⟩
    rw [srt us4 pe4 so4]
    have e4 := Ex.new (o := HO.lst (ys.map V.str)) hp4
    have k4 : (upd H3 p4 (.lst (ys.map V.str))) p4 = some (.lst (ys.map V.str)) := upd_same
    have ka4 := e4 _ _ k3
    have e04 := e03.trans e4
    generalize upd H3 p4 (.lst (ys.map V.str)) = H4 at e4 k4 ka4 e04 ⊢
    have hb4 := Is.mono e04.tex _ hb
    have good1 := PO.good1
    have g1few := good1.few
    have hpre : ∀ i, (ps ++ [pg] ++ payPages mi ow 0 (ys.take i)).length ≤ 100 := fun i => by
      refine Nat.le_trans ?_ g1few
      rw [List.length_append, List.length_append (bs := payPages mi ow 0 ys)]
      have : ∀ (l m : List Str) (k : Nat), (payPages mi ow k l).length ≤ (payPages mi ow k (l ++ m)).length := by
        intro l
        induction l with
        | nil => intro m k; simp [payPages]
        | cons y l ih => intro m k; rw [List.cons_append, payPages, payPages, List.length_append, List.length_append]; have := ih m (k + 1); omega
      have := this (ys.take i) (ys.drop i) 0
      rw [List.take_append_drop] at this
      omega
    refine ⟨p4, _, rfl, SqL.of k4, for_ite (xs := ys.map V.str) (fun i σ H' => (∃ (bv' : V) (z5 z6 : Option V), σ = [some hv, some bv', some (.ref a), some (.int (pd0 + posSum ow (ys.take i))), some (.int mi), z5, z6, none, none, none, none, none] ∧ Is H' bv' (bookD (ps ++ [pg] ++ payPages mi ow 0 (ys.take i)))) ∧ Ex H4 H') ?_ (fun i σ H' h => SqL.of (h.2 _ _ k4)) (fun i x T' σ H' hx h hT => ?_) fun σ H' h => ?_⟩
    · exact ⟨⟨bv, _, _, by simp [posSum]; rfl, by simpa [payPages] using hb4⟩, Ex.refl _⟩
    · obtain ⟨⟨bv', z5, z6, rfl, hbv⟩, ex⟩ := h
      rw [List.getElem?_map] at hx
      obtain ⟨z, hz, rfl⟩ := Option.map_eq_some_iff.mp hx
      have hi : i < 12 := by have := (List.getElem?_eq_some_iff.mp hz).1; omega
      have hzm : z ∈ ys := List.mem_of_getElem? hz
      have e5 := Ex.new (o := HO.tup [.int (i : Nat), .str z]) hT
      have k5 : (upd H' T' (.tup [.int (i : Nat), .str z])) T' = some (.tup [.int (i : Nat), .str z]) := upd_same
      generalize upd H' T' (.tup [.int (i : Nat), .str z]) = H5 at e5 k5 ⊢
      have e45 := ex.trans e5
      have ka5 := e45 _ _ ka4
      have hbv5 := Is.mono e5.tex _ hbv
      have hget : valV (penK (penL ys ow)) (Sum.inr z) = some (.int (ow z)) := by rw [pen_get, penL_get hzm]; rfl
      refine ⟨T', _, rfl, SqT.of k5, rfl, ?_⟩
      walk_at "go"
      refine gS (.inl ka5) hget ?_
      walk_at "go"
      have htl : (ys.take i).length = i := by rw [List.length_take]; have := (List.getElem?_eq_some_iff.mp hz).1; omega
      have hsn : payPages mi ow 0 (ys.take (i + 1)) = payPages mi ow 0 (ys.take i) ++ (if 0 < ow z then [⟨mi, 2 * (i : Int), .pay z (ow z)⟩] else []) := by
        rw [take_snoc hz, payPages_snoc, htl, Nat.zero_add]
      have hps : posSum ow (ys.take (i + 1)) = posSum ow (ys.take i) + if 0 < ow z then ow z else 0 := by rw [take_snoc hz, posSum_snoc]
      refine i_ite (fun e => ?_) fun e => ?_
      · have e : 0 < ow z := by simpa using e
        rw [if_pos e] at hsn hps
        walk_at "go"
        refine i_tup ?_
        walk_at "go"
        refine i_tup ?_
        walk_at "go"
        refine i_tup ?_
        walk_at "go"
        refine ⟨sz (by simp), fun p6 hp6 => ?_⟩
        have e6 := Ex.new (o := HO.tup [V.int mi, V.int (2 * (i : Int))]) hp6
        have k6 : (upd H5 p6 (.tup [V.int mi, V.int (2 * (i : Int))])) p6 = some (.tup [V.int mi, V.int (2 * (i : Int))]) := upd_same
        generalize upd H5 p6 (.tup [V.int mi, V.int (2 * (i : Int))]) = H6 at e6 k6 ⊢
        walk_at "go"
        refine i_tup ?_
        walk_at "go"
        refine gS (.inl (e6 _ _ ka5)) hget ?_
        walk_at "go"
        refine ⟨sz (by simp), fun p7 hp7 => ?_⟩
        have e7 := Ex.new (o := HO.tup [V.str "pay", V.str z, V.int (ow z)]) hp7
        have k7 : (upd H6 p7 (.tup [V.str "pay", V.str z, V.int (ow z)])) p7 = some (.tup [V.str "pay", V.str z, V.int (ow z)]) := upd_same
        generalize upd H6 p7 (.tup [V.str "pay", V.str z, V.int (ow z)]) = H7 at e7 k7 ⊢
        walk_at "go"
        refine ⟨sz (by simp), fun p8 hp8 => ?_⟩
        have e8 := Ex.new (o := HO.tup [V.ref p6, V.ref p7]) hp8
        have k8 : (upd H7 p8 (.tup [V.ref p6, V.ref p7])) p8 = some (.tup [V.ref p6, V.ref p7]) := upd_same
        generalize upd H7 p8 (.tup [V.ref p6, V.ref p7]) = H8 at e8 k8 ⊢
        walk_at "go"
        refine ⟨sz (by simp), fun p9 hp9 => ?_⟩
        have e9 := Ex.new (o := HO.tup [V.ref p8]) hp9
        have k9 : (upd H8 p9 (.tup [V.ref p8])) p9 = some (.tup [V.ref p8]) := upd_same
        generalize upd H8 p9 (.tup [V.ref p8]) = H9 at e9 k9 ⊢
        have e59 := ((e6.trans e7).trans e8).trans e9
        have hbv9 := Is.mono e59.tex _ hbv5
        have hbv9' := hbv9
        unfold bookD at hbv9'
        simp only [Is] at hbv9'
        obtain ⟨ba, bx, rfl, hba, hbx⟩ := hbv9'
        have hbl : bx.length ≤ 100 := by rw [hbx.len, List.length_map]; exact hpre i
        refine ⟨ba, p9, _, _, rfl, rfl, SqT.of hba, SqT.of k9, fun z => ?_, sz (by simp; omega), fun z => absurd z (by simp), fun _ p10 hp10 => ?_⟩
        · have := hbx.len; rw [z, List.length_map] at this; simp at this
        have e10 := Ex.new (o := HO.tup (bx ++ [V.ref p8])) hp10
        have k10 : (upd H9 p10 (.tup (bx ++ [V.ref p8]))) p10 = some (.tup (bx ++ [V.ref p8])) := upd_same
        generalize upd H9 p10 (.tup (bx ++ [V.ref p8])) = H10 at e10 k10 ⊢
        walk_at "go"
        refine gS (.inl ((e59.trans e10) _ _ ka5)) hget ?_
        walk_at "go"
        refine ⟨⟨.ref p10, _, _, by rw [hps, Int.add_assoc]; rfl, ?_⟩, (e45.trans e59).trans e10⟩
        rw [hsn, ← List.append_assoc, bookD_app]
        refine is_tup k10 (IsAll.app (IsAll.mono e10.tex _ hbx) ?_)
        simp only [List.map_cons, List.map_nil, IsAll, and_true]
        refine Is.mono (e9.trans e10).tex _ (is_tup k8 ?_)
        simp only [IsAll, and_true]
        exact ⟨is_tup ((e7.trans e8) _ _ k6) (by simp [IsAll, Is]), is_tup (e8 _ _ k7) (by simp [IsAll, Is])⟩
      · have e : ¬ 0 < ow z := by simpa using e
        rw [if_neg e] at hsn hps
        walk_at "go"
        refine ⟨⟨bv', _, _, by rw [hps, Int.add_zero]; rfl, by rw [hsn, List.append_nil]; exact hbv5⟩, e45⟩
    obtain ⟨⟨bv', z5, z6, rfl, hbv⟩, ex⟩ := h
    rw [List.length_map, List.take_of_length_le (Nat.le_refl _)] at hbv
    rw [List.length_map, List.take_of_length_le (Nat.le_refl _)]
    have hh5 := Is.mono (e04.trans ex).tex _ hh
    have ka5 := ex _ _ ka4
    have e05 := e04.trans ex
    generalize hL1 : ps ++ [pg] ++ payPages mi ow 0 ys = L1 at *
    clear hb hb2 hb3 hb4 hh2 k2 e02 e03 e04 k3 k4 ka4 ex e3 e4 hp4 h3 hlv hnv hpre lastix
    walk_at "go"
    refine i_lock a ka5 trivial fun ob => ?_
    walk_at "go"
    have hmin : ∀ z ∈ ys, (if ow z < 0 then ow z else 0) = 0 := fun z hz => if_neg (by have := PO.own z hz; omega)
    have rx5 : Rx H' (upd H' a (.frz ob (.dK (penK (penL ys ow))))) := Rx.lockK ka5
    refine ⟨a, ob, rfl, .inl ⟨_, upd_same, for_itk (fun i σ H'' => (∃ z5 z6, σ = [some hv, some bv', some (.ref a), some (.int (pd0 + posSum ow ys)), some (.int mi), z5, z6, none, none, none, none, none]) ∧ Ex (upd H' a (.frz ob (.dK (penK (penL ys ow))))) H'') ⟨⟨_, _, rfl⟩, Ex.refl _⟩ (fun i σ H'' h => h.2 _ _ upd_same) (fun i kk v σ H'' hk h => ?_) fun σ H'' h => ?_⟩⟩
    · obtain ⟨⟨z5, z6, rfl⟩, ex⟩ := h
      unfold penK penL at hk
      rw [List.map_map, List.getElem?_map] at hk
      obtain ⟨z, hz, hkv⟩ := Option.map_eq_some_iff.mp hk
      cases hkv
      have hzm : z ∈ ys := List.mem_of_getElem? hz
      have tx := rx5.tp.trans ex.tex
      walk_at "go"
      refine ⟨hv, bv', hs, L1, z, rfl, Is.mono tx _ hh5, Is.mono tx _ hbv, hok, PO.good1, PO.keys1 z hzm, fun H6 e6 => ?_⟩
      rw [PO.zero z hzm]
      walk_at "go"
      refine gS (.inr ⟨ob, e6 _ _ (ex _ _ upd_same)⟩) (v := .int (ow z)) (by rw [pen_get, penL_get hzm]; rfl) ?_
      walk_at "go"
      refine ⟨0, ow z, rfl, ?_⟩
      rw [hmin z hzm]
      walk_at "go"
      refine i_ite (fun e => absurd e (by decide)) fun _ => ?_
      walk_at "go"
      exact ⟨⟨_, _, rfl⟩, ex.trans e6⟩
    obtain ⟨⟨z5, z6, rfl⟩, ex⟩ := h
    refine ⟨ex _ _ upd_same, ?_⟩
    have e6 := unlock ka5 ex
    have ka6 : (upd H'' a (.dK (penK (penL ys ow)))) a = some (.dK (penK (penL ys ow))) := upd_same
    generalize upd H'' a (.dK (penK (penL ys ow))) = H6 at e6 ka6 ⊢
    clear ex
    walk_at "go"
    refine i_lockE a ka6 trivial fun ob2 => ?_
    walk_at "go"
    refine ⟨a, ob2, rfl, .inl ⟨_, upd_same, fun D hD => lc_itk (fun _ => true) (fun _ => .int 0) upd_same hD (by unfold penK penL; rw [List.length_map, List.length_map]; omega) (fun i kq H7 Kt Ks hk ex ht hf => ?_) fun H7 ex hl => ?_⟩⟩
    · unfold penK penL at hk
      rw [List.map_map, List.getElem?_map] at hk
      obtain ⟨z, hz, rfl⟩ := Option.map_eq_some_iff.mp hk
      have hzm : z ∈ ys := List.mem_of_getElem? hz
      walk_at "go"
      refine gS (.inr ⟨ob2, ex _ _ upd_same⟩) (v := .int (ow z)) (by rw [pen_get, penL_get hzm]; rfl) ?_
      walk_at "go"
      refine ⟨0, ow z, rfl, ?_⟩
      rw [hmin z hzm]
      exact ht rfl _ (Ex.refl _)
    refine ⟨ex _ _ upd_same, ?_⟩
    have nDa : D ≠ a := fun z => by rw [z, upd_same] at hD; cases hD
    have e7 := unlock ka6 ex
    have hl7 : (upd H7 a (.dK (penK (penL ys ow)))) D = some (.lst ((List.replicate (penK (penL ys ow)).length (0 : Int)).map V.int)) := by
      rw [upd_ne nDa, hl, filter_all, List.map_const', List.map_replicate]
    have ka7 : (upd H7 a (.dK (penK (penL ys ow)))) a = some (.dK (penK (penL ys ow))) := upd_same
    generalize upd H7 a (.dK (penK (penL ys ow))) = H8 at e7 hl7 ka7 ⊢
    walk_at "go"
    refine ⟨D, _, rfl, SqL.of hl7, ?_⟩
    rw [List.sum_replicate_int, Int.mul_zero]
    have e58 := e6.trans e7
    have hbv8 := Is.mono e58.tex _ hbv
    have hh8 := Is.mono e58.tex _ hh5
    walk_at "go"
    obtain ⟨y0, yr, hy0⟩ : ∃ y0 yr, ys = y0 :: yr := by cases ys with | nil => exact absurd rfl hyne | cons y r => exact ⟨y, r, rfl⟩
    have hhead : ys.head? = some y0 := by rw [hy0]; rfl
    have hy0m : y0 ∈ ys := by rw [hy0]; exact List.mem_cons_self
    have hat0 : atI (ys.map V.str) 0 = some (.str y0) := by rw [hy0]; exact atI_nat (j := 0) rfl
    clear hl7
    refine i_tup ?_
    walk_at "go"
    refine i_tup ?_
    walk_at "go"
    refine i_tup ?_
    walk_at "go"
    refine ⟨sz (by simp), fun p9 hp9 => ?_⟩
    have e9 := Ex.new (o := HO.tup [V.int (mi + 1), V.int 0]) hp9
    have k9 : (upd H8 p9 (.tup [V.int (mi + 1), V.int 0])) p9 = some (.tup [V.int (mi + 1), V.int 0]) := upd_same
    have ka9 := e9 _ _ ka7
    generalize upd H8 p9 (.tup [V.int (mi + 1), V.int 0]) = H9 at e9 k9 ka9 ⊢
    walk_at "go"
    refine i_tup ?_
    walk_at "go"
    refine ⟨a, _, ys, rfl, .inl ka9, by rw [penK_keys, keys_penL], by omega, fun us10 p10 pe10 so10 hp10 => ?_⟩
    rw [srt us10 pe10 so10]
    have e10 := Ex.new (o := HO.lst (ys.map V.str)) hp10
    have k10 : (upd H9 p10 (.lst (ys.map V.str))) p10 = some (.lst (ys.map V.str)) := upd_same
    generalize upd H9 p10 (.lst (ys.map V.str)) = H10 at e10 k10 ⊢
    walk_at "go"
    refine ⟨p10, _, 0, _, rfl, rfl, SqL.of k10, hat0, ?_⟩
    walk_at "go"
    refine ⟨sz (by simp), fun p11 hp11 => ?_⟩
    have e11 := Ex.new (o := HO.tup [V.str "go", V.str y0]) hp11
    have k11 : (upd H10 p11 (.tup [V.str "go", V.str y0])) p11 = some (.tup [V.str "go", V.str y0]) := upd_same
    generalize upd H10 p11 (.tup [V.str "go", V.str y0]) = H11 at e11 k11 ⊢
    walk_at "go"
    refine ⟨sz (by simp), fun p12 hp12 => ?_⟩
    have e12 := Ex.new (o := HO.tup [V.ref p9, V.ref p11]) hp12
    have k12 : (upd H11 p12 (.tup [V.ref p9, V.ref p11])) p12 = some (.tup [V.ref p9, V.ref p11]) := upd_same
    generalize upd H11 p12 (.tup [V.ref p9, V.ref p11]) = H12 at e12 k12 ⊢
    walk_at "go"
    refine ⟨sz (by simp), fun p13 hp13 => ?_⟩
    have e13 := Ex.new (o := HO.tup [V.ref p12]) hp13
    have k13 : (upd H12 p13 (.tup [V.ref p12])) p13 = some (.tup [V.ref p12]) := upd_same
    generalize upd H12 p13 (.tup [V.ref p12]) = H13 at e13 k13 ⊢
    have e813 := (((e9.trans e10).trans e11).trans e12).trans e13
    have hbv13 := Is.mono e813.tex _ hbv8
    have hbv' := hbv13
    unfold bookD at hbv'
    simp only [Is] at hbv'
    obtain ⟨ba, bx, rfl, hba, hbx⟩ := hbv'
    have hbl : bx.length ≤ 100 := by rw [hbx.len, List.length_map]; exact g1few
    have hL1n : L1 ≠ [] := fun z => by rw [z] at hL1; simp at hL1
    refine ⟨ba, p13, _, _, rfl, rfl, SqT.of hba, SqT.of k13, fun z => ?_, sz (by simp; omega), fun z => absurd z (by simp), fun _ p14 hp14 => ?_⟩
    · have := hbx.len; rw [z, List.length_map] at this; exact hL1n (List.length_eq_zero_iff.mp this.symm)
    have e14 := Ex.new (o := HO.tup (bx ++ [V.ref p12])) hp14
    have k14 : (upd H13 p14 (.tup (bx ++ [V.ref p12]))) p14 = some (.tup (bx ++ [V.ref p12])) := upd_same
    generalize upd H13 p14 (.tup (bx ++ [V.ref p12])) = H14 at e14 k14 ⊢
    have e814 := e813.trans e14
    have ka14 := e814 _ _ ka7
    have hgone : Is H14 (.ref p14) (bookD (L1 ++ [⟨mi + 1, 0, .go y0⟩])) := by
      rw [bookD_app]
      refine is_tup k14 (IsAll.app (IsAll.mono e14.tex _ hbx) ?_)
      simp only [List.map_cons, List.map_nil, IsAll, and_true]
      refine Is.mono (e13.trans e14).tex _ (is_tup k12 ?_)
      simp only [IsAll, and_true]
      exact ⟨is_tup (((e10.trans e11).trans e12) _ _ k9) (by simp [IsAll, Is]), is_tup (e12 _ _ k11) (by simp [IsAll, Is])⟩
    have hbv14 := Is.mono e14.tex _ hbv13
    have hh14 := Is.mono e814.tex _ hh8
    clear e9 k9 ka9 e10 k10 e11 k11 e12 k12 e13 k13 hbx hba e14 k14 hbv13 e813
    walk_at "go"
    refine ⟨a, _, ys, rfl, .inl ka14, by rw [penK_keys, keys_penL], by omega, fun us15 p15 pe15 so15 hp15 => ?_⟩
    rw [srt us15 pe15 so15]
    have e15 := Ex.new (o := HO.lst (ys.map V.str)) hp15
    have k15 : (upd H14 p15 (.lst (ys.map V.str))) p15 = some (.lst (ys.map V.str)) := upd_same
    generalize upd H14 p15 (.lst (ys.map V.str)) = H15 at e15 k15 ⊢
    walk_at "go"
    refine ⟨p15, _, 0, _, rfl, rfl, SqL.of k15, hat0, ?_⟩
    refine gS (.inl (e15 _ _ ka14)) (v := .int (ow y0)) (by rw [pen_get, penL_get hy0m]; rfl) ?_
    walk_at "go"
    have hcan : decide ((0 : Int) ≤ ow y0) = true := decide_eq_true (PO.own y0 hy0m)
    rw [hcan]
    refine i_tup ?_
    walk_at "go"
    refine ⟨sz (by simp), fun p16 hp16 => ?_⟩
    have e16 := Ex.new (o := HO.tup [V.int (mi + 1), V.int 0]) hp16
    have k16 : (upd H15 p16 (.tup [V.int (mi + 1), V.int 0])) p16 = some (.tup [V.int (mi + 1), V.int 0]) := upd_same
    generalize upd H15 p16 (.tup [V.int (mi + 1), V.int 0]) = H16 at e16 k16 ⊢
    have e1416 := e15.trans e16
    walk_at "go"
    refine ⟨hv, .ref p14, hs, _, rfl, Is.mono e1416.tex _ hh14, Is.mono e1416.tex _ hgone, hok, PO.good2 y0 hhead, fun H17 p17 e17 h17 => ?_⟩
    walk_at "go"
    have h17' := h17
    simp only [Is] at h17'
    obtain ⟨ia, ix, hia, hix, hixs⟩ := h17'
    cases hia
    obtain ⟨ns, hns, hnm⟩ := idle_names _ hixs
    have hnl : ns.length = ix.length := by rw [hns.len, hixs.len, List.length_map, List.length_map]
    have hixl : ix.length ≤ 100 := by
      rw [hixs.len, List.length_map]
      have h1 := idle_len hs (L1 ++ [⟨mi + 1, 0, .go y0⟩]) {}
      have h2 := (PO.good2 y0 hhead).few
      unfold walk
      simp only [List.length_nil, Nat.zero_add] at h1
      omega
    refine ⟨p17, rfl, ⟨_, SqT.of hix⟩, fun D18 hD18 => lc_tupE ns (fun _ => true) (fun n => n) hnl.symm (SqT.of hix) hD18 (by omega) (fun i x nn H' Kt Ks hx hn ex ht _ => ?_) fun H18 e18 h18 => ?_⟩
    · obtain ⟨ia2, s2, rfl, hia2⟩ := hnm i x nn hx hn
      refine ⟨ia2, _, rfl, SqT.of (ex _ _ hia2), rfl, ?_⟩
      walk_at "go"
      exact ht rfl _ (Ex.refl _)
    rw [filter_all, List.map_id'] at h18
    have hfalse := names_any _ _ _ (PO.idle y0 hhead)
    refine ⟨.tuple [.int (mi + 1), .int 0], _, .tup (SqT.of ((e17.trans e18) _ _ k16)) (.cons (.int _) (.cons (.int _) .nil)), .lst (SqL.of h18) (dp_names _ (IsAll.mono e18.tex _ hns)), ?_, shaped_names _, ?_⟩
    · simp [SeqAt.shaped, PyData.canLay0, PyData.canLayAll0, PyData.depth, PyData.depthAll]
    rw [hfalse]
    walk_at "go"
    refine ⟨rfl, ?_⟩
    walk_at "go"
    refine i_ite (fun e => absurd e (by simp)) fun _ => ?_
    have e1418 := (e1416.trans e17).trans e18
    walk_at "go"
    refine ⟨hv, _, hs, L1, rfl, Is.mono e1418.tex _ hh14, Is.mono e1418.tex _ hbv14, hok, PO.good1, fun H19 p19 c19 e19 h19 => ?_⟩
    walk_at "go"
    refine ⟨p19, _, rfl, SqT.of h19, fun hc => absurd hc.1 (by simp [HT.sIx]), fun _ p20 hp20 => ?_⟩
    have hcut : ∀ x y z : V, cutV [x, y, z] (some 1) none = [y, z] := fun _ _ _ => rfl
    rw [hcut]
    have e20 := Ex.new (o := HO.tup [V.int ((walk hs L1).paid.map (·.2)).sum, V.int ((allOwed (walk hs L1)).map (·.2)).sum]) hp20
    have k20 : (upd H19 p20 (.tup [V.int ((walk hs L1).paid.map (·.2)).sum, V.int ((allOwed (walk hs L1)).map (·.2)).sum])) p20 = some (.tup (([((walk hs L1).paid.map (·.2)).sum, ((allOwed (walk hs L1)).map (·.2)).sum] : List Int).map V.int)) := upd_same
    generalize upd H19 p20 (.tup [V.int ((walk hs L1).paid.map (·.2)).sum, V.int ((allOwed (walk hs L1)).map (·.2)).sum]) = H20 at e20 k20 ⊢
    walk_at "go"
    refine i_tup ?_
    walk_at "go"
    refine ⟨sz (by simp), fun p21 hp21 => ?_⟩
    have e21 := Ex.new (o := HO.tup [V.int (pd0 + posSum ow ys), V.int 0]) hp21
    have k21 : (upd H20 p21 (.tup [V.int (pd0 + posSum ow ys), V.int 0])) p21 = some (.tup (([pd0 + posSum ow ys, 0] : List Int).map V.int)) := upd_same
    refine i_eqT (SqT.of (e21 _ _ k20)) (SqT.of k21) ?_
    rw [PO.paid, PO.left, decide_eq_true rfl]
    exact q _
end

/-- what a book may be behind j of the drawn deeds, and what follows from it -/
structure Stages (Stg : House → Nat → List Page → Prop) : Prop where
  first : ∀ hs cs ps m, hs.Ok → CastOk cs → BookOk cs ps → (m = 15 ∨ m = 18) → Stg hs 0 (ps.take m)
  ends : ∀ hs j ps, Stg hs j ps → ∃ ps0 pg, ps = ps0 ++ [pg]
  good : ∀ hs j ps, Stg hs j ps → Good hs ps
  len : ∀ hs j ps, Stg hs j ps → j ≤ 8 → ps.length ≤ 40
  low : ∀ hs j ps, Stg hs j ps → 2 ≤ (walk hs ps).tables.length ∧ (walk hs ps).tables.length ≤ 12
  names : ∀ hs j ps, Stg hs j ps → ∀ z ∈ keys (walk hs ps).tables, z ∈ names12
  own : ∀ hs j ps, Stg hs j ps → ∀ z ∈ keys (walk hs ps).tables, 0 ≤ owed (walk hs ps) z ∧ owed (walk hs ps) z < 1000000000
  next : ∀ hs j ps pg ys dd n, hs.Ok → Stg hs j (ps ++ [pg]) → j < 8 → ys.Perm (keys (walk hs (ps ++ [pg])).tables) → NextOk (penL ys (owed (walk hs (ps ++ [pg])))) dd →
    Stg hs (j + 1) (ps ++ [pg] ++ [⟨pg.minute, n, dd⟩]) ∧ keys (walk hs (ps ++ [pg] ++ [⟨pg.minute, n, dd⟩])).tables = keys (walk hs (ps ++ [pg])).tables ∧
    (ys.map (owed (walk hs (ps ++ [pg] ++ [⟨pg.minute, n, dd⟩])))).sum = (ys.map (owed (walk hs (ps ++ [pg])))).sum ∧ Turned (walk hs (ps ++ [pg])) (walk hs (ps ++ [pg] ++ [⟨pg.minute, n, dd⟩])) dd
  paid : ∀ hs ps pg ys, hs.Ok → Stg hs 8 (ps ++ [pg]) → ys.Perm (keys (walk hs (ps ++ [pg])).tables) →
    PaidOk hs (owed (walk hs (ps ++ [pg]))) (((walk hs (ps ++ [pg])).paid.map (·.2)).sum) (pg.minute + 1) (ps ++ [pg] ++ payPages (pg.minute + 1) (owed (walk hs (ps ++ [pg]))) 0 ys) ys
section
variable {P : Program} {w : World} {K : PySem.W.Frag} {mg : Str → Option Value} {base : Heap} {k : Nat}
theorem cut_is {K : PySem.W.Frag} {H : Hp} {bv : V} {ps : List Page} {m : Nat} {Q : VK} (h : Is H bv (bookD ps)) (hm : m ≤ 1000) (q : ∀ H' v, Ex H H' → Is H' v (bookD (ps.take m)) → Q v H') : rSlA K bv none (some (m : Int)) H Q := by
  unfold bookD at h
  simp only [Is] at h
  obtain ⟨a, xs, rfl, ha, hx⟩ := h
  have hl : xs.length = ps.length := by rw [hx.len, List.length_map]
  have e2 : HT.sIx xs.length xs.length (some (m : Int)) = min m xs.length := by
    show (if (m : Int) < 0 then ((m : Int) + xs.length).toNat else min (m : Int).toNat xs.length) = _
    rw [if_neg (by omega)]; simp
  refine ⟨a, xs, rfl, SqT.of ha, fun hc => ?_, fun hc p hp => ?_⟩
  · have h2 := hc.2
    rw [e2] at h2
    refine q H _ (Ex.refl H) ?_
    rw [List.take_of_length_le (by omega)]
    exact is_tup ha hx
  · refine q _ _ (Ex.new hp) ?_
    have hcut : cutV xs none (some (m : Int)) = xs.take m := by
      have e1 : HT.sIx xs.length 0 none = 0 := rfl
      unfold cutV
      rw [e1, e2, List.drop_zero, Nat.sub_zero, List.take_eq_take_iff]
      omega
    rw [hcut]
    have ht : ∀ (xs : List V) (ds : List D) (m : Nat), IsAll H xs ds → IsAll H (xs.take m) (ds.take m) := by
      intro xs
      induction xs with
      | nil => intro ds m h; cases ds with
        | nil => simp [IsAll]
        | cons _ _ => simp [IsAll] at h
      | cons x xs ih => intro ds m h; cases ds with
        | nil => simp [IsAll] at h
        | cons d ds =>
          simp only [IsAll] at h
          cases m with
          | zero => simp [IsAll]
          | succ m => simp only [List.take_succ_cons, IsAll]; exact ⟨h.1, ih ds m h.2⟩
    refine is_tup upd_same (IsAll.mono (TEx.new hp) _ ?_)
    rw [List.map_take]
    exact ht _ _ m hx
theorem deed_word (dd : Deed) : ∃ (wd : Str) (l : List D), dd.d = .tup (.str wd :: l) := by cases dd <;> exact ⟨_, _, rfl⟩
abbrev N_law : List Str := ["_law_script", "_law_feed_here", "_law_house_here", "_law_book_here", "_law_k", "_law_ahead", "_law_deed_here", "_law_page"]
abbrev P_law : List Str := ["_law_script"]
theorem sc_law : FnScope N_law P_law (defScope s_law) := ⟨rfl, rfl, rfl, by decide +kernel, rfl, by decide +kernel, by decide +kernel⟩
def sp_law (K : PySem.W.Frag) : Sp := fun vs H Q _ => ∃ (a : Addr) (ns : List Int), vs = [.ref a] ∧ SqL K H a (ns.map V.int) ∧ ns.length ≤ 63 ∧ ∀ H', Q (.bl true) H'
theorem ok_law {Stg : House → Nat → List Page → Prop} (Z : Stages Stg) {fL : Addr} {fd : FuncData} (F : FunD K d_law.name d_law.qual d_law.params d_law.body d_law.scope (d_law.dvs K) (d_law.kws K) fL fd) (T : Tb w K mg) (c_law_feed : Cal P w K mg base 1 "_law_feed" [] (sp_law_feed K)) (c_law_house : Cal P w K mg base 2 "_law_house" [] sp_law_house) (c_law_book : Cal P w K mg base 5 "_law_book" [] (sp_law_book K))
    (c_to_pay : Cal P w K mg base 9 "to_pay" [.non] (sp_to_pay K)) (c_law_next : Cal P w K mg base 2 "_law_next" [] sp_law_next) (c_law_is_parted : Cal P w K mg base 10 "_law_is_parted" [] (sp_law_is_parted K)) (c_law_is_paid : Cal P w K mg base 10 "_law_is_paid" [] (sp_law_is_paid K)) : FnOk P w K mg base CX0 11 fL fd P_law (sp_law K) := by
  refine F.ok sc_law (fun vs H Q E h => ?_) fun cdv A outer s H vs Q E hr h => have hu := hu_of hr; ⟨_, PSs.nox (pss_cons (ps_set (i := 1) sc_law.nd rfl (Or.inl rfl) (pe_cl c_law_feed hr (pa_cons (pv 0) pa_nil))) (pss_cons (ps_set (i := 2) sc_law.nd rfl (Or.inl rfl) (pe_cl c_law_house hr (pa_cons (pv 1) pa_nil))) (pss_cons (ps_set (i := 3) sc_law.nd rfl (Or.inl rfl) (pe_slice sl_tupA (pe_cl c_law_book hr (pa_cons (pv 1) (pa_cons (pv 2) (pa_cons (pe_lst (pa_cons pe_str (pa_cons pe_str (pa_cons pe_str (pa_cons pe_str (pa_cons pe_str (pa_cons pe_str pa_nil))))))) pa_nil)))) po_none (po_some pe_int))) (pss_cons (ps_if (pt_cmpR op_gt (pe_callB call_len_seq rfl T.len boot_len (pa_cons (pe_lc rfl sc_law.nd (pi_tup (pv 3)) (blkOk_by (own := [("_law_page", 7)]) (N := N_law) (sc := defScope s_law) (by decide +kernel)) (fun _ _ _ _ _ => (pg_name (i := 7) sc_law.nd rfl (Or.inl rfl))) (fun _ _ _ _ _ => (pts_one (pt_cmpR op_eq (pe_ix (ix_tupK K rfl) (pe_ix (ix_tupK K rfl) (pv 7) pe_int (fun _ _ => rfl)) pe_int (fun _ _ => rfl)) pe_str (nomark _)))) (fun _ _ _ _ _ => (pv 7))) pa_nil)) pe_int (nomark _)) (pss_one (ps_set (i := 3) sc_law.nd rfl (Or.inl rfl) (pe_slice sl_tupA (pv 3) po_none (po_some pe_int)))) pss_nil) (pss_cons (ps_for PassesOwn.never rfl (pi_range1 rfl T.range (pa_cons pe_int pa_nil)) (pg_name (i := 4) sc_law.nd rfl (Or.inl rfl)) (pss_cons (ps_set (i := 5) sc_law.nd rfl (Or.inl rfl) (pe_callTy (call_dictPT rfl) rfl T.dict boot_dict (pa_cons (pe_cl c_to_pay hr (pa_cons (pv 2) (pa_cons (pv 3) pa_nil))) pa_nil))) (pss_cons (ps_set (i := 6) sc_law.nd rfl (Or.inl rfl) (pe_cl c_law_next hr (pa_cons (pv 1) (pa_cons (pv 5) pa_nil)))) (pss_cons (ps_set (i := 3) sc_law.nd rfl (Or.inl rfl) (pe_op op_catT (pv 3) (pe_tup (pa_cons (pe_tup (pa_cons (pe_tup (pa_cons (pe_ix ix_tup (pe_ix ix_tup (pe_ix ix_tup (pv 3) (pe_un un_neg pe_int) (fun _ _ => rfl)) pe_int (fun _ _ => rfl)) pe_int (fun _ _ => rfl)) (pa_cons (pe_op op_add pe_int (pv 4)) pa_nil))) (pa_cons (pv 6) pa_nil))) pa_nil)))) (pss_one (ps_if (pt_not (pt_val (pe_cl c_law_is_parted hr (pa_cons (pv 2) (pa_cons (pv 3) (pa_cons (pv 5) pa_nil)))))) (pss_one (ps_ret pe_bl)) pss_nil)))))) (pss_one (ps_ret (pe_cl c_law_is_paid hr (pa_cons (pv 2) (pa_cons (pv 3) pa_nil)))))))))), ?_⟩
  · obtain ⟨_, _, rfl, _⟩ := h; rfl
  · obtain ⟨a, ns, rfl, ha, hns, q⟩ := h
    walk_at "go"
    refine ⟨a, ns, rfl, ha, hns, fun H1 f c e1 hf F1 => ?_⟩
    walk_at "go"
    refine ⟨f, c, 0, rfl, F1, by omega, fun H2 hv hs x2 F2 hok hh => ?_⟩
    walk_at "go"
    refine i_lst ?_
    walk_at "go"
    refine ⟨sz (by simp), fun wl hwl => ?_⟩
    have e3 := Ex.new (o := HO.lst [V.str "ask", V.str "ask", V.str "ask", V.str "strike", V.str "rush", V.str "serve"]) hwl
    have k3 : (upd H2 wl (.lst [V.str "ask", V.str "ask", V.str "ask", V.str "strike", V.str "rush", V.str "serve"])) wl = some (.lst (words6.map V.str)) := upd_same
    generalize upd H2 wl (.lst [V.str "ask", V.str "ask", V.str "ask", V.str "strike", V.str "rush", V.str "serve"]) = H3 at e3 k3 ⊢
    walk_at "go"
    refine ⟨f, c, 300, hv, hs, wl, rfl, (F2.ex_ e3).up (by omega), by omega, Is.mono e3.tex _ hh, hok, k3, fun H4 p4 ps cs x4 F4 hb cok bok => ?_⟩
    have hh4 := Is.mono ((F2.ex_ e3).tex x4) _ (Is.mono e3.tex _ hh)
    walk_at "go"
    refine cut_is (m := 18) hb (by omega) fun H5 bv e5 hb5 => ?_
    have F5 := F4.ex_ e5
    have hh5 := Is.mono e5.tex _ hh4
    with_reducible apply i_gN
    with_reducible apply i_seq
    with_reducible refine i_optS (fun σ H' => ∃ (bv' : V) (m : Nat), (m = 15 ∨ m = 18) ∧ σ = [some (.ref a), some (.ref f), some hv, some bv', none, none, none, none] ∧ Ex H5 H' ∧ Is H' bv' (bookD (ps.take m))) (fun σ H' h => ?_) fun kk => ?_
    rotate_left
    · walk_at "go"
      have hb5' := hb5
      unfold bookD at hb5'
      simp only [Is] at hb5'
      obtain ⟨ba, bx, rfl, hba, hbx⟩ := hb5'
      have hbl : bx.length ≤ 18 := by rw [hbx.len, List.length_map, List.length_take]; omega
      refine ⟨ba, rfl, ⟨_, SqT.of hba⟩, fun D hD => lc_tup (xs := bx) (fun i H' => ∃ out : List V, Ex H5 H' ∧ H' D = some (.lst out) ∧ out.length ≤ i) ⟨[], Ex.new hD, upd_same, Nat.le_refl _⟩ (fun i H' _ h => ?_) (fun i x H' hx h => ?_) fun H6 h => ?_⟩
      · obtain ⟨out, ex, _⟩ := h
        exact SqT.of (ex _ _ hba)
      · obtain ⟨out, ex, ko, hol⟩ := h
        obtain ⟨dd, hdd, hxi⟩ := hbx.at hx
        rw [List.getElem?_map] at hdd
        obtain ⟨pg, hpg, rfl⟩ := Option.map_eq_some_iff.mp hdd
        have hi : i < 18 := by have := (List.getElem?_eq_some_iff.mp hx).1; omega
        obtain ⟨wd, l, hwd⟩ := deed_word pg.deed
        walk_at "go"
        refine ix_is (i := 1) (ds := [nameD pg.minute pg.number, pg.deed.d]) (Is.mono ex.tex _ hxi) rfl fun dv hdv => ?_
        walk_at "go"
        rw [hwd] at hdv
        refine ix_isS (i := 0) hdv rfl ?_
        walk_at "go"
        refine i_ite (fun e => ?_) fun e => ?_
        · walk_at "go"
          exact ⟨out, ko, szl (by omega), out ++ [x], Ex.mut ex hD, upd_same, by simp; omega⟩
        · exact ⟨out, ex, ko, by omega⟩
      · obtain ⟨out, e6, ko, _⟩ := h
        walk_at "go"
        refine ⟨D, out, rfl, .inl (SqL.of ko), ?_⟩
        walk_at "go"
        have hb6 : Is H6 (.ref ba) (bookD (ps.take 18)) := Is.mono e6.tex _ (is_tup hba hbx)
        refine i_ite (fun e => ?_) fun e => ?_
        · walk_at "go"
          refine cut_is (m := 15) hb6 (by omega) fun H7 bv7 e7 hb7 => ?_
          exact kk _ _ ⟨bv7, 15, .inl rfl, rfl, e6.trans e7, by rw [List.take_take] at hb7; exact hb7⟩
        · exact kk _ _ ⟨_, 18, .inr rfl, rfl, e6, hb6⟩
    · obtain ⟨bv', m, hm, rfl, ex, hbv⟩ := h
      have S0 := Z.first hs cs ps m hok cok bok hm
      generalize ps.take m = qs at hbv S0
      have F6 := F5.ex_ ex
      have hh6 := Is.mono ex.tex _ hh5
      clear hb5 hb
      walk_at "go"
      refine ⟨8, rfl, by omega, by omega, for_range (fun i σ H'' => ∃ (bv : V) (qs : List Page) (z4 z5 z6 z7 : Option V) (n : Nat), σ = [some (.ref a), some (.ref f), some hv, some bv, z4, z5, z6, z7] ∧ Is H'' bv (bookD qs) ∧ Stg hs i qs ∧ Is H'' hv hs.d ∧ Feed H'' f c n ∧ n ≤ 4000 + 30 * i) ?_ (fun i σ H'' hi h => ?_) fun σ H'' h => ?_⟩
      · exact ⟨bv', qs, _, _, _, _, _, rfl, hbv, S0, hh6, F6, by omega⟩
      · obtain ⟨bv, qs, z4, z5, z6, z7, n, rfl, hb7, S, hh7, F7, hn⟩ := h
        have hi8 : i < 8 := hi
        obtain ⟨q0, pg, rfl⟩ := Z.ends hs i qs S
        have good := Z.good _ _ _ S
        have low := Z.low _ _ _ S
        have own := Z.own _ _ _ S
        have nms := Z.names _ _ _ S
        have ok : (walk hs (q0 ++ [pg])).Ok := by have := good.ok (q0 ++ [pg]).length (Nat.le_refl _); rwa [List.take_of_length_le (Nat.le_refl _)] at this
        have hlen7 := Z.len _ _ _ S (by omega)
        walk_at "go"
        refine ⟨hv, bv, hs, q0 ++ [pg], rfl, hh7, hb7, hok, good, fun H8 p8 as ys e8 k8 yperm ysort zpair => ?_⟩
        have hynd : ys.Nodup := yperm.nodup_iff.mpr ok.ndT
        have hyl : ys.length = (walk hs (q0 ++ [pg])).tables.length := by rw [yperm.length_eq]; unfold keys; rw [List.length_map]
        walk_at "go"
        refine ⟨p8, as, _, rfl, k8, zpair, fun b hb9 => ?_⟩
        rw [merge_pen (by rw [keys_penL]; exact hynd)]
        have e9 := Ex.new (o := HO.dK (penK (penL ys (owed (walk hs (q0 ++ [pg])))))) hb9
        have k9 : (upd H8 b (.dK (penK (penL ys (owed (walk hs (q0 ++ [pg]))))))) b = some (.dK (penK (penL ys (owed (walk hs (q0 ++ [pg])))))) := upd_same
        have F9 := (F7.ex_ e8).ex_ e9
        have e79 := e8.trans e9
        have nbf := (F7.ex_ e8).ne hb9
        generalize upd H8 b (.dK (penK (penL ys (owed (walk hs (q0 ++ [pg])))))) = H9 at e9 k9 F9 e79 ⊢
        walk_at "go"
        refine ⟨f, c, n, b, _, rfl, F9, by omega, k9, by rw [keys_penL]; exact hynd, by unfold penL; rw [List.length_map]; omega, by unfold penL; rw [List.length_map]; omega, fun p hp => ?_, fun H10 dv dd x10 F10 hdv nxt => ?_⟩
        · unfold penL at hp
          obtain ⟨z, hz, rfl⟩ := List.mem_map.mp hp
          exact own z (yperm.mem_iff.mp hz)
        have t710 := e79.tex.trans (F9.tex x10)
        have hb10 := Is.mono t710 _ hb7
        have hh10 := Is.mono t710 _ hh7
        have k10 := x10 _ _ k9 nbf
        walk_at "go"
        refine i_tup ?_
        walk_at "go"
        refine i_tup ?_
        walk_at "go"
        refine i_tup ?_
        walk_at "go"
        have hbl := hb10
        rw [last_d] at hbl
        refine ix_last hbl fun lv hlv => ?_
        walk_at "go"
        refine ix_is (i := 0) (ds := [nameD pg.minute pg.number, pg.deed.d]) hlv rfl fun nv hnv => ?_
        walk_at "go"
        refine ix_isI (i := 0) hnv rfl ?_
        walk_at "go"
        refine ⟨sz (by simp), fun p11 hp11 => ?_⟩
        have e11 := Ex.new (o := HO.tup [V.int pg.minute, V.int (900 + (0 + (i : Int)))]) hp11
        have k11 : (upd H10 p11 (.tup [V.int pg.minute, V.int (900 + (0 + (i : Int)))])) p11 = some (.tup [V.int pg.minute, V.int (900 + (0 + (i : Int)))]) := upd_same
        generalize upd H10 p11 (.tup [V.int pg.minute, V.int (900 + (0 + (i : Int)))]) = H11 at e11 k11 ⊢
        walk_at "go"
        refine ⟨sz (by simp), fun p12 hp12 => ?_⟩
        have e12 := Ex.new (o := HO.tup [V.ref p11, dv]) hp12
        have k12 : (upd H11 p12 (.tup [V.ref p11, dv])) p12 = some (.tup [V.ref p11, dv]) := upd_same
        generalize upd H11 p12 (.tup [V.ref p11, dv]) = H12 at e12 k12 ⊢
        walk_at "go"
        refine ⟨sz (by simp), fun p13 hp13 => ?_⟩
        have e13 := Ex.new (o := HO.tup [V.ref p12]) hp13
        have k13 : (upd H12 p13 (.tup [V.ref p12])) p13 = some (.tup [V.ref p12]) := upd_same
        generalize upd H12 p13 (.tup [V.ref p12]) = H13 at e13 k13 ⊢
        have e1013 := (e11.trans e12).trans e13
        have hb13 := Is.mono e1013.tex _ hb10
        have hb13' := hb13
        unfold bookD at hb13'
        simp only [Is] at hb13'
        obtain ⟨ba, bx, rfl, hba, hbx⟩ := hb13'
        have hbxl : bx.length ≤ 40 := by rw [hbx.len, List.length_map]; exact hlen7
        refine ⟨ba, p13, _, _, rfl, rfl, SqT.of hba, SqT.of k13, fun z => ?_, sz (by simp; omega), fun z => absurd z (by simp), fun _ p14 hp14 => ?_⟩
        · have := hbx.len; rw [z, List.length_map] at this; simp at this
        have e14 := Ex.new (o := HO.tup (bx ++ [V.ref p12])) hp14
        have k14 : (upd H13 p14 (.tup (bx ++ [V.ref p12]))) p14 = some (.tup (bx ++ [V.ref p12])) := upd_same
        generalize upd H13 p14 (.tup (bx ++ [V.ref p12])) = H14 at e14 k14 ⊢
        have e1014 := e1013.trans e14
        obtain ⟨S', hkeys, hsum, htn⟩ := Z.next hs i q0 pg ys dd (900 + (0 + (i : Int))) hok S hi8 yperm nxt
        have hnew : Is H14 (.ref p14) (bookD (q0 ++ [pg] ++ [⟨pg.minute, 900 + (0 + (i : Int)), dd⟩])) := by
          rw [bookD_app]
          refine is_tup k14 (IsAll.app (IsAll.mono e14.tex _ hbx) ?_)
          simp only [List.map_cons, List.map_nil, IsAll, and_true]
          refine Is.mono (e13.trans e14).tex _ (is_tup k12 ?_)
          simp only [IsAll, and_true]
          exact ⟨is_tup (e12 _ _ k11) (by simp [IsAll, Is]), Is.mono (e11.trans e12).tex _ hdv⟩
        walk_at "go"
        refine ⟨hv, .ref p14, b, hs, q0 ++ [pg], ⟨pg.minute, 900 + (0 + (i : Int)), dd⟩, ys, rfl, Is.mono e1014.tex _ hh10, hnew, hok, Z.good _ _ _ S', e1014 _ _ k10, yperm, ysort, hkeys, fun z hz => nms z (yperm.mem_iff.mp hz), by omega, hsum, htn, fun H15 e15 => ?_⟩
        walk_at "go"
        refine i_ite (fun e => absurd e (by decide)) fun _ => ?_
        walk_at "go"
        exact ⟨_, _, _, _, _, _, n + 30, rfl, Is.mono e15.tex _ hnew, S', Is.mono (e1014.trans e15).tex _ hh10, F10.ex_ (e1014.trans e15), by omega⟩
      · obtain ⟨bv, qs, z4, z5, z6, z7, n, rfl, hb7, S, hh7, F7, hn⟩ := h
        have S : Stg hs 8 qs := S
        obtain ⟨q0, pg, rfl⟩ := Z.ends hs 8 qs S
        walk_at "go"
        refine ⟨hv, bv, hs, q0, pg, rfl, hh7, hb7, hok, Z.good _ _ _ S, fun z => ?_, fun ys yperm => Z.paid hs q0 pg ys hok S yperm, q⟩
        have low := (Z.low _ _ _ S).1
        have : (keys (walk hs (q0 ++ [pg])).tables).length = (walk hs (q0 ++ [pg])).tables.length := by unfold keys; rw [List.length_map]
        rw [z] at this
        simp at this
        omega
end
theorem tupAt_ok {K : PySem.W.Frag} {a : Addr} {vs : List He.Dv} (h : tupAt K a vs = true) (H : Hp) : SqT K H a (vs.map (He.Dv.v K)) := by
  unfold tupAt at h
  cases q : K.lookup a with
  | none => rw [q] at h; cases h
  | some o =>
    rw [q] at h
    obtain ⟨cl, dd, dt, sl⟩ := o
    cases cl with
    | type c =>
      cases dt with
      | seq its n =>
        obtain ⟨h1, h2⟩ := He.ba (show (decide (c = "tuple") && (decide (its.size ≤ sizeLine) && He.relAll (vs.map (He.Dv.v K)) its.toList)) = true from h)
        obtain ⟨h3, h4⟩ := He.ba h2
        exact .inr ⟨_, its, n, q, congrArg Value.type (of_decide_eq_true h1), rfl, of_decide_eq_true h3, He.relAll_ok h4⟩
      | _ => cases h
    | _ => cases dt <;> cases h
theorem kdct {K : PySem.W.Frag} {w : World} {a : Addr} {es : Array DictEntry} {n : Nat} (D : KDict K w a es n) {kvs : List (Str × He.Dv)} (h : He.valsB K a kvs = true) {q : Str × He.Dv} (hq : q ∈ kvs) : KDct K w a q.1 (q.2.v K) := by
  obtain ⟨u, h1, h2⟩ := He.valsB_ok h hq
  exact ⟨es, n, u, D.at_, D.lit, h1, h2⟩
section
variable {P : Program} {w : World} {K : PySem.W.Frag} {h : Heap} {mg : Str → Option Value} {base : Heap}
theorem dn (X : K.In h) (G : h.Ns mainGlobals mg) (c : He.SaysX fas fns tabs [] ex w h K) (i : Nat) {d : He.DefD} (e : fns[i]? = some d) (e2 : fas[i]? = some (.glo d.name)) (e3 : d.at_ = (d.name, none)) : Dn K mg d := by
  obtain ⟨fd, F⟩ := c.t.d.def_ i (d := d) e
  refine ⟨_, fd, F, ?_⟩
  have := He.glo_ok X G (c.t.d.fact i (f := .glo d.name) e2)
  rw [e3]
  exact this
def tb (X : K.In h) (G : h.Ns mainGlobals mg) (c : He.SaysX fas fns tabs [] ex w h K) : Tb w K mg := by
  have hex := c.more
  have h1 := He.ba (show (He.tupB K "LIVING" [.str "asked", .str "fired", .str "served"] && (He.valsB K (He.ga K "WHYS") whys && (He.valsB K (He.ga K "DOES") does && (He.valsB K (He.ga K "BROUGHT") [("serve", .str "served"), ("strike", .str "struck")]
    && (He.valsB K (He.ga K "WANTED") [("serve", .adr (inDict "WANTED" "serve")), ("strike", .adr (inDict "WANTED" "strike"))] && (tupAt K (inDict "WANTED" "serve" K) [.str "fired"] && tupAt K (inDict "WANTED" "strike" K) [.str "asked", .str "fired"])))))) = true from hex)
  have h2 := He.ba h1.2
  have h3 := He.ba h2.2
  have h4 := He.ba h3.2
  have h5 := He.ba h4.2
  have h6 := He.ba h5.2
  have D0 : ∃ es n, KDict K w (He.ga K "WANTED") es n := c.t.tab 0 (t := (fun K => He.ga K "WANTED", kW)) rfl
  have D1 : ∃ es n, KDict K w (He.ga K "BROUGHT") es n := c.t.tab 1 (t := (fun K => He.ga K "BROUGHT", kW)) rfl
  have D2 : ∃ es n, KDict K w (He.ga K "WHYS") es n := c.t.tab 2 (t := (fun K => He.ga K "WHYS", kD)) rfl
  have D3 : ∃ es n, KDict K w (He.ga K "DOES") es n := c.t.tab 3 (t := (fun K => He.ga K "DOES", kD)) rfl
  refine { list := He.free_ok X G (c.t.d.fact 59 (f := .free "list") rfl), tuple := He.free_ok X G (c.t.d.fact 60 (f := .free "tuple") rfl), len := He.free_ok X G (c.t.d.fact 61 (f := .free "len") rfl), any := He.free_ok X G (c.t.d.fact 62 (f := .free "any") rfl), all := He.free_ok X G (c.t.d.fact 63 (f := .free "all") rfl), sum := He.free_ok X G (c.t.d.fact 64 (f := .free "sum") rfl), max := He.free_ok X G (c.t.d.fact 65 (f := .free "max") rfl), min := He.free_ok X G (c.t.d.fact 66 (f := .free "min") rfl), sorted := He.free_ok X G (c.t.d.fact 67 (f := .free "sorted") rfl), set := He.free_ok X G (c.t.d.fact 68 (f := .free "set") rfl), zip := He.free_ok X G (c.t.d.fact 69 (f := .free "zip") rfl), range := He.free_ok X G (c.t.d.fact 70 (f := .free "range") rfl), dict := He.free_ok X G (c.t.d.fact 71 (f := .free "dict") rfl), enumerate := He.free_ok X G (c.t.d.fact 72 (f := .free "enumerate") rfl), isinstance := He.free_ok X G (c.t.d.fact 73 (f := .free "isinstance") rfl), str := He.free_ok X G (c.t.d.fact 74 (f := .free "str") rfl), percent := He.int_ok X G (c.t.d.fact 75 (f := .int "MOST_PERCENT" 100) rfl), aLIVING := He.ga K "LIVING", gLIVING := He.glo_ok X G (c.t.d.fact 76 (f := .glo "LIVING") rfl), living := fun H => He.tupB_ok h1.1 H, aWANTED := He.ga K "WANTED", gWANTED := He.glo_ok X G (c.t.d.fact 77 (f := .glo "WANTED") rfl), wServe := inDict "WANTED" "serve" K, kServe := ?ks, tServe := fun H => tupAt_ok h6.1 H, wStrike := inDict "WANTED" "strike" K, kStrike := ?kt, tStrike := fun H => tupAt_ok h6.2 H, aBROUGHT := He.ga K "BROUGHT", gBROUGHT := He.glo_ok X G (c.t.d.fact 78 (f := .glo "BROUGHT") rfl), bServe := ?bs, bStrike := ?bt, aWHYS := He.ga K "WHYS", gWHYS := He.glo_ok X G (c.t.d.fact 79 (f := .glo "WHYS") rfl), whys := ?wh, aDOES := He.ga K "DOES", gDOES := He.glo_ok X G (c.t.d.fact 80 (f := .glo "DOES") rfl), does := ?ds }
  case ks => obtain ⟨es, n, D⟩ := D0; exact kdct D h5.1 (q := ("serve", .adr (inDict "WANTED" "serve"))) List.mem_cons_self
  case kt => obtain ⟨es, n, D⟩ := D0; exact kdct D h5.1 (q := ("strike", .adr (inDict "WANTED" "strike"))) (List.mem_cons_of_mem _ List.mem_cons_self)
  case bs => obtain ⟨es, n, D⟩ := D1; exact kdct D h4.1 (q := ("serve", .str "served")) List.mem_cons_self
  case bt => obtain ⟨es, n, D⟩ := D1; exact kdct D h4.1 (q := ("strike", .str "struck")) (List.mem_cons_of_mem _ List.mem_cons_self)
  case wh =>
    obtain ⟨es, n, D⟩ := D2
    have go : ∀ (wd nm : Str), (wd, He.Dv.glo nm) ∈ whys → mg nm = some (.ref (He.ga K nm)) → ∃ f, KDct K w _ wd (.ref f) ∧ mg nm = some (.ref f) := fun wd nm hm hg => ⟨_, kdct D h2.1 hm, hg⟩
    intro q hq
    simp only [List.mem_cons, List.not_mem_nil, or_false] at hq
    rcases hq with rfl | rfl | rfl | rfl | rfl | rfl | rfl | rfl | rfl
    · exact go "sit" "why_sit" List.mem_cons_self (He.glo_ok X G (c.t.d.fact 18 (f := .glo "why_sit") rfl))
    · exact go "go" "why_go" (List.mem_cons_of_mem _ List.mem_cons_self) (He.glo_ok X G (c.t.d.fact 20 (f := .glo "why_go") rfl))
    · exact go "ask" "why_ask" (List.mem_cons_of_mem _ (List.mem_cons_of_mem _ List.mem_cons_self)) (He.glo_ok X G (c.t.d.fact 22 (f := .glo "why_ask") rfl))
    · exact go "rush" "why_fire" (List.mem_cons_of_mem _ (List.mem_cons_of_mem _ (List.mem_cons_of_mem _ List.mem_cons_self))) (He.glo_ok X G (c.t.d.fact 24 (f := .glo "why_fire") rfl))
    · exact go "serve" "why_bring" (List.mem_cons_of_mem _ (List.mem_cons_of_mem _ (List.mem_cons_of_mem _ (List.mem_cons_of_mem _ List.mem_cons_self)))) (He.glo_ok X G (c.t.d.fact 25 (f := .glo "why_bring") rfl))
    · exact go "strike" "why_bring" (List.mem_cons_of_mem _ (List.mem_cons_of_mem _ (List.mem_cons_of_mem _ (List.mem_cons_of_mem _ (List.mem_cons_of_mem _ List.mem_cons_self))))) (He.glo_ok X G (c.t.d.fact 25 (f := .glo "why_bring") rfl))
    · exact go "pay" "why_pay" (List.mem_cons_of_mem _ (List.mem_cons_of_mem _ (List.mem_cons_of_mem _ (List.mem_cons_of_mem _ (List.mem_cons_of_mem _ (List.mem_cons_of_mem _ List.mem_cons_self)))))) (He.glo_ok X G (c.t.d.fact 26 (f := .glo "why_pay") rfl))
    · exact go "take" "why_take" (List.mem_cons_of_mem _ (List.mem_cons_of_mem _ (List.mem_cons_of_mem _ (List.mem_cons_of_mem _ (List.mem_cons_of_mem _ (List.mem_cons_of_mem _ (List.mem_cons_of_mem _ List.mem_cons_self))))))) (He.glo_ok X G (c.t.d.fact 27 (f := .glo "why_take") rfl))
    · exact go "even" "why_even" (List.mem_cons_of_mem _ (List.mem_cons_of_mem _ (List.mem_cons_of_mem _ (List.mem_cons_of_mem _ (List.mem_cons_of_mem _ (List.mem_cons_of_mem _ (List.mem_cons_of_mem _ (List.mem_cons_of_mem _ List.mem_cons_self)))))))) (He.glo_ok X G (c.t.d.fact 28 (f := .glo "why_even") rfl))
  case ds =>
    obtain ⟨es, n, D⟩ := D3
    have go : ∀ (wd nm : Str), (wd, He.Dv.glo nm) ∈ does → mg nm = some (.ref (He.ga K nm)) → ∃ f, KDct K w _ wd (.ref f) ∧ mg nm = some (.ref f) := fun wd nm hm hg => ⟨_, kdct D h3.1 hm, hg⟩
    intro q hq
    simp only [List.mem_cons, List.not_mem_nil, or_false] at hq
    rcases hq with rfl | rfl | rfl | rfl | rfl | rfl | rfl | rfl | rfl
    · exact go "sit" "do_sit" List.mem_cons_self (He.glo_ok X G (c.t.d.fact 29 (f := .glo "do_sit") rfl))
    · exact go "go" "do_go" (List.mem_cons_of_mem _ List.mem_cons_self) (He.glo_ok X G (c.t.d.fact 30 (f := .glo "do_go") rfl))
    · exact go "ask" "do_ask" (List.mem_cons_of_mem _ (List.mem_cons_of_mem _ List.mem_cons_self)) (He.glo_ok X G (c.t.d.fact 32 (f := .glo "do_ask") rfl))
    · exact go "rush" "do_fire" (List.mem_cons_of_mem _ (List.mem_cons_of_mem _ (List.mem_cons_of_mem _ List.mem_cons_self))) (He.glo_ok X G (c.t.d.fact 34 (f := .glo "do_fire") rfl))
    · exact go "serve" "do_bring" (List.mem_cons_of_mem _ (List.mem_cons_of_mem _ (List.mem_cons_of_mem _ (List.mem_cons_of_mem _ List.mem_cons_self)))) (He.glo_ok X G (c.t.d.fact 35 (f := .glo "do_bring") rfl))
    · exact go "strike" "do_bring" (List.mem_cons_of_mem _ (List.mem_cons_of_mem _ (List.mem_cons_of_mem _ (List.mem_cons_of_mem _ (List.mem_cons_of_mem _ List.mem_cons_self))))) (He.glo_ok X G (c.t.d.fact 35 (f := .glo "do_bring") rfl))
    · exact go "pay" "do_pay" (List.mem_cons_of_mem _ (List.mem_cons_of_mem _ (List.mem_cons_of_mem _ (List.mem_cons_of_mem _ (List.mem_cons_of_mem _ (List.mem_cons_of_mem _ List.mem_cons_self)))))) (He.glo_ok X G (c.t.d.fact 37 (f := .glo "do_pay") rfl))
    · exact go "take" "do_take" (List.mem_cons_of_mem _ (List.mem_cons_of_mem _ (List.mem_cons_of_mem _ (List.mem_cons_of_mem _ (List.mem_cons_of_mem _ (List.mem_cons_of_mem _ (List.mem_cons_of_mem _ List.mem_cons_self))))))) (He.glo_ok X G (c.t.d.fact 38 (f := .glo "do_take") rfl))
    · exact go "even" "do_even" (List.mem_cons_of_mem _ (List.mem_cons_of_mem _ (List.mem_cons_of_mem _ (List.mem_cons_of_mem _ (List.mem_cons_of_mem _ (List.mem_cons_of_mem _ (List.mem_cons_of_mem _ (List.mem_cons_of_mem _ List.mem_cons_self)))))))) (He.glo_ok X G (c.t.d.fact 39 (f := .glo "do_even") rfl))
theorem facts {Stg : House → Nat → List Page → Prop} (Z : Stages Stg) {f : Addr} (X : K.In h) (G : h.Ns mainGlobals mg) (hfa : mg ("law" : Str) = some (.ref f)) (c : He.SaysX fas fns tabs [] ex w h K) :
    ∃ fd : FuncData, (∀ (s : Shared) (v : Value), BindsTo s fd ⟨[v], []⟩ [("_law_script", v)]) ∧ ∀ base : Heap, K.In base → base.Ns mainGlobals mg → FnOk P w K mg base CX0 11 f fd ["_law_script"] (sp_law K) := by
  obtain ⟨fd, F⟩ := c.t.d.def_ 58 (d := d_law) rfl
  have e := hfa.symm.trans (He.glo_ok X G (c.t.d.fact 58 (f := .glo "law") rfl))
  cases e
  have b := FunD.bindsA (ps := ["_law_script"]) F fun _ _ _ _ _ _ us hl => match us, hl with | [_], _ => rfl
  refine ⟨fd, fun s v => b s [v] rfl, fun base _ _ => ?_⟩
  have T : Tb w K mg := tb X G c
  have c_row_of := ok_row_of (P := P) (w := w) (base := base) (dn X G c 1 (d := d_row_of) rfl rfl rfl) 
  have c_up_to := ok_up_to (P := P) (w := w) (base := base) (dn X G c 5 (d := d_up_to) rfl rfl rfl) 
  have c_deal := ok_deal (P := P) (w := w) (base := base) (dn X G c 6 (d := d_deal) rfl rfl rfl) T.toFree c_up_to
  have c_price := ok_price (P := P) (w := w) (base := base) (dn X G c 2 (d := d_price) rfl rfl rfl) c_row_of
  have c_percent_at := ok_percent_at (P := P) (w := w) (base := base) (dn X G c 3 (d := d_percent_at) rfl rfl rfl) T.toFree
  have c_cost := ok_cost (P := P) (w := w) (base := base) (dn X G c 4 (d := d_cost) rfl rfl rfl) T.toFree c_price c_percent_at
  have c_sits := ok_sits (P := P) (w := w) (base := base) (dn X G c 8 (d := d_sits) rfl rfl rfl) 
  have c_state_in := ok_state_in (P := P) (w := w) (base := base) (dn X G c 10 (d := d_state_in) rfl rfl rfl) 
  have c_table_in := ok_table_in (P := P) (w := w) (base := base) (dn X G c 9 (d := d_table_in) rfl rfl rfl) c_sits
  have c_begins := ok_begins (P := P) (w := w) (base := base) (dn X G c 11 (d := d_begins) rfl rfl rfl) 
  have c_dealt := ok_dealt (P := P) (w := w) (base := base) (dn X G c 12 (d := d_dealt) rfl rfl rfl) T.toFree c_deal
  have c_all_owed := ok_all_owed (P := P) (w := w) (base := base) (dn X G c 13 (d := d_all_owed) rfl rfl rfl) T c_begins c_dealt
  have c_owed_in := ok_owed_in (P := P) (w := w) (base := base) (dn X G c 14 (d := d_owed_in) rfl rfl rfl) c_all_owed
  have c_asked_at := ok_asked_at (P := P) (w := w) (base := base) (dn X G c 15 (d := d_asked_at) rfl rfl rfl) T c_table_in c_state_in
  have c_barring_at := ok_barring_at (P := P) (w := w) (base := base) (dn X G c 16 (d := d_barring_at) rfl rfl rfl) T c_table_in c_state_in
  have c_has_item := ok_has_item (P := P) (w := w) (base := base) (dn X G c 17 (d := d_has_item) rfl rfl rfl) T
  have c_why_sit := ok_why_sit (P := P) (w := w) (base := base) (dn X G c 18 (d := d_why_sit) rfl rfl rfl) c_sits
  have c_why_go := ok_why_go (P := P) (w := w) (base := base) (dn X G c 20 (d := d_why_go) rfl rfl rfl) c_sits c_owed_in
  have c_why_pay := ok_why_pay (P := P) (w := w) (base := base) (dn X G c 26 (d := d_why_pay) rfl rfl rfl) c_sits c_owed_in
  have c_why_take := ok_why_take (P := P) (w := w) (base := base) (dn X G c 27 (d := d_why_take) rfl rfl rfl) c_sits c_owed_in
  have c_why_fire := ok_why_fire (P := P) (w := w) (base := base) (dn X G c 24 (d := d_why_fire) rfl rfl rfl) c_asked_at c_barring_at
  have c_why_bring := ok_why_bring (P := P) (w := w) (base := base) (dn X G c 25 (d := d_why_bring) rfl rfl rfl) T c_state_in
  have c_why_even := ok_why_even (P := P) (w := w) (base := base) (dn X G c 28 (d := d_why_even) rfl rfl rfl) T c_sits c_all_owed
  have c_why_ask := ok_why_ask (P := P) (w := w) (base := base) (dn X G c 22 (d := d_why_ask) rfl rfl rfl) T c_sits c_has_item
  have c_do_sit := ok_do_sit (P := P) (w := w) (base := base) (dn X G c 29 (d := d_do_sit) rfl rfl rfl) 
  have c_do_go := ok_do_go (P := P) (w := w) (base := base) (dn X G c 30 (d := d_do_go) rfl rfl rfl) 
  have c_do_pay := ok_do_pay (P := P) (w := w) (base := base) (dn X G c 37 (d := d_do_pay) rfl rfl rfl) 
  have c_shift := ok_shift (P := P) (w := w) (base := base) (dn X G c 36 (d := d_shift) rfl rfl rfl) 
  have c_do_take := ok_do_take (P := P) (w := w) (base := base) (dn X G c 38 (d := d_do_take) rfl rfl rfl) c_shift
  have c_do_bring := ok_do_bring (P := P) (w := w) (base := base) (dn X G c 35 (d := d_do_bring) rfl rfl rfl) T
  have c_do_fire := ok_do_fire (P := P) (w := w) (base := base) (dn X G c 34 (d := d_do_fire) rfl rfl rfl) T c_asked_at c_barring_at
  have c_do_even := ok_do_even (P := P) (w := w) (base := base) (dn X G c 39 (d := d_do_even) rfl rfl rfl) T c_all_owed c_deal c_shift
  have c_do_ask := ok_do_ask (P := P) (w := w) (base := base) (dn X G c 32 (d := d_do_ask) rfl rfl rfl) T c_cost
  have c_fresh := ok_fresh (P := P) (w := w) (base := base) (dn X G c 7 (d := d_fresh) rfl rfl rfl) 
  have A : Acts P w K mg base := ⟨c_why_sit, c_why_go, c_why_ask, c_why_fire, c_why_bring, c_why_pay, c_why_take, c_why_even, c_do_sit, c_do_go, c_do_ask, c_do_fire, c_do_bring, c_do_pay, c_do_take, c_do_even⟩
  have c_walked := ok_walked (P := P) (w := w) (base := base) (dn X G c 40 (d := d_walked) rfl rfl rfl) T A c_fresh
  have c_idle := ok_idle (P := P) (w := w) (base := base) (dn X G c 41 (d := d_idle) rfl rfl rfl) T c_walked
  have c_world_by := ok_world_by (P := P) (w := w) (base := base) (dn X G c 42 (d := d_world_by) rfl rfl rfl) T c_walked
  have c_to_pay := ok_to_pay (P := P) (w := w) (base := base) (dn X G c 44 (d := d_to_pay) rfl rfl rfl) T c_world_by c_all_owed
  have c_need_seat := ok_need_seat (P := P) (w := w) (base := base) (dn X G c 43 (d := d_need_seat) rfl rfl rfl) T
  have c_owes := ok_owes (P := P) (w := w) (base := base) (dn X G c 45 (d := d_owes) rfl rfl rfl) T c_world_by c_all_owed c_need_seat
  have c_sums := ok_sums (P := P) (w := w) (base := base) (dn X G c 46 (d := d_sums) rfl rfl rfl) T c_walked c_all_owed
  have c_law_feed := ok_law_feed (P := P) (w := w) (base := base) (dn X G c 47 (d := d_law_feed) rfl rfl rfl) T
  have c_law_draw := ok_law_draw (P := P) (w := w) (base := base) (dn X G c 48 (d := d_law_draw) rfl rfl rfl) T
  have c_law_house := ok_law_house (P := P) (w := w) (base := base) (dn X G c 49 (d := d_law_house) rfl rfl rfl) T c_law_draw
  have c_law_cast := ok_law_cast (P := P) (w := w) (base := base) (dn X G c 50 (d := d_law_cast) rfl rfl rfl) T c_law_draw
  have c_law_friends := ok_law_friends (P := P) (w := w) (base := base) (dn X G c 51 (d := d_law_friends) rfl rfl rfl) T c_law_draw
  have c_law_dish_deed := ok_law_dish_deed (P := P) (w := w) (base := base) (dn X G c 52 (d := d_law_dish_deed) rfl rfl rfl) T c_law_draw c_law_friends
  have c_law_deed := ok_law_deed (P := P) (w := w) (base := base) (dn X G c 53 (d := d_law_deed) rfl rfl rfl) T c_law_draw c_law_dish_deed
  have c_law_book := ok_law_book (P := P) (w := w) (base := base) (dn X G c 54 (d := d_law_book) rfl rfl rfl) T c_law_draw c_law_cast c_law_deed
  have c_law_next := ok_law_next (P := P) (w := w) (base := base) (dn X G c 55 (d := d_law_next) rfl rfl rfl) T c_law_draw
  have c_law_is_parted := ok_law_is_parted (P := P) (w := w) (base := base) (dn X G c 56 (d := d_law_is_parted) rfl rfl rfl) T c_to_pay
  have c_law_is_paid := ok_law_is_paid (P := P) (w := w) (base := base) (dn X G c 57 (d := d_law_is_paid) rfl rfl rfl) T c_to_pay c_owes c_sums c_idle
  exact ok_law Z F T c_law_feed c_law_house c_law_book c_to_pay c_law_next c_law_is_parted c_law_is_paid
end
/-! ### dealing -/
theorem up_eq {n h : Nat} (hh : h < n) (e : Int) : up n h e = e / n + if (h : Int) < e % n then 1 else 0 := by
  have n0 : (0 : Int) < n := by omega
  have h1 := Int.emod_add_mul_ediv e n
  have h2 := Int.emod_nonneg e (show (n : Int) ≠ 0 by omega)
  have h3 := Int.emod_lt_of_pos e n0
  generalize hr : e % (n : Int) = r at *
  generalize hq : e / (n : Int) = q at *
  unfold up
  rw [show e - (h : Int) + n - 1 = (r - h + n - 1) + n * q by omega, Int.add_mul_ediv_left _ _ (by omega)]
  by_cases c : (h : Int) < r
  · rw [if_pos c, show r - (h : Int) + n - 1 = (r - h - 1) + n * 1 by omega, Int.add_mul_ediv_left _ _ (by omega), Int.ediv_eq_zero_of_lt (by omega) (by omega)]
    omega
  · rw [if_neg c, Int.ediv_eq_zero_of_lt (by omega) (by omega)]
    omega
theorem sum_map_add {α : Type} (l : List α) (f g : α → Int) : (l.map fun x => f x + g x).sum = (l.map f).sum + (l.map g).sum := by
  induction l with
  | nil => rfl
  | cons x l ih => simp only [List.map_cons, List.sum_cons, ih]; omega
theorem sum_map_sub {α : Type} (l : List α) (f g : α → Int) : (l.map fun x => f x - g x).sum = (l.map f).sum - (l.map g).sum := by
  induction l with
  | nil => rfl
  | cons x l ih => simp only [List.map_cons, List.sum_cons, ih]; omega
theorem sum_const {α : Type} (l : List α) (c : Int) : (l.map fun _ => c).sum = l.length * c := by
  induction l with
  | nil => simp
  | cons x l ih => simp only [List.map_cons, List.sum_cons, ih, List.length_cons]; rw [Int.natCast_add, Int.add_mul]; simp; omega
theorem sum_below (r : Nat) : ∀ n : Nat, (((List.range n).map fun (h : Nat) => if (h : Int) < (r : Int) then (1 : Int) else 0)).sum = min n r
  | 0 => by simp
  | n + 1 => by
    rw [List.range_succ, List.map_append, List.sum_append, sum_below r n]
    by_cases c : (n : Int) < r
    · simp only [List.map_cons, List.map_nil, List.sum_cons, List.sum_nil, if_pos c]; omega
    · simp only [List.map_cons, List.map_nil, List.sum_cons, List.sum_nil, if_neg c]; omega
theorem sum_congr {α : Type} {l : List α} {f g : α → Int} (h : ∀ x ∈ l, f x = g x) : (l.map f).sum = (l.map g).sum := by rw [List.map_congr_left h]
theorem sum_up {n : Nat} (hn : 0 < n) (e : Int) : ((List.range n).map fun (h : Nat) => up n h e).sum = e := by
  have h0 : ((List.range n).map fun (h : Nat) => up n h e).sum = ((List.range n).map fun (h : Nat) => e / n + if (h : Int) < e % n then 1 else 0).sum := sum_congr fun h hh => up_eq (List.mem_range.mp hh) e
  rw [h0, sum_map_add, sum_const, List.length_range]
  have h1 := Int.emod_add_mul_ediv e n
  have h2 := Int.emod_nonneg e (show (n : Int) ≠ 0 by omega)
  have h3 := Int.emod_lt_of_pos e (show (0 : Int) < n by omega)
  have h4 := sum_below (e % (n : Int)).toNat n
  rw [show (((e % (n : Int)).toNat : Nat) : Int) = e % n by omega] at h4
  rw [h4]
  omega
theorem sum_deal {n : Nat} (hn : 0 < n) (c b : Int) : (dealL c n b).sum = c := by
  unfold dealL
  rw [sum_map_sub, sum_up hn, sum_up hn]; omega
/-- a part of a deal: the cut, one more or less -/
theorem deal_parts {n : Nat} (hn : 0 < n) (c b : Int) : ∃ q : Int, ((∀ x ∈ dealL c n b, x = q ∨ x = q + 1) ∨ (∀ x ∈ dealL c n b, x = q ∨ x = q - 1 + 0)) ∧ (0 ≤ c → ∀ x ∈ dealL c n b, 0 ≤ x) := by
  have k1 := Int.emod_add_mul_ediv (b + c) n
  have k2 := Int.emod_nonneg (b + c) (show (n : Int) ≠ 0 by omega)
  have k3 := Int.emod_lt_of_pos (b + c) (show (0 : Int) < n by omega)
  have j1 := Int.emod_add_mul_ediv b n
  have j2 := Int.emod_nonneg b (show (n : Int) ≠ 0 by omega)
  have j3 := Int.emod_lt_of_pos b (show (0 : Int) < n by omega)
  have hx : ∀ x ∈ dealL c n b, ∃ h : Nat, h < n ∧ x = ((b + c) / n - b / n) + ((if (h : Int) < (b + c) % n then 1 else 0) - if (h : Int) < b % n then 1 else 0) := fun x hx => by
    unfold dealL at hx
    obtain ⟨h, hh, rfl⟩ := List.mem_map.mp hx
    have hh := List.mem_range.mp hh
    refine ⟨h, hh, ?_⟩
    rw [up_eq hh, up_eq hh]; omega
  generalize (b + c) / (n : Int) = q1 at *
  generalize (b + c) % (n : Int) = r1 at *
  generalize b / (n : Int) = q0 at *
  generalize b % (n : Int) = r0 at *
  refine ⟨q1 - q0, ?_, fun c0 x hxm => ?_⟩
  · by_cases hr : r0 ≤ r1
    · left
      intro x hxm
      obtain ⟨h, hh, rfl⟩ := hx x hxm
      by_cases a : (h : Int) < r1 <;> by_cases b : (h : Int) < r0 <;> simp only [a, b, if_true, if_false] <;> omega
    · right
      intro x hxm
      obtain ⟨h, hh, rfl⟩ := hx x hxm
      by_cases a : (h : Int) < r1 <;> by_cases b : (h : Int) < r0 <;> simp only [a, b, if_true, if_false] <;> omega
  · obtain ⟨h, hh, rfl⟩ := hx x hxm
    have hd : (n : Int) * (q1 - q0) = c + r0 - r1 := by rw [Int.mul_sub]; omega
    have hq : 0 ≤ q1 - q0 := by
      rcases Int.lt_or_le (q1 - q0) 0 with z | z
      · have : (n : Int) * (q1 - q0) ≤ n * (-1) := Int.mul_le_mul_of_nonneg_left (by omega) (by omega)
        omega
      · exact z
    by_cases z : q1 - q0 = 0
    · rw [z, Int.mul_zero] at hd
      by_cases a : (h : Int) < r1 <;> by_cases b : (h : Int) < r0 <;> simp only [a, b, if_true, if_false] <;> omega
    · by_cases a : (h : Int) < r1 <;> by_cases b : (h : Int) < r0 <;> simp only [a, b, if_true, if_false] <;> omega
theorem deal_near {n : Nat} (hn : 0 < n) (c b : Int) : ∀ x ∈ dealL c n b, ∀ y ∈ dealL c n b, x - y < 2 := by
  obtain ⟨q, h, _⟩ := deal_parts hn c b
  intro x hx y hy
  rcases h with h | h
  · have := h x hx; have := h y hy; omega
  · have := h x hx; have := h y hy; omega
theorem deal_nonneg {n : Nat} (hn : 0 < n) {c : Int} (hc : 0 ≤ c) (b : Int) : ∀ x ∈ dealL c n b, 0 ≤ x := by
  obtain ⟨q, _, h⟩ := deal_parts hn c b
  exact h hc
/-! ### sums by seats -/
theorem sum_nonneg {l : List Int} (h : ∀ x ∈ l, 0 ≤ x) : 0 ≤ l.sum := by
  induction l with
  | nil => exact Int.le_refl 0
  | cons x l ih => rw [List.sum_cons]; have := h x List.mem_cons_self; have := ih fun y hy => h y (List.mem_cons_of_mem _ hy); omega
theorem tot_bound {l : List (Str × Int)} (h : ∀ p ∈ l, 0 ≤ p.2) (z : Str) : 0 ≤ tot l z ∧ tot l z ≤ (l.map (·.2)).sum := by
  induction l with
  | nil => exact ⟨Int.le_refl 0, Int.le_refl 0⟩
  | cons p l ih =>
    obtain ⟨h1, h2⟩ := ih fun q hq => h q (List.mem_cons_of_mem _ hq)
    have hp := h p List.mem_cons_self
    unfold tot at h1 h2 ⊢
    rw [List.map_cons, List.map_cons, List.sum_cons, List.sum_cons]
    by_cases e : p.1 = z
    · rw [if_pos e]; omega
    · rw [if_neg e]; omega
theorem zip_snd (ss : List Str) (ns : List Int) (h : ns.length = ss.length) : (ss.zip ns).map (·.2) = ns := List.map_snd_zip (by omega)
theorem dealt_bound {x : Dish} (hs : x.seats ≠ []) (hc : 0 ≤ x.cost) (b : Int) (z : Str) : 0 ≤ tot (dealt x b) z ∧ tot (dealt x b) z ≤ x.cost := by
  have hn : 0 < x.seats.length := List.length_pos_iff.mpr hs
  have h := tot_bound (l := dealt x b) (fun p hp => deal_nonneg hn hc b p.2 (List.of_mem_zip hp).2) z
  have e : ((dealt x b).map (·.2)).sum = x.cost := by
    unfold dealt
    rw [zip_snd _ _ (dealL_len _ _ _), sum_deal hn]
  rw [e] at h
  exact h
theorem shares_bound {z : Str} : ∀ (l pre : List (Int × Dish)), (∀ q ∈ l, q.2.seats ≠ [] ∧ 0 ≤ q.2.cost ∧ q.2.cost ≤ 6000) → 0 ≤ shares pre l z ∧ shares pre l z ≤ 6000 * l.length
  | [], _, _ => by simp [shares]
  | q :: l, pre, h => by
    obtain ⟨h1, h2⟩ := shares_bound (z := z) l (pre ++ [q]) fun p hp => h p (List.mem_cons_of_mem _ hp)
    obtain ⟨s1, s2, s3⟩ := h q List.mem_cons_self
    obtain ⟨d1, d2⟩ := dealt_bound s1 s2 (begAt pre q.2.seats) z
    rw [shares, List.length_cons]
    by_cases e : living q.2.state = true
    · rw [if_pos e]; omega
    · rw [if_neg e]; omega
/-! ### what holds behind the seats that sat -/
def DishOk (cs : List (Str × Str)) (ds : List (Int × Dish)) : Prop := (keys ds).Nodup ∧ ds.length ≤ 18 ∧ ∀ q ∈ ds, (q.2.seats ≠ [] ∧ q.2.seats.Nodup ∧ q.2.seats.length ≤ 12 ∧ ∀ z ∈ q.2.seats, z ∈ keys cs) ∧ 0 ≤ q.2.cost ∧ q.2.cost ≤ 6000
structure Inv (cs : List (Str × Str)) (s : St) : Prop where
  tabs : s.tables = cs
  dish : DishOk cs s.dishes
  ndP : (keys s.paid).Nodup
  subP : ∀ z ∈ keys s.paid, z ∈ keys cs
  ndM : (keys s.moved).Nodup
  subM : ∀ z ∈ keys s.moved, z ∈ keys cs
  own : ∀ z ∈ keys cs, 0 ≤ owed s z
  tot : ((keys cs).map (owed s)).sum ≤ 2000000
theorem sub_len : ∀ {a b : List Str}, a.Nodup → (∀ z ∈ a, z ∈ b) → a.length ≤ b.length
  | [], _, _, _ => Nat.zero_le _
  | x :: a, b, nd, h => by
    have hx := h x List.mem_cons_self
    have nd' := List.nodup_cons.mp nd
    have := sub_len (a := a) (b := b.erase x) nd'.2 fun z hz => (List.mem_erase_of_ne (fun e => nd'.1 (by rw [← e]; exact hz))).mpr (h z (List.mem_cons_of_mem _ hz))
    rw [List.length_erase_of_mem hx] at this
    have := List.length_pos_of_mem hx
    rw [List.length_cons]; omega
theorem keys_len {κ α : Type} (l : List (κ × α)) : (keys l).length = l.length := List.length_map _
theorem Inv.ok {cs : List (Str × Str)} (c : CastOk cs) {s : St} (I : Inv cs s) : s.Ok := by
  obtain ⟨d1, d2, d3⟩ := I.dish
  have hc := c.few
  have hp := sub_len I.ndP I.subP
  have hm := sub_len I.ndM I.subM
  rw [keys_len, keys_len] at hp hm
  exact ⟨by rw [I.tabs]; exact c.nd, d1, by rw [I.tabs]; omega, by omega, by omega, by omega, fun q hq => by rw [I.tabs]; exact (d3 q hq).1, fun q hq => (d3 q hq).2⟩
theorem Inv.sits {cs : List (Str × Str)} (c : CastOk cs) {s : St} (I : Inv cs s) {z : Str} (hz : z ∈ keys cs) : sits s z = true := by
  obtain ⟨t, ht⟩ := aget_some_iff.mpr hz
  unfold TB.sits
  rw [I.tabs, ht]
  have := c.tab _ (aget_mem ht)
  simpa using this
theorem owed0 {s : St} (hp : s.paid = []) (hm : s.moved = []) (z : Str) : owed s z = shares [] s.dishes z := by
  unfold owed base
  rw [hp, hm]
  simp [aget_nil]
theorem sum_le {α : Type} {f : α → Int} {M : Int} : ∀ (l : List α), (∀ x ∈ l, f x ≤ M) → (l.map f).sum ≤ l.length * M
  | [], _ => by simp
  | x :: l, h => by
    have h1 := sum_le l fun y hy => h y (List.mem_cons_of_mem _ hy)
    have h2 := h x List.mem_cons_self
    rw [List.map_cons, List.sum_cons, List.length_cons, Int.natCast_add, Int.add_mul]
    simp; omega
/-- as long as nobody took or paid -/
theorem inv0 {cs : List (Str × Str)} (c : CastOk cs) {s : St} (ht : s.tables = cs) (hp : s.paid = []) (hm : s.moved = []) (hd : DishOk cs s.dishes) : Inv cs s := by
  have hb : ∀ z, 0 ≤ owed s z ∧ owed s z ≤ 108000 := fun z => by
    rw [owed0 hp hm]
    obtain ⟨h1, h2⟩ := shares_bound (z := z) s.dishes [] fun q hq => ⟨(hd.2.2 q hq).1.1, (hd.2.2 q hq).2⟩
    have := hd.2.1
    omega
  refine ⟨ht, hd, by rw [hp]; exact List.nodup_nil, fun z h => by rw [hp] at h; simp [keys] at h, by rw [hm]; exact List.nodup_nil, fun z h => by rw [hm] at h; simp [keys] at h, fun z _ => (hb z).1, ?_⟩
  have h := sum_le (f := owed s) (keys cs) fun z _ => (hb z).2
  rw [keys_len] at h
  have := c.few
  omega
theorem dish_map {cs : List (Str × Str)} {ds : List (Int × Dish)} (h : DishOk cs ds) (f : Int × Dish → Int × Dish) (hf : ∀ q, (f q).1 = q.1 ∧ (f q).2.seats = q.2.seats ∧ (f q).2.cost = q.2.cost) : DishOk cs (ds.map f) := by
  obtain ⟨h1, h2, h3⟩ := h
  have hk : keys (ds.map f) = keys ds := by
    unfold keys
    rw [List.map_map]
    exact List.map_congr_left fun q _ => (hf q).1
  refine ⟨by rw [hk]; exact h1, by rw [List.length_map]; exact h2, fun q hq => ?_⟩
  obtain ⟨q0, h0, rfl⟩ := List.mem_map.mp hq
  rw [(hf q0).2.1, (hf q0).2.2]
  exact h3 q0 h0
theorem ask_step {hs : House} (hok : hs.Ok) {cs : List (Str × Str)} (c : CastOk cs) {s : St} {pg : Page} (ht : s.tables = cs) (hp : s.paid = []) (hm : s.moved = []) (hd : DishOk cs s.dishes) (hl : s.dishes.length < 18) (ha : AskOk cs pg.deed) :
    (step hs s pg).tables = cs ∧ (step hs s pg).paid = [] ∧ (step hs s pg).moved = [] ∧ DishOk cs (step hs s pg).dishes ∧ (step hs s pg).dishes.length ≤ s.dishes.length + 1 ∧ Pre s pg.deed := by
  have idle : ∀ x, ({ s with idle := x } : St).tables = cs ∧ ({ s with idle := x } : St).paid = [] ∧ ({ s with idle := x } : St).moved = [] ∧ DishOk cs ({ s with idle := x } : St).dishes ∧ ({ s with idle := x } : St).dishes.length ≤ s.dishes.length + 1 := fun x => ⟨ht, hp, hm, hd, Nat.le_succ _⟩
  cases hdd : pg.deed with
  | ask d item co ss =>
    rw [hdd] at ha
    obtain ⟨a1, a2, a3, t, a4⟩ := ha
    have pre : Pre s (.ask d item co ss) := ⟨a1, a3, t, fun z hz _ => by rw [ht]; exact a4 z hz⟩
    unfold step
    rw [hdd]
    by_cases e : why hs s (.ask d item co ss) = ""
    · rw [if_pos e]
      have hnone : aget s.dishes d = none := by
        cases q : aget s.dishes d with
        | none => rfl
        | some x => simp only [why] at e; rw [q, if_pos (by rfl)] at e; exact absurd e (by decide)
      have hdk := aget_none.mp hnone
      have hr := costAt_range hok item pg.minute
      refine ⟨ht, hp, hm, ?_, ?_, pre⟩
      · show DishOk cs (aput s.dishes d _)
        rw [aput_new _ hdk]
        obtain ⟨h1, h2, h3⟩ := hd
        refine ⟨?_, by rw [List.length_append]; simp; omega, fun q hq => ?_⟩
        · unfold keys at h1 hdk ⊢
          rw [List.map_append]
          exact nd_snoc h1 hdk
        · rcases List.mem_append.mp hq with hq | hq
          · exact h3 q hq
          · rw [List.mem_singleton.mp hq]
            exact ⟨⟨a1, a2, a3, fun z hz => aget_some_iff.mp ⟨t, a4 z hz⟩⟩, hr⟩
      · show (aput s.dishes d _).length ≤ _
        exact len_put _ _ _
    · rw [if_neg e]
      obtain ⟨i1, i2, i3, i4, i5⟩ := idle (s.idle ++ [((pg.minute, pg.number), why hs s (.ask d item co ss))])
      exact ⟨i1, i2, i3, i4, i5, pre⟩
  | rush t co =>
    unfold step
    rw [hdd]
    by_cases e : why hs s (.rush t co) = ""
    · rw [if_pos e]
      refine ⟨ht, hp, hm, dish_map hd _ fun q => ?_, by show (List.map _ _).length ≤ _; rw [List.length_map]; omega, trivial⟩
      by_cases z : isAsked s t co q.2 = true
      · rw [if_pos z]; exact ⟨rfl, rfl, rfl⟩
      · rw [if_neg z]; exact ⟨rfl, rfl, rfl⟩
    · rw [if_neg e]
      obtain ⟨i1, i2, i3, i4, i5⟩ := idle (s.idle ++ [((pg.minute, pg.number), why hs s (.rush t co))])
      exact ⟨i1, i2, i3, i4, i5, trivial⟩
  | serve d =>
    unfold step
    rw [hdd]
    by_cases e : why hs s (.serve d) = ""
    · rw [if_pos e]
      refine ⟨ht, hp, hm, dish_map hd _ fun q => ?_, by show (setState _ _ _).length ≤ _; unfold setState; rw [List.length_map]; omega, trivial⟩
      by_cases z : q.1 = d
      · rw [if_pos z]; exact ⟨rfl, rfl, rfl⟩
      · rw [if_neg z]; exact ⟨rfl, rfl, rfl⟩
    · rw [if_neg e]
      obtain ⟨i1, i2, i3, i4, i5⟩ := idle (s.idle ++ [((pg.minute, pg.number), why hs s (.serve d))])
      exact ⟨i1, i2, i3, i4, i5, trivial⟩
  | strike d =>
    unfold step
    rw [hdd]
    by_cases e : why hs s (.strike d) = ""
    · rw [if_pos e]
      refine ⟨ht, hp, hm, dish_map hd _ fun q => ?_, by show (setState _ _ _).length ≤ _; unfold setState; rw [List.length_map]; omega, trivial⟩
      by_cases z : q.1 = d
      · rw [if_pos z]; exact ⟨rfl, rfl, rfl⟩
      · rw [if_neg z]; exact ⟨rfl, rfl, rfl⟩
    · rw [if_neg e]
      obtain ⟨i1, i2, i3, i4, i5⟩ := idle (s.idle ++ [((pg.minute, pg.number), why hs s (.strike d))])
      exact ⟨i1, i2, i3, i4, i5, trivial⟩
  | sit _ _ => rw [hdd] at ha; exact ha.elim
  | go _ => rw [hdd] at ha; exact ha.elim
  | pay _ _ => rw [hdd] at ha; exact ha.elim
  | take _ _ _ => rw [hdd] at ha; exact ha.elim
  | even _ => rw [hdd] at ha; exact ha.elim
theorem ok_fresh_tabs {cs : List (Str × Str)} (c : CastOk cs) (i : Nat) : ({ tables := cs.take i } : St).Ok := by
  have hc := c.few
  refine ⟨?_, List.nodup_nil, ?_, by simp, by simp, by simp, fun q hq => (by cases hq), fun q hq => (by cases hq)⟩
  · show (keys (cs.take i)).Nodup
    unfold keys
    rw [List.map_take]
    exact c.nd.sublist (List.take_sublist _ _)
  · show (cs.take i).length ≤ 20
    rw [List.length_take]; omega
/-- the book's walk, page by page -/
theorem walk_book {hs : House} (hok : hs.Ok) {cs : List (Str × Str)} (c : CastOk cs) {ps : List Page} {ds : List Deed} (hd : ps.map (·.deed) = sitsOf cs ++ ds) (ha : ∀ dd ∈ ds, AskOk cs dd) (hl : ps.length ≤ cs.length + 18) :
    ∀ i, i ≤ ps.length → (i ≤ cs.length → walk hs (ps.take i) = { tables := cs.take i }) ∧ (cs.length ≤ i → (walk hs (ps.take i)).tables = cs ∧ (walk hs (ps.take i)).paid = [] ∧ (walk hs (ps.take i)).moved = [] ∧ DishOk cs (walk hs (ps.take i)).dishes ∧ (walk hs (ps.take i)).dishes.length ≤ i - cs.length) ∧
      (∀ pg, ps[i]? = some pg → Pre (walk hs (ps.take i)) pg.deed) := by
  have hdeed : ∀ (i : Nat) (pg : Page), ps[i]? = some pg → (sitsOf cs ++ ds)[i]? = some pg.deed := fun i pg h => by rw [← hd, List.getElem?_map, h]; rfl
  have hsl : (sitsOf cs).length = cs.length := List.length_map _
  have key : ∀ i, i ≤ ps.length → (i ≤ cs.length → walk hs (ps.take i) = { tables := cs.take i }) ∧ (cs.length ≤ i → (walk hs (ps.take i)).tables = cs ∧ (walk hs (ps.take i)).paid = [] ∧ (walk hs (ps.take i)).moved = [] ∧ DishOk cs (walk hs (ps.take i)).dishes ∧ (walk hs (ps.take i)).dishes.length ≤ i - cs.length) := by
    intro i
    induction i with
    | zero =>
      intro _
      refine ⟨fun _ => rfl, fun h => ?_⟩
      have := c.low
      omega
    | succ i ih =>
      intro hi
      obtain ⟨h1, h2⟩ := ih (by omega)
      have hpg : ps[i]? = some ps[i] := List.getElem?_eq_getElem (by omega)
      have hdi := hdeed i _ hpg
      rw [take_snoc hpg, walk_snoc]
      have first : i + 1 ≤ cs.length → step hs (walk hs (ps.take i)) ps[i] = { tables := cs.take (i + 1) } := fun hlt => by
        rw [List.getElem?_append_left (by omega)] at hdi
        unfold sitsOf at hdi
        rw [List.getElem?_map, List.getElem?_eq_getElem (by omega)] at hdi
        have hdi := Option.some.inj hdi
        have hci : cs[i]? = some cs[i] := List.getElem?_eq_getElem (by omega)
        rw [h1 (by omega), take_snoc hci]
        have hnk : cs[i].1 ∉ keys (cs.take i) := fun hm => by
          unfold keys at hm
          rw [List.map_take] at hm
          obtain ⟨j, hj, ej⟩ := List.getElem_of_mem hm
          rw [List.length_take, List.length_map] at hj
          rw [List.getElem_take] at ej
          have a1 : (keys cs)[j]? = some cs[i].1 := by rw [List.getElem?_eq_getElem (by rw [keys_len]; omega)]; exact congrArg some ej
          have a2 : (keys cs)[i]? = some cs[i].1 := by unfold keys; rw [List.getElem?_map, hci]; rfl
          have := (List.getElem?_inj (List.getElem?_eq_some_iff.mp a1).1 c.nd).mp (a1.trans a2.symm)
          omega
        unfold step
        rw [← hdi]
        have hw : why hs ({ tables := cs.take i } : St) (.sit cs[i].1 cs[i].2) = "" := by
          simp only [why]
          rw [if_neg]
          unfold TB.sits
          rw [aget_none.mpr hnk]
          simp
        rw [if_pos hw]
        show ({ tables := aput (cs.take i) cs[i].1 cs[i].2 } : St) = _
        rw [aput_new _ hnk]
      refine ⟨first, fun hge => ?_⟩
      by_cases he : i + 1 = cs.length
      · rw [first (by omega), he, List.take_of_length_le (Nat.le_refl _)]
        exact ⟨rfl, rfl, rfl, ⟨List.nodup_nil, by simp, fun q hq => by cases hq⟩, by simp⟩
      · obtain ⟨g1, g2, g3, g4, g5⟩ := h2 (by omega)
        rw [List.getElem?_append_right (by omega)] at hdi
        have ha' := ha _ (List.mem_of_getElem? hdi)
        obtain ⟨k1, k2, k3, k4, k5, _⟩ := ask_step hok c g1 g2 g3 g4 (by omega) ha'
        exact ⟨k1, k2, k3, k4, by omega⟩
  intro i hi
  obtain ⟨h1, h2⟩ := key i hi
  refine ⟨h1, h2, fun pg hpg => ?_⟩
  have hdi := hdeed i _ hpg
  have hil := (List.getElem?_eq_some_iff.mp hpg).1
  by_cases he : i < cs.length
  · rw [List.getElem?_append_left (by omega)] at hdi
    unfold sitsOf at hdi
    rw [List.getElem?_map, List.getElem?_eq_getElem (by omega)] at hdi
    rw [← Option.some.inj hdi]
    trivial
  · obtain ⟨g1, g2, g3, g4, g5⟩ := h2 (by omega)
    rw [List.getElem?_append_right (by omega)] at hdi
    obtain ⟨_, _, _, _, _, k6⟩ := ask_step hok c g1 g2 g3 g4 (by omega) (ha _ (List.mem_of_getElem? hdi))
    exact k6
theorem get_shift (m : List (Str × Int)) (s : Str) (p : Int) (z : Str) : (aget (shift m s p) z).getD 0 = (aget m z).getD 0 + if s = z then p else 0 := by
  unfold shift
  rw [aget_put]
  by_cases e : z = s
  · subst e; simp
  · have e2 : ¬ s = z := fun q => e q.symm
    rw [if_neg e, if_neg e2, Int.add_zero]
theorem keys_shift {m : List (Str × Int)} {s z : Str} {p : Int} (h : z ∈ keys (shift m s p)) : z = s ∨ z ∈ keys m := by
  unfold shift at h
  rw [keys_put] at h
  by_cases e : s ∈ keys m
  · rw [if_pos e] at h; exact .inr h
  · rw [if_neg e] at h
    rcases List.mem_append.mp h with h | h
    · exact .inr h
    · exact .inl (List.mem_singleton.mp h)
theorem nd_shift {m : List (Str × Int)} {s : Str} {p : Int} (h : (keys m).Nodup) : (keys (shift m s p)).Nodup := nd_put _ _ h
def diffs (ow : Str → Int) (l : List (Str × Int)) : List (Str × Int) := l.map fun x => (x.1, x.2 - ow x.1)
theorem get_even (ow : Str → Int) (z : Str) : ∀ (l m : List (Str × Int)), (aget (evenMoved ow m l) z).getD 0 = (aget m z).getD 0 + tot (diffs ow l) z
  | [], m => by simp [evenMoved, diffs, tot]
  | (s, p) :: l, m => by
    rw [evenMoved, get_even ow z l]
    have e : tot (diffs ow ((s, p) :: l)) z = (if s = z then p - ow s else 0) + tot (diffs ow l) z := rfl
    rw [e]
    by_cases h : p = ow s
    · rw [if_pos h]
      by_cases e2 : s = z
      · rw [if_pos e2]; omega
      · rw [if_neg e2]; omega
    · rw [if_neg h, get_shift]; omega
theorem keys_even (ow : Str → Int) {z : Str} : ∀ (l m : List (Str × Int)), z ∈ keys (evenMoved ow m l) → z ∈ keys m ∨ ∃ x ∈ l, x.1 = z
  | [], m, h => .inl h
  | (s, p) :: l, m, h => by
    rw [evenMoved] at h
    rcases keys_even ow l _ h with h | ⟨x, hx, e⟩
    · by_cases q : p = ow s
      · rw [if_pos q] at h; exact .inl h
      · rw [if_neg q] at h
        rcases keys_shift h with h | h
        · exact .inr ⟨(s, p), List.mem_cons_self, h.symm⟩
        · exact .inl h
    · exact .inr ⟨x, List.mem_cons_of_mem _ hx, e⟩
theorem nd_even (ow : Str → Int) : ∀ (l m : List (Str × Int)), (keys m).Nodup → (keys (evenMoved ow m l)).Nodup
  | [], m, h => h
  | (s, p) :: l, m, h => by
    rw [evenMoved]
    by_cases q : p = ow s
    · rw [if_pos q]; exact nd_even ow l m h
    · rw [if_neg q]; exact nd_even ow l _ (nd_shift h)
theorem diff_mem (ow : Str → Int) {z : Str} : ∀ (ss : List Str) (ns : List Int), ss.Nodup → ns.length = ss.length → z ∈ ss → ∃ x ∈ ns, tot (diffs ow (ss.zip ns)) z = x - ow z
  | [], _, _, _, h => by simp at h
  | s :: ss, [], _, hl, _ => by simp at hl
  | s :: ss, n :: ns, nd, hl, h => by
    have nd' := List.nodup_cons.mp nd
    have e : tot (diffs ow ((s :: ss).zip (n :: ns))) z = (if s = z then n - ow s else 0) + tot (diffs ow (ss.zip ns)) z := rfl
    rw [e]
    by_cases q : s = z
    · subst q
      refine ⟨n, List.mem_cons_self, ?_⟩
      have : tot (diffs ow (ss.zip ns)) s = 0 := by
        have key : ∀ (l : List (Str × Int)), (∀ x ∈ l, x.1 ≠ s) → tot (diffs ow l) s = 0 := by
          intro l
          induction l with
          | nil => intro _; rfl
          | cons x l ih =>
            intro hx
            show (if x.1 = s then x.2 - ow x.1 else 0) + tot (diffs ow l) s = 0
            rw [if_neg (hx x List.mem_cons_self), ih fun y hy => hx y (List.mem_cons_of_mem _ hy)]; rfl
        exact key _ fun x hx e => nd'.1 (by rw [← e]; exact (List.of_mem_zip hx).1)
      rw [this, if_pos rfl, Int.add_zero]
    · rw [if_neg q, Int.zero_add]
      obtain ⟨x, hx, e⟩ := diff_mem ow ss ns nd'.2 (by simpa using hl) ((List.mem_cons.mp h).resolve_left fun e => q e.symm)
      exact ⟨x, List.mem_cons_of_mem _ hx, e⟩
theorem diff_out (ow : Str → Int) {z : Str} {ss : List Str} {ns : List Int} (h : z ∉ ss) : tot (diffs ow (ss.zip ns)) z = 0 := by
  have key : ∀ (l : List (Str × Int)), (∀ x ∈ l, x.1 ≠ z) → tot (diffs ow l) z = 0 := by
    intro l
    induction l with
    | nil => intro _; rfl
    | cons x l ih =>
      intro hx
      show (if x.1 = z then x.2 - ow x.1 else 0) + tot (diffs ow l) z = 0
      rw [if_neg (hx x List.mem_cons_self), ih fun y hy => hx y (List.mem_cons_of_mem _ hy)]; rfl
  exact key _ fun x hx e => h (by rw [← e]; exact (List.of_mem_zip hx).1)
theorem sum_one {ks : List Str} {z0 : Str} (v : Int) (nd : ks.Nodup) (h : z0 ∈ ks) : (ks.map fun z => if z0 = z then v else 0).sum = v := by
  induction ks with
  | nil => simp at h
  | cons k ks ih =>
    have nd' := List.nodup_cons.mp nd
    rw [List.map_cons, List.sum_cons]
    by_cases e : z0 = k
    · subst e
      rw [if_pos rfl]
      have : (ks.map fun z => if z0 = z then v else 0) = ks.map fun _ => 0 := List.map_congr_left fun z hz => if_neg fun e => nd'.1 (by rw [e]; exact hz)
      rw [this, sum_const]; omega
    · rw [if_neg e, ih nd'.2 ((List.mem_cons.mp h).resolve_left e)]; omega
theorem sum_tot {ks : List Str} (nd : ks.Nodup) : ∀ (l : List (Str × Int)), (∀ x ∈ l, x.1 ∈ ks) → (ks.map fun z => tot l z).sum = (l.map (·.2)).sum
  | [], _ => by simp [tot, sum_const]
  | x :: l, h => by
    have e : (ks.map fun z => tot (x :: l) z) = ks.map fun z => (if x.1 = z then x.2 else 0) + tot l z := rfl
    rw [e, sum_map_add, sum_one _ nd (h x List.mem_cons_self), sum_tot nd l fun y hy => h y (List.mem_cons_of_mem _ hy), List.map_cons, List.sum_cons]
theorem sum_diffs (ow : Str → Int) : ∀ (ss : List Str) (ns : List Int), ns.length = ss.length → ((diffs ow (ss.zip ns)).map (·.2)).sum = ns.sum - (ss.map ow).sum
  | [], [], _ => rfl
  | s :: ss, n :: ns, h => by
    have := sum_diffs ow ss ns (by simpa using h)
    show (n - ow s) + ((diffs ow (ss.zip ns)).map (·.2)).sum = _
    rw [this, List.sum_cons, List.map_cons, List.sum_cons]; omega
  | [], _ :: _, h => by simp at h
  | _ :: _, [], h => by simp at h
theorem perm_sum {a b : List Int} (h : a.Perm b) : a.sum = b.sum := by
  induction h with
  | nil => rfl
  | cons x _ ih => rw [List.sum_cons, List.sum_cons, ih]
  | swap x y l => rw [List.sum_cons, List.sum_cons, List.sum_cons, List.sum_cons]; omega
  | trans _ _ h1 h2 => rw [h1, h2]
/-! ### a take, an even -/
theorem take_step {hs : House} {cs : List (Str × Str)} (c : CastOk cs) {st : St} (I : Inv cs st) {m n : Int} {s o : Str} {p : Int} (hso : s ≠ o) (hs' : s ∈ keys cs) (ho : o ∈ keys cs) (p1 : 1 ≤ p) (p2 : p ≤ owed st o) :
    let st' := step hs st ⟨m, n, .take s o p⟩
    Inv cs st' ∧ (∀ z, owed st' z = if z = o then owed st o - p else if z = s then owed st s + p else owed st z) ∧ st'.paid = st.paid := by
  have hw : why hs st (.take s o p) = "" := by
    simp only [why]
    rw [if_pos ⟨I.sits c hs', I.sits c ho⟩, if_neg (by omega)]
  intro st'
  have hst : st' = { st with moved := shift (shift st.moved s p) o (0 - p) } := by
    show step hs st _ = _
    unfold step
    rw [if_pos hw]; rfl
  have how : ∀ z, owed st' z = owed st z + (if s = z then p else 0) + if o = z then 0 - p else 0 := fun z => by
    rw [hst]
    show (aget (shift (shift st.moved s p) o (0 - p)) z).getD 0 - (aget st.paid z).getD 0 + shares [] st.dishes z = (aget st.moved z).getD 0 - (aget st.paid z).getD 0 + shares [] st.dishes z + _ + _
    rw [get_shift, get_shift]
    omega
  have how2 : ∀ z, owed st' z = if z = o then owed st o - p else if z = s then owed st s + p else owed st z := fun z => by
    rw [how z]
    by_cases e1 : z = o
    · subst e1
      rw [if_pos rfl, if_pos rfl, if_neg hso]; omega
    · rw [if_neg e1, if_neg (show ¬ o = z from fun q => e1 q.symm)]
      by_cases e2 : z = s
      · rw [if_pos e2, if_pos (show s = z from e2.symm), e2]; omega
      · rw [if_neg e2, if_neg (show ¬ s = z from fun q => e2 q.symm)]; omega
  refine ⟨⟨by rw [hst]; exact I.tabs, by rw [hst]; exact I.dish, by rw [hst]; exact I.ndP, by rw [hst]; exact I.subP, ?_, ?_, fun z hz => ?_, ?_⟩, how2, by rw [hst]⟩
  · rw [hst]; exact nd_shift (nd_shift I.ndM)
  · intro z hz
    rw [hst] at hz
    rcases keys_shift hz with e | hz
    · rw [e]; exact ho
    · rcases keys_shift hz with e | hz
      · rw [e]; exact hs'
      · exact I.subM z hz
  · rw [how2 z]
    have := I.own z hz
    have := I.own s hs'
    by_cases e1 : z = o
    · rw [if_pos e1]; omega
    · rw [if_neg e1]
      by_cases e2 : z = s
      · rw [if_pos e2]; omega
      · rw [if_neg e2]; omega
  · have : ((keys cs).map (owed st')).sum = ((keys cs).map (owed st)).sum := by
      rw [sum_congr (g := fun z => (owed st z + (if s = z then p else 0)) + if o = z then 0 - p else 0) fun z _ => how z, sum_map_add, sum_map_add, sum_one _ c.nd hs', sum_one _ c.nd ho]; omega
    rw [this]; exact I.tot
theorem even_step {hs : House} {cs : List (Str × Str)} (c : CastOk cs) {st : St} (I : Inv cs st) {m n : Int} {ss : List Str} (hne : ss ≠ []) (hnd : ss.Nodup) (hin : ∀ z ∈ ss, z ∈ keys cs) :
    let st' := step hs st ⟨m, n, .even ss⟩
    Inv cs st' ∧ ((keys cs).map (owed st')).sum = ((keys cs).map (owed st)).sum ∧ (∀ z, z ∉ ss → owed st' z = owed st z) ∧ (∀ x ∈ ss, ∀ y ∈ ss, owed st' x - owed st' y < 2) ∧ st'.paid = st.paid := by
  have hS : 0 ≤ (ss.map (owed st)).sum := sum_nonneg fun x hx => by obtain ⟨z, hz, rfl⟩ := List.mem_map.mp hx; exact I.own z (hin z hz)
  have hw : why hs st (.even ss) = "" := by
    simp only [why]
    rw [if_pos (List.all_eq_true.mpr fun z hz => I.sits c (hin z hz)), if_neg (by omega)]
  intro st'
  have hn : 0 < ss.length := List.length_pos_iff.mpr hne
  generalize hps : dealL ((ss.map (owed st)).sum) ss.length st.evens = ps
  have hpl : ps.length = ss.length := by rw [← hps, dealL_len]
  have hst : st' = { st with moved := evenMoved (owed st) st.moved (ss.zip ps), evens := st.evens + 1 } := by
    show step hs st _ = _
    unfold step
    rw [if_pos hw, ← hps]; rfl
  have how : ∀ z, owed st' z = owed st z + tot (diffs (owed st) (ss.zip ps)) z := fun z => by
    rw [hst]
    show (aget (evenMoved (owed st) st.moved (ss.zip ps)) z).getD 0 - (aget st.paid z).getD 0 + shares [] st.dishes z = _
    rw [get_even]
    show _ = (aget st.moved z).getD 0 - (aget st.paid z).getD 0 + shares [] st.dishes z + _
    omega
  have hin2 : ∀ z ∈ ss, ∃ x ∈ ps, owed st' z = x := fun z hz => by
    obtain ⟨x, hx, e⟩ := diff_mem (owed st) ss ps hnd hpl hz
    exact ⟨x, hx, by rw [how, e]; omega⟩
  have hout : ∀ z, z ∉ ss → owed st' z = owed st z := fun z hz => by rw [how, diff_out _ hz]; omega
  have hsum : ((keys cs).map (owed st')).sum = ((keys cs).map (owed st)).sum := by
    rw [sum_congr (g := fun z => owed st z + tot (diffs (owed st) (ss.zip ps)) z) fun z _ => how z, sum_map_add, sum_tot c.nd, sum_diffs _ _ _ hpl, ← hps, sum_deal hn]
    · omega
    · intro x hx
      obtain ⟨y, hy, rfl⟩ := List.mem_map.mp hx
      exact hin _ (List.of_mem_zip hy).1
  refine ⟨⟨by rw [hst]; exact I.tabs, by rw [hst]; exact I.dish, by rw [hst]; exact I.ndP, by rw [hst]; exact I.subP, ?_, ?_, fun z hz => ?_, ?_⟩, hsum, hout, fun x hx y hy => ?_, by rw [hst]⟩
  · rw [hst]; exact nd_even _ _ _ I.ndM
  · intro z hz
    rw [hst] at hz
    rcases keys_even _ _ _ hz with hz | ⟨x, hx, e⟩
    · exact I.subM z hz
    · rw [← e]; exact hin _ (List.of_mem_zip hx).1
  · by_cases hzs : z ∈ ss
    · obtain ⟨x, hx, e⟩ := hin2 z hzs
      rw [e]
      rw [← hps] at hx
      exact deal_nonneg hn hS _ x hx
    · rw [hout z hzs]; exact I.own z hz
  · rw [hsum]; exact I.tot
  · obtain ⟨a, ha, e1⟩ := hin2 x hx
    obtain ⟨b, hb, e2⟩ := hin2 y hy
    rw [e1, e2]
    rw [← hps] at ha hb
    exact deal_near hn _ _ a ha b hb
theorem Good.ext {hs : House} {ps : List Page} {pg : Page} (g : Good hs ps) (hl : ps.length < 100) (ok : (walk hs (ps ++ [pg])).Ok) (pre : Pre (walk hs ps) pg.deed) (m0 : 0 ≤ pg.minute) : Good hs (ps ++ [pg]) := by
  refine ⟨by rw [List.length_append]; simp; omega, fun i hi => ?_, fun i x hx => ?_, fun x hx => ?_⟩
  · rw [List.length_append] at hi
    by_cases e : i ≤ ps.length
    · rw [List.take_append_of_le_length e]; exact g.ok i e
    · rw [List.take_of_length_le (by rw [List.length_append]; simp at hi ⊢; omega)]; exact ok
  · by_cases e : i < ps.length
    · rw [List.getElem?_append_left e] at hx
      rw [List.take_append_of_le_length (by omega)]; exact g.pre i x hx
    · have hil := (List.getElem?_eq_some_iff.mp hx).1
      rw [List.length_append] at hil
      have he : i = ps.length := by simp at hil; omega
      subst he
      rw [List.getElem?_append_right (Nat.le_refl _), Nat.sub_self] at hx
      cases hx
      rw [List.take_append_of_le_length (Nat.le_refl _), List.take_of_length_le (Nat.le_refl _)]; exact pre
  · rcases List.mem_append.mp hx with hx | hx
    · exact g.min x hx
    · rw [List.mem_singleton.mp hx]; exact m0
theorem idle_from (hs : House) : ∀ (l : List Page) (s : St), ∀ e ∈ (l.foldl (step hs) s).idle, e ∈ s.idle ∨ ∃ pg ∈ l, e.1 = (pg.minute, pg.number)
  | [], s, e, h => .inl h
  | pg :: l, s, e, h => by
    rcases idle_from hs l _ e h with h | ⟨x, hx, q⟩
    · unfold step at h
      by_cases w : why hs s pg.deed = ""
      · rw [if_pos w, doIt_idle] at h; exact .inl h
      · rw [if_neg w] at h
        rcases List.mem_append.mp h with h | h
        · exact .inl h
        · rw [List.mem_singleton.mp h]; exact .inr ⟨pg, List.mem_cons_self, rfl⟩
    · exact .inr ⟨x, List.mem_cons_of_mem _ hx, q⟩
def Stg (hs : House) (j : Nat) (ps : List Page) : Prop := ∃ cs, CastOk cs ∧ Good hs ps ∧ Inv cs (walk hs ps) ∧ (walk hs ps).paid = [] ∧ ps.length ≤ 18 + j ∧ ps ≠ [] ∧ ∀ ps0 pg, ps = ps0 ++ [pg] → ∀ x ∈ ps, x.minute ≤ pg.minute
theorem le_sum {l : List Str} {f g : Str → Int} (h : ∀ z ∈ l, f z ≤ g z) : (l.map f).sum ≤ (l.map g).sum := by
  induction l with
  | nil => exact Int.le_refl _
  | cons x l ih => rw [List.map_cons, List.map_cons, List.sum_cons, List.sum_cons]; have := h x List.mem_cons_self; have := ih fun z hz => h z (List.mem_cons_of_mem _ hz); omega
theorem mem_sum {l : List Str} {f : Str → Int} (h : ∀ z ∈ l, 0 ≤ f z) {z : Str} (hz : z ∈ l) : f z ≤ (l.map f).sum := by
  induction l with
  | nil => simp at hz
  | cons x l ih =>
    rw [List.map_cons, List.sum_cons]
    have h1 := h x List.mem_cons_self
    rcases List.mem_cons.mp hz with rfl | hz
    · have := sum_nonneg (l := l.map f) fun y hy => by obtain ⟨w, hw, rfl⟩ := List.mem_map.mp hy; exact h w (List.mem_cons_of_mem _ hw)
      omega
    · have := ih (fun y hy => h y (List.mem_cons_of_mem _ hy)) hz
      omega
theorem stg_first (hs : House) (cs : List (Str × Str)) (ps : List Page) (m : Nat) (hok : hs.Ok) (c : CastOk cs) (b : BookOk cs ps) (hm : m = 15 ∨ m = 18) : Stg hs 0 (ps.take m) := by
  obtain ⟨ds, hd, ha⟩ := b.deeds
  have hcl := c.few
  have hcl2 := c.low
  have hl : ps.length = cs.length + ds.length := by
    have : (ps.map (·.deed)).length = ps.length := List.length_map _
    rw [hd, List.length_append] at this
    have h2 : (sitsOf cs).length = cs.length := List.length_map _
    omega
  have htl : (ps.take m).length = min m ps.length := List.length_take
  have hd' : (ps.take m).map (·.deed) = sitsOf cs ++ ds.take (m - cs.length) := by
    rw [List.map_take, hd, List.take_append]
    have h2 : (sitsOf cs).length = cs.length := List.length_map _
    rw [List.take_of_length_le (by omega), h2]
  have ha' : ∀ dd ∈ ds.take (m - cs.length), AskOk cs dd := fun dd h => ha dd (List.mem_of_mem_take h)
  have W := walk_book hok c hd' ha' (by omega)
  have Wn := (W (ps.take m).length (Nat.le_refl _)).2.1 (by omega)
  rw [List.take_of_length_le (Nat.le_refl _)] at Wn
  obtain ⟨w1, w2, w3, w4, w5⟩ := Wn
  have I : Inv cs (walk hs (ps.take m)) := inv0 c w1 w2 w3 w4
  have mono : ((ps.take m).map (·.minute)).Pairwise (· ≤ ·) := by rw [List.map_take]; exact b.mono.sublist (List.take_sublist _ _)
  refine ⟨cs, c, ⟨by omega, fun i hi => ?_, fun i pg h => (W i (by have := (List.getElem?_eq_some_iff.mp h).1; omega)).2.2 pg h, fun pg h => b.min pg (List.mem_of_mem_take h)⟩, I, w2, by omega, fun z => by rw [z] at htl; simp at htl; omega, fun ps0 pg e x hx => ?_⟩
  · by_cases e : i ≤ cs.length
    · rw [(W i hi).1 e]; exact ok_fresh_tabs c i
    · obtain ⟨g1, g2, g3, g4, g5⟩ := (W i hi).2.1 (by omega)
      exact (inv0 c g1 g2 g3 g4).ok c
  · rw [e] at mono hx
    rw [List.map_append] at mono
    rcases List.mem_append.mp hx with hx | hx
    · exact (List.pairwise_append.mp mono).2.2 _ (List.mem_map.mpr ⟨x, hx, rfl⟩) _ (by simp)
    · rw [List.mem_singleton.mp hx]; exact Int.le_refl _
theorem stg_next (hs : House) (j : Nat) (ps : List Page) (pg : Page) (ys : List Str) (dd : Deed) (n : Int) (hok : hs.Ok) (S : Stg hs j (ps ++ [pg])) (hj : j < 8) (hperm : ys.Perm (keys (walk hs (ps ++ [pg])).tables)) (nx : NextOk (penL ys (owed (walk hs (ps ++ [pg])))) dd) :
    Stg hs (j + 1) (ps ++ [pg] ++ [⟨pg.minute, n, dd⟩]) ∧ keys (walk hs (ps ++ [pg] ++ [⟨pg.minute, n, dd⟩])).tables = keys (walk hs (ps ++ [pg])).tables ∧
    (ys.map (owed (walk hs (ps ++ [pg] ++ [⟨pg.minute, n, dd⟩])))).sum = (ys.map (owed (walk hs (ps ++ [pg])))).sum ∧ Turned (walk hs (ps ++ [pg])) (walk hs (ps ++ [pg] ++ [⟨pg.minute, n, dd⟩])) dd := by
  obtain ⟨cs, c, g, I, hp, hl, hne, hmx⟩ := S
  have hmin := g.min pg (by simp)
  have htab := I.tabs
  rw [htab] at hperm
  have hsum : ∀ f : Str → Int, (ys.map f).sum = ((keys cs).map f).sum := fun f => perm_sum (hperm.map f)
  have fin : ∀ st', walk hs (ps ++ [pg] ++ [⟨pg.minute, n, dd⟩]) = st' → Inv cs st' → st'.paid = [] → Pre (walk hs (ps ++ [pg])) dd → Stg hs (j + 1) (ps ++ [pg] ++ [⟨pg.minute, n, dd⟩]) := fun st' e I' hp' pre => by
    refine ⟨cs, c, g.ext (by omega) (by rw [e]; exact I'.ok c) pre hmin, by rw [e]; exact I', by rw [e]; exact hp', by rw [List.length_append]; simp at hl ⊢; omega, by simp, fun p0 p1 e2 x hx => ?_⟩
    have : p1 = ⟨pg.minute, n, dd⟩ := by have := (List.append_inj' e2 rfl).2; simpa using this.symm
    rw [this]
    rcases List.mem_append.mp hx with hx | hx
    · exact hmx ps pg rfl x hx
    · rw [List.mem_singleton.mp hx]; exact Int.le_refl _
  generalize hst : walk hs (ps ++ [pg]) = st at *
  have hwalk : walk hs (ps ++ [pg] ++ [⟨pg.minute, n, dd⟩]) = step hs st ⟨pg.minute, n, dd⟩ := by rw [walk_snoc, hst]
  cases dd with
  | take s o p =>
    obtain ⟨n1, n2, v, n3, n4, n5⟩ := nx
    rw [keys_penL] at n2
    have ho : o ∈ ys := by have := aget_some_iff.mp ⟨v, n3⟩; rwa [keys_penL] at this
    rw [penL_get ho] at n3
    cases n3
    have hs' := hperm.mem_iff.mp n2
    have ho' := hperm.mem_iff.mp ho
    obtain ⟨I', how, hpd⟩ := take_step (m := pg.minute) (n := n) (hs := hs) c I n1 hs' ho' n4 n5
    rw [hwalk]
    refine ⟨fin _ hwalk I' (by rw [hpd]; exact hp) trivial, by rw [I'.tabs, htab], ?_, n1, by rw [htab]; exact hs', by rw [htab]; exact ho', fun z _ => how z⟩
    rw [hsum, hsum]
    have h3 : ∀ z ∈ keys cs, owed (step hs st ⟨pg.minute, n, .take s o p⟩) z = (owed st z + (if s = z then p else 0)) + if o = z then 0 - p else 0 := fun z _ => by
      rw [how z]
      by_cases e1 : z = o
      · rw [if_pos e1, if_pos e1.symm, if_neg (show ¬ s = z from fun q => n1 (q.trans e1)), e1]; omega
      · rw [if_neg e1, if_neg (show ¬ o = z from fun q => e1 q.symm)]
        by_cases e2 : z = s
        · rw [if_pos e2, if_pos e2.symm, e2]; omega
        · rw [if_neg e2, if_neg (show ¬ s = z from fun q => e2 q.symm)]; omega
    rw [sum_congr h3, sum_map_add, sum_map_add, sum_one _ c.nd hs', sum_one _ c.nd ho']; omega
  | even ss =>
    obtain ⟨n1, n2, n3, n4⟩ := nx
    have hin : ∀ z ∈ ss, z ∈ keys cs := fun z hz => by have := n4 z hz; rw [keys_penL] at this; exact hperm.mem_iff.mp this
    obtain ⟨I', hs1, hout, hnear, hpd⟩ := even_step (m := pg.minute) (n := n) (hs := hs) c I n1 n2 hin
    rw [hwalk]
    refine ⟨fin _ hwalk I' (by rw [hpd]; exact hp) ⟨n1, n3⟩, by rw [I'.tabs, htab], by rw [hsum, hsum]; exact hs1, n1, by omega, fun z hz => by rw [htab]; exact hin z hz, fun z _ hz => hout z hz, hnear⟩
  | sit _ _ => exact nx.elim
  | go _ => exact nx.elim
  | ask _ _ _ _ => exact nx.elim
  | rush _ _ => exact nx.elim
  | serve _ => exact nx.elim
  | strike _ => exact nx.elim
  | pay _ _ => exact nx.elim
theorem pay_walk {hs : House} {cs : List (Str × Str)} (c : CastOk cs) {ps : List Page} {mi : Int} {ys : List Str} (g : Good hs ps) (I : Inv cs (walk hs ps)) (hp : (walk hs ps).paid = []) (hl : ps.length ≤ 26) (m0 : 0 ≤ mi) (nd : ys.Nodup) (hy : ∀ z ∈ ys, z ∈ keys cs) :
    ∀ i, i ≤ ys.length → Good hs (ps ++ payPages mi (owed (walk hs ps)) 0 (ys.take i)) ∧ (payPages mi (owed (walk hs ps)) 0 (ys.take i)).length ≤ i ∧ Inv cs (walk hs (ps ++ payPages mi (owed (walk hs ps)) 0 (ys.take i))) ∧
      (∀ z, owed (walk hs (ps ++ payPages mi (owed (walk hs ps)) 0 (ys.take i))) z = if z ∈ ys.take i ∧ 0 < owed (walk hs ps) z then 0 else owed (walk hs ps) z) ∧ (∀ z ∈ keys (walk hs (ps ++ payPages mi (owed (walk hs ps)) 0 (ys.take i))).paid, z ∈ ys.take i) ∧
      ((walk hs (ps ++ payPages mi (owed (walk hs ps)) 0 (ys.take i))).paid.map (·.2)).sum = posSum (owed (walk hs ps)) (ys.take i) ∧ ∀ x ∈ payPages mi (owed (walk hs ps)) 0 (ys.take i), x.minute = mi := by
  have hyl : ys.length ≤ 12 := by have := sub_len nd hy; rw [keys_len] at this; have := c.few; omega
  generalize how : owed (walk hs ps) = ow at *
  intro i
  induction i with
  | zero =>
    intro _
    simp only [List.take_zero, payPages, List.append_nil]
    refine ⟨g, Nat.le_refl _, I, fun z => by rw [how]; simp, fun z hz => by rw [hp] at hz; simp [keys] at hz, by rw [hp]; simp [posSum], fun x hx => by cases hx⟩
  | succ i ih =>
    intro hi
    obtain ⟨i1, i2, i3, i4, i5, i6, i7⟩ := ih (by omega)
    have hz : ys[i]? = some ys[i] := List.getElem?_eq_getElem (by omega)
    generalize ys[i] = z at hz
    have hzk := hy z (List.mem_of_getElem? hz)
    have hnz : z ∉ ys.take i := fun hm => by
      obtain ⟨jj, hj, ej⟩ := List.getElem_of_mem hm
      rw [List.length_take] at hj
      rw [List.getElem_take] at ej
      have a1 : ys[jj]? = some z := by rw [List.getElem?_eq_getElem (by omega), ej]
      have := (List.getElem?_inj (List.getElem?_eq_some_iff.mp a1).1 nd).mp (a1.trans hz.symm)
      omega
    rw [take_snoc hz, payPages_snoc, posSum_snoc, ← List.append_assoc]
    by_cases hpos : 0 < ow z
    · rw [if_pos hpos, if_pos hpos]
      generalize hq : ps ++ payPages mi ow 0 (ys.take i) = qs at *
      generalize hst : walk hs qs = st at *
      have hoz : owed st z = ow z := by rw [i4, if_neg fun h => hnz h.1]
      have hw : why hs st (.pay z (ow z)) = "" := by
        simp only [why]
        rw [if_pos (i3.sits c hzk), if_neg (by omega)]
      have hnp : z ∉ keys st.paid := fun h => hnz (i5 z h)
      have hwalk : ∀ n, walk hs (qs ++ [⟨mi, n, .pay z (ow z)⟩]) = { st with paid := st.paid ++ [(z, ow z)] } := fun n => by
        rw [walk_snoc, hst]
        unfold step
        rw [if_pos hw]
        show ({ st with paid := aput st.paid z ((aget st.paid z).getD 0 + ow z) } : St) = _
        rw [aput_new _ hnp, aget_none.mpr hnp]
        simp
      have how' : ∀ y, owed ({ st with paid := st.paid ++ [(z, ow z)] } : St) y = if z = y then owed st y - ow z else owed st y := fun y => by
        show (aget st.moved y).getD 0 - (aget (st.paid ++ [(z, ow z)]) y).getD 0 + shares [] st.dishes y = _
        have e : owed st y = (aget st.moved y).getD 0 - (aget st.paid y).getD 0 + shares [] st.dishes y := rfl
        rw [aget_snoc]
        by_cases q : z = y
        · subst q
          rw [if_pos rfl, if_pos rfl, e, aget_none.mpr hnp]; simp; omega
        · rw [if_neg q, if_neg q, e]; cases aget st.paid y <;> simp
      have hf : ∀ y, owed ({ st with paid := st.paid ++ [(z, ow z)] } : St) y = if y ∈ ys.take i ++ [z] ∧ 0 < ow y then 0 else ow y := fun y => by
        rw [how']
        by_cases q : z = y
        · subst q
          rw [if_pos rfl, hoz, if_pos ⟨by simp, hpos⟩]; omega
        · rw [if_neg q, i4]
          have hq2 : y ∈ ys.take i ++ [z] ↔ y ∈ ys.take i := by
            rw [List.mem_append]
            exact ⟨fun h => h.elim id fun h => absurd (List.mem_singleton.mp h).symm q, .inl⟩
          simp only [hq2]
      have I' : Inv cs ({ st with paid := st.paid ++ [(z, ow z)] } : St) := by
        refine ⟨i3.tabs, i3.dish, ?_, ?_, i3.ndM, i3.subM, fun y hyy => ?_, ?_⟩
        · show (keys (st.paid ++ [(z, ow z)])).Nodup
          have h1 := i3.ndP
          unfold keys at h1 hnp ⊢
          rw [List.map_append]; exact nd_snoc h1 hnp
        · intro y hyy
          have hyy : y ∈ keys (st.paid ++ [(z, ow z)]) := hyy
          unfold keys at hyy
          rw [List.map_append] at hyy
          rcases List.mem_append.mp hyy with h | h
          · exact i3.subP y h
          · rw [List.mem_singleton.mp h]; exact hzk
        · rw [how']
          have := i3.own y hyy
          by_cases q : z = y
          · subst q; rw [if_pos rfl, hoz]; omega
          · rw [if_neg q]; exact this
        · refine Int.le_trans (le_sum fun y _ => ?_) i3.tot
          rw [how']
          by_cases q : z = y
          · rw [if_pos q]; omega
          · rw [if_neg q]; exact Int.le_refl _
      rw [hwalk]
      have hql : qs.length ≤ 26 + i := by rw [← hq, List.length_append]; omega
      refine ⟨i1.ext (by omega) (by rw [hwalk]; exact I'.ok c) trivial m0, by rw [List.length_append]; simp; omega, I', hf, fun y hyy => ?_, ?_, fun x hx => ?_⟩
      · have hyy : y ∈ keys (st.paid ++ [(z, ow z)]) := hyy
        unfold keys at hyy
        rw [List.map_append] at hyy
        rcases List.mem_append.mp hyy with h | h
        · exact List.mem_append_left _ (i5 y h)
        · exact List.mem_append_right _ h
      · show ((st.paid ++ [(z, ow z)]).map (·.2)).sum = _
        rw [List.map_append, List.sum_append, i6]; simp
      · rcases List.mem_append.mp hx with hx | hx
        · exact i7 x hx
        · rw [List.mem_singleton.mp hx]
    · rw [if_neg hpos, if_neg hpos, List.append_nil, List.append_nil, Int.add_zero]
      refine ⟨i1, by omega, i3, fun y => ?_, fun y hyy => List.mem_append_left _ (i5 y hyy), i6, i7⟩
      rw [i4]
      by_cases q : z = y
      · subst q
        rw [if_neg fun h => hpos h.2, if_neg fun h => hpos h.2]
      · have hq2 : y ∈ ys.take i ++ [z] ↔ y ∈ ys.take i := by
          rw [List.mem_append]
          exact ⟨fun h => h.elim id fun h => absurd (List.mem_singleton.mp h).symm q, .inl⟩
        simp only [hq2]
theorem stg_paid (hs : House) (ps : List Page) (pg : Page) (ys : List Str) (hok : hs.Ok) (S : Stg hs 8 (ps ++ [pg])) (hperm : ys.Perm (keys (walk hs (ps ++ [pg])).tables)) :
    PaidOk hs (owed (walk hs (ps ++ [pg]))) (((walk hs (ps ++ [pg])).paid.map (·.2)).sum) (pg.minute + 1) (ps ++ [pg] ++ payPages (pg.minute + 1) (owed (walk hs (ps ++ [pg]))) 0 ys) ys := by
  obtain ⟨cs, c, g, I, hp, hl, hne, hmx⟩ := S
  have hmin := g.min pg (by simp)
  have hmax := hmx ps pg rfl
  rw [I.tabs] at hperm
  have nd : ys.Nodup := hperm.nodup_iff.mpr c.nd
  have hcl := c.few
  have hyl : ys.length ≤ 12 := by rw [hperm.length_eq, keys_len]; exact hcl
  generalize hqs : ps ++ [pg] = qs at *
  obtain ⟨p1, p2, p3, p4, p5, p6, p7⟩ := pay_walk (mi := pg.minute + 1) c g I hp (by omega) (by omega) nd (fun z hz => hperm.mem_iff.mp hz) ys.length (Nat.le_refl _)
  rw [List.take_of_length_le (Nat.le_refl _)] at p1 p2 p3 p4 p5 p6 p7
  generalize how : owed (walk hs qs) = ow at *
  generalize hL : qs ++ payPages (pg.minute + 1) ow 0 ys = L at *
  have hown : ∀ z ∈ ys, 0 ≤ ow z := fun z hz => by rw [← how]; exact I.own z (hperm.mem_iff.mp hz)
  have hzero : ∀ z ∈ ys, owed (walk hs L) z = 0 := fun z hz => by
    rw [p4]
    by_cases h : 0 < ow z
    · rw [if_pos ⟨hz, h⟩]
    · rw [if_neg fun q => h q.2]; have := hown z hz; omega
  have hLl : L.length ≤ 38 := by rw [← hL, List.length_append]; omega
  have hgo : ∀ y0, ys.head? = some y0 → y0 ∈ ys := fun y0 h => List.mem_of_mem_head? (by rw [h]; rfl)
  have hwhy : ∀ y0, y0 ∈ ys → why hs (walk hs L) (.go y0) = "" := fun y0 h => by
    simp only [why]
    rw [if_pos (p3.sits c (hperm.mem_iff.mp h)), if_neg (by rw [hzero y0 h]; simp)]
  have hstep : ∀ y0, y0 ∈ ys → walk hs (L ++ [⟨pg.minute + 1 + 1, 0, .go y0⟩]) = { walk hs L with tables := aput (walk hs L).tables y0 "" } := fun y0 h => by
    rw [walk_snoc]
    unfold step
    rw [if_pos (hwhy y0 h)]; rfl
  refine ⟨hown, hyl, p1, fun z hz => by rw [p3.tabs]; exact hperm.mem_iff.mp hz, hzero, by rw [p6, hp]; simp, ?_, fun y0 h => ?_, fun y0 h => ?_⟩
  · have : (allOwed (walk hs L)).map (·.2) = (keys cs).map (owed (walk hs L)) := by
      unfold allOwed keys
      rw [p3.tabs, List.map_map, List.map_map]; rfl
    rw [this, sum_congr (g := fun _ => 0) fun z hz => hzero z (hperm.mem_iff.mpr hz), sum_const]; omega
  · have h0 := hgo y0 h
    have hk := hperm.mem_iff.mp h0
    refine p1.ext (by omega) ?_ trivial (by show 0 ≤ pg.minute + 1 + 1; omega)
    rw [hstep y0 h0]
    have ok := p3.ok c
    have hkeys : keys (aput (walk hs L).tables y0 "") = keys (walk hs L).tables := by rw [keys_put, if_pos (by rw [p3.tabs]; exact hk)]
    refine ⟨?_, ok.ndD, ?_, ok.fewD, ok.fewP, ok.fewM, fun q hq => ?_, ok.cost⟩
    · show (keys (aput (walk hs L).tables y0 "")).Nodup
      rw [hkeys]; exact ok.ndT
    · show (aput (walk hs L).tables y0 "").length ≤ 20
      rw [← keys_len, hkeys, keys_len]; exact ok.fewT
    · have := ok.seats q hq
      show _ ∧ _ ∧ _ ∧ ∀ z ∈ q.2.seats, z ∈ keys (aput (walk hs L).tables y0 "")
      rw [hkeys]; exact this
  · intro e he
    rw [hstep y0 (hgo y0 h)] at he
    have he : e ∈ (walk hs L).idle := he
    rcases idle_from hs L {} e he with he | ⟨x, hx, q⟩
    · cases he
    · rw [q]
      intro z
      have z1 : x.minute = pg.minute + 1 + 1 := congrArg Prod.fst z
      rw [← hL] at hx
      rcases List.mem_append.mp hx with hx | hx
      · have := hmax x hx; omega
      · have := p7 x hx; omega
theorem stages : Stages Stg where
  first := stg_first
  ends := fun hs j ps S => by
    obtain ⟨cs, c, g, I, hp, hl, hne, hmx⟩ := S
    exact ⟨ps.dropLast, ps.getLast hne, (List.dropLast_concat_getLast hne).symm⟩
  good := fun hs j ps S => by obtain ⟨cs, c, g, _⟩ := S; exact g
  len := fun hs j ps S hj => by obtain ⟨cs, c, g, I, hp, hl, _⟩ := S; omega
  low := fun hs j ps S => by obtain ⟨cs, c, g, I, _⟩ := S; rw [I.tabs]; exact ⟨c.low, c.few⟩
  names := fun hs j ps S => by obtain ⟨cs, c, g, I, _⟩ := S; rw [I.tabs]; exact c.nm
  own := fun hs j ps S z hz => by
    obtain ⟨cs, c, g, I, _⟩ := S
    rw [I.tabs] at hz
    have := mem_sum I.own hz
    have := I.tot
    exact ⟨I.own z hz, by omega⟩
  next := stg_next
  paid := stg_paid
end TB
open PySem PySem.W PySem.Calls PyProof.Rows
theorem law_holds_of {Stg : TB.House → Nat → List TB.Page → Prop} (Z : TB.Stages Stg) : PySem.Challenge.rw_tablebills_k50_whole_however_parted.Holds := by
  w_on; o_law
  refine HandSHeadRun.head_any (r := OpenLaw.row PySem.Challenge.rw_tablebills_k50_whole_however_parted) (q := view (OpenLaw.row PySem.Challenge.rw_tablebills_k50_whole_however_parted).prog [75]) (H := TB.hk) (ob := TB.ob) (M := 8000) (loose := TB.loose) (d := HandSHeadRun.topDef (OpenLaw.row PySem.Challenge.rw_tablebills_k50_whole_however_parted).prog 75) (kwd := []) TB.ob_eq
    (by kernel_rfl) (fun s => by kernel_rfl) TB.run (by kernel_rfl) (by kernel_rfl) (by kernel_rfl) (by rfl) (by first | assumption | decide +kernel) (by decide +kernel) ⟨rfl, rfl, rfl, rfl, rfl, by decide +kernel⟩ ?hw ?hc
  case hw => w_witness2
  case hc =>
    refine L2.walk_ofE (l := PySem.Challenge.rw_tablebills_k50_whole_however_parted) (n := 63) (k := 11) (x := "_law_script") (CX := L2.CX0) rfl (by decide) (by kernel_rfl) ⟨rfl, by decide, by decide⟩ ?F (fun _ _ _ _ z => z)
    intro w mg fa h Y G hmg0
    obtain ⟨K, KX, c⟩ := Y
    have hmg : mg ("law" : PySem.Str) = some (.ref fa) := by
      have e : (HandSHeadRun.topDef (OpenLaw.row PySem.Challenge.rw_tablebills_k50_whole_however_parted).prog 75).name = ("law" : PySem.Str) := by kernel_rfl
      rw [← e]
      exact hmg0
    obtain ⟨fd, hb, hF⟩ := TB.facts (P := (PySem.Challenge.rw_tablebills_k50_whole_however_parted).prog) (w := w) Z KX G hmg c
    exact ⟨K, fd, TB.sp_law K, KX, hb, fun H a ns hl _ hS => ⟨a, ns, rfl, hS, hl, fun _ => rfl⟩, hF⟩
theorem PySem.Challenge.cw_tablebills_k50_whole_however_parted_holds : PySem.Challenge.rw_tablebills_k50_whole_however_parted.Holds := by
  exact law_holds_of TB.stages
