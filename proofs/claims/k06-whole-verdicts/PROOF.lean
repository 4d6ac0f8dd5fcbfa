import PyProof.Rows.All
import Wide.All
import OpenK.AllK
import Wide.FinOn
import PySem.Challenge.RW_marketden_k06_whole_verdicts
import HandS.ForMost
import HandS.Exc
import HandS.ExcOwn
import HandS.WordsExc
import HandS.ExcIs
import HandS.TryOnly
import HandS.Defaults
import HandS.MakeKwOnly
import HandS.MakeKw
import HandS.IsInst
import HandS.Deep
import HandS.Style
import HandS.TupAny
import HandS.DictTup
import HandS.DictComp
import HandS.Conv
import HandS.More
import HandS.SetKeys
import HandS.TupLen
import HandS.Flow
import HandS.Zip
import HandS.Small
import HandS.Wide
import HandS.WideBits
import HandS.Lambda
import HandS.EndTab
import HandS.HeadWalk
import HandS.HeadHook1
import HandS.HeadHook2
import HandS.HeadHook3
import HandS.HeadHook4
import KE.KStateDown
import Lean
import HandS.Head0
import HandS.Head1
import HandS.Head2
import HandS.Walk
import KE.KDictWalk
import KE.KDictKeyed
import KE.KDictPairs
import HandS.SetBool
import HandS.ListItems
import HandS.Set
import HandS.SetFor
import HandS.WordsDict
import HandS.Iter
import HandS.Dict
set_option Elab.async false
set_option linter.all false
set_option maxRecDepth 100000
set_option maxHeartbeats 4000000
/-! The ground of this proof: the top by places, short words, readings stepped by a tactic. -/
namespace Mk
open PySem L2 He
def top (i : Nat) : Stmt := PySem.Challenge.pw_marketden_k06_whole_verdicts.main.body.getD i (.Pass ⟨0, 0, 0, 0⟩)
/-! ### lists that are written out -/
theorem dl_map {α β : Type} (f : α → β) (a : α) (l : List α) : (a :: l).map f = f a :: l.map f := rfl
theorem dl_map0 {α β : Type} (f : α → β) : ([] : List α).map f = [] := rfl
theorem dl_app {α : Type} (a : α) (l m : List α) : (a :: l) ++ m = a :: (l ++ m) := rfl
theorem dl_app0 {α : Type} (m : List α) : [] ++ m = m := rfl
theorem dl_set {α : Type} (a b : α) (l : List α) : (a :: l).set 0 b = b :: l := rfl
theorem dl_setS {α : Type} (a b : α) (l : List α) (n : Nat) : (a :: l).set (n + 1) b = a :: l.set n b := rfl
/-! ### built-ins by name -/
theorem bt_isinstance : bootBuiltins "isinstance" = some (.builtin "isinstance") := by decide +kernel
theorem bt_len : bootBuiltins "len" = some (.builtin "len") := by decide +kernel
theorem bt_all : bootBuiltins "all" = some (.builtin "all") := by decide +kernel
theorem bt_any : bootBuiltins "any" = some (.builtin "any") := by decide +kernel
theorem bt_sum : bootBuiltins "sum" = some (.builtin "sum") := by decide +kernel
theorem bt_abs : bootBuiltins "abs" = some (.builtin "abs") := by decide +kernel
theorem bt_max : bootBuiltins "max" = some (.builtin "max") := by decide +kernel
theorem bt_min : bootBuiltins "min" = some (.builtin "min") := by decide +kernel
theorem bt_sorted : bootBuiltins "sorted" = some (.builtin "sorted") := by decide +kernel
theorem bt_int : bootBuiltins "int" = some (.type "int") := by decide +kernel
theorem bt_bool : bootBuiltins "bool" = some (.type "bool") := by decide +kernel
theorem bt_str : bootBuiltins "str" = some (.type "str") := by decide +kernel
theorem bt_list : bootBuiltins "list" = some (.type "list") := by decide +kernel
theorem bt_tuple : bootBuiltins "tuple" = some (.type "tuple") := by decide +kernel
theorem bt_dict : bootBuiltins "dict" = some (.type "dict") := by decide +kernel
theorem bt_set : bootBuiltins "set" = some (.type "set") := by decide +kernel
/-! ### a def as it stands -/
abbrev DefAt (K : PySem.W.Frag) (x : Str) (st : Stmt) (dvs : List V) : Prop := ∃ fd, FunD K x x (defArgs st) (defBody st) (defScope st) dvs [] (ga K x) fd
/-- a def that keeps a promise, called with the defaults dvs behind what is written -/
structure Fok (P : Program) (w : World) (K : PySem.W.Frag) (mg : Str → Option Value) (base : Heap) (CX : CXT) (x : Str) (ps : List Str) (dvs : List V) (k : Nat) (sp : Sp) : Prop where
  ex : ∃ (fd : FuncData) (ds : List Value), FnOk P w K mg base CX k (ga K x) fd ps sp ∧ Binds K fd ps ds ∧ Vals dvs ds
  kp : PySem.W.keepIn K (.ref (ga K x)) = true
  gl : mg x = some (.ref (ga K x))
section
variable {X : Cx} {CX : CXT} {k : Nat} {ps : List Str} {sp : Sp} {dvs : List V} {E : XK} {x : Str} {p pos : Pos} {e : Expr} {es : List Expr} {t : TA}
theorem pe_fn (F : Fok X.prog X.w X.K X.mg X.base CX x ps dvs k sp) (hr : Room k X.A) (hx : Passes CX X E) (ha : PA X (e :: es) t) (hg : Gl X x := by rfl)
    (hdb : (x == ("__debug__" : Str)) = false := by decide) (he : starEach (e :: es) X.env = (false, eval e X.env) :: starEach es X.env := by rfl) (hpl : (backTo pos (starEach es X.env)).any (·.1) = false := by rfl) :
    PE X (.Call (.Name x p) (e :: es) [] pos) (tCall sp dvs E t) := by
  obtain ⟨fd, ds, F1, b, v⟩ := F.ex
  exact pe_call F1 hr hg F.gl F.kp b v hx ha hdb he hpl
/-- a module's number -/
theorem pe_gi {i : Int} (h : ∃ t, X.mg x = some (.int i t)) (hg : Gl X x := by rfl) (hd : (x == ("__debug__" : Str)) = false := by decide) : PE X (.Name x pos) (tC (.int i)) := by
  obtain ⟨t, h⟩ := h
  exact pe_glob hg h ⟨t, rfl⟩ hd
theorem pe_gs {z : Str} (h : ∃ t, X.mg x = some (.str z t)) (hg : Gl X x := by rfl) (hd : (x == ("__debug__" : Str)) = false := by decide) : PE X (.Name x pos) (tC (.str z)) := by
  obtain ⟨t, h⟩ := h
  exact pe_glob hg h ⟨t, rfl⟩ hd
theorem pe_ga {a : Addr} (h : X.mg x = some (.ref a)) (hg : Gl X x := by rfl) (hd : (x == ("__debug__" : Str)) = false := by decide) : PE X (.Name x pos) (tC (.ref a)) := pe_glob hg h rfl hd
theorem pe_ty {n : String} (hm : X.mg x = none) (hv : bootBuiltins x = some (.type n)) (hg : Gl X x := by rfl) (hn : x ≠ "__name__" := by decide) (hd : (x == ("__debug__" : Str)) = false := by decide) : PE X (.Name x pos) (tC (.ty n)) := pe_bltn hg hm hv (v := .ty n) rfl hn hd
end
/-! ### isinstance, by kinds -/
section
variable {K : PySem.W.Frag} {H : Hp} {Q : VK} {i : Int} {z : Str} {b : Bool} {a : Addr} {xs : List V}
theorem ri_ii (q : Q (.bl true) H) : rIsi K [.int i, .ty "int"] H Q := ⟨_, _, _, _, _, rfl, .ty _, .base (.int _), kit_ty (by decide +kernel), q⟩
theorem ri_ib (q : Q (.bl false) H) : rIsi K [.int i, .ty "bool"] H Q := ⟨_, _, _, _, _, rfl, .ty _, .base (.int _), kit_ty (by decide +kernel), q⟩
theorem ri_ss (q : Q (.bl true) H) : rIsi K [.str z, .ty "str"] H Q := ⟨_, _, _, _, _, rfl, .ty _, .base (.str _), kit_ty (by decide +kernel), q⟩
theorem ri_sd (q : Q (.bl false) H) : rIsi K [.str z, .ty "dict"] H Q := ⟨_, _, _, _, _, rfl, .ty _, .base (.str _), kit_ty (by decide +kernel), q⟩
theorem ri_bb (q : Q (.bl true) H) : rIsi K [.bl b, .ty "bool"] H Q := ⟨_, _, _, _, _, rfl, .ty _, .base (.bl _), kit_ty (by decide +kernel), q⟩
theorem ri_tt (h : H a = some (.tup xs)) (q : Q (.bl true) H) : rIsi K [.ref a, .ty "tuple"] H Q := ⟨_, _, _, _, _, rfl, .ty _, .base (.tup h), kit_ty (by decide +kernel), q⟩
theorem ri_ll (h : H a = some (.lst xs)) (q : Q (.bl true) H) : rIsi K [.ref a, .ty "list"] H Q := ⟨_, _, _, _, _, rfl, .ty _, .base (.lst h), kit_ty (by decide +kernel), q⟩
theorem ri_dd {kvs : List (Key × V)} (h : H a = some (.dK kvs)) (q : Q (.bl true) H) : rIsi K [.ref a, .ty "dict"] H Q := ⟨_, _, _, _, _, rfl, .ty _, .base (.dK h), kit_ty (by decide +kernel), q⟩
theorem ri_dT {kvs : List (List Key × V)} (h : H a = some (.dT kvs)) (q : Q (.bl true) H) : rIsi K [.ref a, .ty "dict"] H Q := ⟨_, _, _, _, _, rfl, .ty _, .base (.dT h), kit_ty (by decide +kernel), q⟩
theorem rt_l {tp : Addr} (ht : H tp = some (.tup [.ty "list", .ty "tuple"])) (h : H a = some (.lst xs)) (q : Q (.bl true) H) : rIsiT K [.ref a, .ref tp] H Q :=
  ⟨_, _, _, _, [.type "list", .type "tuple"], true, rfl, ht, .cons (.ty _) (.cons (.ty _) .nil), .base (.lst h), kitAny_cons (b := true) (kit_ty (by decide +kernel)) (fun z => nomatch z) (fun _ => rfl), q⟩
theorem rt_t {tp : Addr} (ht : H tp = some (.tup [.ty "list", .ty "tuple"])) (h : H a = some (.tup xs)) (q : Q (.bl true) H) : rIsiT K [.ref a, .ref tp] H Q :=
  ⟨_, _, _, _, [.type "list", .type "tuple"], true, rfl, ht, .cons (.ty _) (.cons (.ty _) .nil), .base (.tup h), kitAny_cons (b := false) (kit_ty (by decide +kernel)) (fun _ => kitAny_cons (b := true) (kit_ty (by decide +kernel)) (fun z => nomatch z) (fun _ => rfl)) (fun z => nomatch z), q⟩
end
/-! ### tests -/
theorem ited {p : Prop} {A B : Prop} [Decidable p] (h1 : p → A) (h2 : ¬ p → B) : if decide p = true then A else B := by
  by_cases h : p
  · rw [if_pos (decide_eq_true h)]
    exact h1 h
  · rw [if_neg (by rw [decide_eq_false h]; exact Bool.false_ne_true)]
    exact h2 h
theorem itedn {p : Prop} {A B : Prop} [Decidable p] (h1 : ¬ p → A) (h2 : p → B) : if (!decide p) = true then A else B := by
  by_cases h : p
  · rw [decide_eq_true h]
    exact iteF (h2 h)
  · rw [decide_eq_false h]
    exact iteT (h1 h)
theorem itedT {p : Prop} {A B : Prop} [Decidable p] (h : p) (a : A) : if decide p = true then A else B := by
  rw [if_pos (decide_eq_true h)]
  exact a
theorem itedF {p : Prop} {A B : Prop} [Decidable p] (h : ¬ p) (b : B) : if decide p = true then A else B := by
  rw [if_neg (by rw [decide_eq_false h]; exact Bool.false_ne_true)]
  exact b
theorem itednT {p : Prop} {A B : Prop} [Decidable p] (h : ¬ p) (a : A) : if (!decide p) = true then A else B := by
  rw [decide_eq_false h]
  exact iteT a
theorem itednF {p : Prop} {A B : Prop} [Decidable p] (h : p) (b : B) : if (!decide p) = true then A else B := by
  rw [decide_eq_true h]
  exact iteF b
theorem itenT {A B : Prop} (a : B) : if (!true) = true then A else B := iteF a
theorem itenF {A B : Prop} (a : A) : if (!false) = true then A else B := iteT a
theorem iteb {c : Bool} {A B : Prop} (h1 : c = true → A) (h2 : c = false → B) : if c = true then A else B := by
  cases c with
  | true => exact iteT (h1 rfl)
  | false => exact iteF (h2 rfl)
theorem itebn {c : Bool} {A B : Prop} (h1 : c = false → A) (h2 : c = true → B) : if (!c) = true then A else B := by
  cases c with
  | true => exact iteF (h2 rfl)
  | false => exact iteT (h1 rfl)
theorem qb {Q : VK} {H : Hp} {b b' : Bool} (k : Q (.bl b) H) (e : b = b') : Q (.bl b') H := e ▸ k
theorem qi {Q : VK} {H : Hp} {b b' : Int} (k : Q (.int b) H) (e : b = b') : Q (.int b') H := e ▸ k
/-! ### heaps that grow -/
theorem keep {H : Hp} {a p : Addr} {o u : HO} (h : H a = some o) (hp : H p = none) : upd H p u a = some o := by rw [upd_ne (ne_of_none h hp)]; exact h
theorem grow {H : Hp} {p : Addr} {u : HO} (hp : H p = none) : Same H (upd H p u) := fun _ _ h => keep h hp
end Mk
/-! What is known of the module behind its top. -/
namespace Mk
open PySem L2 He
abbrev s_is_name : Stmt := top 9
abbrev ns_is_name : List Str := ["thing", "sign"]
abbrev ps_is_name : List Str := ["thing"]
theorem sc_is_name : FnScope ns_is_name ps_is_name (defScope s_is_name) := ⟨rfl, rfl, rfl, by decide +kernel, rfl, by decide +kernel, by decide +kernel⟩
abbrev s_is_number : Stmt := top 10
abbrev ns_is_number : List Str := ["thing", "least", "most"]
abbrev ps_is_number : List Str := ["thing", "least", "most"]
theorem sc_is_number : FnScope ns_is_number ps_is_number (defScope s_is_number) := ⟨rfl, rfl, rfl, by decide +kernel, rfl, by decide +kernel, by decide +kernel⟩
abbrev s_are_names : Stmt := top 11
abbrev ns_are_names : List Str := ["thing", "least", "most", "one"]
abbrev ps_are_names : List Str := ["thing", "least", "most"]
theorem sc_are_names : FnScope ns_are_names ps_are_names (defScope s_are_names) := ⟨rfl, rfl, rfl, by decide +kernel, rfl, by decide +kernel, by decide +kernel⟩
abbrev s_is_one_of : Stmt := top 12
abbrev ns_is_one_of : List Str := ["thing", "names"]
abbrev ps_is_one_of : List Str := ["thing", "names"]
theorem sc_is_one_of : FnScope ns_is_one_of ps_is_one_of (defScope s_is_one_of) := ⟨rfl, rfl, rfl, by decide +kernel, rfl, by decide +kernel, by decide +kernel⟩
abbrev s_part_of : Stmt := top 13
abbrev ns_part_of : List Str := ["number", "rate", "whole"]
abbrev ps_part_of : List Str := ["number", "rate", "whole"]
theorem sc_part_of : FnScope ns_part_of ps_part_of (defScope s_part_of) := ⟨rfl, rfl, rfl, by decide +kernel, rfl, by decide +kernel, by decide +kernel⟩
abbrev s_is_levy : Stmt := top 25
abbrev ns_is_levy : List Str := ["thing", "lands", "kinds"]
abbrev ps_is_levy : List Str := ["thing", "lands", "kinds"]
theorem sc_is_levy : FnScope ns_is_levy ps_is_levy (defScope s_is_levy) := ⟨rfl, rfl, rfl, by decide +kernel, rfl, by decide +kernel, by decide +kernel⟩
abbrev s_is_said : Stmt := top 26
abbrev ns_is_said : List Str := ["thing"]
abbrev ps_is_said : List Str := ["thing"]
theorem sc_is_said : FnScope ns_is_said ps_is_said (defScope s_is_said) := ⟨rfl, rfl, rfl, by decide +kernel, rfl, by decide +kernel, by decide +kernel⟩
abbrev s_is_rule : Stmt := top 27
abbrev ns_is_rule : List Str := ["thing", "one"]
abbrev ps_is_rule : List Str := ["thing"]
theorem sc_is_rule : FnScope ns_is_rule ps_is_rule (defScope s_is_rule) := ⟨rfl, rfl, rfl, by decide +kernel, rfl, by decide +kernel, by decide +kernel⟩
abbrev s_are_rules : Stmt := top 28
abbrev ns_are_rules : List Str := ["thing", "one"]
abbrev ps_are_rules : List Str := ["thing"]
theorem sc_are_rules : FnScope ns_are_rules ps_are_rules (defScope s_are_rules) := ⟨rfl, rfl, rfl, by decide +kernel, rfl, by decide +kernel, by decide +kernel⟩
abbrev s_verdict : Stmt := top 29
abbrev ns_verdict : List Str := ["word", "said", "days", "rules", "name", "pairs", "limit", "part", "back", "pair"]
abbrev ps_verdict : List Str := ["word", "said", "days", "rules"]
theorem sc_verdict : FnScope ns_verdict ps_verdict (defScope s_verdict) := ⟨rfl, rfl, rfl, by decide +kernel, rfl, by decide +kernel, by decide +kernel⟩
abbrev s_Deal___init__ : Stmt := inClass (top 32) 0
abbrev ns_Deal___init__ : List Str := ["self", "seller", "buyer", "land", "whole", "tax", "rate", "fee"]
abbrev ps_Deal___init__ : List Str := ["self", "seller", "buyer", "land", "whole", "tax", "rate", "fee"]
theorem sc_Deal___init__ : FnScope ns_Deal___init__ ps_Deal___init__ (defScope s_Deal___init__) := ⟨rfl, rfl, rfl, by decide +kernel, rfl, by decide +kernel, by decide +kernel⟩
abbrev s_moves_for : Stmt := top 33
abbrev ns_moves_for : List Str := ["deal", "word", "part", "carrier", "found", "more", "back", "rest", "tax", "fee"]
abbrev ps_moves_for : List Str := ["deal", "word", "part", "carrier"]
theorem sc_moves_for : FnScope ns_moves_for ps_moves_for (defScope s_moves_for) := ⟨rfl, rfl, rfl, by decide +kernel, rfl, by decide +kernel, by decide +kernel⟩
abbrev s_is_made : Stmt := top 37
abbrev ns_is_made : List Str := ["row", "word", "day", "sell", "buy", "seller", "buyer", "ware", "many", "price", "tax", "one"]
abbrev ps_is_made : List Str := ["row"]
theorem sc_is_made : FnScope ns_is_made ps_is_made (defScope s_is_made) := ⟨rfl, rfl, rfl, by decide +kernel, rfl, by decide +kernel, by decide +kernel⟩
abbrev s_is_ended : Stmt := top 38
abbrev ns_is_ended : List Str := ["row"]
abbrev ps_is_ended : List Str := ["row"]
theorem sc_is_ended : FnScope ns_is_ended ps_is_ended (defScope s_is_ended) := ⟨rfl, rfl, rfl, by decide +kernel, rfl, by decide +kernel, by decide +kernel⟩
abbrev s_is_row : Stmt := top 39
abbrev ns_is_row : List Str := ["row"]
abbrev ps_is_row : List Str := ["row"]
theorem sc_is_row : FnScope ns_is_row ps_is_row (defScope s_is_row) := ⟨rfl, rfl, rfl, by decide +kernel, rfl, by decide +kernel, by decide +kernel⟩
abbrev s_goes_on : Stmt := top 40
abbrev ns_goes_on : List Str := ["before", "row"]
abbrev ps_goes_on : List Str := ["before", "row"]
theorem sc_goes_on : FnScope ns_goes_on ps_goes_on (defScope s_goes_on) := ⟨rfl, rfl, rfl, by decide +kernel, rfl, by decide +kernel, by decide +kernel⟩
abbrev s_stands : Stmt := top 41
abbrev ns_stands : List Str := ["rows", "at", "row"]
abbrev ps_stands : List Str := ["rows", "at"]
theorem sc_stands : FnScope ns_stands ps_stands (defScope s_stands) := ⟨rfl, rfl, rfl, by decide +kernel, rfl, by decide +kernel, by decide +kernel⟩
abbrev s_first_wrong : Stmt := top 42
abbrev ns_first_wrong : List Str := ["rows", "at"]
abbrev ps_first_wrong : List Str := ["rows"]
theorem sc_first_wrong : FnScope ns_first_wrong ps_first_wrong (defScope s_first_wrong) := ⟨rfl, rfl, rfl, by decide +kernel, rfl, by decide +kernel, by decide +kernel⟩
abbrev s_is_record : Stmt := top 43
abbrev ns_is_record : List Str := ["thing"]
abbrev ps_is_record : List Str := ["thing"]
theorem sc_is_record : FnScope ns_is_record ps_is_record (defScope s_is_record) := ⟨rfl, rfl, rfl, by decide +kernel, rfl, by decide +kernel, by decide +kernel⟩
abbrev s_row_of : Stmt := top 44
abbrev ns_row_of : List Str := ["record", "word", "found", "row"]
abbrev ps_row_of : List Str := ["record", "word"]
theorem sc_row_of : FnScope ns_row_of ps_row_of (defScope s_row_of) := ⟨rfl, rfl, rfl, by decide +kernel, rfl, by decide +kernel, by decide +kernel⟩
abbrev s_judged : Stmt := top 46
abbrev ns_judged : List Str := ["record", "rules"]
abbrev ps_judged : List Str := ["record", "rules"]
theorem sc_judged : FnScope ns_judged ps_judged (defScope s_judged) := ⟨rfl, rfl, rfl, by decide +kernel, rfl, by decide +kernel, by decide +kernel⟩
abbrev s_judged_by : Stmt := top 47
abbrev ns_judged_by : List Str := ["record", "rules", "came", "complaint", "said", "row"]
abbrev ps_judged_by : List Str := ["record", "rules"]
theorem sc_judged_by : FnScope ns_judged_by ps_judged_by (defScope s_judged_by) := ⟨rfl, rfl, rfl, by decide +kernel, rfl, by decide +kernel, by decide +kernel⟩
abbrev s_deal_of : Stmt := top 48
abbrev ns_deal_of : List Str := ["record", "world", "word", "day", "sell", "buy", "seller", "buyer", "ware", "many", "price", "tax", "sent", "rate"]
abbrev ps_deal_of : List Str := ["record", "world"]
theorem sc_deal_of : FnScope ns_deal_of ps_deal_of (defScope s_deal_of) := ⟨rfl, rfl, rfl, by decide +kernel, rfl, by decide +kernel, by decide +kernel⟩
abbrev s_shares : Stmt := top 49
abbrev ns_shares : List Str := ["record", "world", "deal", "sent", "word", "part", "moves", "more", "found", "account", "amount", "why"]
abbrev ps_shares : List Str := ["record", "world"]
theorem sc_shares : FnScope ns_shares ps_shares (defScope s_shares) := ⟨rfl, rfl, rfl, by decide +kernel, rfl, by decide +kernel, by decide +kernel⟩
abbrev s_are_wares : Stmt := top 59
abbrev ns_are_wares : List Str := ["thing", "name", "kind"]
abbrev ps_are_wares : List Str := ["thing"]
theorem sc_are_wares : FnScope ns_are_wares ps_are_wares (defScope s_are_wares) := ⟨rfl, rfl, rfl, by decide +kernel, rfl, by decide +kernel, by decide +kernel⟩
abbrev s_are_parties : Stmt := top 60
abbrev ns_are_parties : List Str := ["thing", "lands", "name", "land"]
abbrev ps_are_parties : List Str := ["thing", "lands"]
theorem sc_are_parties : FnScope ns_are_parties ps_are_parties (defScope s_are_parties) := ⟨rfl, rfl, rfl, by decide +kernel, rfl, by decide +kernel, by decide +kernel⟩
abbrev s_World___init__ : Stmt := inClass (top 61) 0
abbrev ns_World___init__ : List Str := ["self", "lands", "wares", "parties", "carriers", "levies", "rules", "fee", "send", "complain", "one"]
abbrev ps_World___init__ : List Str := ["self", "lands", "wares", "parties", "carriers", "levies", "rules", "fee", "send", "complain"]
theorem sc_World___init__ : FnScope ns_World___init__ ps_World___init__ (defScope s_World___init__) := ⟨rfl, rfl, rfl, by decide +kernel, rfl, by decide +kernel, by decide +kernel⟩
abbrev s_World_rate : Stmt := inClass (top 61) 2
abbrev ns_World_rate : List Str := ["self", "land", "kind", "day"]
abbrev ps_World_rate : List Str := ["self", "land", "kind", "day"]
theorem sc_World_rate : FnScope ns_World_rate ps_World_rate (defScope s_World_rate) := ⟨rfl, rfl, rfl, by decide +kernel, rfl, by decide +kernel, by decide +kernel⟩
abbrev s_World_rate_at : Stmt := inClass (top 61) 3
abbrev ns_World_rate_at : List Str := ["self", "land", "kind", "day", "last", "found", "place", "what", "begin", "rate"]
abbrev ps_World_rate_at : List Str := ["self", "land", "kind", "day"]
theorem sc_World_rate_at : FnScope ns_World_rate_at ps_World_rate_at (defScope s_World_rate_at) := ⟨rfl, rfl, rfl, by decide +kernel, rfl, by decide +kernel, by decide +kernel⟩
abbrev s_World_rate_for : Stmt := inClass (top 61) 4
abbrev ns_World_rate_for : List Str := ["self", "buyer", "ware", "day"]
abbrev ps_World_rate_for : List Str := ["self", "buyer", "ware", "day"]
theorem sc_World_rate_for : FnScope ns_World_rate_for ps_World_rate_for (defScope s_World_rate_for) := ⟨rfl, rfl, rfl, by decide +kernel, rfl, by decide +kernel, by decide +kernel⟩
abbrev s__law_draw : Stmt := top 63
abbrev ns__law_draw : List Str := ["_law_cell", "_law_k", "_law_many", "_law_primes"]
abbrev ps__law_draw : List Str := ["_law_cell", "_law_k", "_law_many"]
theorem sc__law_draw : FnScope ns__law_draw ps__law_draw (defScope s__law_draw) := ⟨rfl, rfl, rfl, by decide +kernel, rfl, by decide +kernel, by decide +kernel⟩
abbrev s__law_cell_at : Stmt := top 64
abbrev ns__law_cell_at : List Str := ["_law_script", "_law_k"]
abbrev ps__law_cell_at : List Str := ["_law_script", "_law_k"]
theorem sc__law_cell_at : FnScope ns__law_cell_at ps__law_cell_at (defScope s__law_cell_at) := ⟨rfl, rfl, rfl, by decide +kernel, rfl, by decide +kernel, by decide +kernel⟩
abbrev s__law_digits : Stmt := top 65
abbrev ns__law_digits : List Str := ["_law_script", "_law_at", "_law_many", "_law_base", "_law_cell", "_law_found", "_law_left", "_law_turn", "_law_blend", "_law_more"]
abbrev ps__law_digits : List Str := ["_law_script", "_law_at", "_law_many", "_law_base"]
theorem sc__law_digits : FnScope ns__law_digits ps__law_digits (defScope s__law_digits) := ⟨rfl, rfl, rfl, by decide +kernel, rfl, by decide +kernel, by decide +kernel⟩
abbrev s__law_take : Stmt := top 66
abbrev ns__law_take : List Str := ["_law_draws", "_law_many"]
abbrev ps__law_take : List Str := ["_law_draws", "_law_many"]
theorem sc__law_take : FnScope ns__law_take ps__law_take (defScope s__law_take) := ⟨rfl, rfl, rfl, by decide +kernel, rfl, by decide +kernel, by decide +kernel⟩
abbrev s__law_parts : Stmt := top 67
abbrev ns__law_parts : List Str := ["_law_draws", "_law_lands", "_law_wares", "_law_ware", "_law_names", "_law_parties", "_law_name", "_law_porters", "_law_kinds", "_law_dues", "_law_turn", "_law_rate", "_law_land", "_law_kind", "_law_norms", "_law_pairs", "_law_part", "_law_word", "_law_days", "_law_cut", "_law_wait"]
abbrev ps__law_parts : List Str := ["_law_draws"]
theorem sc__law_parts : FnScope ns__law_parts ps__law_parts (defScope s__law_parts) := ⟨rfl, rfl, rfl, by decide +kernel, rfl, by decide +kernel, by decide +kernel⟩
abbrev s__law_world : Stmt := top 68
abbrev ns__law_world : List Str := ["_law_parts_here"]
abbrev ps__law_world : List Str := ["_law_parts_here"]
theorem sc__law_world : FnScope ns__law_world ps__law_world (defScope s__law_world) := ⟨rfl, rfl, rfl, by decide +kernel, rfl, by decide +kernel, by decide +kernel⟩
abbrev s__law_record : Stmt := top 69
abbrev ns__law_record : List Str := ["_law_draws", "_law_parts_here", "_law_world_here", "_law_parties", "_law_ware", "_law_seller", "_law_buyer", "_law_party", "_law_day", "_law_many", "_law_price", "_law_tax", "_law_found", "_law_porters", "_law_one", "_law_kind", "_law_came", "_law_turn", "_law_who", "_law_word", "_law_part", "_law_back"]
abbrev ps__law_record : List Str := ["_law_draws", "_law_parts_here", "_law_world_here"]
theorem sc__law_record : FnScope ns__law_record ps__law_record (defScope s__law_record) := ⟨rfl, rfl, rfl, by decide +kernel, rfl, by decide +kernel, by decide +kernel⟩
abbrev s__law_verdict : Stmt := top 70
abbrev ns__law_verdict : List Str := ["_law_norms", "_law_rows", "_law_came", "_law_day", "_law_word", "_law_said", "_law_row", "_law_name", "_law_pairs", "_law_days", "_law_part", "_law_back", "_law_pair"]
abbrev ps__law_verdict : List Str := ["_law_norms", "_law_rows"]
theorem sc__law_verdict : FnScope ns__law_verdict ps__law_verdict (defScope s__law_verdict) := ⟨rfl, rfl, rfl, by decide +kernel, rfl, by decide +kernel, by decide +kernel⟩
abbrev s__law_due : Stmt := top 71
abbrev ns__law_due : List Str := ["_law_parts_here", "_law_world_here", "_law_rows", "_law_day", "_law_seller", "_law_buyer", "_law_ware", "_law_many", "_law_price", "_law_tax", "_law_how", "_law_part", "_law_whole", "_law_land", "_law_found", "_law_rest", "_law_levy", "_law_cut", "_law_one"]
abbrev ps__law_due : List Str := ["_law_parts_here", "_law_world_here", "_law_rows"]
theorem sc__law_due : FnScope ns__law_due ps__law_due (defScope s__law_due) := ⟨rfl, rfl, rfl, by decide +kernel, rfl, by decide +kernel, by decide +kernel⟩
abbrev s__law_follows : Stmt := top 72
abbrev ns__law_follows : List Str := ["_law_one", "_law_other", "_law_word", "_law_ways"]
abbrev ps__law_follows : List Str := ["_law_one", "_law_other"]
theorem sc__law_follows : FnScope ns__law_follows ps__law_follows (defScope s__law_follows) := ⟨rfl, rfl, rfl, by decide +kernel, rfl, by decide +kernel, by decide +kernel⟩
abbrev s__law_can_be : Stmt := top 73
abbrev ns__law_can_be : List Str := ["_law_rows", "_law_row", "_law_one", "_law_other"]
abbrev ps__law_can_be : List Str := ["_law_rows"]
theorem sc__law_can_be : FnScope ns__law_can_be ps__law_can_be (defScope s__law_can_be) := ⟨rfl, rfl, rfl, by decide +kernel, rfl, by decide +kernel, by decide +kernel⟩
abbrev s__law_told : Stmt := top 74
abbrev ns__law_told : List Str := ["_law_ask", "error"]
abbrev ps__law_told : List Str := ["_law_ask"]
theorem sc__law_told : FnScope ns__law_told ps__law_told (defScope s__law_told) := ⟨rfl, rfl, rfl, by decide +kernel, rfl, by decide +kernel, by decide +kernel⟩
abbrev s_law : Stmt := top 75
abbrev ns_law : List Str := ["_law_script", "_law_by", "_law_draws", "_law_parts_here", "_law_world_here", "_law_rows", "_law_at", "_law_bent", "_law_some", "_law_can", "_law_due_here", "_law_row", "_law_told_here", "_law_other"]
abbrev ps_law : List Str := ["_law_script"]
theorem sc_law : FnScope ns_law ps_law (defScope s_law) := ⟨rfl, rfl, rfl, by decide +kernel, rfl, by decide +kernel, by decide +kernel⟩
def fa0 : List Fa := [.free "isinstance", .free "len", .free "all", .free "any", .free "sum", .free "abs", .free "max", .free "min", .free "sorted", .free "int", .free "bool", .free "str", .free "list", .free "tuple", .free "dict", .free "set"]
def fa1 : List Fa := [.free "range", .free "zip", .int "LONGEST" 8, .int "MOST_AMOUNT" 1000000000, .int "MOST_RATE_basics" 5000, .int "WHOLE_RATE" 10000, .int "WHOLE_PART" 100, .int "MOST_MANY" 99, .int "MOST_PRICE" 9999, .int "MOST_RULES" 10, .int "MOST_SAID" 3, .int "MOST_DAYS_rules" 9, .int "MOST_RATE_forms" 5000, .int "MOST_LANDS" 4, .int "MOST_WARES" 6, .int "MOST_PARTIES" 8]
def fa2 : List Fa := [.int "MOST_CARRIERS" 3, .int "MOST_LEVIES" 20, .int "MOST_FEE" 2000, .int "MOST_DAYS_worlds" 9, .str "LETTERS" "abcdefghijklmnopqrstuvwxyz", .str "NOBODY" "market", .glo "SIDES", .glo "ENDS", .glo "BEHIND", .glo "MarketError", .glo "BadMarket", .glo "BadDay", .glo "BadRules", .glo "BadRecord", .glo "Deal", .glo "World"]
def fa3 : List Fa := [.glo "is_name", .glo "is_number", .glo "are_names", .glo "is_one_of", .glo "part_of", .glo "is_levy", .glo "is_said", .glo "is_rule", .glo "are_rules", .glo "verdict", .glo "moves_for", .glo "is_made", .glo "is_ended", .glo "is_row", .glo "goes_on", .glo "stands"]
def fa4 : List Fa := [.glo "first_wrong", .glo "is_record", .glo "row_of", .glo "judged", .glo "judged_by", .glo "deal_of", .glo "shares", .glo "are_wares", .glo "are_parties", .glo "_law_draw", .glo "_law_cell_at", .glo "_law_digits", .glo "_law_take", .glo "_law_parts", .glo "_law_world", .glo "_law_record"]
def fa5 : List Fa := [.glo "_law_verdict", .glo "_law_due", .glo "_law_follows", .glo "_law_can_be", .glo "_law_told", .glo "law", .cls "World", .mkr "World", .noat "World" "lands", .noat "World" "kinds", .noat "World" "homes", .noat "World" "carriers", .noat "World" "levies", .noat "World" "listed", .noat "World" "fee", .noat "World" "days"]
def fa6 : List Fa := [.meth "World" "rate", .meth "World" "rate_at", .meth "World" "rate_for", .cls "Deal", .mkr "Deal", .noat "Deal" "seller", .noat "Deal" "buyer", .noat "Deal" "land", .noat "Deal" "whole", .noat "Deal" "tax", .noat "Deal" "levy", .noat "Deal" "fee", .exc "BadRecord", .exm "BadRecord" "MarketError" true]
def fa : List Fa := fa0 ++ fa1 ++ fa2 ++ fa3 ++ fa4 ++ fa5 ++ fa6
def df_is_name : DefD := ⟨("is_name", none), "is_name", "is_name", defArgs s_is_name, defBody s_is_name, defScope s_is_name, [], []⟩
def df_is_number : DefD := ⟨("is_number", none), "is_number", "is_number", defArgs s_is_number, defBody s_is_number, defScope s_is_number, [.non], []⟩
def df_are_names : DefD := ⟨("are_names", none), "are_names", "are_names", defArgs s_are_names, defBody s_are_names, defScope s_are_names, [], []⟩
def df_is_one_of : DefD := ⟨("is_one_of", none), "is_one_of", "is_one_of", defArgs s_is_one_of, defBody s_is_one_of, defScope s_is_one_of, [], []⟩
def df_part_of : DefD := ⟨("part_of", none), "part_of", "part_of", defArgs s_part_of, defBody s_part_of, defScope s_part_of, [.int 10000], []⟩
def df_is_levy : DefD := ⟨("is_levy", none), "is_levy", "is_levy", defArgs s_is_levy, defBody s_is_levy, defScope s_is_levy, [], []⟩
def df_is_said : DefD := ⟨("is_said", none), "is_said", "is_said", defArgs s_is_said, defBody s_is_said, defScope s_is_said, [], []⟩
def df_is_rule : DefD := ⟨("is_rule", none), "is_rule", "is_rule", defArgs s_is_rule, defBody s_is_rule, defScope s_is_rule, [], []⟩
def df_are_rules : DefD := ⟨("are_rules", none), "are_rules", "are_rules", defArgs s_are_rules, defBody s_are_rules, defScope s_are_rules, [], []⟩
def df_verdict : DefD := ⟨("verdict", none), "verdict", "verdict", defArgs s_verdict, defBody s_verdict, defScope s_verdict, [], []⟩
def df_moves_for : DefD := ⟨("moves_for", none), "moves_for", "moves_for", defArgs s_moves_for, defBody s_moves_for, defScope s_moves_for, [], []⟩
def df_is_made : DefD := ⟨("is_made", none), "is_made", "is_made", defArgs s_is_made, defBody s_is_made, defScope s_is_made, [], []⟩
def df_is_ended : DefD := ⟨("is_ended", none), "is_ended", "is_ended", defArgs s_is_ended, defBody s_is_ended, defScope s_is_ended, [], []⟩
def df_is_row : DefD := ⟨("is_row", none), "is_row", "is_row", defArgs s_is_row, defBody s_is_row, defScope s_is_row, [], []⟩
def df_goes_on : DefD := ⟨("goes_on", none), "goes_on", "goes_on", defArgs s_goes_on, defBody s_goes_on, defScope s_goes_on, [], []⟩
def df_stands : DefD := ⟨("stands", none), "stands", "stands", defArgs s_stands, defBody s_stands, defScope s_stands, [], []⟩
def df_first_wrong : DefD := ⟨("first_wrong", none), "first_wrong", "first_wrong", defArgs s_first_wrong, defBody s_first_wrong, defScope s_first_wrong, [], []⟩
def df_is_record : DefD := ⟨("is_record", none), "is_record", "is_record", defArgs s_is_record, defBody s_is_record, defScope s_is_record, [], []⟩
def df_row_of : DefD := ⟨("row_of", none), "row_of", "row_of", defArgs s_row_of, defBody s_row_of, defScope s_row_of, [], []⟩
def df_judged : DefD := ⟨("judged", none), "judged", "judged", defArgs s_judged, defBody s_judged, defScope s_judged, [], []⟩
def df_judged_by : DefD := ⟨("judged_by", none), "judged_by", "judged_by", defArgs s_judged_by, defBody s_judged_by, defScope s_judged_by, [], []⟩
def df_deal_of : DefD := ⟨("deal_of", none), "deal_of", "deal_of", defArgs s_deal_of, defBody s_deal_of, defScope s_deal_of, [], []⟩
def df_shares : DefD := ⟨("shares", none), "shares", "shares", defArgs s_shares, defBody s_shares, defScope s_shares, [], []⟩
def df_are_wares : DefD := ⟨("are_wares", none), "are_wares", "are_wares", defArgs s_are_wares, defBody s_are_wares, defScope s_are_wares, [], []⟩
def df_are_parties : DefD := ⟨("are_parties", none), "are_parties", "are_parties", defArgs s_are_parties, defBody s_are_parties, defScope s_are_parties, [], []⟩
def df__law_draw : DefD := ⟨("_law_draw", none), "_law_draw", "_law_draw", defArgs s__law_draw, defBody s__law_draw, defScope s__law_draw, [], []⟩
def df__law_cell_at : DefD := ⟨("_law_cell_at", none), "_law_cell_at", "_law_cell_at", defArgs s__law_cell_at, defBody s__law_cell_at, defScope s__law_cell_at, [], []⟩
def df__law_digits : DefD := ⟨("_law_digits", none), "_law_digits", "_law_digits", defArgs s__law_digits, defBody s__law_digits, defScope s__law_digits, [], []⟩
def df__law_take : DefD := ⟨("_law_take", none), "_law_take", "_law_take", defArgs s__law_take, defBody s__law_take, defScope s__law_take, [], []⟩
def df__law_parts : DefD := ⟨("_law_parts", none), "_law_parts", "_law_parts", defArgs s__law_parts, defBody s__law_parts, defScope s__law_parts, [], []⟩
def df__law_world : DefD := ⟨("_law_world", none), "_law_world", "_law_world", defArgs s__law_world, defBody s__law_world, defScope s__law_world, [], []⟩
def df__law_record : DefD := ⟨("_law_record", none), "_law_record", "_law_record", defArgs s__law_record, defBody s__law_record, defScope s__law_record, [], []⟩
def df__law_verdict : DefD := ⟨("_law_verdict", none), "_law_verdict", "_law_verdict", defArgs s__law_verdict, defBody s__law_verdict, defScope s__law_verdict, [], []⟩
def df__law_due : DefD := ⟨("_law_due", none), "_law_due", "_law_due", defArgs s__law_due, defBody s__law_due, defScope s__law_due, [], []⟩
def df__law_follows : DefD := ⟨("_law_follows", none), "_law_follows", "_law_follows", defArgs s__law_follows, defBody s__law_follows, defScope s__law_follows, [], []⟩
def df__law_can_be : DefD := ⟨("_law_can_be", none), "_law_can_be", "_law_can_be", defArgs s__law_can_be, defBody s__law_can_be, defScope s__law_can_be, [], []⟩
def df__law_told : DefD := ⟨("_law_told", none), "_law_told", "_law_told", defArgs s__law_told, defBody s__law_told, defScope s__law_told, [], []⟩
def df_law : DefD := ⟨("law", none), "law", "law", defArgs s_law, defBody s_law, defScope s_law, [], []⟩
def df_Deal___init__ : DefD := ⟨("Deal", some "__init__"), "__init__", "Deal.__init__", defArgs s_Deal___init__, defBody s_Deal___init__, defScope s_Deal___init__, [], []⟩
def df_World___init__ : DefD := ⟨("World", some "__init__"), "__init__", "World.__init__", defArgs s_World___init__, defBody s_World___init__, defScope s_World___init__, [], [("fee", .int 0), ("send", .int 2), ("complain", .int 2)]⟩
def df_World_rate : DefD := ⟨("World", some "rate"), "rate", "World.rate", defArgs s_World_rate, defBody s_World_rate, defScope s_World_rate, [], []⟩
def df_World_rate_at : DefD := ⟨("World", some "rate_at"), "rate_at", "World.rate_at", defArgs s_World_rate_at, defBody s_World_rate_at, defScope s_World_rate_at, [], []⟩
def df_World_rate_for : DefD := ⟨("World", some "rate_for"), "rate_for", "World.rate_for", defArgs s_World_rate_for, defBody s_World_rate_for, defScope s_World_rate_for, [], []⟩
def fn0 : List DefD := [df_is_name, df_is_number, df_are_names, df_is_one_of, df_part_of, df_is_levy, df_is_said, df_is_rule, df_are_rules, df_verdict, df_moves_for, df_is_made, df_is_ended, df_is_row, df_goes_on, df_stands]
def fn1 : List DefD := [df_first_wrong, df_is_record, df_row_of, df_judged, df_judged_by, df_deal_of, df_shares, df_are_wares, df_are_parties, df__law_draw, df__law_cell_at, df__law_digits, df__law_take, df__law_parts, df__law_world, df__law_record]
def fn2 : List DefD := [df__law_verdict, df__law_due, df__law_follows, df__law_can_be, df__law_told, df_law, df_Deal___init__, df_World___init__, df_World_rate, df_World_rate_at, df_World_rate_for]
def fn : List DefD := fn0 ++ fn1 ++ fn2
def ts : List Tab := [(fun K => ga K "ENDS", ["back", "lost", "sold"]), (fun K => ga K "BEHIND", ["made", "sent", "came", "complained", "said"])]
def tf : List Defn := [("law", none)]
/-- the address in a table at a key -/
def kAd (K : PySem.W.Frag) (x k : Str) : Addr := match PySem.W.nsIn K (ga K x) k with
  | some (some (.ref a)) => a
  | _ => 0
/-- a tuple of the written part -/
def tupB (K : PySem.W.Frag) (a : Addr) (vs : List V) : Bool := match K.lookup a with
  | some ⟨.type c, _, .seq its _, _⟩ => decide (c = "tuple") && (decide (its.size ≤ sizeLine) && relAll vs its.toList)
  | _ => false
theorem tupB_ok {K : PySem.W.Frag} {a : Addr} {vs : List V} (h : tupB K a vs = true) (H : Hp) : SqT K H a vs := by
  unfold tupB at h
  cases q : K.lookup a with
  | none =>
    rw [q] at h
    cases h
  | some o =>
    obtain ⟨oc, od, dt, osl⟩ := o
    rw [q] at h
    cases oc with
    | type c =>
      cases dt with
      | seq its n =>
        obtain ⟨h1, h2⟩ := ba (show (decide (c = "tuple") && (decide (its.size ≤ sizeLine) && relAll vs its.toList)) = true from h)
        obtain ⟨h3, h4⟩ := ba h2
        exact .inr ⟨_, its, n, q, congrArg Value.type (of_decide_eq_true h1), rfl, of_decide_eq_true h3, relAll_ok h4⟩
      | _ => cases h
    | _ => cases dt <;> cases h
def tabT (K : PySem.W.Frag) (x k : Str) (vs : List V) : Bool := eqO (PySem.W.nsIn K (ga K x) k) (some (some (.ref (kAd K x k)))) && tupB K (kAd K x k) vs
def ex0 (K : PySem.W.Frag) : Bool := tupB K (ga K "SIDES") [.str "buyer", .str "seller"] && (tabT K "ENDS" "back" [.int 100, .bl true] && (tabT K "ENDS" "lost" [.int 100, .bl false] && (tabT K "ENDS" "sold" [.int 0, .bl false] && (eqO (PySem.W.nsIn K (ga K "ENDS") "judged") (some none) && (tabT K "BEHIND" "made" [.str "sent", .str "back"] && (tabT K "BEHIND" "sent" [.str "came", .str "lost"] && (tabT K "BEHIND" "came" [.str "complained", .str "sold"])))))))
def ex1 (K : PySem.W.Frag) : Bool := tabT K "BEHIND" "complained" [.str "said", .str "judged"] && (tabT K "BEHIND" "said" [.str "said", .str "judged"] && (eqO (PySem.W.findIn K (.ref (ga K "BadRecord")) "__getattribute__") (some (some (.builtin "BaseException.__getattribute__"))) && (eqO (PySem.W.findIn K (.ref (ga K "BadRecord")) "__getattr__") (some none) && (decide (PySem.W.subIn K (.ref (ga K "BadRecord")) (.type "BaseException") = some true) && (PySem.W.hasDictIn K (ga K "BadRecord") && (eqO (PySem.W.findIn K (.ref (ga K "BadRecord")) "__class__") (some (some (.builtin "object.__class__"))) && (eqO (PySem.W.specialIn K (.builtin "object.__class__") "__get__") (some (some (.builtin "getset_descriptor.__get__"))))))))))
def ex2 (K : PySem.W.Frag) : Bool := decide (PySem.W.takesIn K (.builtin "object.__class__") = some true) && (decide (PySem.W.mroIn K (ga K "BadRecord") (.type "object") = some true))
def ex (K : PySem.W.Frag) : Bool := ex0 K && (ex1 K && (ex2 K))
/-- what is known of the module -/
structure Tx (w : World) (K : PySem.W.Frag) (mg : Str → Option Value) : Prop where
  b_isinstance : mg "isinstance" = none
  b_len : mg "len" = none
  b_all : mg "all" = none
  b_any : mg "any" = none
  b_sum : mg "sum" = none
  b_abs : mg "abs" = none
  b_max : mg "max" = none
  b_min : mg "min" = none
  b_sorted : mg "sorted" = none
  b_int : mg "int" = none
  b_bool : mg "bool" = none
  b_str : mg "str" = none
  b_list : mg "list" = none
  b_tuple : mg "tuple" = none
  b_dict : mg "dict" = none
  b_set : mg "set" = none
  b_range : mg "range" = none
  b_zip : mg "zip" = none
  i_LONGEST : ∃ t, mg "LONGEST" = some (.int 8 t)
  i_MOST_AMOUNT : ∃ t, mg "MOST_AMOUNT" = some (.int 1000000000 t)
  i_MOST_RATE_basics : ∃ t, mg "MOST_RATE_basics" = some (.int 5000 t)
  i_WHOLE_RATE : ∃ t, mg "WHOLE_RATE" = some (.int 10000 t)
  i_WHOLE_PART : ∃ t, mg "WHOLE_PART" = some (.int 100 t)
  i_MOST_MANY : ∃ t, mg "MOST_MANY" = some (.int 99 t)
  i_MOST_PRICE : ∃ t, mg "MOST_PRICE" = some (.int 9999 t)
  i_MOST_RULES : ∃ t, mg "MOST_RULES" = some (.int 10 t)
  i_MOST_SAID : ∃ t, mg "MOST_SAID" = some (.int 3 t)
  i_MOST_DAYS_rules : ∃ t, mg "MOST_DAYS_rules" = some (.int 9 t)
  i_MOST_RATE_forms : ∃ t, mg "MOST_RATE_forms" = some (.int 5000 t)
  i_MOST_LANDS : ∃ t, mg "MOST_LANDS" = some (.int 4 t)
  i_MOST_WARES : ∃ t, mg "MOST_WARES" = some (.int 6 t)
  i_MOST_PARTIES : ∃ t, mg "MOST_PARTIES" = some (.int 8 t)
  i_MOST_CARRIERS : ∃ t, mg "MOST_CARRIERS" = some (.int 3 t)
  i_MOST_LEVIES : ∃ t, mg "MOST_LEVIES" = some (.int 20 t)
  i_MOST_FEE : ∃ t, mg "MOST_FEE" = some (.int 2000 t)
  i_MOST_DAYS_worlds : ∃ t, mg "MOST_DAYS_worlds" = some (.int 9 t)
  s_LETTERS : ∃ t, mg "LETTERS" = some (.str "abcdefghijklmnopqrstuvwxyz" t)
  s_NOBODY : ∃ t, mg "NOBODY" = some (.str "market" t)
  g_SIDES : mg "SIDES" = some (.ref (ga K "SIDES"))
  g_ENDS : mg "ENDS" = some (.ref (ga K "ENDS"))
  g_BEHIND : mg "BEHIND" = some (.ref (ga K "BEHIND"))
  g_MarketError : mg "MarketError" = some (.ref (ga K "MarketError"))
  g_BadMarket : mg "BadMarket" = some (.ref (ga K "BadMarket"))
  g_BadDay : mg "BadDay" = some (.ref (ga K "BadDay"))
  g_BadRules : mg "BadRules" = some (.ref (ga K "BadRules"))
  g_BadRecord : mg "BadRecord" = some (.ref (ga K "BadRecord"))
  g_Deal : mg "Deal" = some (.ref (ga K "Deal"))
  g_World : mg "World" = some (.ref (ga K "World"))
  g_is_name : mg "is_name" = some (.ref (ga K "is_name"))
  g_is_number : mg "is_number" = some (.ref (ga K "is_number"))
  g_are_names : mg "are_names" = some (.ref (ga K "are_names"))
  g_is_one_of : mg "is_one_of" = some (.ref (ga K "is_one_of"))
  g_part_of : mg "part_of" = some (.ref (ga K "part_of"))
  g_is_levy : mg "is_levy" = some (.ref (ga K "is_levy"))
  g_is_said : mg "is_said" = some (.ref (ga K "is_said"))
  g_is_rule : mg "is_rule" = some (.ref (ga K "is_rule"))
  g_are_rules : mg "are_rules" = some (.ref (ga K "are_rules"))
  g_verdict : mg "verdict" = some (.ref (ga K "verdict"))
  g_moves_for : mg "moves_for" = some (.ref (ga K "moves_for"))
  g_is_made : mg "is_made" = some (.ref (ga K "is_made"))
  g_is_ended : mg "is_ended" = some (.ref (ga K "is_ended"))
  g_is_row : mg "is_row" = some (.ref (ga K "is_row"))
  g_goes_on : mg "goes_on" = some (.ref (ga K "goes_on"))
  g_stands : mg "stands" = some (.ref (ga K "stands"))
  g_first_wrong : mg "first_wrong" = some (.ref (ga K "first_wrong"))
  g_is_record : mg "is_record" = some (.ref (ga K "is_record"))
  g_row_of : mg "row_of" = some (.ref (ga K "row_of"))
  g_judged : mg "judged" = some (.ref (ga K "judged"))
  g_judged_by : mg "judged_by" = some (.ref (ga K "judged_by"))
  g_deal_of : mg "deal_of" = some (.ref (ga K "deal_of"))
  g_shares : mg "shares" = some (.ref (ga K "shares"))
  g_are_wares : mg "are_wares" = some (.ref (ga K "are_wares"))
  g_are_parties : mg "are_parties" = some (.ref (ga K "are_parties"))
  g__law_draw : mg "_law_draw" = some (.ref (ga K "_law_draw"))
  g__law_cell_at : mg "_law_cell_at" = some (.ref (ga K "_law_cell_at"))
  g__law_digits : mg "_law_digits" = some (.ref (ga K "_law_digits"))
  g__law_take : mg "_law_take" = some (.ref (ga K "_law_take"))
  g__law_parts : mg "_law_parts" = some (.ref (ga K "_law_parts"))
  g__law_world : mg "_law_world" = some (.ref (ga K "_law_world"))
  g__law_record : mg "_law_record" = some (.ref (ga K "_law_record"))
  g__law_verdict : mg "_law_verdict" = some (.ref (ga K "_law_verdict"))
  g__law_due : mg "_law_due" = some (.ref (ga K "_law_due"))
  g__law_follows : mg "_law_follows" = some (.ref (ga K "_law_follows"))
  g__law_can_be : mg "_law_can_be" = some (.ref (ga K "_law_can_be"))
  g__law_told : mg "_law_told" = some (.ref (ga K "_law_told"))
  g_law : mg "law" = some (.ref (ga K "law"))
  d_is_name : ∃ fd, FunD K "is_name" "is_name" (defArgs s_is_name) (defBody s_is_name) (defScope s_is_name) [] [] (ga K "is_name") fd
  d_is_number : ∃ fd, FunD K "is_number" "is_number" (defArgs s_is_number) (defBody s_is_number) (defScope s_is_number) [V.non] [] (ga K "is_number") fd
  d_are_names : ∃ fd, FunD K "are_names" "are_names" (defArgs s_are_names) (defBody s_are_names) (defScope s_are_names) [] [] (ga K "are_names") fd
  d_is_one_of : ∃ fd, FunD K "is_one_of" "is_one_of" (defArgs s_is_one_of) (defBody s_is_one_of) (defScope s_is_one_of) [] [] (ga K "is_one_of") fd
  d_part_of : ∃ fd, FunD K "part_of" "part_of" (defArgs s_part_of) (defBody s_part_of) (defScope s_part_of) [V.int 10000] [] (ga K "part_of") fd
  d_is_levy : ∃ fd, FunD K "is_levy" "is_levy" (defArgs s_is_levy) (defBody s_is_levy) (defScope s_is_levy) [] [] (ga K "is_levy") fd
  d_is_said : ∃ fd, FunD K "is_said" "is_said" (defArgs s_is_said) (defBody s_is_said) (defScope s_is_said) [] [] (ga K "is_said") fd
  d_is_rule : ∃ fd, FunD K "is_rule" "is_rule" (defArgs s_is_rule) (defBody s_is_rule) (defScope s_is_rule) [] [] (ga K "is_rule") fd
  d_are_rules : ∃ fd, FunD K "are_rules" "are_rules" (defArgs s_are_rules) (defBody s_are_rules) (defScope s_are_rules) [] [] (ga K "are_rules") fd
  d_verdict : ∃ fd, FunD K "verdict" "verdict" (defArgs s_verdict) (defBody s_verdict) (defScope s_verdict) [] [] (ga K "verdict") fd
  d_moves_for : ∃ fd, FunD K "moves_for" "moves_for" (defArgs s_moves_for) (defBody s_moves_for) (defScope s_moves_for) [] [] (ga K "moves_for") fd
  d_is_made : ∃ fd, FunD K "is_made" "is_made" (defArgs s_is_made) (defBody s_is_made) (defScope s_is_made) [] [] (ga K "is_made") fd
  d_is_ended : ∃ fd, FunD K "is_ended" "is_ended" (defArgs s_is_ended) (defBody s_is_ended) (defScope s_is_ended) [] [] (ga K "is_ended") fd
  d_is_row : ∃ fd, FunD K "is_row" "is_row" (defArgs s_is_row) (defBody s_is_row) (defScope s_is_row) [] [] (ga K "is_row") fd
  d_goes_on : ∃ fd, FunD K "goes_on" "goes_on" (defArgs s_goes_on) (defBody s_goes_on) (defScope s_goes_on) [] [] (ga K "goes_on") fd
  d_stands : ∃ fd, FunD K "stands" "stands" (defArgs s_stands) (defBody s_stands) (defScope s_stands) [] [] (ga K "stands") fd
  d_first_wrong : ∃ fd, FunD K "first_wrong" "first_wrong" (defArgs s_first_wrong) (defBody s_first_wrong) (defScope s_first_wrong) [] [] (ga K "first_wrong") fd
  d_is_record : ∃ fd, FunD K "is_record" "is_record" (defArgs s_is_record) (defBody s_is_record) (defScope s_is_record) [] [] (ga K "is_record") fd
  d_row_of : ∃ fd, FunD K "row_of" "row_of" (defArgs s_row_of) (defBody s_row_of) (defScope s_row_of) [] [] (ga K "row_of") fd
  d_judged : ∃ fd, FunD K "judged" "judged" (defArgs s_judged) (defBody s_judged) (defScope s_judged) [] [] (ga K "judged") fd
  d_judged_by : ∃ fd, FunD K "judged_by" "judged_by" (defArgs s_judged_by) (defBody s_judged_by) (defScope s_judged_by) [] [] (ga K "judged_by") fd
  d_deal_of : ∃ fd, FunD K "deal_of" "deal_of" (defArgs s_deal_of) (defBody s_deal_of) (defScope s_deal_of) [] [] (ga K "deal_of") fd
  d_shares : ∃ fd, FunD K "shares" "shares" (defArgs s_shares) (defBody s_shares) (defScope s_shares) [] [] (ga K "shares") fd
  d_are_wares : ∃ fd, FunD K "are_wares" "are_wares" (defArgs s_are_wares) (defBody s_are_wares) (defScope s_are_wares) [] [] (ga K "are_wares") fd
  d_are_parties : ∃ fd, FunD K "are_parties" "are_parties" (defArgs s_are_parties) (defBody s_are_parties) (defScope s_are_parties) [] [] (ga K "are_parties") fd
  d__law_draw : ∃ fd, FunD K "_law_draw" "_law_draw" (defArgs s__law_draw) (defBody s__law_draw) (defScope s__law_draw) [] [] (ga K "_law_draw") fd
  d__law_cell_at : ∃ fd, FunD K "_law_cell_at" "_law_cell_at" (defArgs s__law_cell_at) (defBody s__law_cell_at) (defScope s__law_cell_at) [] [] (ga K "_law_cell_at") fd
  d__law_digits : ∃ fd, FunD K "_law_digits" "_law_digits" (defArgs s__law_digits) (defBody s__law_digits) (defScope s__law_digits) [] [] (ga K "_law_digits") fd
  d__law_take : ∃ fd, FunD K "_law_take" "_law_take" (defArgs s__law_take) (defBody s__law_take) (defScope s__law_take) [] [] (ga K "_law_take") fd
  d__law_parts : ∃ fd, FunD K "_law_parts" "_law_parts" (defArgs s__law_parts) (defBody s__law_parts) (defScope s__law_parts) [] [] (ga K "_law_parts") fd
  d__law_world : ∃ fd, FunD K "_law_world" "_law_world" (defArgs s__law_world) (defBody s__law_world) (defScope s__law_world) [] [] (ga K "_law_world") fd
  d__law_record : ∃ fd, FunD K "_law_record" "_law_record" (defArgs s__law_record) (defBody s__law_record) (defScope s__law_record) [] [] (ga K "_law_record") fd
  d__law_verdict : ∃ fd, FunD K "_law_verdict" "_law_verdict" (defArgs s__law_verdict) (defBody s__law_verdict) (defScope s__law_verdict) [] [] (ga K "_law_verdict") fd
  d__law_due : ∃ fd, FunD K "_law_due" "_law_due" (defArgs s__law_due) (defBody s__law_due) (defScope s__law_due) [] [] (ga K "_law_due") fd
  d__law_follows : ∃ fd, FunD K "_law_follows" "_law_follows" (defArgs s__law_follows) (defBody s__law_follows) (defScope s__law_follows) [] [] (ga K "_law_follows") fd
  d__law_can_be : ∃ fd, FunD K "_law_can_be" "_law_can_be" (defArgs s__law_can_be) (defBody s__law_can_be) (defScope s__law_can_be) [] [] (ga K "_law_can_be") fd
  d__law_told : ∃ fd, FunD K "_law_told" "_law_told" (defArgs s__law_told) (defBody s__law_told) (defScope s__law_told) [] [] (ga K "_law_told") fd
  d_law : ∃ fd, FunD K "law" "law" (defArgs s_law) (defBody s_law) (defScope s_law) [] [] (ga K "law") fd
  d_Deal___init__ : ∃ fd, FunD K "__init__" "Deal.__init__" (defArgs s_Deal___init__) (defBody s_Deal___init__) (defScope s_Deal___init__) [] [] (ma K (ga K "Deal") "__init__") fd
  d_World___init__ : ∃ fd, FunD K "__init__" "World.__init__" (defArgs s_World___init__) (defBody s_World___init__) (defScope s_World___init__) [] [("fee", V.int 0), ("send", V.int 2), ("complain", V.int 2)] (ma K (ga K "World") "__init__") fd
  d_World_rate : ∃ fd, FunD K "rate" "World.rate" (defArgs s_World_rate) (defBody s_World_rate) (defScope s_World_rate) [] [] (ma K (ga K "World") "rate") fd
  d_World_rate_at : ∃ fd, FunD K "rate_at" "World.rate_at" (defArgs s_World_rate_at) (defBody s_World_rate_at) (defScope s_World_rate_at) [] [] (ma K (ga K "World") "rate_at") fd
  d_World_rate_for : ∃ fd, FunD K "rate_for" "World.rate_for" (defArgs s_World_rate_for) (defBody s_World_rate_for) (defScope s_World_rate_for) [] [] (ma K (ga K "World") "rate_for") fd
  c_World : Cls K (ga K "World")
  k_World : Mk K (ga K "World") (ma K (ga K "World") "__init__")
  n_World_lands : NoAttr K (ga K "World") "lands"
  n_World_kinds : NoAttr K (ga K "World") "kinds"
  n_World_homes : NoAttr K (ga K "World") "homes"
  n_World_carriers : NoAttr K (ga K "World") "carriers"
  n_World_levies : NoAttr K (ga K "World") "levies"
  n_World_listed : NoAttr K (ga K "World") "listed"
  n_World_fee : NoAttr K (ga K "World") "fee"
  n_World_days : NoAttr K (ga K "World") "days"
  m_World_rate : Meth K (ga K "World") "rate" (ma K (ga K "World") "rate")
  m_World_rate_at : Meth K (ga K "World") "rate_at" (ma K (ga K "World") "rate_at")
  m_World_rate_for : Meth K (ga K "World") "rate_for" (ma K (ga K "World") "rate_for")
  c_Deal : Cls K (ga K "Deal")
  k_Deal : Mk K (ga K "Deal") (ma K (ga K "Deal") "__init__")
  n_Deal_seller : NoAttr K (ga K "Deal") "seller"
  n_Deal_buyer : NoAttr K (ga K "Deal") "buyer"
  n_Deal_land : NoAttr K (ga K "Deal") "land"
  n_Deal_whole : NoAttr K (ga K "Deal") "whole"
  n_Deal_tax : NoAttr K (ga K "Deal") "tax"
  n_Deal_levy : NoAttr K (ga K "Deal") "levy"
  n_Deal_fee : NoAttr K (ga K "Deal") "fee"
  x_BadRecord : PySem.W.excIn K (ga K "BadRecord") [.type "ValueError", .type "Exception", .type "BaseException", .type "object"] "ValueError.__new__" = true
  k_BadRecord : PySem.W.keepIn K (.ref (ga K "BadRecord")) = true
  e_BadRecord : PySem.W.subIn K (.ref (ga K "BadRecord")) (.type "BaseException") = some true
  t_BadRecord : PySem.W.typeIn K (.ref (ga K "BadRecord")) = some (.type "type")
  exm : PySem.W.exmOne K (.ref (ga K "BadRecord")) (.ref (ga K "MarketError")) = some true
  t_SIDES : ∀ H, SqT K H (ga K "SIDES") [.str "buyer", .str "seller"]
  kd_ENDS : ∃ es n, KDict K w (ga K "ENDS") es n
  kd_BEHIND : ∃ es n, KDict K w (ga K "BEHIND") es n
  ends_back : PySem.W.nsIn K (ga K "ENDS") "back" = some (some (.ref (kAd K "ENDS" "back"))) ∧ ∀ H, SqT K H (kAd K "ENDS" "back") [.int 100, .bl true]
  ends_lost : PySem.W.nsIn K (ga K "ENDS") "lost" = some (some (.ref (kAd K "ENDS" "lost"))) ∧ ∀ H, SqT K H (kAd K "ENDS" "lost") [.int 100, .bl false]
  ends_sold : PySem.W.nsIn K (ga K "ENDS") "sold" = some (some (.ref (kAd K "ENDS" "sold"))) ∧ ∀ H, SqT K H (kAd K "ENDS" "sold") [.int 0, .bl false]
  ends_judged : PySem.W.nsIn K (ga K "ENDS") "judged" = some none
  behind_made : PySem.W.nsIn K (ga K "BEHIND") "made" = some (some (.ref (kAd K "BEHIND" "made"))) ∧ ∀ H, SqT K H (kAd K "BEHIND" "made") [.str "sent", .str "back"]
  behind_sent : PySem.W.nsIn K (ga K "BEHIND") "sent" = some (some (.ref (kAd K "BEHIND" "sent"))) ∧ ∀ H, SqT K H (kAd K "BEHIND" "sent") [.str "came", .str "lost"]
  behind_came : PySem.W.nsIn K (ga K "BEHIND") "came" = some (some (.ref (kAd K "BEHIND" "came"))) ∧ ∀ H, SqT K H (kAd K "BEHIND" "came") [.str "complained", .str "sold"]
  behind_complained : PySem.W.nsIn K (ga K "BEHIND") "complained" = some (some (.ref (kAd K "BEHIND" "complained"))) ∧ ∀ H, SqT K H (kAd K "BEHIND" "complained") [.str "said", .str "judged"]
  behind_said : PySem.W.nsIn K (ga K "BEHIND") "said" = some (some (.ref (kAd K "BEHIND" "said"))) ∧ ∀ H, SqT K H (kAd K "BEHIND" "said") [.str "said", .str "judged"]
  excC : ExcC K (ga K "BadRecord")
theorem tx_of {w : World} {K : PySem.W.Frag} {h : Heap} {mg : Str → Option Value} (X : K.In h) (G : h.Ns mainGlobals mg) (c : SaysX fa fn ts tf ex w h K) : Tx w K mg := by
  have e0 : ex K = true := c.more
  have e0' : (ex0 K && (ex1 K && (ex2 K))) = true := e0
  have r1 := (ba e0').2
  have e0 : (tupB K (ga K "SIDES") [.str "buyer", .str "seller"] && (tabT K "ENDS" "back" [.int 100, .bl true] && (tabT K "ENDS" "lost" [.int 100, .bl false] && (tabT K "ENDS" "sold" [.int 0, .bl false] && (eqO (PySem.W.nsIn K (ga K "ENDS") "judged") (some none) && (tabT K "BEHIND" "made" [.str "sent", .str "back"] && (tabT K "BEHIND" "sent" [.str "came", .str "lost"] && (tabT K "BEHIND" "came" [.str "complained", .str "sold"])))))))) = true := (ba e0').1
  have e1' : (ex1 K && (ex2 K)) = true := r1
  have r2 := (ba e1').2
  have e1 : (tabT K "BEHIND" "complained" [.str "said", .str "judged"] && (tabT K "BEHIND" "said" [.str "said", .str "judged"] && (eqO (PySem.W.findIn K (.ref (ga K "BadRecord")) "__getattribute__") (some (some (.builtin "BaseException.__getattribute__"))) && (eqO (PySem.W.findIn K (.ref (ga K "BadRecord")) "__getattr__") (some none) && (decide (PySem.W.subIn K (.ref (ga K "BadRecord")) (.type "BaseException") = some true) && (PySem.W.hasDictIn K (ga K "BadRecord") && (eqO (PySem.W.findIn K (.ref (ga K "BadRecord")) "__class__") (some (some (.builtin "object.__class__"))) && (eqO (PySem.W.specialIn K (.builtin "object.__class__") "__get__") (some (some (.builtin "getset_descriptor.__get__"))))))))))) = true := (ba e1').1
  have e2 : (decide (PySem.W.takesIn K (.builtin "object.__class__") = some true) && (decide (PySem.W.mroIn K (ga K "BadRecord") (.type "object") = some true))) = true := r2
  exact {
    b_isinstance := free_ok X G (c.t.d.fact 0 (f := .free "isinstance") rfl),
    b_len := free_ok X G (c.t.d.fact 1 (f := .free "len") rfl),
    b_all := free_ok X G (c.t.d.fact 2 (f := .free "all") rfl),
    b_any := free_ok X G (c.t.d.fact 3 (f := .free "any") rfl),
    b_sum := free_ok X G (c.t.d.fact 4 (f := .free "sum") rfl),
    b_abs := free_ok X G (c.t.d.fact 5 (f := .free "abs") rfl),
    b_max := free_ok X G (c.t.d.fact 6 (f := .free "max") rfl),
    b_min := free_ok X G (c.t.d.fact 7 (f := .free "min") rfl),
    b_sorted := free_ok X G (c.t.d.fact 8 (f := .free "sorted") rfl),
    b_int := free_ok X G (c.t.d.fact 9 (f := .free "int") rfl),
    b_bool := free_ok X G (c.t.d.fact 10 (f := .free "bool") rfl),
    b_str := free_ok X G (c.t.d.fact 11 (f := .free "str") rfl),
    b_list := free_ok X G (c.t.d.fact 12 (f := .free "list") rfl),
    b_tuple := free_ok X G (c.t.d.fact 13 (f := .free "tuple") rfl),
    b_dict := free_ok X G (c.t.d.fact 14 (f := .free "dict") rfl),
    b_set := free_ok X G (c.t.d.fact 15 (f := .free "set") rfl),
    b_range := free_ok X G (c.t.d.fact 16 (f := .free "range") rfl),
    b_zip := free_ok X G (c.t.d.fact 17 (f := .free "zip") rfl),
    i_LONGEST := int_ok X G (c.t.d.fact 18 (f := .int "LONGEST" 8) rfl),
    i_MOST_AMOUNT := int_ok X G (c.t.d.fact 19 (f := .int "MOST_AMOUNT" 1000000000) rfl),
    i_MOST_RATE_basics := int_ok X G (c.t.d.fact 20 (f := .int "MOST_RATE_basics" 5000) rfl),
    i_WHOLE_RATE := int_ok X G (c.t.d.fact 21 (f := .int "WHOLE_RATE" 10000) rfl),
    i_WHOLE_PART := int_ok X G (c.t.d.fact 22 (f := .int "WHOLE_PART" 100) rfl),
    i_MOST_MANY := int_ok X G (c.t.d.fact 23 (f := .int "MOST_MANY" 99) rfl),
    i_MOST_PRICE := int_ok X G (c.t.d.fact 24 (f := .int "MOST_PRICE" 9999) rfl),
    i_MOST_RULES := int_ok X G (c.t.d.fact 25 (f := .int "MOST_RULES" 10) rfl),
    i_MOST_SAID := int_ok X G (c.t.d.fact 26 (f := .int "MOST_SAID" 3) rfl),
    i_MOST_DAYS_rules := int_ok X G (c.t.d.fact 27 (f := .int "MOST_DAYS_rules" 9) rfl),
    i_MOST_RATE_forms := int_ok X G (c.t.d.fact 28 (f := .int "MOST_RATE_forms" 5000) rfl),
    i_MOST_LANDS := int_ok X G (c.t.d.fact 29 (f := .int "MOST_LANDS" 4) rfl),
    i_MOST_WARES := int_ok X G (c.t.d.fact 30 (f := .int "MOST_WARES" 6) rfl),
    i_MOST_PARTIES := int_ok X G (c.t.d.fact 31 (f := .int "MOST_PARTIES" 8) rfl),
    i_MOST_CARRIERS := int_ok X G (c.t.d.fact 32 (f := .int "MOST_CARRIERS" 3) rfl),
    i_MOST_LEVIES := int_ok X G (c.t.d.fact 33 (f := .int "MOST_LEVIES" 20) rfl),
    i_MOST_FEE := int_ok X G (c.t.d.fact 34 (f := .int "MOST_FEE" 2000) rfl),
    i_MOST_DAYS_worlds := int_ok X G (c.t.d.fact 35 (f := .int "MOST_DAYS_worlds" 9) rfl),
    s_LETTERS := str_ok X G (c.t.d.fact 36 (f := .str "LETTERS" "abcdefghijklmnopqrstuvwxyz") rfl),
    s_NOBODY := str_ok X G (c.t.d.fact 37 (f := .str "NOBODY" "market") rfl),
    g_SIDES := glo_ok X G (c.t.d.fact 38 (f := .glo "SIDES") rfl),
    g_ENDS := glo_ok X G (c.t.d.fact 39 (f := .glo "ENDS") rfl),
    g_BEHIND := glo_ok X G (c.t.d.fact 40 (f := .glo "BEHIND") rfl),
    g_MarketError := glo_ok X G (c.t.d.fact 41 (f := .glo "MarketError") rfl),
    g_BadMarket := glo_ok X G (c.t.d.fact 42 (f := .glo "BadMarket") rfl),
    g_BadDay := glo_ok X G (c.t.d.fact 43 (f := .glo "BadDay") rfl),
    g_BadRules := glo_ok X G (c.t.d.fact 44 (f := .glo "BadRules") rfl),
    g_BadRecord := glo_ok X G (c.t.d.fact 45 (f := .glo "BadRecord") rfl),
    g_Deal := glo_ok X G (c.t.d.fact 46 (f := .glo "Deal") rfl),
    g_World := glo_ok X G (c.t.d.fact 47 (f := .glo "World") rfl),
    g_is_name := glo_ok X G (c.t.d.fact 48 (f := .glo "is_name") rfl),
    g_is_number := glo_ok X G (c.t.d.fact 49 (f := .glo "is_number") rfl),
    g_are_names := glo_ok X G (c.t.d.fact 50 (f := .glo "are_names") rfl),
    g_is_one_of := glo_ok X G (c.t.d.fact 51 (f := .glo "is_one_of") rfl),
    g_part_of := glo_ok X G (c.t.d.fact 52 (f := .glo "part_of") rfl),
    g_is_levy := glo_ok X G (c.t.d.fact 53 (f := .glo "is_levy") rfl),
    g_is_said := glo_ok X G (c.t.d.fact 54 (f := .glo "is_said") rfl),
    g_is_rule := glo_ok X G (c.t.d.fact 55 (f := .glo "is_rule") rfl),
    g_are_rules := glo_ok X G (c.t.d.fact 56 (f := .glo "are_rules") rfl),
    g_verdict := glo_ok X G (c.t.d.fact 57 (f := .glo "verdict") rfl),
    g_moves_for := glo_ok X G (c.t.d.fact 58 (f := .glo "moves_for") rfl),
    g_is_made := glo_ok X G (c.t.d.fact 59 (f := .glo "is_made") rfl),
    g_is_ended := glo_ok X G (c.t.d.fact 60 (f := .glo "is_ended") rfl),
    g_is_row := glo_ok X G (c.t.d.fact 61 (f := .glo "is_row") rfl),
    g_goes_on := glo_ok X G (c.t.d.fact 62 (f := .glo "goes_on") rfl),
    g_stands := glo_ok X G (c.t.d.fact 63 (f := .glo "stands") rfl),
    g_first_wrong := glo_ok X G (c.t.d.fact 64 (f := .glo "first_wrong") rfl),
    g_is_record := glo_ok X G (c.t.d.fact 65 (f := .glo "is_record") rfl),
    g_row_of := glo_ok X G (c.t.d.fact 66 (f := .glo "row_of") rfl),
    g_judged := glo_ok X G (c.t.d.fact 67 (f := .glo "judged") rfl),
    g_judged_by := glo_ok X G (c.t.d.fact 68 (f := .glo "judged_by") rfl),
    g_deal_of := glo_ok X G (c.t.d.fact 69 (f := .glo "deal_of") rfl),
    g_shares := glo_ok X G (c.t.d.fact 70 (f := .glo "shares") rfl),
    g_are_wares := glo_ok X G (c.t.d.fact 71 (f := .glo "are_wares") rfl),
    g_are_parties := glo_ok X G (c.t.d.fact 72 (f := .glo "are_parties") rfl),
    g__law_draw := glo_ok X G (c.t.d.fact 73 (f := .glo "_law_draw") rfl),
    g__law_cell_at := glo_ok X G (c.t.d.fact 74 (f := .glo "_law_cell_at") rfl),
    g__law_digits := glo_ok X G (c.t.d.fact 75 (f := .glo "_law_digits") rfl),
    g__law_take := glo_ok X G (c.t.d.fact 76 (f := .glo "_law_take") rfl),
    g__law_parts := glo_ok X G (c.t.d.fact 77 (f := .glo "_law_parts") rfl),
    g__law_world := glo_ok X G (c.t.d.fact 78 (f := .glo "_law_world") rfl),
    g__law_record := glo_ok X G (c.t.d.fact 79 (f := .glo "_law_record") rfl),
    g__law_verdict := glo_ok X G (c.t.d.fact 80 (f := .glo "_law_verdict") rfl),
    g__law_due := glo_ok X G (c.t.d.fact 81 (f := .glo "_law_due") rfl),
    g__law_follows := glo_ok X G (c.t.d.fact 82 (f := .glo "_law_follows") rfl),
    g__law_can_be := glo_ok X G (c.t.d.fact 83 (f := .glo "_law_can_be") rfl),
    g__law_told := glo_ok X G (c.t.d.fact 84 (f := .glo "_law_told") rfl),
    g_law := glo_ok X G (c.t.d.fact 85 (f := .glo "law") rfl),
    d_is_name := c.t.d.def_ 0 (d := df_is_name) rfl,
    d_is_number := c.t.d.def_ 1 (d := df_is_number) rfl,
    d_are_names := c.t.d.def_ 2 (d := df_are_names) rfl,
    d_is_one_of := c.t.d.def_ 3 (d := df_is_one_of) rfl,
    d_part_of := c.t.d.def_ 4 (d := df_part_of) rfl,
    d_is_levy := c.t.d.def_ 5 (d := df_is_levy) rfl,
    d_is_said := c.t.d.def_ 6 (d := df_is_said) rfl,
    d_is_rule := c.t.d.def_ 7 (d := df_is_rule) rfl,
    d_are_rules := c.t.d.def_ 8 (d := df_are_rules) rfl,
    d_verdict := c.t.d.def_ 9 (d := df_verdict) rfl,
    d_moves_for := c.t.d.def_ 10 (d := df_moves_for) rfl,
    d_is_made := c.t.d.def_ 11 (d := df_is_made) rfl,
    d_is_ended := c.t.d.def_ 12 (d := df_is_ended) rfl,
    d_is_row := c.t.d.def_ 13 (d := df_is_row) rfl,
    d_goes_on := c.t.d.def_ 14 (d := df_goes_on) rfl,
    d_stands := c.t.d.def_ 15 (d := df_stands) rfl,
    d_first_wrong := c.t.d.def_ 16 (d := df_first_wrong) rfl,
    d_is_record := c.t.d.def_ 17 (d := df_is_record) rfl,
    d_row_of := c.t.d.def_ 18 (d := df_row_of) rfl,
    d_judged := c.t.d.def_ 19 (d := df_judged) rfl,
    d_judged_by := c.t.d.def_ 20 (d := df_judged_by) rfl,
    d_deal_of := c.t.d.def_ 21 (d := df_deal_of) rfl,
    d_shares := c.t.d.def_ 22 (d := df_shares) rfl,
    d_are_wares := c.t.d.def_ 23 (d := df_are_wares) rfl,
    d_are_parties := c.t.d.def_ 24 (d := df_are_parties) rfl,
    d__law_draw := c.t.d.def_ 25 (d := df__law_draw) rfl,
    d__law_cell_at := c.t.d.def_ 26 (d := df__law_cell_at) rfl,
    d__law_digits := c.t.d.def_ 27 (d := df__law_digits) rfl,
    d__law_take := c.t.d.def_ 28 (d := df__law_take) rfl,
    d__law_parts := c.t.d.def_ 29 (d := df__law_parts) rfl,
    d__law_world := c.t.d.def_ 30 (d := df__law_world) rfl,
    d__law_record := c.t.d.def_ 31 (d := df__law_record) rfl,
    d__law_verdict := c.t.d.def_ 32 (d := df__law_verdict) rfl,
    d__law_due := c.t.d.def_ 33 (d := df__law_due) rfl,
    d__law_follows := c.t.d.def_ 34 (d := df__law_follows) rfl,
    d__law_can_be := c.t.d.def_ 35 (d := df__law_can_be) rfl,
    d__law_told := c.t.d.def_ 36 (d := df__law_told) rfl,
    d_law := c.t.d.def_ 37 (d := df_law) rfl,
    d_Deal___init__ := c.t.d.def_ 38 (d := df_Deal___init__) rfl,
    d_World___init__ := c.t.d.def_ 39 (d := df_World___init__) rfl,
    d_World_rate := c.t.d.def_ 40 (d := df_World_rate) rfl,
    d_World_rate_at := c.t.d.def_ 41 (d := df_World_rate_at) rfl,
    d_World_rate_for := c.t.d.def_ 42 (d := df_World_rate_for) rfl,
    c_World := cls_ok (c.t.d.fact 86 (f := .cls "World") rfl),
    k_World := mkr_ok (c.t.d.fact 87 (f := .mkr "World") rfl),
    n_World_lands := noat_ok (c.t.d.fact 88 (f := .noat "World" "lands") rfl),
    n_World_kinds := noat_ok (c.t.d.fact 89 (f := .noat "World" "kinds") rfl),
    n_World_homes := noat_ok (c.t.d.fact 90 (f := .noat "World" "homes") rfl),
    n_World_carriers := noat_ok (c.t.d.fact 91 (f := .noat "World" "carriers") rfl),
    n_World_levies := noat_ok (c.t.d.fact 92 (f := .noat "World" "levies") rfl),
    n_World_listed := noat_ok (c.t.d.fact 93 (f := .noat "World" "listed") rfl),
    n_World_fee := noat_ok (c.t.d.fact 94 (f := .noat "World" "fee") rfl),
    n_World_days := noat_ok (c.t.d.fact 95 (f := .noat "World" "days") rfl),
    m_World_rate := meth_ok (c.t.d.fact 96 (f := .meth "World" "rate") rfl),
    m_World_rate_at := meth_ok (c.t.d.fact 97 (f := .meth "World" "rate_at") rfl),
    m_World_rate_for := meth_ok (c.t.d.fact 98 (f := .meth "World" "rate_for") rfl),
    c_Deal := cls_ok (c.t.d.fact 99 (f := .cls "Deal") rfl),
    k_Deal := mkr_ok (c.t.d.fact 100 (f := .mkr "Deal") rfl),
    n_Deal_seller := noat_ok (c.t.d.fact 101 (f := .noat "Deal" "seller") rfl),
    n_Deal_buyer := noat_ok (c.t.d.fact 102 (f := .noat "Deal" "buyer") rfl),
    n_Deal_land := noat_ok (c.t.d.fact 103 (f := .noat "Deal" "land") rfl),
    n_Deal_whole := noat_ok (c.t.d.fact 104 (f := .noat "Deal" "whole") rfl),
    n_Deal_tax := noat_ok (c.t.d.fact 105 (f := .noat "Deal" "tax") rfl),
    n_Deal_levy := noat_ok (c.t.d.fact 106 (f := .noat "Deal" "levy") rfl),
    n_Deal_fee := noat_ok (c.t.d.fact 107 (f := .noat "Deal" "fee") rfl),
    x_BadRecord := (exc_ok (c.t.d.fact 108 (f := .exc "BadRecord") rfl)).1,
    k_BadRecord := (exc_ok (c.t.d.fact 108 (f := .exc "BadRecord") rfl)).2.1,
    e_BadRecord := (exc_ok (c.t.d.fact 108 (f := .exc "BadRecord") rfl)).2.2.1,
    t_BadRecord := (exc_ok (c.t.d.fact 108 (f := .exc "BadRecord") rfl)).2.2.2,
    exm := exm_ok (c.t.d.fact 109 (f := .exm "BadRecord" "MarketError" true) rfl),
    t_SIDES := tupB_ok ((ba e0).1),
    kd_ENDS := c.t.tab 0,
    kd_BEHIND := c.t.tab 1,
    ends_back := ⟨eqO_ok (ba ((ba (ba e0).2).1)).1, tupB_ok (ba ((ba (ba e0).2).1)).2⟩,
    ends_lost := ⟨eqO_ok (ba ((ba (ba (ba e0).2).2).1)).1, tupB_ok (ba ((ba (ba (ba e0).2).2).1)).2⟩,
    ends_sold := ⟨eqO_ok (ba ((ba (ba (ba (ba e0).2).2).2).1)).1, tupB_ok (ba ((ba (ba (ba (ba e0).2).2).2).1)).2⟩,
    ends_judged := eqO_ok ((ba (ba (ba (ba (ba e0).2).2).2).2).1),
    behind_made := ⟨eqO_ok (ba ((ba (ba (ba (ba (ba (ba e0).2).2).2).2).2).1)).1, tupB_ok (ba ((ba (ba (ba (ba (ba (ba e0).2).2).2).2).2).1)).2⟩,
    behind_sent := ⟨eqO_ok (ba ((ba (ba (ba (ba (ba (ba (ba e0).2).2).2).2).2).2).1)).1, tupB_ok (ba ((ba (ba (ba (ba (ba (ba (ba e0).2).2).2).2).2).2).1)).2⟩,
    behind_came := ⟨eqO_ok (ba ((ba (ba (ba (ba (ba (ba (ba e0).2).2).2).2).2).2).2)).1, tupB_ok (ba ((ba (ba (ba (ba (ba (ba (ba e0).2).2).2).2).2).2).2)).2⟩,
    behind_complained := ⟨eqO_ok (ba ((ba e1).1)).1, tupB_ok (ba ((ba e1).1)).2⟩,
    behind_said := ⟨eqO_ok (ba ((ba (ba e1).2).1)).1, tupB_ok (ba ((ba (ba e1).2).1)).2⟩,
    excC := ⟨eqO_ok ((ba (ba (ba e1).2).2).1), eqO_ok ((ba (ba (ba (ba e1).2).2).2).1), of_decide_eq_true ((ba (ba (ba (ba (ba e1).2).2).2).2).1), ((ba (ba (ba (ba (ba (ba e1).2).2).2).2).2).1), eqO_ok ((ba (ba (ba (ba (ba (ba (ba e1).2).2).2).2).2).2).1), eqO_ok ((ba (ba (ba (ba (ba (ba (ba e1).2).2).2).2).2).2).2), of_decide_eq_true ((ba e2).1), of_decide_eq_true ((ba e2).2)⟩
  }
end Mk
set_option maxHeartbeats 0
/-! The top's run, once for each answer of the row that its classes ask. -/
namespace Hd
open PySem PySem.W PySem.Calls PyProof.Rows
abbrev R : OpenRow := OpenLaw.row PySem.Challenge.rw_marketden_k06_whole_verdicts
abbrev qv : Program := view R.prog [75]
def nm0 : List PySem.Str := ["LETTERS", "LONGEST", "MOST_AMOUNT", "MOST_RATE_basics", "WHOLE_RATE", "WHOLE_PART", "MOST_MANY", "MOST_PRICE", "is_name", "is_number", "are_names", "is_one_of", "part_of", "MarketError", "BadMarket", "BadDay"]
def nm1 : List PySem.Str := ["BadRules", "BadRecord", "MOST_RULES", "MOST_SAID", "MOST_DAYS_rules", "SIDES", "is_levy", "is_said", "is_rule", "are_rules", "verdict", "ENDS", "Deal", "moves_for", "MOST_RATE_forms", "BEHIND"]
def nm2 : List PySem.Str := ["is_made", "is_ended", "is_row", "goes_on", "stands", "first_wrong", "is_record", "row_of", "judged", "judged_by", "deal_of", "shares", "MOST_LANDS", "MOST_WARES", "MOST_PARTIES", "MOST_CARRIERS"]
def nm3 : List PySem.Str := ["MOST_LEVIES", "MOST_FEE", "MOST_DAYS_worlds", "NOBODY", "are_wares", "are_parties", "World", "_law_draw", "_law_cell_at", "_law_digits", "_law_take", "_law_parts", "_law_world", "_law_record", "_law_verdict", "_law_due"]
def nm4 : List PySem.Str := ["_law_follows", "_law_can_be", "_law_told"]
def names : List PySem.Str := nm0 ++ nm1 ++ nm2 ++ nm3 ++ nm4
abbrev hk : Hook := He.hookX 6 Mk.fa Mk.fn Mk.ts Mk.tf Mk.ex
def ob (s : SharedT) : He.AlX := He.obsX 6 Mk.fa Mk.fn Mk.ts Mk.tf Mk.ex (HandSHeadRun.getT s)
theorem ob_eq (s : SharedT) : ob s = hk.obs s.abs := He.obsX_eq (HandSHeadRun.getT_eq s)
theorem run0 (w : World) : HandSHeadRun.RunEq R qv hk ob 6000 names (w.withFollow "special-get-raises" false) := by
  intro os
  kernel_rfl
theorem run1 (w : World) : HandSHeadRun.RunEq R qv hk ob 6000 names (w.withFollow "special-get-raises" true) := by
  intro os
  kernel_rfl
theorem run (w : World) : HandSHeadRun.RunEq R qv hk ob 6000 names w := byRow2 "special-get-raises" (P := HandSHeadRun.RunEq R qv hk ob 6000 names) run0 run1 w
end Hd

set_option maxHeartbeats 4000000
/-! Own short words: comprehensions over a walk whose turns only make new things; two iterables or operators in one rule. -/
namespace Mk
open PySem PySem.Spec L2 He
theorem same_upd {H H' : Hp} {p : Addr} {o : HO} (s : Same H H') (hp : H p = none) : Same H (upd H' p o) := fun b u e => by
  rw [upd_ne (ne_of_none e hp)]
  exact s b u e
theorem same_seqT {K : PySem.W.Frag} {H H' : Hp} {a : Addr} {xs : List V} (e : Same H H') (h : SqT K H a xs) : SqT K H' a xs := by
  rcases h with (h | ⟨o, h⟩) | h
  · exact .inl (.inl (e _ _ h))
  · exact .inl (.inr ⟨o, e _ _ h⟩)
  · exact .inr h
/-- a comprehension's loop, as one word -/
def LcG (J : It) (g : TG) (tt : TT) (te : TE) (vs : List Nat) (σ : St) (H1 : Hp) (D : Addr) (Qd : Hp → Prop) : Prop := ∃ W : Nat → Nat → Hp → Prop, (∃ m, W 0 m (upd H1 D (.lst []))) ∧ ∀ i m H, W i m H →
  (J.stop i H ∧ Qd H) ∨ (J.go i H ∧ ∃ Nx : Hp → Prop, (∀ H', Nx H' → ∃ m', m' < m ∧ W (i + 1) m' H') ∧ ∀ x H', J.yld i H x H' → g x (wipe σ vs) H' fun σ2 H2 => wipe σ2 vs = wipe σ vs ∧ tt σ2 H2 fun b H3 =>
    if b = true then te σ2 H3 fun y H4 => ∃ acc, H4 D = some (.lst acc) ∧ acc.length < sizeLine ∧ Nx (upd H4 D (.lst (acc ++ [y]))) else Nx H3)
theorem tLc_eq {wi : TI} {g : TG} {tt : TT} {te : TE} {vs : List Nat} {σ : St} {H : Hp} {Q : VK} : tLc wi g tt te vs σ H Q = wi σ H (fun J H1 => ∀ D, H1 D = none → LcG J g tt te vs σ H1 D (fun H => Q (.ref D) H)) := rfl
/-- a for's loop, as one word -/
def FrG (J : It) (g : TG) (tb : TS) (D : Ends) (σ : St) (H : Hp) : Prop := ∃ W : Nat → Nat → St → Hp → Prop, (∃ m, W 0 m σ H) ∧ ∀ i m σ H, W i m σ H →
  (J.stop i H ∧ D.nx σ H) ∨ (J.go i H ∧ ∃ N : St → Hp → Prop, (∀ σ' H', N σ' H' → ∃ m', m' < m ∧ W (i + 1) m' σ' H') ∧ ∀ x H', J.yld i H x H' → g x σ H' fun σ2 H2 => tb { D with nx := N, ct := N, bk := D.nx } σ2 H2)
theorem tFor_eq {wi : TI} {g : TG} {tb : TS} {D : Ends} {σ : St} {H : Hp} : tFor wi g tb D σ H = wi σ H (fun J H1 => FrG J g tb D σ H1) := rfl
theorem fr_it {J : It} {n : Nat} {G : Hp → Prop} {Y : Nat → Hp → V → Hp → Prop} (w : Walk J n G Y) {g : TG} {tb : TS} {D : Ends} {σ : St} {H : Hp} (Pv : Nat → St → Hp → Prop) (h0 : Pv 0 σ H) (hG : ∀ i σ H, i ≤ n → Pv i σ H → G H)
    (hs : ∀ i x σ H H', i < n → Pv i σ H → Y i H x H' → g x σ H' fun σ2 H2 => tb { D with nx := Pv (i + 1), ct := Pv (i + 1), bk := D.nx } σ2 H2) (hd : ∀ σ H, Pv n σ H → D.nx σ H) : FrG J g tb D σ H := for_it w Pv h0 hG hs hd
theorem lc_at {J : It} {n : Nat} {G : Hp → Prop} {Y : Nat → Hp → V → Hp → Prop} (w : Walk J n G Y) {g : TG} {tt : TT} {te : TE} {vs : List Nat} {σ : St} {H1 : Hp} {D : Addr} {Qd : Hp → Prop} (Pv : Nat → Hp → Prop) (h0 : Pv 0 (upd H1 D (.lst []))) (hG : ∀ i H, i ≤ n → Pv i H → G H)
    (hs : ∀ i x H H', i < n → Pv i H → Y i H x H' → g x (wipe σ vs) H' fun σ2 H2 => wipe σ2 vs = wipe σ vs ∧ tt σ2 H2 fun b H3 =>
      if b = true then te σ2 H3 fun y H4 => ∃ acc, H4 D = some (.lst acc) ∧ acc.length < sizeLine ∧ Pv (i + 1) (upd H4 D (.lst (acc ++ [y]))) else Pv (i + 1) H3) (hd : ∀ H, Pv n H → Qd H) : LcG J g tt te vs σ H1 D Qd := lc_it w Pv h0 hG hs hd
/-- a comprehension: the i-th turn gives f i (none: it is left out) -/
theorem lc_pure {J : It} {n : Nat} {G : Hp → Prop} {Y : Nat → Hp → V → Hp → Prop} (w : Walk J n G Y) {g : TG} {tt : TT} {te : TE} {vs : List Nat} {σ : St} {H1 : Hp} {D : Addr} {Qd : Hp → Prop} (hD : H1 D = none) (hn : n ≤ 1000000) (f : Nat → Option V)
    (hG : ∀ H, Same H1 H → G H)
    (turn : ∀ (i : Nat) (x : V) (H H' : Hp) (R : V → Hp → Prop) (R0 : Hp → Prop), i < n → Same H1 H → Y i H x H' → (∀ y H4, Same H H4 → f i = some y → R y H4) → (∀ H3, Same H H3 → f i = none → R0 H3) →
      g x (wipe σ vs) H' fun σ2 H2 => wipe σ2 vs = wipe σ vs ∧ tt σ2 H2 fun b H3 => if b = true then te σ2 H3 R else R0 H3)
    (done : ∀ H, Same H1 H → H D = some (.lst ((List.range n).filterMap f)) → Qd H) : LcG J g tt te vs σ H1 D Qd := by
  refine lc_it w (fun i H => Same H1 H ∧ i ≤ n ∧ H D = some (.lst ((List.range i).filterMap f))) ⟨grow hD, Nat.zero_le _, upd_same⟩ (fun i H _ p => hG H p.1) (fun i x H H' hi p y => ?_) fun H p => done H p.1 p.2.2
  obtain ⟨s, _, a⟩ := p
  refine turn i x H H' _ _ hi s y (fun z H4 s4 e => ⟨_, s4 _ _ a, ?_, same_upd (s.trans s4) hD, hi, ?_⟩) fun H3 s3 e => ⟨s.trans s3, hi, ?_⟩
  · have h1 : ((List.range i).filterMap f).length ≤ (List.range i).length := List.length_filterMap_le f _
    rw [List.length_range] at h1
    exact Nat.lt_of_le_of_lt (Nat.le_trans h1 (Nat.le_trans (Nat.le_of_lt hi) hn)) (by decide)
  · rw [upd_same, List.range_succ, List.filterMap_append]
    simp [e]
  · rw [s3 _ _ a, List.range_succ, List.filterMap_append]
    simp [e]
/-- from places to items -/
theorem range_filterMap {α : Type} (f : V → Option α) : ∀ xs : List V, (List.range xs.length).filterMap (fun i => xs[i]?.bind f) = xs.filterMap f
  | [] => rfl
  | x :: xs => by
    have ih := range_filterMap f xs
    rw [List.length_cons, List.range_succ_eq_map, List.filterMap_cons, List.filterMap_map]
    have e : ((fun i => (x :: xs)[i]?.bind f) ∘ Nat.succ) = fun i => xs[i]?.bind f := by
      funext i
      simp
    rw [e, ih]
    simp [List.filterMap_cons]
/-- over a list, a tuple: item by item -/
theorem lc_pureL {K : PySem.W.Frag} {a : Addr} {xs : List V} {g : TG} {tt : TT} {te : TE} {vs : List Nat} {σ : St} {H1 : Hp} {D : Addr} {Qd : Hp → Prop} (hD : H1 D = none) (hs : SqL K H1 a xs) (hn : xs.length ≤ 1000000) (f : V → Option V)
    (turn : ∀ (i : Nat) (x : V) (H : Hp) (R : V → Hp → Prop) (R0 : Hp → Prop), xs[i]? = some x → Same H1 H → (∀ y H4, Same H H4 → f x = some y → R y H4) → (∀ H3, Same H H3 → f x = none → R0 H3) →
      g x (wipe σ vs) H fun σ2 H2 => wipe σ2 vs = wipe σ vs ∧ tt σ2 H2 fun b H3 => if b = true then te σ2 H3 R else R0 H3)
    (done : ∀ H, Same H1 H → H D = some (.lst (xs.filterMap f)) → Qd H) : LcG (Itl K a) g tt te vs σ H1 D Qd := by
  refine lc_pure (walk_list (K := K) (a := a) (xs := xs)) hD hn (fun i => xs[i]?.bind f) (fun H s => s.seq hs) (fun i x H H' R R0 hi s y h1 h0 => ?_) fun H s e => done H s (by rw [range_filterMap] at e; exact e)
  obtain ⟨rfl, ex⟩ := y
  exact turn i x H' R R0 ex s (fun z H4 s4 e => h1 z H4 s4 (by rw [ex]; exact e)) fun H3 s3 e => h0 H3 s3 (by rw [ex]; exact e)
theorem lc_pureT {K : PySem.W.Frag} {a : Addr} {xs : List V} {g : TG} {tt : TT} {te : TE} {vs : List Nat} {σ : St} {H1 : Hp} {D : Addr} {Qd : Hp → Prop} (hD : H1 D = none) (hs : SqT K H1 a xs) (hn : xs.length ≤ 1000000) (f : V → Option V)
    (turn : ∀ (i : Nat) (x : V) (H : Hp) (R : V → Hp → Prop) (R0 : Hp → Prop), xs[i]? = some x → Same H1 H → (∀ y H4, Same H H4 → f x = some y → R y H4) → (∀ H3, Same H H3 → f x = none → R0 H3) →
      g x (wipe σ vs) H fun σ2 H2 => wipe σ2 vs = wipe σ vs ∧ tt σ2 H2 fun b H3 => if b = true then te σ2 H3 R else R0 H3)
    (done : ∀ H, Same H1 H → H D = some (.lst (xs.filterMap f)) → Qd H) : LcG (Itt K a) g tt te vs σ H1 D Qd := by
  refine lc_pure (walk_tup (K := K) (a := a) (xs := xs)) hD hn (fun i => xs[i]?.bind f) (fun H s => same_seqT s hs) (fun i x H H' R R0 hi s y h1 h0 => ?_) fun H s e => done H s (by rw [range_filterMap] at e; exact e)
  obtain ⟨rfl, ex⟩ := y
  exact turn i x H' R R0 ex s (fun z H4 s4 e => h1 z H4 s4 (by rw [ex]; exact e)) fun H3 s3 e => h0 H3 s3 (by rw [ex]; exact e)
/-- two iterables in one rule -/
theorem pi_or {X : Cx} {tg e : Expr} {t t' : TI} (h : PI X tg e t) (h' : PI X tg e t') : PI X tg e (fun σ H R => t σ H R ∨ t' σ H R) := by
  refine ⟨fun pins s σ H R I q => ?_⟩
  rcases q with q | q
  · exact h.run pins s σ H R I q
  · exact h'.run pins s σ H R I q
theorem pi_any {X : Cx} {tg l : Expr} {tl : TE} (hl : PE X l tl) : PI X tg l (fun σ H R => iList X.K tl σ H R ∨ iTup X.K tl σ H R) := pi_or (pi_list hl) (pi_tup hl)
/-- scalars, or data -/
theorem op_eqU {X : Cx} (hu : X.A.units + 64 < cLine) : OpR X (compareOp .Eq) (fun x y H Q => rEq x y H Q ∨ rEqD X.K x y H Q) := OpR.or op_eq (op_eqD hu)
theorem op_neU {X : Cx} (hu : X.A.units + 64 < cLine) : OpR X (compareOp .NotEq) (fun x y H Q => rNe x y H Q ∨ rNeD X.K x y H Q) := OpR.or op_ne (op_neD hu)
/-- a list of truths that are all true -/
theorem all_true {α : Type} (xs : List α) (f : α → V) (h : ∀ x ∈ xs, f x = .bl true) : xs.map f = (List.replicate xs.length true).map V.bl := by
  induction xs with
  | nil => rfl
  | cons x xs ih =>
    rw [List.map_cons, h x List.mem_cons_self, ih fun y hy => h y (List.mem_cons_of_mem _ hy)]
    rfl
theorem range_true (n : Nat) : (List.range n).filterMap (fun _ => some (V.bl true)) = (List.replicate n true).map V.bl := by
  induction n with
  | zero => rfl
  | succ n ih =>
    rw [List.range_succ, List.filterMap_append, ih, List.replicate_succ']
    simp
theorem all_rep (n : Nat) : (List.replicate n true).all id = true := by
  rw [List.all_eq_true]
  intro x hx
  rw [(List.mem_replicate.mp hx).2]
  rfl
end Mk
/-! Own rules: one comprehension for every kind of thing it gathers; dicts whose keys are tuples: display, comprehension, items, dict(pairs), !=. -/
namespace Mk
open PySem PySem.Spec PyProof.Rows L2
abbrev KTs := List (List L2.Key × V)
section
variable {X : Cx} {pins : List (Addr × Obj)} {σ : L2.St} {H : Hp} {s : Shared}
/-- a store into a dict with tuple keys -/
theorem putT_ok {A : Around} {E : Value → Shared → Prop} {D b : Addr} {kvs : KTs} {k : List L2.Key} {v : V} {r : Value} {Q : Unit → Shared → Prop} (hu : A.units < cLine) (I : Inv X pins σ H s) (hD : H D = some (.dT kvs)) (hb : H b = some (.tup (k.map kV)))
    (hz : kvs.length < sizeLine) (rv : RelV v r) (h : ∀ s', Inv X pins σ (upd H D (.dT (putK kvs k v))) s' → Q () s') : wpAny (model X.prog X.w) A (dictSet D (.ref b) r) Q E s := by
  obtain ⟨z, hd, xs, rel, dd⟩ := dt_of I.hok hD
  have hz2 : xs.length ≤ sizeLine := by rw [← Paired.length rel]; exact z
  have hl : (putK kvs k v).length ≤ sizeLine := by have := length_putK kvs k v; omega
  refine wpAny_dictSet_heap (hsz := hz2) hu (key_of I.hok hb) dd fun h' dd' hs => h _ ?_
  obtain ⟨q, es, ep, hq, h2, h3, h4, _, h5⟩ := dd'
  refine d_write I (by rw [hD]; exact True.intro) hs ⟨q, hq⟩ ⟨hl, hd, _, (rel.put k hb rv).keeps fun c ys ec => ?_, q, es, ep, hq, h2, h3, h4, h5⟩
  rw [upd_ne (ne_of ec hD (fun z => nomatch z))]
  exact ec
/-- several stores: (key, its address, value) -/
def mergeT (kvs : KTs) (ps : List (List L2.Key × Addr × V)) : KTs := ps.foldl (fun acc x => putK acc x.1 x.2.2) kvs
theorem storesT {A : Around} {E : Value → Shared → Prop} {D : Addr} (hu : A.units < cLine) : ∀ (ps : List (List L2.Key × Addr × V)) (ws : List (Value × Value)) (kvs : KTs) (H : Hp) (s : Shared) (Q : PUnit → Shared → Prop), Inv X pins σ H s → H D = some (.dT kvs) →
    kvs.length + ps.length ≤ sizeLine → (∀ x ∈ ps, H x.2.1 = some (.tup (x.1.map kV))) → VV (ps.map fun x => (V.ref x.2.1, x.2.2)) ws → (∀ s', Inv X pins σ (upd H D (.dT (mergeT kvs ps))) s' → Q PUnit.unit s') → wpAny (model X.prog X.w) A (storeAll D ws) Q E s := by
  intro ps
  induction ps with
  | nil =>
    intro ws kvs H s Q I hD _ _ r h
    cases r
    unfold storeAll
    rw [List.forIn_nil]
    have e : upd H D (.dT kvs) = H := by
      funext b
      by_cases q : b = D
      · rw [q, upd_same, hD]
      · rw [upd_ne q]
    refine wpAny_pure (h s ?_)
    show Inv X pins σ (upd H D (.dT kvs)) s
    rw [e]
    exact I
  | cons x ps ih =>
    intro ws kvs H s Q I hD hz hk r h
    rw [List.map_cons] at r
    rw [List.length_cons] at hz
    cases r with
    | @cons a b as bs r1 rt =>
      obtain ⟨b1, b2⟩ := b
      obtain ⟨r1, r2⟩ := r1
      cases (show b1 = Value.ref x.2.1 from r1)
      unfold storeAll
      rw [List.forIn_cons]
      refine wpAny_bind (wpAny_bind (putT_ok hu I hD (hk x List.mem_cons_self) (by omega) r2 fun s1 I1 => wpAny_pure ?_))
      have l := length_putK kvs x.1 x.2.2
      refine ih bs (putK kvs x.1 x.2.2) _ s1 Q I1 upd_same (by omega) (fun y hy => ?_) rt fun s2 I2 => h s2 ?_
      · have q := hk y (List.mem_cons_of_mem _ hy)
        rw [upd_ne (ne_of q hD (fun z => nomatch z))]
        exact q
      · rw [upd_upd] at I2
        exact I2
end
/-- {k: v, ..}, the keys tuples -/
def tDispT (trs : List (TE × TE)) : TE := fun σ H Q => ∀ p, H p = none → tPairs trs σ (upd H p (.dT [])) fun ps H2 => H2 p = some (.dT []) ∧ ∃ xs : List (List L2.Key × Addr × V), ps = xs.map (fun x => (V.ref x.2.1, x.2.2)) ∧ xs.length ≤ 15 ∧
  (∀ x ∈ xs, H2 x.2.1 = some (.tup (x.1.map kV))) ∧ Q (.ref p) (upd H2 p (.dT (mergeT [] xs)))
theorem pe_dispT {X : Cx} {pos : Pos} {keys : List (Option Expr)} {values : List Expr} {trs : List (TE × TE)} (hu : X.A.units + 64 < cLine) (h : PPs X pos keys values trs) (hall : keys.all (·.isSome) = true) (hl : keys.length = values.length) (h0 : keys ≠ [])
    (h15 : keys.length ≤ 15) : PE X (.Dict keys values pos) (tDispT trs) := by
  refine ⟨fun pins s σ H Q I q => ?_⟩
  have hn := I.hok.fresh (Nat.le_refl s.heap.objs.size)
  have I1 := I.laid (a := s.heap.objs.size) (o := .dT []) (h' := s.heap.push { cls := .type "dict", data := .dict #[] }) (t' := s.toks) (fun _ _ q => Heap.get?_push_of_some _ q) (Nat.le_refl _) (dt_empty s.heap I.big)
  refine wpAny_Dict_any hall hl h0 h15 (thn (h.run pins _ σ _ _ I1 (q _ hn)) fun ws s2 ⟨ps, H2, I2, rel, e, xs, ep, lx, hk, q2⟩ => ?_)
  subst ep
  exact storesT (by omega) xs ws [] H2 s2 _ I2 e (by rw [List.length_nil, sizeLine_eq]; omega) hk rel fun s3 I3 => ⟨.ref s.heap.objs.size, _, I3, rfl, q2⟩
end Mk
/-! Own rules: a comprehension, whatever it gathers; of texts (a set), of tuple keys (a dict). -/
namespace Mk
open PySem PySem.Spec PyProof.Rows L2
/-- what a turn of a comprehension does when its tests are true -/
abbrev Act := Addr → Env → (Value → Shared → Prop) → (Shared → Prop) → Shared → Prop
section
variable {prog : Program} {w : World} {A : Around}
/-- a comprehension's turns: the loop of C reaches R when every turn keeps I -/
def LoopOk (prog : Program) (w : World) (A : Around) (C tg : Expr) (ifs : List Expr) (act : Act) : Prop := ∀ (it D : Addr) (env : Env) (R : Result → Shared → Prop) (I : Nat → Shared → Prop),
  (∀ n s, I n s → wpAny (model prog w) A (pyNext (.ref it)) (fun r s1 => match r with
    | none => R (.ok .next) s1
    | some v => wpAny (model prog w) A (letOwnedTupleGo tg (.ref it) v) (fun _ s2 => wpAny (model prog w) A (assign tg env v) (fun _ s3 =>
        wpAny (model prog w) A (forIn ifs true fun c r => if r = true then do let ok ← isTrue c env (eval c env); pure (ForInStep.yield ok) else pure (ForInStep.yield r)) (fun ok s4 =>
          if ok = true then act D env (notedBy (model prog w) A env fun e s' => R (.error e) s') (fun s5 => ∃ m, m < n ∧ I m s5) s4
          else ∃ m, m < n ∧ I m s4) (notedBy (model prog w) A env fun e s' => R (.error e) s') s3) (notedBy (model prog w) A env fun e s' => R (.error e) s') s2) (notedBy (model prog w) A env fun e s' => R (.error e) s') s1)
      (notedBy (model prog w) A env fun e s' => R (.error e) s') s) →
  ∀ n s, I n s → codeAny (model prog w) A (.compLoop C 0 (.ref it) (.ref D) env) R s
end
section
variable {X : Cx}
/-- the loop by what it gathers: the new thing stands as o0, a turn's step is ta -/
def AcG (J : It) (g : TG) (tt : TT) (ta : Addr → L2.St → Hp → (Hp → Prop) → Prop) (o0 : Addr → HO) (vs : List Nat) (σ : L2.St) (H1 : Hp) (D : Addr) (Qd : Hp → Prop) : Prop := ∃ W : Nat → Nat → Hp → Prop, (∃ m, W 0 m (upd H1 D (o0 D))) ∧ ∀ i m H, W i m H →
  (J.stop i H ∧ Qd H) ∨ (J.go i H ∧ ∃ Nx : Hp → Prop, (∀ H', Nx H' → ∃ m', m' < m ∧ W (i + 1) m' H') ∧ ∀ x H', J.yld i H x H' → g x (wipe σ vs) H' fun σ2 H2 => wipe σ2 vs = wipe σ vs ∧ tt σ2 H2 fun b H3 =>
    if b = true then ta D σ2 H3 Nx else Nx H3)
def tAc (wi : TI) (g : TG) (tt : TT) (ta : Addr → L2.St → Hp → (Hp → Prop) → Prop) (o0 : Addr → HO) (vs : List Nat) : TE := fun σ H Q => wi σ H fun J H1 => ∀ D, H1 D = none → AcG J g tt ta o0 vs σ H1 D (fun H => Q (.ref D) H)
/-- a step keeps what it says -/
def StepOk (X : Cx) (scope : Scope) (act : Act) (ta : Addr → L2.St → Hp → (Hp → Prop) → Prop) : Prop := ∀ (s0 : Shared) (H0 : Hp) (C : Addr) (cl : List (Str × Addr)) (fp : List Addr) (pins : List (Addr × Obj)) (s : Shared) (σ : L2.St) (H : Hp) (D : Addr) (E : Value → Shared → Prop) (Qn : Shared → Prop) (R : Hp → Prop),
  Inv (X.blk s0 H0 scope (compEnvC scope cl C X.env) fp) pins σ H s → ta D σ H R → (∀ s' H', Inv (X.blk s0 H0 scope (compEnvC scope cl C X.env) fp) pins σ H' s' → R H' → Qn s') → act D (compEnvC scope cl C X.env) E Qn s
theorem ac_core {pins : List (Addr × Obj)} {s : Shared} {σ : L2.St} {H : Hp} {Q : VK} {C tg iter : Expr} {ifs : List Expr} {scope : Scope} {own : List (Str × Nat)} {pos' : Pos} {wi : TI} {g : TG} {tt : TT} {ta : Addr → L2.St → Hp → (Hp → Prop) → Prop} {o0 : Addr → HO} {act : Act} {mk : Sem Value} {ob : Obj}
    (hc : X.calm = true) (hN : X.N.Nodup) (I : Inv X pins σ H s) (hi : PI X tg iter wi) (ok : BlkOk X.N X.env.scope scope own)
    (hg : ∀ (s : Shared) (H : Hp) (C : Addr) (cl : List (Str × Addr)) (fp : List Addr), PG (X.blk s H scope (compEnvC scope cl C X.env) fp) tg g) (ht : ∀ (s : Shared) (H : Hp) (C : Addr) (cl : List (Str × Addr)) (fp : List Addr), PTs (X.blk s H scope (compEnvC scope cl C X.env) fp) ifs tt)
    (hst : StepOk X scope act ta) (hs : ∀ x, foldedSetIterable iter X.env x = pure x) (hcl : clausesOf C = [⟨tg, iter, ifs, 0⟩]) (hloop : LoopOk X.prog X.w X.A C tg ifs act)
    (hbegin : ∀ (it D : Addr) (env : Env) (R : Result → Shared → Prop) (s : Shared), codeAny (model X.prog X.w) X.A (.compLoop C 0 (.ref it) (.ref D) env) R s →
      wpAny (model X.prog X.w) X.A (pyIter (.ref it)) (fun it' s' => codeAny (model X.prog X.w) X.A (.compLoop C 0 it' (.ref D) env) R s') (notedBy (model X.prog X.w) X.A env fun x s' => R (.error x) s') s → codeAny (model X.prog X.w) X.A (.compStart C 0 (.ref it) (.ref D) env) R s)
    (hmk : ∀ (s : Shared) (Q' : Value → Shared → Prop) (E' : Value → Shared → Prop), Q' (.ref s.heap.objs.size) { s with heap := s.heap.push ob } → wpAny (model X.prog X.w) X.A mk Q' E' s)
    (hob : ∀ (h : Heap) (H : Hp), sysModules < h.objs.size → ObjOk X.prog X.w H (h.push ob) h.objs.size (o0 h.objs.size))
    (h : tAc wi g tt ta o0 (own.map (·.2)) σ H Q) :
    wpAny (model X.prog X.w) X.A (comprehension C scope X.env pos' mk false (eval iter X.env) none) (EP X pins σ Q) X.xe s := by
  have hfree : ∀ y ∈ scope.names, y.2 = .free → ∃ c, X.env.cells.lookup y.1 = some c := fun y hy e => by
    rcases ok.free y hy e with k | k
    · exact I.ok.has _ (.inl k)
    · exact I.ok.has _ (.inr k)
  refine wpAny_comprehension_free (use := none) hcl hs (closure_ok hfree) ok.kind (fun y hy e => by rw [ok.uniq y hy, e])
    (thn (hi.run pins s σ H _ I h) fun xv s1 hx => thn hx fun itv s2 h2 => ?_)
  obtain ⟨it, fp, tn, J, H2, e, I2, T, st2, f2, q⟩ := h2
  subst e
  refine hmk _ _ _ (newEnv_comp ?_)
  have hDn : H2 s2.heap.objs.size = none := I2.hok.fresh (Nat.le_refl _)
  obtain ⟨W, ⟨m0, w0⟩, turn⟩ := q _ hDn
  have I3 : Inv X pins σ (upd H2 s2.heap.objs.size (o0 s2.heap.objs.size)) { s2 with heap := s2.heap.push ob } := I2.laid (t' := s2.toks) (fun b o e => Heap.get?_push_of_some _ e) (Nat.le_refl _) (hob _ _ I2.big)
  generalize hD : s2.heap.objs.size = D at hDn w0 turn I3 ⊢
  have sz : ∀ b ∈ fp, b < D := fun b hb => by
    obtain ⟨o, e, _⟩ := T.obj _ _ st2 b hb
    rw [← hD]
    exact Heap.lt_size e
  generalize hs3 : ({ s2 with heap := s2.heap.push ob } : Shared) = s3 at I3 ⊢
  have h3 : s3.heap = s2.heap.push ob := by rw [← hs3]
  have f3 : ∀ b ∈ fp, FpOk X pins (upd H2 D (o0 D)) b ∧ b < s3.heap.objs.size := fun b hb => by
    have hlt := sz b hb
    refine ⟨⟨?_, (f2 b hb).2⟩, by rw [h3, Heap.size_push, hD]; exact Nat.lt_succ_of_lt hlt⟩
    rw [upd_ne (Nat.ne_of_lt hlt)]
    exact (f2 b hb).1
  have st3 : tn 0 s3.heap := T.keep _ _ _ st2 fun b _ o e => by rw [h3]; exact Heap.get?_push_of_some _ e
  have I4 := block_start I3 ok hN f3
  have pg := hg s3 (upd H2 D (o0 D)) s3.heap.objs.size (cellsFrom (s3.heap.objs.size + 1) scope.names (cloFrom X.env.cells scope.names [])) fp
  have pt := ht s3 (upd H2 D (o0 D)) s3.heap.objs.size (cellsFrom (s3.heap.objs.size + 1) scope.names (cloFrom X.env.cells scope.names [])) fp
  have pe := hst s3 (upd H2 D (o0 D)) s3.heap.objs.size (cellsFrom (s3.heap.objs.size + 1) scope.names (cloFrom X.env.cells scope.names [])) fp
  show codeAny _ _ (.compStart C 0 (.ref it) (.ref D) (compEnvC scope (cellsFrom (s3.heap.objs.size + 1) scope.names (cloFrom X.env.cells scope.names [])) s3.heap.objs.size X.env)) (compPost (model X.prog X.w) X.A X.xe none (EP X pins σ Q) (.ref D) s3.heap.objs.size) { s3 with heap := pushCells (s3.heap.push { cls := .type "dict", data := .dict #[] }) scope.names }
  have nfp : ∀ b ∈ fp, (upd H2 D (o0 D)) b = none := fun b hb => (f3 b hb).1.1
  generalize hce : compEnvC scope (cellsFrom (s3.heap.objs.size + 1) scope.names (cloFrom X.env.cells scope.names [])) s3.heap.objs.size X.env = ce at I4 pg pt pe ⊢
  have cL : ce.locals = s3.heap.objs.size := by subst hce; rfl
  generalize hH3 : upd H2 D (o0 D) = H3 at I3 I4 pg pt pe w0 nfp f3
  generalize hs4 : ({ s3 with heap := pushCells (s3.heap.push { cls := .type "dict", data := .dict #[] }) scope.names } : Shared) = s4 at I4 ⊢
  have st4 : tn 0 s4.heap := T.keep _ _ _ st3 fun b _ o e => by rw [← hs4]; exact pushCells_keeps _ _ _ _ (Heap.get?_push_of_some _ e)
  have stat : ∀ {σ' : L2.St} {H' : Hp} {s' : Shared}, Inv (X.blk s3 H3 scope ce fp) [] σ' H' s' → (∀ b ∈ fp, H' b = none) → ∀ b ∈ fp, FpOk (X.blk s3 H3 scope ce fp) [] H' b := fun {σ' H' s'} I' hn b hb =>
    ⟨hn b hb, (I'.ok.exf b hb).1, I'.ok.exfs b hb, .inl hb, fun x c e => (I'.ok.exf b hb).2 x c e, fun p hp => absurd (show p ∈ ([] : List (Addr × Obj)) ++ [] from hp) (by simp)⟩
  have loop : codeAny (model X.prog X.w) X.A (.compLoop C 0 (.ref it) (.ref D) ce) (compPost (model X.prog X.w) X.A X.xe none (EP X pins σ Q) (.ref D) s3.heap.objs.size) s4 := by
    refine hloop it D ce _ (fun n s' => ∃ i H', Inv (X.blk s3 H3 scope ce fp) [] (wipe σ (own.map (·.2))) H' s' ∧ tn i s'.heap ∧ (∀ b ∈ fp, H' b = none) ∧ W i n H') ?_ m0 s4 ⟨0, H3, I4, st4, nfp, w0⟩
    rintro n s5 ⟨i, H5, I5, st5, n5, w5⟩
    rcases turn i n H5 w5 with ⟨stop, qq⟩ | ⟨go, Nx, hNx, step⟩
    · have td := T.done (X.blk s3 H3 scope ce fp) rfl rfl rfl hc i [] s5 _ H5 (fun _ _ => False) I5 (stat I5 n5) st5 stop
      refine thnF td fun r s6 ⟨hr, I6⟩ => ?_
      subst hr
      have I7 : Inv X pins σ H5 s6 := I3.call' (ch := fp) I6.os I6.base I6.hok I6.bare fun b hb => ⟨(f3 b hb).1.2.2.2.1, (f3 b hb).1.2.1, (f3 b hb).1.2.2.2.2.1, (f3 b hb).1.2.2.2.2.2⟩
      have nC : H5 s3.heap.objs.size = none := by
        have z : H5 ce.locals = none := I6.free
        rw [cL] at z
        exact z
      obtain ⟨m, hn, _⟩ := I6.loc
      have hn : s6.heap.Ns ce.locals m := hn
      rw [cL] at hn
      obtain ⟨a0, a1, a2, a3, a4, a5⟩ : FpOk X pins H5 s3.heap.objs.size := I3.fpOk (Nat.le_refl _) nC
      refine ⟨m, hn, fun h'' sb => ?_⟩
      exact ⟨.ref D, H5, I7.turned (t' := s6.toks) (fun b o hb e => (sb.2 b hb).trans e) a0 a1 a3 a4 a5, rfl, qq⟩
    · have ti := T.item (X.blk s3 H3 scope ce fp) rfl rfl rfl hc i [] s5 _ H5 (fun _ _ => False) I5 (stat I5 n5) st5 go
      refine thnF ti fun r s6 ⟨u, hr, h6⟩ => ?_
      subst hr
      refine thnF h6 fun _ s7 ⟨x, H7, I7, r7, y7, st7, n7⟩ => ?_
      have I7' := I7.pinned (stat I7 n7) (T.obj _ _ st7)
      refine thnF (pg.run _ s7 _ H7 x u _ I7' r7 (step x H7 y7)) fun _ s8 ⟨σ8, H8, I8, hw8, q8⟩ => ?_
      refine thnF (pt.run _ s8 σ8 H8 _ I8 q8) fun b s9 ⟨H9, I9, q9⟩ => ?_
      have fin : ∀ (s' : Shared) (H' : Hp), Inv (X.blk s3 H3 scope ce fp) ([] ++ pinsAt fp s7.heap) σ8 H' s' → Nx H' → ∃ m, m < n ∧ ∃ i H', Inv (X.blk s3 H3 scope ce fp) [] (wipe σ (own.map (·.2))) H' s' ∧ tn i s'.heap ∧ (∀ b ∈ fp, H' b = none) ∧ W i m H' := fun s' H' I' nx => by
        obtain ⟨m', hm, w'⟩ := hNx H' nx
        have pin' : ∀ b ∈ fp, ∀ o, s7.heap.get? b = some o → s'.heap.get? b = some o ∧ H' b = none := fun b hb o e =>
          let z := I'.pin (b, o) (List.mem_append_right _ (List.mem_append_right _ (mem_pinsAt hb e)))
          ⟨z.1, z.2.1⟩
        have hl : (wipe σ (own.map (·.2))).length = σ8.length := by rw [← hw8, wipe_length]
        refine ⟨m', hm, i + 1, H', (I'.unpinned (pins := [])).weak hl (fun j v e => ?_), T.keep _ _ _ st7 fun b hb o e => (pin' b hb o e).1, fun b hb => ?_, w'⟩
        · rw [← hw8] at e
          exact (wipe_some e).1
        · obtain ⟨o, e, _⟩ := T.obj _ _ st7 b hb
          exact (pin' b hb o e).2
      cases b with
      | false =>
        simp only [Bool.false_eq_true, if_false] at q9 ⊢
        exact fin s9 H9 I9 q9
      | true =>
        simp only [if_true] at q9 ⊢
        subst hce
        exact pe _ s9 σ8 H9 D _ _ Nx I9 q9 fin
  exact hbegin _ _ _ _ _ loop (T.self X.A 0 _ _ _ st4 loop)
end
/-! ### {elt for tg in iter if ..} of keys -/
/-- set.add of a key -/
theorem addK_ok {X : Cx} {pins : List (Addr × Obj)} {σ : L2.St} {H : Hp} {s : Shared} {E : Value → Shared → Prop} {D : Addr} {S : Key → Bool} {n : Nat} {y : Key} {u : Value} {Q : Value → Shared → Prop} (I : Inv X pins σ H s) (hD : H D = some (SetK X.prog X.w D S n)) (room : n + 1 < scanBound) (ry : RelV (kV y) u)
    (h : ∀ s', Inv X pins σ (upd H D (SetK X.prog X.w D (fun j => S j || decide (j = y)) (if S y = true then n else n + 1))) s' → Q .none s') : wpAny (model X.prog X.w) X.A (call (.builtin "set.add") [.ref D, u]) Q E s := by
  refine call_set_add (kV_is ry) (key_scan ry) (setK_get I hD) room fun h' sb new => ?_
  have he : ∃ o, h'.get? D = some o := by
    have ⟨o, _, _, _, ho, _⟩ := new
    exact ⟨o, ho⟩
  exact h _ (I.write (e := D) (t' := s.toks + 1) (by rw [hD]; trivial) (.inl rfl) (fun b u hb hu => (sb.2 b hb).trans hu) he (setK_new new))
def taK (P : Program) (w : World) (te : TE) (D : Addr) (σ : L2.St) (H : Hp) (R : Hp → Prop) : Prop := te σ H fun y H4 => ∃ (c : Key) (S : Key → Bool) (n : Nat), y = kV c ∧ H4 D = some (SetK P w D S n) ∧ n + 1 < scanBound ∧ R (upd H4 D (SetK P w D (fun j => S j || decide (j = c)) (if S c = true then n else n + 1)))
def tScK (P : Program) (w : World) (wi : TI) (g : TG) (tt : TT) (te : TE) (vs : List Nat) : TE := tAc wi g tt (taK P w te) (fun D => SetK P w D (fun _ => false) 0) vs
theorem pe_scK {X : Cx} {elt tg iter : Expr} {ifs : List Expr} {scope : Scope} {own : List (Str × Nat)} {pos : Pos} {wi : TI} {g : TG} {tt : TT} {te : TE} (hc : X.calm = true) (hN : X.N.Nodup) (hi : PI X tg iter wi) (ok : BlkOk X.N X.env.scope scope own)
    (hg : ∀ (s : Shared) (H : Hp) (C : Addr) (cl : List (Str × Addr)) (fp : List Addr), PG (X.blk s H scope (compEnvC scope cl C X.env) fp) tg g) (ht : ∀ (s : Shared) (H : Hp) (C : Addr) (cl : List (Str × Addr)) (fp : List Addr), PTs (X.blk s H scope (compEnvC scope cl C X.env) fp) ifs tt)
    (he : ∀ (s : Shared) (H : Hp) (C : Addr) (cl : List (Str × Addr)) (fp : List Addr), PE (X.blk s H scope (compEnvC scope cl C X.env) fp) elt te) (hs : ∀ x, foldedSetIterable iter X.env x = pure x := by intro _; rfl) :
    PE X (.SetComp elt [⟨tg, iter, ifs, 0⟩] scope pos) (tScK X.prog X.w wi g tt te (own.map (·.2))) := by
  refine ⟨fun pins s σ H Q I h => ?_⟩
  rw [PpSet.eval_SetComp]
  refine ac_core (act := fun D env E Qn s => wpAny (model X.prog X.w) X.A (eval elt env) (fun x s4 => wpAny (model X.prog X.w) X.A (call (.builtin "set.add") [.ref D, x]) (fun _ s5 => Qn s5) E s4) E s)
    (ob := { cls := .type "set", dict := none, data := .set #[] 0 (.fresh 0 0 (!X.w.params.followText "set-order")) }) hc hN I hi ok hg ht ?_ hs rfl ?_ (fun it D env R s hl hp => PpSet.codeAny_compStart_set hl hp) (fun s Q' E' q => PpSet.newSet_ok q) (fun h H hb => ?_) h
  · intro s0 H0 C cl fp pins s σ H D E Qn R I q hq
    refine thnF ((he s0 H0 C cl fp).run _ s σ H _ I q) fun z s10 ⟨yv, H10, I10, r10, c, S0, n0, ey, hD10, hz10, nx⟩ => ?_
    subst ey
    exact addK_ok (X := X.blk s0 H0 scope (compEnvC scope cl C X.env) fp) I10 hD10 hz10 r10 fun s11 I11 => hq s11 _ I11 nx
  · intro it D env R I turn n s hI
    exact PpSet.compLoopS_any I turn n hI
  · refine setK_new ⟨_, #[], 0, _, Heap.get?_push_size _ rfl, ⟨rfl, rfl, rfl⟩, rfl, (fun e he => by simp at he), (fun k => by simp), (by decide), (by rfl), rfl⟩
/-! ### {k: v for tg in iter if ..}, the keys tuples -/
def taT (tk tv : TE) (D : Addr) (σ : L2.St) (H : Hp) (R : Hp → Prop) : Prop := tk σ H fun y H4 => tv σ H4 fun z H5 => ∃ (kvs : KTs) (k : List L2.Key) (b : Addr), y = .ref b ∧ H5 b = some (.tup (k.map kV)) ∧ H5 D = some (.dT kvs) ∧ kvs.length < sizeLine ∧ R (upd H5 D (.dT (putK kvs k z)))
def tDcT (wi : TI) (g : TG) (tt : TT) (tk tv : TE) (vs : List Nat) : TE := tAc wi g tt (taT tk tv) (fun _ => .dT []) vs
theorem pe_dcT {X : Cx} {kx vx tg iter : Expr} {ifs : List Expr} {scope : Scope} {own : List (Str × Nat)} {pos : Pos} {wi : TI} {g : TG} {tt : TT} {tk tv : TE} (hu : X.A.units + 64 < cLine) (hc : X.calm = true) (hN : X.N.Nodup) (hi : PI X tg iter wi) (ok : BlkOk X.N X.env.scope scope own)
    (hg : ∀ (s : Shared) (H : Hp) (C : Addr) (cl : List (Str × Addr)) (fp : List Addr), PG (X.blk s H scope (compEnvC scope cl C X.env) fp) tg g) (ht : ∀ (s : Shared) (H : Hp) (C : Addr) (cl : List (Str × Addr)) (fp : List Addr), PTs (X.blk s H scope (compEnvC scope cl C X.env) fp) ifs tt)
    (hk : ∀ (s : Shared) (H : Hp) (C : Addr) (cl : List (Str × Addr)) (fp : List Addr), PE (X.blk s H scope (compEnvC scope cl C X.env) fp) kx tk)
    (he : ∀ (s : Shared) (H : Hp) (C : Addr) (cl : List (Str × Addr)) (fp : List Addr), PE (X.blk s H scope (compEnvC scope cl C X.env) fp) vx tv) (hs : ∀ x, foldedSetIterable iter X.env x = pure x := by intro _; rfl) :
    PE X (.DictComp kx vx [⟨tg, iter, ifs, 0⟩] scope pos) (tDcT wi g tt tk tv (own.map (·.2))) := by
  refine ⟨fun pins s σ H Q I h => ?_⟩
  rw [arm_eval_DictComp]
  refine ac_core (act := fun D env E Qn s => wpAny (model X.prog X.w) X.A (eval kx env) (fun y s4 => wpAny (model X.prog X.w) X.A (eval vx env) (fun z s5 => wpAny (model X.prog X.w) X.A (dictSet D y z) (fun _ s6 => Qn s6) E s5) E s4) E s)
    (ob := { cls := .type "dict", data := .dict #[] }) hc hN I hi ok hg ht ?_ hs rfl ?_ (fun it D env R s hl hp => codeAny_compStart_dict hl hp) (fun s Q' E' q => wpAny_newObj_type q) (fun h H hb => dt_empty h hb) h
  · intro s0 H0 C cl fp pins s σ H D E Qn R I q hq
    refine thnF ((hk s0 H0 C cl fp).run _ s σ H _ I q) fun z s10 ⟨yk, H10, I10, r10, q10⟩ => ?_
    refine thnF ((he s0 H0 C cl fp).run _ s10 σ H10 _ I10 q10) fun z2 s11 ⟨yv, H11, I11, r11, kvs, k, b, ek, hb, hD11, hz11, nx⟩ => ?_
    subst ek
    cases (show z = Value.ref b from r10)
    exact putT_ok (X := X.blk s0 H0 scope (compEnvC scope cl C X.env) fp) (show X.A.units < cLine by omega) I11 hD11 hb hz11 r11 fun s12 I12 => hq s12 _ I12 nx
  · intro it D env R I turn n s hI
    exact compLoop_anyD I turn n hI
end Mk
/-! Own rules: len of a set of keys; items of a dict with tuple keys; dict(pairs) with tuple keys; != of two such dicts. -/
namespace Mk
open PySem PySem.Spec PyProof.Rows L2
section
variable {X : Cx}
def rLenK (P : Program) (w : World) : List V → Hp → VK → Prop := fun xs H Q => ∃ (a : Addr) (S : Key → Bool) (n : Nat), xs = [.ref a] ∧ H a = some (SetK P w a S n) ∧ Q (.int (n : Nat)) H
theorem call_lenK : CallR X (.builtin "len") (rLenK X.prog X.w) := by
  intro pins s σ H xs us Q I r h
  obtain ⟨a, S, n, rfl, ha, q⟩ := h
  obtain ⟨u, rfl, rx⟩ := vals1 r
  obtain rfl : u = .ref a := rx
  obtain ⟨o, es, ep, t, ho, hx, hd, _, _, hb, hf, hn⟩ := setK_get I ha
  refine call_len_set ho hx hd hf (by unfold scanBound at hb; omega) ?_
  rw [hn]
  exact ⟨.int (n : Nat), H, I.tok _, ⟨_, rfl⟩, q⟩
end
/-! ### items -/
def ItiT (d : Addr) (o : Obj) (kvs : KTs) : It :=
  ⟨fun i H => H d = some (.frz o (.dT kvs)) ∧ i < kvs.length, fun i H x H' => ∃ (T q : Addr) (k : List Key) (v : V), kvs[i]? = some (k, v) ∧ H q = some (.tup (k.map kV)) ∧ x = .ref T ∧ H T = none ∧ H' = upd H T (.tup [.ref q, v]), fun i H => H d = some (.frz o (.dT kvs)) ∧ kvs.length ≤ i⟩
theorem frzT_all {X : Cx} {pins : List (Addr × Obj)} {σ : L2.St} {H : Hp} {s : Shared} {d : Addr} {o : Obj} {kvs : KTs} (I : Inv X pins σ H s) (h : H d = some (.frz o (.dT kvs))) :
    (d == sysModules) = false ∧ s.heap.get? d = some o ∧ o.ExactDict ∧ ∃ (es : Array DictEntry) (ep : Nat), o.data = .dict es ep ∧ es.size = kvs.length ∧
      ∀ (i : Nat) (k : List Key) (v : V), kvs[i]? = some (k, v) → ∃ (en : DictEntry) (q : Addr), es[i]? = some en ∧ en.key = .ref q ∧ H q = some (.tup (k.map kV)) ∧ RelV v en.val := by
  obtain ⟨hd, z, hs, xs, pr, o', es, ep, ho, hx, hdt, he, _⟩ := I.hok d _ h
  rw [hd] at ho
  cases ho
  refine ⟨hs, hd, hx, es, ep, hdt, ?_, fun i k v e => ?_⟩
  · have l1 : es.size = xs.length := size_of_entries he
    have l2 : kvs.length = xs.length := Paired.length pr
    omega
  · obtain ⟨b, hb, e1, e2, e3⟩ := LiI.paired_get pr e
    have q := entry_at he i
    rw [hb] at q
    exact ⟨_, b.2.1, q, rfl, e2, e3⟩
section
variable {P : Program} {w : World} {K : PySem.W.Frag} {d : Addr} {o : Obj} {es : Array DictEntry} {ep : Nat}
theorem turn_itemsT {kvs : KTs} {elts : List Expr} {kk : Nat} {tpos : Pos} (it : Addr) (hod : o.data = .dict es ep) : Turn P w K (.Tuple elts kk tpos) (ItiT d o kvs) [it] it (fun i h => ∃ ok ov, IsItemIter h it d i kvs.length ep ok ov) where
  mem := by simp
  obj := fun i h st b hb => by
    have e : b = it := by simpa using hb
    subst e
    obtain ⟨ok, ov, e⟩ := st
    exact ⟨_, e, fun v z => nomatch z⟩
  keep := fun i h h' st k => let ⟨ok, ov, e⟩ := st; ⟨ok, ov, k it (by simp) _ e⟩
  item := by
    intro X hP hw hK hc i pins s σ H E I hf st hg
    subst hP hw hK
    obtain ⟨hd, hi⟩ := hg
    obtain ⟨hs, hgd, hx, es', ep', hdt, hsz, ent⟩ := frzT_all I hd
    obtain ⟨rfl, rfl⟩ := dict_ep hod hdt
    obtain ⟨⟨k, v⟩, hkv⟩ : ∃ p, kvs[i]? = some p := ⟨kvs[i], List.getElem?_eq_getElem hi⟩
    obtain ⟨en, q, he0, hkey, hq, rv⟩ := ent i k v hkv
    obtain ⟨ok, ov, he⟩ := st
    rw [← hsz] at he
    have hlt : it < s.heap.objs.size := Heap.lt_size he
    have hi' : i < es'.size := by omega
    have een : es'[i] = en := by
      rw [Array.getElem?_eq_getElem hi'] at he0
      exact Option.some.inj he0
    refine wpAny_pyNext_items_item_raw he ⟨o, hgd, hx, hdt⟩ hi' fun h' ho hT hz hk => ?_
    refine ⟨_, rfl, wpAny_letOwnedTupleGo_items (s := { s with heap := h' }) ho fun h'' he' sb => ?_⟩
    rw [een, hkey] at hT
    have hT2 : h''.get? s.heap.objs.size = some { cls := .type "tuple", data := .seq #[.ref q, en.val] } := (sb.2 _ (Nat.ne_of_gt hlt)).trans hT
    have new : ObjOk X.prog X.w (upd H s.heap.objs.size (.tup [.ref q, v])) h'' s.heap.objs.size (.tup [.ref q, v]) :=
      ⟨by show 2 ≤ sizeLine; decide, [.ref q, en.val], .cons rfl (.cons rv .nil), ⟨_, hT2, rfl, _, rfl⟩⟩
    have I1 : Inv X pins σ (upd H s.heap.objs.size (.tup [.ref q, v])) { s with heap := h'' } :=
      I.turnedNew (t' := s.toks) (ch := [it]) (fun b ob hb e => (sb.2 b (by simpa using hb)).trans (hk b ob (by simpa using hb) e)) hf (Nat.le_refl _) new
    refine ⟨.ref s.heap.objs.size, _, I1, rfl, ⟨_, q, k, v, hkv, hq, rfl, I.hok.fresh (Nat.le_refl _), rfl⟩, ⟨es'[i].key, es'[i].val, ?_⟩, fun b hb => ?_⟩
    · rw [← hsz]
      exact he'
    · have e : b = it := by simpa using hb
      rw [e, upd_ne (Nat.ne_of_lt hlt)]
      exact (hf it (by simp)).1
  done := by
    intro X hP hw hK hc i pins s σ H E I hf st hg
    subst hP hw hK
    obtain ⟨hd, hi⟩ := hg
    obtain ⟨f0, f1, f2, f3, f4, f5⟩ := hf it (by simp)
    obtain ⟨hs, hgd, hx, es', ep', hdt, hsz, ent⟩ := frzT_all I hd
    obtain ⟨rfl, rfl⟩ := dict_ep hod hdt
    obtain ⟨ok, ov, he⟩ := st
    rw [← hsz] at he
    exact wpAny_pyNext_items_end_raw (I.ok.hd hc) he ⟨o, hgd, hx, hdt⟩ (by omega) fun h' eb => ⟨rfl, I.turned (t' := s.toks) (fun b ob hb e => eb b ob hb e) f0 f1 f3 f4 f5⟩
  self := fun A i s Q E st h => let ⟨_, _, e⟩ := st; PySem.W.kcp_self e h
theorem walk_itemsT {kvs : KTs} : Walk (ItiT d o kvs) kvs.length (fun H => H d = some (.frz o (.dT kvs)))
    (fun i H x H' => ∃ (T q : Addr) (k : List Key) (v : V), kvs[i]? = some (k, v) ∧ H q = some (.tup (k.map kV)) ∧ x = .ref T ∧ H T = none ∧ H' = upd H T (.tup [.ref q, v])) :=
  ⟨fun _ _ hi q => ⟨q, hi⟩, fun _ q => ⟨q, Nat.le_refl _⟩, fun _ _ _ _ _ _ y => y⟩
end
def iItemsT (td : TE) : TI := fun σ H R => td σ H fun x H1 => ∃ d o kvs, x = .ref d ∧ H1 d = some (.frz o (.dT kvs)) ∧ R (ItiT d o kvs) H1
section
variable {X : Cx} {e : Expr} {td : TE} {apos cpos : Pos}
theorem pi_itemsT {elts : List Expr} {kk : Nat} {tpos : Pos} (he : PE X e td) (hbase : attributeBase e "items" X.env (eval e X.env) = eval e X.env := by rfl) (hline : (apos.endLine == cpos.line) = true := by rfl) :
    PI X (.Tuple elts kk tpos) (.Call (.Attribute e "items" apos) [] [] cpos) (iItemsT td) := by
  refine ⟨fun pins s σ H R I h => ?_⟩
  refine wpAny_Call_method (T := "dict") (id := "dict.items") hbase rfl hline F.plainAttrs_dict F.slot_dict_items F.type_dict_items (thn (he.run pins s σ H _ I h) fun u s1 ⟨x, H1, I1, rx, d, o, kvs, ex, hd, q⟩ => ?_)
  subst ex
  obtain rfl : u = Value.ref d := rx
  obtain ⟨hs, hgd, hx, es, ep, hdt, hsz, ent⟩ := frzT_all I1 hd
  have raw : s1.heap.DictRaw d es ep := ⟨o, hgd, hx, hdt⟩
  refine ⟨raw.typeIs, fun b z => (by cases z; exact ⟨o, hgd, hx.2.1⟩), ?_⟩
  have I2 : Inv X pins σ H1 { s1 with heap := s1.heap.push { cls := .type "dict_items", data := .fields #[.ref d] } } := I1.kept (t' := s1.toks) fun b ob q => Heap.get?_push_of_some _ q
  have fin : wpAny (model X.prog X.w) X.A (pyIter (.ref s1.heap.objs.size)) (PIE X pins σ (.Tuple elts kk tpos) R) X.xe { s1 with heap := s1.heap.push { cls := .type "dict_items", data := .fields #[.ref d] } } := by
    refine wpAny_pyIter_items_raw (d := d) (es := es) (ep := ep) ⟨_, Heap.get?_push_size _ rfl, rfl, rfl⟩ (raw.at fun _ z => Heap.get?_push_of_some _ z) (pi_one (tk := s1.toks) I2 _ (turn_itemsT _ hdt) ⟨.none, .none, ?_⟩ q)
    rw [← hsz]
    exact Heap.get?_push_size _ rfl
  show wpAny _ _ (callWith cpos (.builtin "dict.items") [.ref d] [] []) _ X.xe s1
  exact method_meetsIn F.slot_dict_items F.entry_dict_items rfl (PySem.evalArgs_none ⟨rfl, raw.typeIs, F.args_dict_items_1 _, _, meets_dict_items_raw d hs, ⟨⟨es, ep, raw⟩, fin⟩⟩)
end
/-! ### dict(pairs) -/
theorem kt_merge {H : Hp} : ∀ {ps : List (List Key × Addr × V)} {qs : List (List Key × Addr × Value)} {kvs : KTs} {xs : List (List Key × Addr × Value)}, Paired (fun p q => p.1 = q.1 ∧ p.2.1 = q.2.1 ∧ H q.2.1 = some (.tup (p.1.map kV)) ∧ RelV p.2.2 q.2.2) ps qs → KT H kvs xs → KT H (mergeT kvs ps) (storedAllH xs qs)
  | _, _, _, _, .nil, r => r
  | _, _, _, _, .cons (a := p) (b := q) h t, r => by
    obtain ⟨h1, h2, h3, h4⟩ := h
    have n := r.put p.1 h3 h4
    have e : KT H (mergeT (putK _ p.1 p.2.2) _) (storedAllH (storedH _ p.1 q.2.1 q.2.2) _) := kt_merge t n
    rw [h1] at e
    unfold mergeT storedAllH at e ⊢
    rw [List.foldl_cons, List.foldl_cons, h1]
    exact e
theorem length_mergeT : ∀ (ps : List (List Key × Addr × V)) (kvs : KTs), (mergeT kvs ps).length ≤ kvs.length + ps.length
  | [], kvs => Nat.le_refl _
  | p :: r, kvs => by
    have h1 := length_mergeT r (putK kvs p.1 p.2.2)
    have h2 := length_putK kvs p.1 p.2.2
    show (mergeT (putK kvs p.1 p.2.2) r).length ≤ _
    rw [List.length_cons]
    omega
section
variable {X : Cx}
theorem pairsT_of {pins : List (Addr × Obj)} {σ : L2.St} {H : Hp} {s : Shared} (I : Inv X pins σ H s) : ∀ {ps : List Addr} {ts : List (List Key × Addr × V)}, Paired (fun p t => H p = some (.tup [.ref t.2.1, t.2.2]) ∧ H t.2.1 = some (.tup (t.1.map kV))) ps ts →
    ∃ qs : List (List Key × Addr × Value), Paired (fun p q => p.1 = q.1 ∧ p.2.1 = q.2.1 ∧ H q.2.1 = some (.tup (p.1.map kV)) ∧ RelV p.2.2 q.2.2) ts qs ∧ qs.length = ps.length ∧ ∀ (j : Nat) (q : List Key × Addr × Value), qs[j]? = some q → ∃ b, ps[j]? = some b ∧ s.heap.IsTuple b #[.ref q.2.1, q.2.2]
  | _, _, .nil => ⟨[], .nil, rfl, fun j q e => by simp at e⟩
  | _, _, .cons (a := p) (b := t) h r => by
    obtain ⟨qs, pr, hl, hp⟩ := pairsT_of I r
    obtain ⟨h1, h2⟩ := h
    obtain ⟨_, its, rv, ht⟩ := (show ObjOk X.prog X.w H s.heap p (.tup [.ref t.2.1, t.2.2]) from I.hok p _ h1)
    obtain ⟨u, y, ei, ru, ry⟩ := vals2 rv
    subst ei
    cases (show u = Value.ref t.2.1 from ru)
    refine ⟨(t.1, t.2.1, y) :: qs, .cons ⟨rfl, rfl, h2, ry⟩ pr, by rw [List.length_cons, List.length_cons, hl], fun j q e => ?_⟩
    cases j with
    | zero =>
      have e' : (t.1, t.2.1, y) = q := Option.some.inj e
      subst e'
      exact ⟨p, rfl, ht⟩
    | succ j =>
      obtain ⟨b, e1, e2⟩ := hp j q (by simpa using e)
      exact ⟨b, by simpa using e1, e2⟩
def rDictT : List V → Hp → VK → Prop := fun xs H Q => ∃ (a : Addr) (ps : List Addr) (ts : List (List Key × Addr × V)), xs = [.ref a] ∧ H a = some (.lst (ps.map V.ref)) ∧ Paired (fun p t => H p = some (.tup [.ref t.2.1, t.2.2]) ∧ H t.2.1 = some (.tup (t.1.map kV))) ps ts ∧
  ∀ p, H p = none → Q (.ref p) (upd H p (.dT (mergeT [] ts)))
theorem call_dictT (hcalm : X.calm = true) (hu : X.A.units + 64 < cLine) : CallR X (.type "dict") rDictT := by
  intro pins s σ H xs us Q I r q
  obtain ⟨a, ps, ts, rfl, hq, hp, q⟩ := q
  obtain ⟨u, rfl, rx⟩ := vals1 r
  cases rx
  obtain ⟨hz, its, n, rv, ho⟩ := (show ObjOk X.prog X.w H s.heap a (.lst (ps.map V.ref)) from I.hok a _ hq)
  have ei := refs_at rv
  subst ei
  rw [List.length_map] at hz
  obtain ⟨qs, rel, hl, hpr⟩ := pairsT_of I hp
  have hln : (qs.map fun q => (Value.ref q.2.1, q.2.2)).length = qs.length := List.length_map _
  have P := PairArg.list (prog := X.prog) (w := X.w) a (ps.map Value.ref).toArray (fun j => ps.getD j 0) (qs.map fun q => (Value.ref q.2.1, q.2.2))
  have pq : ∀ j key v, PairRel (qs.map fun q => (Value.ref q.2.1, q.2.2)) j key v → ∃ q, qs[j]? = some q ∧ key = .ref q.2.1 ∧ v = q.2.2 := by
    intro j key v e
    have e' : (qs.map fun q => (Value.ref q.2.1, q.2.2))[j]? = some (key, v) := e
    rw [List.getElem?_map] at e'
    cases hj : qs[j]? with
    | none => rw [hj] at e'; cases e'
    | some q =>
      rw [hj] at e'
      have e2 := Option.some.inj e'
      injection e2 with e3 e4
      exact ⟨q, rfl, e3.symm, e4.symm⟩
  refine call_dict_pairsH (knd := tupleKind (mixKind X.prog X.w)) (ps := qs) P (I.ok.hd hcalm) (show X.A.in1.in1.units < cLine from ?_) ⟨⟨_, n, ho, rfl, rfl, rfl⟩, by simp [hl], fun j k v e => ?_⟩ ⟨hln.symm, fun i key v e => ?_⟩ (fun h' hk x hx => ?_) ?_ fun h' tk hd' hk => ?_
  · show X.A.units + 1 + 1 < cLine
    omega
  · obtain ⟨q, hj, rfl, rfl⟩ := pq j k v e
    obtain ⟨b, e1, e2⟩ := hpr j q hj
    refine ⟨by simp [e1, List.getD], .inl ?_⟩
    have e3 : ps.getD j 0 = b := by simp [List.getD, e1]
    show s.heap.IsTuple (ps.getD j 0) _
    rw [e3]
    exact e2
  · obtain ⟨q, hj, rfl, rfl⟩ := pq i key v e
    exact ⟨q.1, q.2.1, hj, rfl⟩
  · have key : ∀ {ts : List (List Key × Addr × V)} {qs : List (List Key × Addr × Value)}, Paired (fun p q => p.1 = q.1 ∧ p.2.1 = q.2.1 ∧ H q.2.1 = some (.tup (p.1.map kV)) ∧ RelV p.2.2 q.2.2) ts qs → ∀ x ∈ qs, H x.2.1 = some (.tup (x.1.map kV)) := by
      intro ts qs r
      induction r with
      | nil => intro x hx; cases hx
      | @cons p q ps qs h t ih =>
        intro x hx
        rcases List.mem_cons.mp hx with e | hx
        · rw [e, ← h.1]
          exact h.2.2.1
        · exact ih x hx
    have e1 := key rel x hx
    obtain ⟨o, items, m, h1, h2, h3, h4⟩ := (show IsTupleKey (mixKind X.prog X.w) s.heap x.1 x.2.1 from key_of I.hok e1)
    exact ⟨o, items, m, hk _ _ (Nat.ne_of_lt (Heap.lt_size h1)) (fun z => nomatch z) h1, h2, h3, h4⟩
  · rw [hln, hl]
    exact hz
  · have hn := I.hok.fresh (Nat.le_refl s.heap.objs.size)
    have hm : (s.heap.objs.size == sysModules) = false := beq_eq_false_iff_ne.mpr (Nat.ne_of_gt I.big)
    have kk : ∀ b o, s.heap.get? b = some o → h'.get? b = some o := fun b o e => hk b o (fun z => nomatch z) e
    have hlen : (mergeT [] ts).length ≤ sizeLine := by
      refine Nat.le_trans (length_mergeT ts []) ?_
      rw [List.length_nil, Nat.zero_add, Paired.length rel, hl]
      exact hz
    have kt : KT H (mergeT [] ts) (storedAllH [] qs) := kt_merge rel .nil
    obtain ⟨o, es, ep, h1, h2, h3, h4, _, h6⟩ := hd'
    have new : ObjOk X.prog X.w (upd H s.heap.objs.size (.dT (mergeT [] ts))) h' s.heap.objs.size (.dT (mergeT [] ts)) :=
      ⟨hlen, hm, _, kt.keeps fun b ys e => (by rw [upd_ne (ne_of_none e hn)]; exact e), o, es, ep, h1, h2, h3, h4, h6⟩
    exact ⟨.ref s.heap.objs.size, _, I.laid (t' := tk) kk (Nat.le_refl _) new, rfl, q _ hn⟩
end
end Mk
/-! Own rules: != of two dicts with tuple keys that agree; list(d.values()); the draws, seen as a list of some ints. -/
namespace Mk
open PySem PySem.Spec PyProof.Rows L2
section
variable {prog : Program} {w : World} {A : Around} {E : Value → Shared → Prop} {s : Shared}
theorem sameT {nm : String} {a b : Addr} {xs ys : List (List Key × Addr × Value)} {Q : Bool → Shared → Prop} (hu : A.units < cLine) (ha : (a == sysModules) = false) (hb : (b == sysModules) = false) (da : s.heap.DictOfH (tupleKind (mixKind prog w)) a xs) (db : s.heap.DictOfH (tupleKind (mixKind prog w)) b ys)
    (hl : xs.length = ys.length) (hits : ∀ x ∈ xs, ∃ y ∈ ys, y.1 = x.1 ∧ SeqAt.EqAt A s x.2.2 y.2.2 true) (h : Q true s) : wpAny (model prog w) A (Builtin.Dict.samePairs nm a b) Q E s := by
  obtain ⟨oa, es, ep, hoa, _, hda, hka, hia, _⟩ := da
  obtain ⟨ob, es', ep', hob, _, hdb, hkb, hib, hnb⟩ := db
  have hla : es.size = xs.length := size_of_entries hka
  have hlb : es'.size = ys.length := size_of_entries hkb
  unfold Builtin.Dict.samePairs Builtin.Dict.showsAll
  rw [if_neg (show ¬ (a == sysModules) = true by rw [ha]; exact Bool.false_ne_true), if_neg (show ¬ (b == sysModules) = true by rw [hb]; exact Bool.false_ne_true)]
  refine wpAny_bind (wpAny_pure (wpAny_bind (wpAny_pure ?_)))
  refine wpAny_bind (wpAny_dictEntries hoa hda ?_)
  dsimp only
  refine wpAny_bind (wpAny_dictEntries hob hdb ?_)
  rw [if_neg (by rw [hla, hlb, hl]; simp)]
  refine wpAny_bind (wpAny_dictEpoch hoa hda ?_)
  refine wpAny_bind ?_
  rw [Std.Legacy.Range.forIn_eq_forIn_range']
  simp only [Std.Legacy.Range.size, Nat.sub_zero, Nat.add_sub_cancel, Nat.div_one]
  refine wpAny_forIn_list _ (fun rest q s' => s' = s ∧ q = (none, ()) ∧ ∃ i, rest = List.range' i (es.size - i) ∧ i ≤ es.size) _ ?_ ?_ _ _ ⟨rfl, rfl, 0, by simp, Nat.zero_le _⟩
  · rintro x rest q s' ⟨rfl, rfl, i, hr, hi⟩
    have hlt : i < es.size := by
      rcases Nat.lt_or_ge i es.size with h | h
      · exact h
      · rw [Nat.sub_eq_zero_of_le h] at hr
        simp at hr
    obtain ⟨rfl, hrest⟩ : x = i ∧ rest = List.range' (i + 1) (es.size - (i + 1)) := by
      have e : es.size - i = (es.size - (i + 1)) + 1 := by omega
      rw [e, List.range'_succ] at hr
      injection hr with h1 h2
      exact ⟨h1, h2⟩
    refine wpAny_bind (wpAny_dictEntries hoa hda ?_)
    rw [Array.getElem?_eq_getElem hlt]
    have hlt' : x < xs.length := by omega
    have een : es[x] = entryOfKey (tupleKind (mixKind prog w)) xs[x] := by
      have q := entry_at hka x
      rw [Array.getElem?_eq_getElem hlt, List.getElem?_eq_getElem hlt'] at q
      exact Option.some.inj q
    obtain ⟨y, hy, hk, he⟩ := hits xs[x] (List.getElem_mem hlt')
    obtain ⟨j, hj⟩ := List.mem_iff_getElem?.mp hy
    have hjl : j < es'.size := by rw [hlb]; exact (List.getElem?_eq_some_iff.mp hj).1
    have een' : es'[j] = entryOfKey (tupleKind (mixKind prog w)) y := by
      have q := entry_at hkb j
      rw [Array.getElem?_eq_getElem hjl, hj] at q
      exact Option.some.inj q
    show wpAny _ _ (holding [es[x].key, es[x].val] _ >>= _) _ _ _
    rw [een]
    show wpAny _ _ (holding [Value.ref xs[x].2.1, xs[x].2.2] (dictFind b (.ref xs[x].2.1) ((tupleKind (mixKind prog w)).hash xs[x].1) >>= _) >>= _) _ _ _
    refine wpAny_bind (wpAny_holding (wpAny_bind (wpAny_dictFind_heap (k := xs[x].1) hu (hia _ (List.getElem_mem hlt')) hob hdb hkb hib hnb (fun hno => ?_) fun j' p hj' => ?_)))
    · exact absurd (by rw [← hk]; exact hj) (hno j y.2)
    · have hp : p = y.2 := by
        have e1 := atKey_of_get hnb hj'
        have e2 := atKey_of_get (k := y.1) (p := y.2) hnb (by rw [hj])
        rw [hk] at e2
        rw [e1] at e2
        exact Option.some.inj e2
      have hjl' : j' < es'.size := by rw [hlb]; exact (List.getElem?_eq_some_iff.mp hj').1
      have ee' : es'[j'] = entryOfKey (tupleKind (mixKind prog w)) (xs[x].1, p) := by
        have q := entry_at hkb j'
        rw [Array.getElem?_eq_getElem hjl', hj'] at q
        exact Option.some.inj q
      refine wpAny_bind (wpAny_dictEntries hob hdb ?_)
      rw [Array.getElem?_eq_getElem hjl', ee', hp]
      refine wpAny_holding (he prog w _ _ ?_)
      show wpAny _ _ (if (!true) = true then _ else _) _ _ _
      rw [if_neg (by decide)]
      refine wpAny_bind (wpAny_dictEpoch hoa hda ?_)
      rw [if_neg (by simp)]
      exact wpAny_pure ⟨rfl, rfl, x + 1, hrest, hlt⟩
  · rintro q s' ⟨rfl, rfl, i, hr, hi⟩
    exact wpAny_pure h
end
/-- two dicts of the same pairs, the values ints -/
def rNeT : R2 := fun x y H Q => ∃ (a b : Addr) (ks : List (List Key × Int)), x = .ref a ∧ y = .ref b ∧ H a = some (.dT (ks.map fun p => (p.1, V.int p.2))) ∧ H b = some (.dT (ks.map fun p => (p.1, V.int p.2))) ∧ Q (.bl false) H
theorem kt_same {A : Around} {s : Shared} {H : Hp} : ∀ {ks : List (List Key × Int)} {xs ys : List (List Key × Addr × Value)}, KT H (ks.map fun p => (p.1, V.int p.2)) xs → KT H (ks.map fun p => (p.1, V.int p.2)) ys → ∀ x ∈ xs, ∃ y ∈ ys, y.1 = x.1 ∧ SeqAt.EqAt A s x.2.2 y.2.2 true
  | [], xs, ys, r, r' => by
    rw [List.map_nil] at r r'
    cases r
    intro x hx
    cases hx
  | p :: ks, xs, ys, r, r' => by
    rw [List.map_cons] at r r'
    cases r with
    | @cons a b as bs h t =>
      cases r' with
      | @cons a' b' as' bs' h' t' =>
        intro x hx
        rcases List.mem_cons.mp hx with e | hx
        · subst e
          refine ⟨b', List.mem_cons_self, h'.1.symm.trans h.1, ?_⟩
          obtain ⟨t1, e1⟩ := (show ∃ t, x.2.2 = Value.int p.2 t from h.2.2)
          obtain ⟨t2, e2⟩ := (show ∃ t, b'.2.2 = Value.int p.2 t from h'.2.2)
          rw [e1, e2]
          have q := PySem.W.keq_flat (A := A) (s := s) (PyProof.V.Flat.int p.2 t1) (PyProof.V.Flat.int p.2 t2)
          have z : PyData.eqv (.int p.2) (.int p.2) = true := by simp [PyData.eqv]
          rw [z] at q
          exact q
        · obtain ⟨y, hy, e1, e2⟩ := kt_same t t' x hx
          exact ⟨y, List.mem_cons_of_mem _ hy, e1, e2⟩
theorem op_neT {X : Cx} (hu : X.A.units + 64 < cLine) : OpR X (compareOp .NotEq) rNeT := by
  intro pins s σ H x y v u Q I rx ry h
  obtain ⟨a, b, ks, rfl, rfl, ea, eb, q⟩ := h
  obtain rfl : v = Value.ref a := rx
  obtain rfl : u = Value.ref b := ry
  obtain ⟨_, ya, xs, ra, da⟩ := dt_of I.hok ea
  obtain ⟨_, yb, ys, rb, db⟩ := dt_of I.hok eb
  have hl : xs.length = ys.length := (Paired.length ra).symm.trans (Paired.length rb)
  refine wpAny_richCompare_same_room (op := .NotEq) da.typeIs db.typeIs PySem.F.slot_dict_ne (wpAny_call_entry PySem.F.slot_dict_ne da.typeIs PySem.F.entry_dict_ne ?_ (PySem.F.args_dict_ne_2 _ _)) (by omega)
  show wpAny _ _ (Builtin.Dict.dictSlotArgs "__ne__" ⟨[.ref a, .ref b], []⟩ >>= _) _ _ s
  refine wpAny_bind ?_
  unfold Builtin.Dict.dictSlotArgs
  refine wpAny_bind (wpAny_notOrdered_dict da.typeIs ?_)
  show wpAny _ _ (pure (Value.ref a, Value.ref b)) _ _ s
  refine wpAny_pure ?_
  refine wpAny_bind (wpAny_isInstance (T := "dict") db.typeIs PySem.F.sub_dict_dict ?_)
  simp only [Bool.not_true, Bool.false_eq_true, if_false]
  refine wpAny_bind (wpAny_pure (wpAny_bind (wpAny_pure ?_)))
  refine wpAny_bind (sameT (show X.A.units + 1 < cLine by omega) ya yb da db hl (kt_same ra rb) ?_)
  refine wpAny_pure ⟨_, rfl, (fun x => nomatch x), ?_⟩
  exact ⟨.bl false, H, I, rfl, q⟩
/-! ### list(d.values()) -/
def tListVals (te : TE) : TE := fun σ H Q => te σ H fun x H1 => ∃ (d : Addr) (kvs : List (Key × V)), x = .ref d ∧ H1 d = some (.dK kvs) ∧ ∀ p, H1 p = none → Q (.ref p) (upd H1 p (.lst (kvs.map (·.2))))
theorem pe_listValues {X : Cx} {e : Expr} {te : TE} {p apos cpos pos : Pos} (hc : X.calm = true) (he : PE X e te) (hg : Gl X "list") (hm : X.mg "list" = none) (hv : bootBuiltins "list" = some (.type "list")) (hbase : attributeBase e "values" X.env (eval e X.env) = eval e X.env := by rfl) (hline : (apos.endLine == cpos.line) = true := by rfl)
    (hs : starEach [.Call (.Attribute e "values" apos) [] [] cpos] X.env = (false, eval (.Call (.Attribute e "values" apos) [] [] cpos) X.env) :: starEach [] X.env := by rfl) :
    PE X (.Call (.Name "list" p) [.Call (.Attribute e "values" apos) [] [] cpos] [] pos) (tListVals te) := by
  refine ⟨fun pins s σ H Q I hq => ?_⟩
  refine wpAny_Call_Name_kw (ld_blt I hg hm hv ?_)
  refine PyProof.Rows.callWith_type1 ?_ hs rfl
  rw [hs]
  show wpAny _ _ (spliced ((false, eval (.Call (.Attribute e "values" apos) [] [] cpos) X.env) :: backTo pos (starEach [] X.env))) _ _ s
  refine Calls.spliced_cons ?_
  refine wpAny_Call_method (T := "dict") (id := "dict.values") hbase rfl hline F.plainAttrs_dict F.slot_dict_values F.type_dict_values (thn (he.run pins s σ H _ I hq) fun u s1 ⟨x, H1, I1, rx, d, kvs, ex, hd, q⟩ => ?_)
  subst ex
  obtain rfl : u = Value.ref d := rx
  obtain ⟨hz, hs0, vs, kv, hdo⟩ := I1.hok d _ hd
  obtain ⟨ep, hat⟩ := hdo.dictAt
  have lk : kvs.length = vs.length := Paired.length kv
  have I2 : Inv X pins σ H1 { s1 with heap := s1.heap.push { cls := .type "dict_values", data := .fields #[.ref d] } } := I1.kept (t' := s1.toks) fun b ob q => Heap.get?_push_of_some _ q
  refine ⟨hdo.typeIs, hdo.mapOf.noDict, ?_⟩
  show wpAny _ _ (callWith cpos (.builtin "dict.values") [.ref d] [] []) _ X.xe s1
  refine method_meetsIn F.slot_dict_values F.entry_dict_values rfl (PySem.evalArgs_none ⟨rfl, hdo.typeIs, F.args_dict_values_1 _, _, meets_dict_values (mixKind X.prog X.w) d hs0, ⟨vs, hdo⟩, ?_⟩)
  refine Calls.spliced_nil ?_
  refine PySem.W.kdl_call (PySem.W.kdl_values (knd := mixKind X.prog X.w) (kvs := vs) (ep := ep)) (I1.ok.hd hc) ⟨⟨_, Heap.get?_push_size _ rfl, rfl, rfl⟩, hat.push _⟩ (by omega) fun h' tk acc c hk hS hacc => ?_
  have hn := I2.hok.fresh (Nat.le_refl _)
  refine ⟨.ref _, _, I2.laid (t' := tk) (o := .lst (kvs.map (·.2))) hk (Nat.le_refl _) ?_, rfl, q _ hn⟩
  refine ⟨by rw [List.length_map]; omega, acc.toList, c, vals_of_at (show (kvs.map (·.2)).length = acc.toList.length by rw [List.length_map, Array.length_toList (xs := acc), hacc.1, lk]) fun j x u h1 h2 => ?_, by rw [Array.toArray_toList]; exact hS⟩
  obtain ⟨k, hkv⟩ := hacc.2 j u (by rw [← Array.getElem?_toList]; exact h2)
  rw [List.getElem?_map] at h1
  cases hj : kvs[j]? with
  | none =>
    rw [hj] at h1
    cases h1
  | some y =>
    rw [hj] at h1
    obtain ⟨z, g1, g2⟩ := LiI.paired_get kv hj
    have e := g1.symm.trans hkv
    cases e
    cases h1
    exact g2.2
/-! ### the draws: a list of some ints -/
def IntsAt (a : Addr) (h : Heap) : Prop := ∃ (xs : List Int) (its : List Value) (n : Nat), xs.length ≤ sizeLine ∧ Vals (xs.map V.int) its ∧ h.get? a = some { cls := .type "list", data := .seq its.toArray n }
def DrawsO (a : Addr) : HO := .ext (IntsAt a)
section
variable {X : Cx} {pins : List (Addr × Obj)} {σ : L2.St} {H : Hp} {s : Shared} {d : Addr}
theorem draws_open (I : Inv X pins σ H s) (h : H d = some (DrawsO d)) : ∃ xs : List Int, Inv X pins σ (upd H d (.lst (xs.map V.int))) s := by
  obtain ⟨⟨xs, its, n, hz, rv, ho⟩, _⟩ := I.hok d _ h
  refine ⟨xs, I.write (x := d) (e := d) (t' := s.toks) (h' := s.heap) (by rw [h]; trivial) (.inl rfl) (fun b v _ q => q) ⟨_, ho⟩ ?_⟩
  exact ⟨by rw [List.length_map]; exact hz, its, n, rv, ho⟩
theorem draws_close {xs : List Int} (I : Inv X pins σ H s) (h : H d = some (.lst (xs.map V.int))) : Inv X pins σ (upd H d (DrawsO d)) s := by
  obtain ⟨hz, its, n, rv, ho⟩ := (show ObjOk X.prog X.w H s.heap d (.lst (xs.map V.int)) from I.hok d _ h)
  refine I.write (x := d) (e := d) (t' := s.toks) (h' := s.heap) (by rw [h]; trivial) (.inl rfl) (fun b v _ q => q) ⟨_, ho⟩ ?_
  refine ⟨⟨xs, its, n, by rw [List.length_map] at hz; exact hz, rv, ho⟩, ⟨_, ho⟩, fun h1 h2 p k => ?_⟩
  obtain ⟨xs, its, n, a, b, c⟩ := p
  exact ⟨xs, its, n, a, b, k _ c⟩
end
/-- the expression runs on the draws as a list of ints; behind it they are some ints again -/
def tOpen (t : TE) : TE := fun σ H Q => ∃ d, H d = some (DrawsO d) ∧ ∀ xs : List Int, t σ (upd H d (.lst (xs.map V.int))) fun v H' => (∃ ys : List Int, H' d = some (.lst (ys.map V.int))) ∧ Q v (upd H' d (DrawsO d))
theorem pe_open {X : Cx} {e : Expr} {t : TE} (h : PE X e t) : PE X e (tOpen t) := by
  refine ⟨fun pins s σ H Q I hw => ?_⟩
  obtain ⟨d, hd, hw⟩ := hw
  obtain ⟨xs, I1⟩ := draws_open I hd
  refine thn (h.run pins s σ _ _ I1 (hw xs)) fun v s1 ⟨x, H1, I2, r, ⟨ys, e2⟩, q⟩ => ?_
  exact ⟨x, _, draws_close I2 e2, r, q⟩
/-- a list of ints goes on as the draws -/
def tClose (t : TE) : TE := fun σ H Q => t σ H fun v H' => ∃ (d : Addr) (ys : List Int), v = .ref d ∧ H' d = some (.lst (ys.map V.int)) ∧ Q v (upd H' d (DrawsO d))
theorem pe_close {X : Cx} {e : Expr} {t : TE} (h : PE X e t) : PE X e (tClose t) := by
  refine ⟨fun pins s σ H Q I hw => ?_⟩
  refine thn (h.run pins s σ _ _ I hw) fun v s1 ⟨x, H1, I2, r, d, ys, ex, e2, q⟩ => ?_
  exact ⟨x, _, draws_close I2 e2, r, q⟩
end Mk
/-! Own rules: set(list of texts), and sorted of it. -/
namespace Mk
open PySem PySem.Spec PyProof.Rows L2
/-- at a stands a set of texts: each is one of l, each of l is there; it can be walked -/
def TxS (w : World) (h : Heap) (a : Addr) (l : List Str) : Prop := ∃ o es ep t, h.get? a = some o ∧ o.ExactSet ∧ o.data = .set es ep t ∧ (∀ e ∈ es.toList, ∃ z tk, z ∈ l ∧ e = (hashStr w z, Value.str z tk)) ∧ (∀ z ∈ l, ∃ e ∈ es.toList, ∃ tk, e.2 = Value.str z tk) ∧
  es.size ≤ l.length ∧ es.size < scanBound ∧ t.fits es.size = true ∧ Ris t.place.toList ∧ (w.params.followText "set-order" = true ∨ t.led = true)
section
variable {P : Program} {w : World} {A : Around} {E : Value → Shared → Prop} {s : Shared} {a : Addr} {l : List Str}
theorem TxS.at {h h' : Heap} (R : TxS w h a l) (k : ∀ o, h.get? a = some o → h'.get? a = some o) : TxS w h' a l := by
  obtain ⟨o, es, ep, t, ho, r⟩ := R
  exact ⟨o, es, ep, t, k o ho, r⟩
theorem txs_elems {es : List (Int × Value)} (g : ∀ e ∈ es, ∃ z tk, z ∈ l ∧ e = (hashStr w z, Value.str z tk)) : ElemsOf (strKind P w) es := fun e he => by
  obtain ⟨z, tk, _, rfl⟩ := g e he
  exact ⟨⟨z, strKind_is _ _ _ _, rfl⟩, rfl⟩
theorem txs_tail {g : Bool → Sem Unit} (hg : ∀ (b : Bool) (s1 : Shared) (Q' : Unit → Shared → Prop), Q' () s1 → wpAny (model P w) A (g b) Q' E s1) {o : Obj} {es : Array (Int × Value)} {ep : Nat} {t : SetTable} (ho : s.heap.get? a = some o) (hex : o.ExactSet) (hd : o.data = .set es ep t)
    {es1 : Array (Int × Value)} {t2 : SetTable} (g1 : ∀ e ∈ es1.toList, ∃ z tk, z ∈ l ∧ e = (hashStr w z, Value.str z tk)) (m1 : ∀ z ∈ l, ∃ e ∈ es1.toList, ∃ tk, e.2 = Value.str z tk) (n1 : es1.size ≤ l.length) (hb1 : es1.size < scanBound) (hf2 : t2.fits es1.size = true) (hr : Ris t2.place.toList)
    (hl : w.params.followText "set-order" = true ∨ t2.led = true) {wasDummy : Bool} {R : Option Bool → Shared → Prop} (hR : ∀ h', Heap.SameBut a s.heap h' → TxS w h' a l → R (some true) { s with heap := h' }) :
    wpAny (model P w) A (do
        storeSet a es1 t2
        if (!wasDummy && t2.tooFull) = true then do
            g (relayAll t2 es1 (SetTable.grown es1.size)).2.2
            storeSet a (relayAll t2 es1 (SetTable.grown es1.size)).1 (relayAll t2 es1 (SetTable.grown es1.size)).2.1
            pure (some true)
          else pure (some true)) R E s := by
  refine wpAny_bind (wpAny_storeSet_of ho hd ?_ (fits_of_scanBound hb1))
  have ho1 := store_at (es' := es1) (t' := t2) ho hd
  have sb1 := Heap.SameBut.update s.heap a (Obj.putSet es1 t2)
  split
  · have pm := relayAll_perm t2 es1 (SetTable.grown es1.size)
    have hf3 := relayAll_fits t2 es1 (SetTable.grown es1.size)
    have hr3 := relayAll_ris t2 es1 (SetTable.grown es1.size)
    have hl3 := relayAll_led t2 es1 (SetTable.grown es1.size)
    generalize relayAll t2 es1 (SetTable.grown es1.size) = Z at pm hf3 hr3 hl3 ⊢
    obtain ⟨es2, t3, gave⟩ := Z
    dsimp only at pm hf3 hr3 hl3 ⊢
    have hsz : es2.size = es1.size := by rw [← Array.length_toList, pm.length_eq, Array.length_toList]
    refine wpAny_bind (hg _ _ _ ?_)
    refine wpAny_bind (wpAny_storeSet_of ho1 rfl ?_ (fits_of_scanBound (by rw [hsz]; exact hb1)))
    have ho2 := store_at (es' := es2) (t' := t3) ho1 rfl
    refine wpAny_pure (hR _ (sb1.trans (Heap.SameBut.update _ a _)) ⟨_, es2, _, t3, ho2, hex, rfl, fun e he => g1 e (pm.mem_iff.mp he), fun z hz => ?_, by rw [hsz]; exact n1, by rw [hsz]; exact hb1, hf3, hr3, hl.imp id fun z => by rw [hl3]; exact z⟩)
    obtain ⟨e, he, q⟩ := m1 z hz
    exact ⟨e, pm.mem_iff.mpr he, q⟩
  · exact wpAny_pure (hR _ sb1 ⟨_, es1, _, t2, ho1, hex, rfl, g1, m1, n1, hb1, hf2, hr, hl⟩)
theorem txs_add {z : Str} {tk : Tok} {Q : Bool → Shared → Prop} (R : TxS w s.heap a l) (room : l.length + 1 < scanBound) (hQ : ∀ h' b, Heap.SameBut a s.heap h' → TxS w h' a (l ++ [z]) → Q b { s with heap := h' }) :
    wpAny (model P w) A (setAddHashed a (.str z tk) ((strKind P w).hash z)) Q E s := by
  obtain ⟨o, es, ep, t, ho, hex, hd, g, hm, hn, hb, hf, hr, hl⟩ := R
  have hkey : (strKind P w).is z (.str z tk) = true := strKind_is P w z tk
  have hsc : (Value.str z tk).scannable = true := rfl
  have hel : ElemsOf (strKind P w) es.toList := txs_elems g
  unfold setAddHashed setAddHashedIn
  refine wpAny_holding (wpAny_bind (wpAny_setState_of ho hd hf ?_))
  dsimp only
  rw [byScan_of hsc hb hel]
  simp only [↓reduceIte]
  unfold setAddByScan
  refine wpAny_bind ?_
  refine wpAny_bind (wpAny_rule ?_)
  refine wpAny_bind (wpAny_setScan_of hkey ho hd hf hel ?_)
  cases hfi : List.findIdx? (fun e => (strKind P w).is z e.2) es.toList with
  | some j =>
    dsimp only
    obtain ⟨hj, pj, _⟩ := List.findIdx?_eq_some_iff_getElem.mp hfi
    refine wpAny_pure (wpAny_pure ?_)
    refine hQ s.heap _ (Heap.SameBut.refl a s.heap) ⟨o, es, ep, t, ho, hex, hd, fun e he => ?_, fun y hy => ?_, by rw [List.length_append]; exact Nat.le_trans hn (Nat.le_add_right _ _), hb, hf, hr, hl⟩
    · obtain ⟨y, t1, h1, h2⟩ := g e he
      exact ⟨y, t1, List.mem_append_left _ h1, h2⟩
    · rcases List.mem_append.mp hy with hy | hy
      · exact hm y hy
      · rw [List.mem_singleton.mp hy]
        obtain ⟨y', t1, h1, h2⟩ := g _ (List.getElem_mem hj)
        rw [h2] at pj
        have e : y' = z := by
          have q : Value.isStrOf z (.str y' t1) = true := pj
          simp [Value.isStrOf] at q
          exact q
        exact ⟨_, List.getElem_mem hj, t1, by rw [h2, e]⟩
  | none =>
    dsimp only
    have hgw : ∀ (b : Bool) {s1 : Shared} {Q' : Unit → Shared → Prop}, Q' () s1 → wpAny (model P w) A (match b with | true => rule "set.scan.the-table-gave-way" | false => pure ()) Q' E s1 :=
      fun b s1 Q' q => by cases b <;> first | exact wpAny_pure q | exact wpAny_rule q
    have pm := layNew_perm t es ((strKind P w).hash z) (.str z tk)
    have hf1 := layNew_fits t es ((strKind P w).hash z) (.str z tk)
    have hr1 := layNew_ris t es ((strKind P w).hash z) (.str z tk) hr
    have hl1 := layNew_led t es ((strKind P w).hash z) (.str z tk)
    generalize layNew t es ((strKind P w).hash z) (.str z tk) = Z at pm hf1 hr1 hl1 ⊢
    obtain ⟨es1, t1, wasDummy, gave⟩ := Z
    dsimp only at pm hf1 hr1 hl1 ⊢
    rw [Array.toList_push] at pm
    have pc : es1.toList.Perm (((strKind P w).hash z, Value.str z tk) :: es.toList) := pm.trans (List.perm_append_singleton _ _)
    have g1 : ∀ e ∈ es1.toList, ∃ y t1, y ∈ l ++ [z] ∧ e = (hashStr w y, Value.str y t1) := fun e he => by
      rcases List.mem_cons.mp (pc.mem_iff.mp he) with q | q
      · exact ⟨z, tk, List.mem_append_right _ (List.mem_singleton.mpr rfl), q⟩
      · obtain ⟨y, t2, h1, h2⟩ := g e q
        exact ⟨y, t2, List.mem_append_left _ h1, h2⟩
    have m1 : ∀ y ∈ l ++ [z], ∃ e ∈ es1.toList, ∃ t1, e.2 = Value.str y t1 := fun y hy => by
      rcases List.mem_append.mp hy with hy | hy
      · obtain ⟨e, he, q⟩ := hm y hy
        exact ⟨e, pc.mem_iff.mpr (List.mem_cons_of_mem _ he), q⟩
      · rw [List.mem_singleton.mp hy]
        exact ⟨_, pc.mem_iff.mpr List.mem_cons_self, tk, rfl⟩
    have hsz : es1.size = es.size + 1 := by rw [← Array.length_toList, pc.length_eq, List.length_cons, Array.length_toList]
    have n1 : es1.size ≤ (l ++ [z]).length := by rw [hsz, List.length_append]; exact Nat.add_le_add_right hn 1
    have hb1 : es1.size < scanBound := by rw [hsz]; omega
    have hled : w.params.followText "set-order" = true ∨ t1.led = true := hl.imp id fun z => by rw [hl1]; exact z
    refine wpAny_bind (hgw _ ?_)
    split
    · refine wpAny_bind ?_
      rw [hashByValue_scannable 8 hsc]
      refine wpAny_pure ?_
      refine txs_tail ?_ ho hex hd g1 m1 n1 hb1 ?_ ?_ ?_ ?_
      · intro b s1 Q' q; cases b <;> first | exact wpAny_pure q | exact wpAny_rule q
      · first | (split <;> first | exact hf1 | exact SetTable.fits_plain_off hf1) | exact hf1
      · first | (split <;> exact hr1) | exact hr1
      · first | (split <;> exact hled) | exact hled
      · intro h' sb r; dsimp only; exact wpAny_pure (hQ h' _ sb r)
    · refine wpAny_bind (wpAny_pure ?_)
      simp only [↓reduceIte]
      refine txs_tail ?_ ho hex hd g1 m1 n1 hb1 hf1 hr1 hled ?_
      · intro b s1 Q' q; cases b <;> first | exact wpAny_pure q | exact wpAny_rule q
      · intro h' sb r; dsimp only; exact wpAny_pure (hQ h' _ sb r)
theorem txs_loop {I : Addr} {fp wr : List Addr} {G : Array GenState → Array GenState → Prop} {n : Nat} {Pv : Nat → Value → Prop} {St : Nat → Shared → Prop} {R : Result → Shared → Prop} (W : WalksS P w A.in1 I fp wr G n Pv St) (S : Addr) (hSf : S ∉ fp) (ns : List Str) (hn : n = ns.length)
    (hb : ns.length + 1 < scanBound) (hval : ∀ i v, Pv i v → ∃ k t, ns[i]? = some k ∧ v = .str k t) :
    ∀ (k i : Nat) (s : Shared), n - i = k → i ≤ n → St i s → TxS w s.heap S (ns.take i) → (∀ s', Moved (S :: wr) G s s' → TxS w s'.heap S ns → R (.ok (.ret .none)) s') → codeAny (model P w) A (.builtin "set.update.loop" ⟨[.ref S, .ref I], []⟩) R s := by
  have hSw : S ∉ wr := fun h => hSf (W.sub _ h)
  have hsub : ∀ b ∈ wr, b ∈ S :: wr := fun b hb => List.mem_cons_of_mem _ hb
  intro k
  induction k with
  | zero =>
    intro i s hk' hi hst hS hR
    have hin : i = n := by omega
    subst hin
    refine codeAny_builtin F.entry_set_update_loop ?_
    rw [Around.under_plainId F.plain_set_update_loop _]
    show wpAny _ A.in1 (pyNext (.ref I) >>= _) _ _ s
    refine wpAny_bind (W.done s _ _ hst fun s' hm => ?_)
    show wpAny _ A.in1 (ret Value.none) _ _ s'
    have e : ns.take i = ns := List.take_of_length_le (by omega)
    rw [e] at hS
    exact wpAny_pure (hR s' (hm.mono hsub) (hS.at fun o e => hm.heap S o hSw e))
  | succ k ih =>
    intro i s hk' hi hst hS hR
    have hlt : i < n := by omega
    refine codeAny_builtin F.entry_set_update_loop ?_
    rw [Around.under_plainId F.plain_set_update_loop _]
    show wpAny _ A.in1 (pyNext (.ref I) >>= _) _ _ s
    refine wpAny_bind (W.item i s _ _ hlt hst fun v s' hP hst' hm => ?_)
    obtain ⟨z, t, hz, rfl⟩ := hval i v hP
    have hS' : TxS w s'.heap S (ns.take i) := hS.at fun o e => hm.heap S o hSw e
    show wpAny _ A.in1 (holding [Value.str z t] (setAdd S (.str z t)) >>= _) _ _ s'
    refine wpAny_bind (wpAny_holding ?_)
    unfold setAdd
    refine wpAny_holding ?_
    refine wpAny_bind ((strKind P w).pyHash (k := z) (strKind_is _ _ _ _) ?_)
    refine txs_add (s := { s' with toks := s'.toks + 1 }) hS' (by rw [List.length_take]; omega) fun h' b hsb hS2 => ?_
    have hS3 : TxS w h' S (ns.take (i + 1)) := by
      rw [List.take_add_one, hz]
      exact hS2
    refine wpAny_pure ⟨plainId_quiet F.plain_set_update_loop _, ih (i + 1) _ (by omega) hlt (W.frame _ s' _ _ hst' (Nat.le_succ _) fun b hb o e => ?_) hS3 fun s'' hm'' hS'' => ?_⟩
    · rw [hsb.2 b (fun h : b = S => hSf (by rw [← h]; exact hb))]; exact e
    · refine hR s'' (Moved.trans W.gtrans ((hm.mono hsub).then_heap (Nat.le_succ _) fun b o hb e => ?_) hm'') hS''
      rw [hsb.2 b (fun h : b = S => hb (by rw [h]; exact List.mem_cons_self))]; exact e
theorem txs_new {h : Heap} {ns : List Str} (ho : h.get? a = some { cls := .type "set", dict := none, data := .set #[] 0 (.fresh 0 0 (!w.params.followText "set-order")) }) : TxS w h a (ns.take 0) :=
  ⟨_, #[], 0, _, ho, ⟨rfl, rfl, rfl⟩, rfl, (fun e he => by simp at he), (fun z hz => by simp at hz), Nat.zero_le _, (by decide), (by rfl), List.Pairwise.nil, by
    show _ ∨ (!w.params.followText "set-order") = true
    cases w.params.followText "set-order"
    · exact .inr rfl
    · exact .inl rfl⟩
theorem txt_at : ∀ {us : List Value} {xs : List Str}, StrsAre us xs → ∀ (i : Nat) (v : Value), us[i]? = some v → ∃ k t, xs[i]? = some k ∧ v = .str k t
  | _, _, .nil, i, v, h => by simp at h
  | _, _, .cons y tk r, 0, v, h => ⟨y, tk, rfl, (Option.some.inj h).symm⟩
  | _, _, .cons y tk r, i + 1, v, h => txt_at r i v (by simpa using h)
theorem call_set_txs {l : Addr} {items : Array Value} (ns : List Str) {Q : Value → Shared → Prop} (hh : A.handled = none) (hl : s.heap.IsList l items) (hit : StrsAre items.toList ns) (hb : ns.length + 1 < scanBound)
    (h : ∀ (h' : Heap) (tk : Nat), TxS w h' s.heap.objs.size ns → (∀ b o, s.heap.get? b = some o → h'.get? b = some o) → Q (.ref s.heap.objs.size) { s with heap := h', toks := tk }) :
    wpAny (model P w) A (call (.type "set") [.ref l]) Q E s := by
  have hisz : items.size = ns.length := by
    have q := StrsAre.length hit
    rw [Array.length_toList] at q
    exact q
  obtain ⟨c, tl, hmro⟩ := F.called_set.mro
  have hmade := F.called_set.made
  have hsub := F.called_set.sub
  refine wpAny_call (codeAny_of_tree ?_)
  show wpAny _ _ (callAny (.type "set") _) _ _ _
  refine wpAny_pure ⟨Code.quiet_builtin _ (by decide +kernel), codeAny_builtin F.entry_type_call ?_⟩
  rw [Around.under_plain (weight_type_call_type "set" [.ref l] []) rfl]
  have h1 := F.called_set.notType
  have h2 := F.called_set.canCreate
  have hct := F.typeCall_set_1 (.ref l)
  repeat (any_goals (first | assumption | wp_step))
  refine codeAny_mono (code_set_led1 (.ref l) (E := E) (Q₁ := fun obj s1 => obj = .ref s.heap.objs.size ∧ s1 = { s with heap := s.heap.push { cls := .type "set", dict := none, data := .set #[] 0 (.fresh 0 0 (!w.params.followText "set-order")) } }) ⟨rfl, rfl⟩) fun r s1 hr => ?_
  cases r with
  | error e => exact hr
  | ok fl =>
    cases fl with
    | ret obj =>
      obtain ⟨rfl, rfl⟩ := hr
      have hS : (s.heap.push { cls := .type "set", dict := none, data := .set #[] 0 (.fresh 0 0 (!w.params.followText "set-order")) }).get? s.heap.objs.size = some { cls := .type "set", dict := none, data := .set #[] 0 (.fresh 0 0 (!w.params.followText "set-order")) } := Heap.get?_push_size _ rfl
      have hT : Shared.TypeIs { s with heap := s.heap.push { cls := .type "set", dict := none, data := .set #[] 0 (.fresh 0 0 (!w.params.followText "set-order")) } } (.ref s.heap.objs.size) "set" := ⟨_, hS, rfl⟩
      have hli := F.called_set.init.lookup
      have hbi := F.called_set.init.bind (.ref s.heap.objs.size)
      repeat (any_goals (first | assumption | wp_step))
      refine codeAny_mono (codeAny_call_builtin (R := wants (fun r s2 => r = .none ∧ ∃ h' tk, s2 = { s with heap := h', toks := tk } ∧ TxS w h' s.heap.objs.size ns ∧ (∀ b o, s.heap.get? b = some o → h'.get? b = some o)) E) F.called_set.init.plain F.entry_set_init (check_set_init_1 hT ?_)) fun r2 s2 hr2 => ?_
      · obtain ⟨ol, hol, hcl, nl, hdl⟩ := hl
        obtain ⟨ocls, odict, odata, oslots⟩ := ol
        simp only at hcl hdl
        subst hcl; subst hdl
        have hol' : (s.heap.push { cls := .type "set", dict := none, data := .set #[] 0 (.fresh 0 0 (!w.params.followText "set-order")) }).get? l = some { cls := .type "list", dict := odict, data := .seq items nl, slots := oslots } := Heap.get?_push_of_some _ hol
        have hsls := F.sub_list_set
        have hslf := F.sub_list_frozenset
        have hne : (Value.type "list" == Value.type "dict") = false := by decide
        have hl1 : (s.heap.push { cls := .type "set", dict := none, data := .set #[] 0 (.fresh 0 0 (!w.params.followText "set-order")) }).IsList l items := ⟨_, hol', rfl, nl, rfl⟩
        unfold Builtin.«set.__init__» noKeywords Builtin.Frozenset.updateFrom
        generalize hPI : pyIter = PI
        wp_walk
        subst hPI
        refine wpAny_pyIter_list hl1 ?_
        refine wpAny_bind (wpAny_runValue ?_)
        have hlS : l < s.heap.objs.size := Heap.lt_size hol
        have hh3 : A.in1.in1.in1.handled = none := by simp [hh]
        have hneI : l ≠ (s.heap.push { cls := .type "set", dict := none, data := .set #[] 0 (.fresh 0 0 (!w.params.followText "set-order")) }).objs.size := by
          rw [Heap.size_push]; exact Nat.ne_of_lt (Nat.lt_succ_of_lt hlS)
        have hSf : s.heap.objs.size ∉ [(s.heap.push { cls := .type "set", dict := none, data := .set #[] 0 (.fresh 0 0 (!w.params.followText "set-order")) }).objs.size, l] := by
          rw [Heap.size_push]; simp only [List.mem_cons, List.mem_singleton, List.not_mem_nil, or_false, not_or]
          exact ⟨Nat.ne_of_lt (Nat.lt_succ_self _), Nat.ne_of_gt hlS⟩
        have hval : ∀ (i : Nat) (v : Value), items[i]? = some v → ∃ k t, ns[i]? = some k ∧ v = .str k t := fun i v hv => by
          have hi : i < ns.length := by rw [← hisz]; exact (Array.getElem?_eq_some_iff.mp hv).1
          exact txt_at hit i v (by rw [Array.getElem?_toList]; exact hv)
        refine txs_loop ((Walks.list hh3 _ l hneI items).toS) s.heap.objs.size
          hSf ns hisz hb hval (items.size - 0) 0 _ (by omega) (Nat.zero_le _)
          ⟨⟨_, Heap.get?_push_size _ rfl, rfl, rfl⟩, (hl1.push _)⟩ ?hS0 ?hR
        case hS0 =>
          have hget : ((s.heap.push { cls := .type "set", dict := none, data := .set #[] 0 (.fresh 0 0 (!w.params.followText "set-order")) }).push { cls := .type "list_iterator", data := .fields #[.ref l, .int 0 0] }).get? s.heap.objs.size
              = some { cls := .type "set", dict := none, data := .set #[] 0 (.fresh 0 0 (!w.params.followText "set-order")) } := Heap.get?_push_of_some _ hS
          exact txs_new hget
        case hR =>
          intro s' hm hS'
          obtain ⟨h', g2, d', tk', os'⟩ := s'
          have eg : g2 = s.gens := hm.gens
          have ed : d' = s.drawn := hm.drawn
          have eo : os' = s.os := hm.os
          subst eg; subst ed; subst eo
          show wpAny _ _ _ _ _ _
          refine wpAny_pure ?_
          show wpAny _ _ (ret Value.none) _ _ _
          refine wpAny_pure ⟨rfl, h', tk', rfl, hS', fun b o e => ?_⟩
          have hb0 : b < s.heap.objs.size := Heap.lt_size e
          have hb1 : b ≠ s.heap.objs.size := Nat.ne_of_lt hb0
          have hb2 : b ≠ (s.heap.push { cls := .type "set", dict := none, data := .set #[] 0 (.fresh 0 0 (!w.params.followText "set-order")) }).objs.size := by
            rw [Heap.size_push]; exact Nat.ne_of_lt (Nat.lt_succ_of_lt hb0)
          exact hm.heap b o (by simp only [List.mem_cons, List.mem_singleton, List.not_mem_nil, or_false, not_or]; exact ⟨hb1, hb2⟩) (Heap.get?_push_of_some _ (Heap.get?_push_of_some _ e))
      · cases r2 with
        | error e => exact hr2
        | ok fl2 =>
          cases fl2 with
          | ret r =>
            obtain ⟨rfl, h', tk, rfl, hS', hk'⟩ := hr2
            repeat (any_goals (first | assumption | wp_step))
            exact h _ _ hS' hk'
          | _ => exact hr2.elim
    | _ => exact hr.elim
theorem strs_of : ∀ (vs : List Value), (∀ v ∈ vs, ∃ z tk, v = Value.str z tk ∧ z ∈ l) → ∃ ss : List Str, StrsAre vs ss ∧ ∀ z ∈ ss, z ∈ l
  | [], _ => ⟨[], .nil, fun z hz => by cases hz⟩
  | v :: vs, h => by
    obtain ⟨z, tk, rfl, hz⟩ := h v List.mem_cons_self
    obtain ⟨ss, h1, h2⟩ := strs_of vs fun u hu => h u (List.mem_cons_of_mem _ hu)
    refine ⟨z :: ss, .cons z tk h1, fun y hy => ?_⟩
    rcases List.mem_cons.mp hy with e | hy
    · rw [e]; exact hz
    · exact h2 y hy
/-- sorted(set of texts): some of them, at least one when there is one -/
theorem sorted_txs {Q : Value → Shared → Prop} (R : TxS w s.heap a l) (hh : A.handled = none) (h64 : l.length < 64)
    (hQ : ∀ s' p (out : Array Value) (c : Nat) (ss : List Str), (∀ b o, s.heap.get? b = some o → s'.heap.get? b = some o) → s'.gens = s.gens → s'.os = s.os → s.heap.objs.size ≤ p →
      s'.heap.get? p = some (seqObj "list" out c) → StrsAre out.toList ss → (∀ z ∈ ss, z ∈ l) → ss.length ≤ l.length → (l ≠ [] → ss ≠ []) → Q (.ref p) s') :
    wpAny (model P w) A (call (.builtin "sorted") [.ref a]) Q E s := by
  obtain ⟨o, es, ep, t, ho, hex, hd, g, hm, hn, hb, hf, hr, hl⟩ := R
  refine Calls.call_function_entry kind_sorted plain_sorted entry_sorted (args_sorted1 _) ?_
  unfold Builtin.«sorted»
  refine wpAny_bind (m := checkCount "sorted" 1 1 _) (wpAny_pure ?_)
  refine wpAny_bind (collect_set (A := A.in1) hh ⟨o, ho, hex.1, hd⟩ hf hb hr hl fun s1 vs k1 hz g1 o1 pm => ?_)
  have hvl : vs.length = es.size := by rw [pm.length_eq, List.length_map, Array.length_toList]
  obtain ⟨ss, hS, hmem⟩ := strs_of (l := l) vs fun v hv => by
    obtain ⟨e, he, q⟩ := List.mem_map.mp (pm.mem_iff.mp hv)
    obtain ⟨z, tk, h1, h2⟩ := g e he
    exact ⟨z, tk, by rw [← q, h2], h1⟩
  refine wpAny_bind (wpAny_newList ?_ (by rw [hvl, sizeLine_eq]; omega))
  have hoL : (s1.heap.push (seqObj "list" vs.toArray 0)).get? s1.heap.objs.size = some (seqObj "list" vs.toArray 0) := Heap.get?_push_size _ rfl
  refine wpAny_bind (wpAny_holding (wpAny_call_entry slot_list_sort ⟨_, hoL, rfl⟩ entry_list_sort (list_sort_treeK strKind_oneLt hoL hS.keysOf (fun v1 v2 rest e => keyKind_strs (by rw [← e]; exact hS)) (by rw [hvl]; omega) fun st' a1 a2 => ⟨_, rfl, ?_⟩) (args_list_sort _)))
  obtain ⟨ss', h1, h2, h3⟩ := sorted_out_str hS a1 a2
  obtain ⟨c, hc⟩ := sortedHeap_at (vs := vs) (out := (arrOf st').map (·.2)) hoL
  have l1 : ss'.length = es.size := by rw [h2.length_eq, ← StrsAre.length hS, hvl]
  refine wpAny_pure ⟨_, rfl, hQ _ s1.heap.objs.size _ c ss' (fun b u e => ?_) g1 o1 hz hc h1 (fun z hz => hmem z (h2.mem_iff.mp hz)) (by rw [l1]; exact hn) fun hne he => ?_⟩
  · have q := k1 b u e
    have hlt := Heap.lt_size q
    show (sortedHeap (s1.heap.push (seqObj "list" vs.toArray 0)) s1.heap.objs.size vs _).get? b = some u
    rw [sortedHeap_old (Nat.ne_of_lt hlt) (by rw [size_push']; exact Nat.lt_succ_of_lt hlt)]
    exact Heap.get?_push_of_some _ q
  · cases l with
    | nil => exact hne rfl
    | cons y l =>
      obtain ⟨e, he', _⟩ := hm y List.mem_cons_self
      have z : es.toList.length = 0 := by
        rw [Array.length_toList, ← l1, he]
        rfl
      rw [List.eq_nil_of_length_eq_zero z] at he'
      cases he'
end
/-! ### as tracked things -/
def TxO (w : World) (a : Addr) (l : List Str) : HO := .ext fun h => TxS w h a l
section
variable {X : Cx}
theorem txO_new {P : Program} {w : World} {H : Hp} {h : Heap} {a : Addr} {l : List Str} (R : TxS w h a l) : ObjOk P w H h a (TxO w a l) := by
  have ⟨o, _, _, _, ho, _⟩ := R
  exact ⟨R, ⟨o, ho⟩, fun h1 h2 p k => TxS.at p k⟩
theorem strs_vals : ∀ {ys : List Str} {us : List Value}, Vals (ys.map V.str) us → StrsAre us ys
  | [], us, r => by
    rw [List.map_nil] at r
    cases r
    exact .nil
  | y :: ys, us, r => by
    rw [List.map_cons] at r
    cases r with
    | cons h t =>
      obtain ⟨tk, rfl⟩ := h
      exact .cons y tk (strs_vals t)
def rSetTx (w : World) : List V → Hp → VK → Prop := fun xs H Q => ∃ (a : Addr) (l : List Str), xs = [.ref a] ∧ H a = some (.lst (l.map V.str)) ∧ l.length ≤ 60 ∧ ∀ p, H p = none → Q (.ref p) (upd H p (TxO w p l))
theorem call_setTx (hc : X.calm = true) : CallR X (.type "set") (rSetTx X.w) := by
  intro pins s σ H xs us Q I r h
  obtain ⟨a, l, rfl, ha, hl, q⟩ := h
  obtain ⟨u, rfl, rx⟩ := vals1 r
  cases rx
  obtain ⟨hz, its, n, rv, ho⟩ := (show ObjOk X.prog X.w H s.heap a (.lst (l.map V.str)) from I.hok a _ ha)
  refine call_set_txs (items := its.toArray) l (I.ok.hd hc) ⟨_, ho, rfl, n, rfl⟩ (strs_vals rv) (by unfold scanBound; omega) fun h' tk R k => ?_
  exact ⟨.ref s.heap.objs.size, _, I.laid (t' := tk) (o := TxO X.w s.heap.objs.size l) k (Nat.le_refl _) (txO_new R), rfl, q _ (I.hok.fresh (Nat.le_refl _))⟩
def rSortTx (w : World) : List V → Hp → VK → Prop := fun xs H Q => ∃ (a : Addr) (l : List Str), xs = [.ref a] ∧ H a = some (TxO w a l) ∧ l.length ≤ 60 ∧ ∀ (p : Addr) (ss : List Str), H p = none → (∀ z ∈ ss, z ∈ l) → ss.length ≤ l.length → (l ≠ [] → ss ≠ []) → Q (.ref p) (upd H p (.lst (ss.map V.str)))
theorem vals_strs : ∀ {ys : List Str} {us : List Value}, StrsAre us ys → Vals (ys.map V.str) us
  | _, _, .nil => .nil
  | _, _, .cons y tk t => .cons ⟨tk, rfl⟩ (vals_strs t)
theorem cr_sortTx (hc : X.calm = true) : CallR X (.builtin "sorted") (rSortTx X.w) := by
  intro pins s σ H xs us Q I r h
  obtain ⟨a, l, rfl, ha, h64, q⟩ := h
  have R : TxS X.w s.heap a l := (I.hok a _ ha).1
  obtain ⟨u, rfl, rx⟩ := vals1 r
  cases rx
  refine sorted_txs R (I.ok.hd hc) (by omega) fun s' p out c ss k g o hp hg hi hm hl hne => ?_
  have hlen : (ss.map V.str).length ≤ sizeLine := by rw [List.length_map, sizeLine_eq]; omega
  have hn : H p = none := I.hok.fresh hp
  have J : Inv X pins σ (upd H p (.lst (ss.map V.str))) { s with heap := s'.heap, gens := s'.gens, drawn := s'.drawn, toks := s'.toks } :=
    I.call (ch := []) (Un.laid k hp hn) (I.hok.laid k hp ⟨hlen, out.toList, c, vals_strs hi, hg⟩) (by rw [g]; exact I.bare) (fun _ z => nomatch z)
  have e : s' = { s with heap := s'.heap, gens := s'.gens, drawn := s'.drawn, toks := s'.toks } := by
    cases s'
    cases s
    cases o
    rfl
  rw [e]
  exact ⟨.ref p, _, J, rfl, q p ss hn hm hl hne⟩
end
end Mk
/-! Comfort: rules met at known things; the data of this program and where it stands. -/
namespace Mk
open PySem PySem.Spec L2 He
section
variable {K : PySem.W.Frag} {H : Hp} {Q : VK} {i j : Int} {y z : Str} {a b c : Bool} {p : Addr} {xs : List V} {v : V}
theorem req_ii (q : Q (.bl (decide (i = j))) H) : rEq (.int i) (.int j) H Q := ⟨rfl, qb q (by by_cases e : i = j <;> simp [e])⟩
theorem req_ss (q : Q (.bl (decide (y = z))) H) : rEq (.str y) (.str z) H Q := ⟨rfl, qb q (by by_cases e : y = z <;> simp [e])⟩
theorem req_bb (q : Q (.bl (decide (a = b))) H) : rEq (.bl a) (.bl b) H Q := ⟨rfl, qb q (by by_cases e : a = b <;> simp [e])⟩
theorem rne_ii (q : Q (.bl (!decide (i = j))) H) : rNe (.int i) (.int j) H Q := ⟨rfl, qb q (by by_cases e : i = j <;> simp [e])⟩
theorem rne_ss (q : Q (.bl (!decide (y = z))) H) : rNe (.str y) (.str z) H Q := ⟨rfl, qb q (by by_cases e : y = z <;> simp [e])⟩
theorem rix_t (h : H p = some (.tup xs)) (e : atI xs i = some v) (q : Q v H) : rIxT K (.ref p) (.int i) H Q := ⟨p, xs, i, v, rfl, rfl, SqT.of h, e, q⟩
theorem rix_l (h : H p = some (.lst xs)) (e : atI xs i = some v) (q : Q v H) : rIxL K (.ref p) (.int i) H Q := ⟨p, xs, i, v, rfl, rfl, SqL.of h, e, q⟩
def rLenS (K : PySem.W.Frag) : List V → Hp → VK → Prop := fun xs H Q => ∃ p ys, xs = [.ref p] ∧ (SqL K H p ys ∨ SqT K H p ys) ∧ Q (.int ys.length) H
theorem call_lenS {X : Cx} : CallR X (.builtin "len") (rLenS X.K) := call_len_seq
theorem rlen_t {n : Nat} (h : H p = some (.tup xs)) (e : xs.length = n) (q : Q (.int (n : Int)) H) : rLenS K [.ref p] H Q := ⟨p, xs, rfl, .inr (SqT.of h), e ▸ q⟩
theorem rlen_l {n : Nat} (h : H p = some (.lst xs)) (e : xs.length = n) (q : Q (.int (n : Int)) H) : rLenS K [.ref p] H Q := ⟨p, xs, rfl, .inl (SqL.of h), e ▸ q⟩
theorem cm_l {B : Prop} (h1 : -18446744073709551616 < i) (h2 : i < 18446744073709551616) (b : B) : CMul i j ∧ B := ⟨.inl ⟨h1, h2⟩, b⟩
theorem cm_r {B : Prop} (h1 : -18446744073709551616 < j) (h2 : j < 18446744073709551616) (b : B) : CMul i j ∧ B := ⟨.inr ⟨h1, h2⟩, b⟩
theorem md_i {B : Prop} (h1 : 0 < j) (b : B) : 0 < j ∧ B := ⟨h1, b⟩
theorem cd_i {B : Prop} (h1 : 0 < j) (h2 : j < 1073741824) (b : B) : CDiv i j ∧ B := ⟨⟨h1, h2⟩, b⟩
/-- the texts of a list of texts -/
def strsOf (xs : List V) : List Str := xs.filterMap fun v => match v with
  | .str z => some z
  | _ => none
theorem strsOf_map (ss : List Str) : strsOf (ss.map V.str) = ss := by
  induction ss with
  | nil => rfl
  | cons s ss ih =>
    unfold strsOf at ih ⊢
    rw [List.map_cons, List.filterMap_cons]
    simp only [ih]
theorem all_strs {xs : List V} (e : xs = (strsOf xs).map V.str) : xs.all flatV = true := by
  rw [e, List.all_eq_true]
  intro x hx
  obtain ⟨s, _, rfl⟩ := List.mem_map.mp hx
  rfl
theorem inV_s {z : Str} : ∀ {ss : List Str}, inV (.str z) (ss.map V.str) = decide (z ∈ ss)
  | [] => by simp [inV]
  | s :: ss => by
    have ih := inV_s (z := z) (ss := ss)
    unfold inV at ih ⊢
    rw [List.map_cons, List.any_cons, ih]
    by_cases e : s = z
    · subst e
      simp [eqV]
    · have e' : ¬ z = s := fun q => e q.symm
      simp [eqV, e, e']
theorem rin_t {xs : List V} (h : H p = some (.tup xs)) (e : xs = (strsOf xs).map V.str) (q : Q (.bl (decide (z ∈ strsOf xs))) H) : rIn K false (.str z) (.ref p) H Q := by
  refine ⟨p, xs, rfl, .inr (SqT.of h), rfl, all_strs e, ?_⟩
  rw [if_neg (by decide), e, inV_s]
  exact q
theorem rnin_t {xs : List V} (h : H p = some (.tup xs)) (e : xs = (strsOf xs).map V.str) (q : Q (.bl (!decide (z ∈ strsOf xs))) H) : rIn K true (.str z) (.ref p) H Q := by
  refine ⟨p, xs, rfl, .inr (SqT.of h), rfl, all_strs e, ?_⟩
  rw [if_pos rfl, e, inV_s]
  exact q
theorem rin_l {ss : List Str} (h : H p = some (.lst (ss.map V.str))) (q : Q (.bl (decide (z ∈ ss))) H) : rIn K false (.str z) (.ref p) H Q := by
  refine ⟨p, _, rfl, .inl (SqL.of h), rfl, all_strs (by rw [strsOf_map]), ?_⟩
  rw [if_neg (by decide), inV_s]
  exact q
theorem rnin_l {ss : List Str} (h : H p = some (.lst (ss.map V.str))) (q : Q (.bl (!decide (z ∈ ss))) H) : rIn K true (.str z) (.ref p) H Q := by
  refine ⟨p, _, rfl, .inl (SqL.of h), rfl, all_strs (by rw [strsOf_map]), ?_⟩
  rw [if_pos rfl, inV_s]
  exact q
end
theorem same_upd2 {H H' : Hp} {p : Addr} {o : HO} (s : Same H H') (hp : H' p = none) : Same H (upd H' p o) := same_upd s (Same.free s hp)
theorem kp {H H' : Hp} {a : Addr} {o : HO} (s : Same H H') (h : H a = some o) : H' a = some o := s _ _ h
theorem hu65 {k : Nat} {A : Around} (r : Room k A) : A.units + 65 < cLine := by
  have := r.un
  omega
section
variable {a b : Str} {ss : List Str} {A B : Prop}
theorem ited_sT (h : a = b) (k : A) : if decide (a = b) = true then A else B := itedT h k
theorem ited_sF (h : ¬ a = b) (k : B) : if decide (a = b) = true then A else B := itedF h k
theorem itedn_sT (h : ¬ a = b) (k : A) : if (!decide (a = b)) = true then A else B := itednT h k
theorem itedn_sF (h : a = b) (k : B) : if (!decide (a = b)) = true then A else B := itednF h k
theorem ited_s (h1 : a = b → A) (h2 : ¬ a = b → B) : if decide (a = b) = true then A else B := ited h1 h2
theorem itedn_s (h1 : ¬ a = b → A) (h2 : a = b → B) : if (!decide (a = b)) = true then A else B := itedn h1 h2
theorem ited_mT (h : a ∈ ss) (k : A) : if decide (a ∈ ss) = true then A else B := itedT h k
theorem ited_mF (h : ¬ a ∈ ss) (k : B) : if decide (a ∈ ss) = true then A else B := itedF h k
theorem itedn_mT (h : ¬ a ∈ ss) (k : A) : if (!decide (a ∈ ss)) = true then A else B := itednT h k
theorem itedn_mF (h : a ∈ ss) (k : B) : if (!decide (a ∈ ss)) = true then A else B := itednF h k
theorem ited_m (h1 : a ∈ ss → A) (h2 : ¬ a ∈ ss → B) : if decide (a ∈ ss) = true then A else B := ited h1 h2
theorem itedn_m (h1 : ¬ a ∈ ss → A) (h2 : a ∈ ss → B) : if (!decide (a ∈ ss)) = true then A else B := itedn h1 h2
end
theorem alc {n : Nat} {H : Hp} {B : Addr → Prop} (h : n ≤ sizeLine) (k : ∀ p, H p = none → B p) : n ≤ sizeLine ∧ ∀ p, H p = none → B p := ⟨h, k⟩
/-! ### with the table written out -/
section
variable {X : Cx} {K : PySem.W.Frag}
theorem ix_tupK (e : X.K = K) : IxR X (rIxT K) := e ▸ ix_tup
theorem ix_listK (e : X.K = K) : IxR X (rIxL K) := e ▸ ix_list
theorem op_inK (e : X.K = K) : OpR X (compareOp .In) (rIn K false) := e ▸ op_in_seq
theorem op_notInK (e : X.K = K) : OpR X (compareOp .NotIn) (rIn K true) := e ▸ op_notIn_seq
theorem call_isiA (e : X.K = K) : CallR X (.builtin "isinstance") (rIsi K) := e ▸ call_isi
theorem call_isiB (e : X.K = K) : CallR X (.builtin "isinstance") (rIsiT K) := e ▸ call_isiT
theorem call_lenA (e : X.K = K) : CallR X (.builtin "len") (rLenS K) := e ▸ call_lenS
theorem cr_allK (e : X.K = K) (hc : X.calm = true) : CallR X (.builtin "all") (rAll K) := e ▸ cr_all hc
theorem cr_anyK (e : X.K = K) (hc : X.calm = true) : CallR X (.builtin "any") (rAny K) := e ▸ cr_any hc
theorem op_inDK (e : X.K = K) (hu : X.A.units + 65 < cLine) : OpR X (compareOp .In) (rInD K) := e ▸ op_inD hu
theorem op_notInDK (e : X.K = K) (hu : X.A.units + 65 < cLine) : OpR X (compareOp .NotIn) (rNotInD K) := e ▸ op_notInD hu
theorem op_eqDK (e : X.K = K) (hu : X.A.units + 64 < cLine) : OpR X (compareOp .Eq) (rEqD K) := e ▸ op_eqD hu
theorem op_neDK (e : X.K = K) (hu : X.A.units + 64 < cLine) : OpR X (compareOp .NotEq) (rNeD K) := e ▸ op_neD hu
theorem pi_tupK {tg l : Expr} {tl : TE} (e : X.K = K) (hl : PE X l tl) : PI X tg l (iTup K tl) := e ▸ pi_tup hl
theorem pi_listK {tg l : Expr} {tl : TE} (e : X.K = K) (hl : PE X l tl) : PI X tg l (iList K tl) := e ▸ pi_list hl
theorem pi_anyK {tg l : Expr} {tl : TE} (e : X.K = K) (hl : PE X l tl) : PI X tg l (fun σ H R => iList K tl σ H R ∨ iTup K tl σ H R) := e ▸ pi_any hl
theorem pg_tupK {es : List Expr} {k n : Nat} {pos : Pos} {t : TGs} (e : X.K = K) (hn : (assignEach es X.env).length = n) (hc : X.calm = true) (h : PGs X es t) (hst : (assignEach es X.env).findIdx? (·.1) = none := by rfl) : PG X (.Tuple es k pos) (gTup K n t) := e ▸ pg_tup hc h hn hst
theorem rsl_t {H : Hp} {Q : VK} {p : Addr} {xs ys : List V} {lo hi : Option Int} (h : H p = some (.tup xs)) (e : decide (HT.sIx xs.length 0 lo = 0 ∧ HT.sIx xs.length xs.length hi = xs.length) = false) (e2 : cutV xs lo hi = ys) (k : ∀ q, H q = none → Q (.ref q) (upd H q (.tup ys))) : rSlA K (.ref p) lo hi H Q := by
  subst e2
  exact ⟨p, xs, rfl, SqT.of h, fun z => absurd z (of_decide_eq_false e), fun _ => k⟩
theorem gtup_t {H : Hp} {a : Addr} {xs : List V} {n : Nat} {t : TGs} {σ : St} {Q : St → Hp → Prop} (h : H a = some (.tup xs)) (hl : xs.length = n) (q : t xs σ H Q) : gTup K n t (.ref a) σ H Q := ⟨a, xs, rfl, SqT.of h, hl, q⟩
theorem gcons_t {v : V} {r : List V} {B : V → List V → Prop} (b : B v r) : ∃ v' r', v :: r = v' :: r' ∧ B v' r' := ⟨v, r, rfl, b⟩
/-- in and [] of a written dict of texts -/
def rInKd (K : PySem.W.Frag) (d : Addr) : R2 := fun x y H Q => ∃ (z : Str) (r : Option Value), x = .str z ∧ y = .ref d ∧ PySem.W.nsIn K d z = some r ∧ Q (.bl r.isSome) H
theorem op_in_kdK {w : World} {d : Addr} (D : ∃ es n, KDict K w d es n) (hw : X.w = w) (e : X.K = K) : OpR X (compareOp .In) (rInKd K d) := by
  subst e hw
  obtain ⟨es, n, D⟩ := D
  exact op_in_kd D
def rIxKd (K : PySem.W.Frag) (d : Addr) : R2 := fun x y H Q => ∃ (z : Str) (b : Addr), x = .ref d ∧ y = .str z ∧ PySem.W.nsIn K d z = some (some (.ref b)) ∧ Q (.ref b) H
theorem ix_kdK {w : World} {d : Addr} (D : ∃ es n, KDict K w d es n) (hw : X.w = w) (e : X.K = K) : IxR X (rIxKd K d) := by
  subst e hw
  obtain ⟨es, n, D⟩ := D
  intro value slice pins s σ H x y v u Q I rx ry h hs
  obtain ⟨z, b, rfl, rfl, hn, q⟩ := h
  exact ix_kdict value slice pins s σ H (.ref d) (.str z) v u Q I rx ry ⟨d, z, .ref b, rfl, rfl, ⟨es, n, .ref b, D.at_, D.lit, hn, rfl⟩, q⟩ hs
theorem rinkd {d : Addr} {z : Str} {r : Option Value} {H : Hp} {Q : VK} (h : PySem.W.nsIn K d z = some r) (q : Q (.bl r.isSome) H) : rInKd K d (.str z) (.ref d) H Q := ⟨z, r, rfl, rfl, h, q⟩
theorem rixkd {d b : Addr} {z : Str} {H : Hp} {Q : VK} (h : PySem.W.nsIn K d z = some (some (.ref b))) (q : Q (.ref b) H) : rIxKd K d (.ref d) (.str z) H Q := ⟨z, b, rfl, rfl, h, q⟩
theorem gpar_t {v w : V} {B : V → V → Prop} (b : B v w) : ∃ v' w', [v, w] = [v', w'] ∧ B v' w' := ⟨v, w, rfl, b⟩
theorem gpar3_t {u v w : V} {B : V → V → V → Prop} (b : B u v w) : ∃ u' v' w', [u, v, w] = [u', v', w'] ∧ B u' v' w' := ⟨u, v, w, rfl, b⟩
theorem sl_tupK (e : X.K = K) : SlR X (rSlA K) := e ▸ sl_tupA
theorem sl_listK (e : X.K = K) : SlR X (rSlL K) := e ▸ sl_list
theorem op_catK (e : X.K = K) : OpR X (binaryOp .Add) (rCatA K) := e ▸ op_catA
end
/-! ### the data -/
abbrev SS := Str × Str
structure Norm where
  word : Str
  pairs : List SS
  days : Int
  part : Int
  back : Bool
structure Due where
  land : Str
  kind : Str
  beg : Int
  rate : Int
inductive Row where
  | made (day sell buy : Int) (seller buyer ware : Str) (many price tax : Int)
  | sent (day : Int) (who : Str) (at_ : Int)
  | came (day : Int)
  | comp (day : Int) (word : Str)
  | said (day : Int) (who word : Str)
  | ended (day : Int) (how : Str) (part : Int) (back : Bool)
def Row.vs : Row → List V
  | .made d s b x y z m p t => [.str "made", .int d, .int s, .int b, .str x, .str y, .str z, .int m, .int p, .int t]
  | .sent d w a => [.str "sent", .int d, .str w, .int a]
  | .came d => [.str "came", .int d]
  | .comp d w => [.str "complained", .int d, .str w]
  | .said d w z => [.str "said", .int d, .str w, .str z]
  | .ended d h p b => [.str "ended", .int d, .str h, .int p, .bl b]
def Row.day : Row → Int
  | .made d .. => d
  | .sent d .. => d
  | .came d => d
  | .comp d _ => d
  | .said d .. => d
  | .ended d .. => d
def Row.kind : Row → Str
  | .made .. => "made"
  | .sent .. => "sent"
  | .came _ => "came"
  | .comp .. => "complained"
  | .said .. => "said"
  | .ended .. => "ended"
def Due.vs (d : Due) : List V := [.str d.land, .str d.kind, .int d.beg, .int d.rate]
def pairV (p : SS) : List V := [.str p.1, .str p.2]
/-! ### where it stands -/
abbrev AtT {α : Type} (f : α → List V) (H : Hp) (as : List Addr) (ds : List α) : Prop := Paired (fun a d => H a = some (.tup (f d))) as ds
def NormAt (H : Hp) (a : Addr) (n : Norm) : Prop := ∃ (q : Addr) (bs : List Addr), H a = some (.tup [.str n.word, .ref q, .int n.days, .int n.part, .bl n.back]) ∧ H q = some (.tup (bs.map V.ref)) ∧ AtT pairV H bs n.pairs
theorem atT_same {α : Type} {f : α → List V} {H H' : Hp} (s : Same H H') {as : List Addr} {ds : List α} (p : AtT f H as ds) : AtT f H' as ds := Paired.mapP p fun _ _ h => s _ _ h
theorem normAt_same {H H' : Hp} (s : Same H H') {a : Addr} {n : Norm} (p : NormAt H a n) : NormAt H' a n := by
  obtain ⟨q, bs, h1, h2, h3⟩ := p
  exact ⟨q, bs, s _ _ h1, s _ _ h2, atT_same s h3⟩
/-- a list of rows -/
def RowsAt (H : Hp) (l : Addr) (as : List Addr) (rs : List Row) : Prop := H l = some (.lst (as.map V.ref)) ∧ AtT Row.vs H as rs
theorem rowsAt_same {H H' : Hp} (s : Same H H') {l : Addr} {as : List Addr} {rs : List Row} (p : RowsAt H l as rs) : RowsAt H' l as rs := ⟨s _ _ p.1, atT_same s p.2⟩
theorem paired_len {α β : Type} {F : α → β → Prop} {xs : List α} {ys : List β} (p : Paired F xs ys) : xs.length = ys.length := Paired.length p
theorem paired_get2 {α β : Type} {F : α → β → Prop} : ∀ {xs : List α} {ys : List β}, Paired F xs ys → ∀ {i : Nat} {y : β}, ys[i]? = some y → ∃ x, xs[i]? = some x ∧ F x y
  | _, _, .nil, i, y, h => by cases h
  | _, _, .cons r t, 0, y, h => by
    have e := Option.some.inj h
    subst e
    exact ⟨_, rfl, r⟩
  | _, _, .cons r t, i + 1, y, h => paired_get2 t h
/-! ### a comprehension, a loop over data that stand as references -/
section
variable {K : PySem.W.Frag} {α : Type} {Rel : Hp → Addr → α → Prop} {a : Addr} {as : List Addr} {ds : List α} {g : TG} {tt : TT} {te : TE} {vs : List Nat} {σ : St} {H1 : Hp} {D : Addr} {Qd : Hp → Prop}
theorem lc_dataL (mono : ∀ H H' b d, Same H H' → Rel H b d → Rel H' b d) (hD : H1 D = none) (hs : SqL K H1 a (as.map V.ref)) (hp : Paired (Rel H1) as ds) (hn : ds.length ≤ 1000000) (f : α → Option V)
    (turn : ∀ (i : Nat) (b : Addr) (d : α) (H : Hp) (R : V → Hp → Prop) (R0 : Hp → Prop), ds[i]? = some d → Same H1 H → Rel H b d → (∀ y H4, Same H H4 → f d = some y → R y H4) → (∀ H3, Same H H3 → f d = none → R0 H3) →
      g (.ref b) (wipe σ vs) H fun σ2 H2 => wipe σ2 vs = wipe σ vs ∧ tt σ2 H2 fun b H3 => if b = true then te σ2 H3 R else R0 H3)
    (done : ∀ H, Same H1 H → H D = some (.lst (ds.filterMap f)) → Qd H) : LcG (Itl K a) g tt te vs σ H1 D Qd := by
  have hl : as.length = ds.length := Paired.length hp
  refine lc_pure (walk_list (K := K) (a := a) (xs := as.map V.ref)) hD (by rw [List.length_map, hl]; exact hn) (fun i => ds[i]?.bind f) (fun H s => s.seq hs) (fun i x H H' R R0 hi s y h1 h0 => ?_) fun H s e => done H s ?_
  · obtain ⟨rfl, ex⟩ := y
    rw [List.length_map, hl] at hi
    obtain ⟨b, hb, hr⟩ := paired_get2 hp (List.getElem?_eq_getElem hi)
    rw [List.getElem?_map, hb] at ex
    have ex' : V.ref b = x := Option.some.inj ex
    subst ex'
    have e : ds[i]? = some ds[i] := List.getElem?_eq_getElem hi
    exact turn i b ds[i] H' R R0 e s (mono _ _ _ _ s hr) (fun z H4 s4 q => h1 z H4 s4 (by rw [e]; exact q)) fun H3 s3 q => h0 H3 s3 (by rw [e]; exact q)
  · rw [List.length_map, hl] at e
    rw [e]
    congr 2
    have gen : ∀ ds : List α, (List.range ds.length).filterMap (fun i => ds[i]?.bind f) = ds.filterMap f := by
      intro ds
      induction ds with
      | nil => rfl
      | cons x xs ih =>
        rw [List.length_cons, List.range_succ_eq_map, List.filterMap_cons, List.filterMap_map]
        have e : ((fun i => (x :: xs)[i]?.bind f) ∘ Nat.succ) = fun i => xs[i]?.bind f := by
          funext i
          simp
        rw [e, ih]
        simp [List.filterMap_cons]
    exact gen ds
theorem lc_dataT (mono : ∀ H H' b d, Same H H' → Rel H b d → Rel H' b d) (hD : H1 D = none) (hs : SqT K H1 a (as.map V.ref)) (hp : Paired (Rel H1) as ds) (hn : ds.length ≤ 1000000) (f : α → Option V)
    (turn : ∀ (i : Nat) (b : Addr) (d : α) (H : Hp) (R : V → Hp → Prop) (R0 : Hp → Prop), ds[i]? = some d → Same H1 H → Rel H b d → (∀ y H4, Same H H4 → f d = some y → R y H4) → (∀ H3, Same H H3 → f d = none → R0 H3) →
      g (.ref b) (wipe σ vs) H fun σ2 H2 => wipe σ2 vs = wipe σ vs ∧ tt σ2 H2 fun b H3 => if b = true then te σ2 H3 R else R0 H3)
    (done : ∀ H, Same H1 H → H D = some (.lst (ds.filterMap f)) → Qd H) : LcG (Itt K a) g tt te vs σ H1 D Qd := by
  have hl : as.length = ds.length := Paired.length hp
  refine lc_pure (walk_tup (K := K) (a := a) (xs := as.map V.ref)) hD (by rw [List.length_map, hl]; exact hn) (fun i => ds[i]?.bind f) (fun H s => same_seqT s hs) (fun i x H H' R R0 hi s y h1 h0 => ?_) fun H s e => done H s ?_
  · obtain ⟨rfl, ex⟩ := y
    rw [List.length_map, hl] at hi
    obtain ⟨b, hb, hr⟩ := paired_get2 hp (List.getElem?_eq_getElem hi)
    rw [List.getElem?_map, hb] at ex
    have ex' : V.ref b = x := Option.some.inj ex
    subst ex'
    have e : ds[i]? = some ds[i] := List.getElem?_eq_getElem hi
    exact turn i b ds[i] H' R R0 e s (mono _ _ _ _ s hr) (fun z H4 s4 q => h1 z H4 s4 (by rw [e]; exact q)) fun H3 s3 q => h0 H3 s3 (by rw [e]; exact q)
  · rw [List.length_map, hl] at e
    rw [e]
    congr 2
    have gen : ∀ ds : List α, (List.range ds.length).filterMap (fun i => ds[i]?.bind f) = ds.filterMap f := by
      intro ds
      induction ds with
      | nil => rfl
      | cons x xs ih =>
        rw [List.length_cons, List.range_succ_eq_map, List.filterMap_cons, List.filterMap_map]
        have e : ((fun i => (x :: xs)[i]?.bind f) ∘ Nat.succ) = fun i => xs[i]?.bind f := by
          funext i
          simp
        rw [e, ih]
        simp [List.filterMap_cons]
    exact gen ds
end
/-- what a comprehension gathers, by turns -/
theorem ac_it {J : It} {n : Nat} {G : Hp → Prop} {Y : Nat → Hp → V → Hp → Prop} (w : Walk J n G Y) {g : TG} {tt : TT} {ta : Addr → St → Hp → (Hp → Prop) → Prop} {o0 : Addr → HO} {vs : List Nat} {σ : St} {H1 : Hp} {D : Addr} {Qd : Hp → Prop} (Pv : Nat → Hp → Prop) (h0 : Pv 0 (upd H1 D (o0 D))) (hG : ∀ i H, i ≤ n → Pv i H → G H)
    (hs : ∀ i x H H', i < n → Pv i H → Y i H x H' → g x (wipe σ vs) H' fun σ2 H2 => wipe σ2 vs = wipe σ vs ∧ tt σ2 H2 fun b H3 => if b = true then ta D σ2 H3 (Pv (i + 1)) else Pv (i + 1) H3) (hd : ∀ H, Pv n H → Qd H) : AcG J g tt ta o0 vs σ H1 D Qd := by
  refine ⟨fun i m H => m = n - i ∧ i ≤ n ∧ Pv i H, ⟨n, by simp, Nat.zero_le _, h0⟩, ?_⟩
  rintro i m H ⟨rfl, hi, p⟩
  have q := hG i H hi p
  by_cases hlt : i < n
  · exact .inr ⟨w.goes i H hlt q, Pv (i + 1), fun H' p' => ⟨n - (i + 1), by omega, rfl, hlt, p'⟩, fun x H' y => hs i x H H' hlt p (w.yields i H x H' hlt q y)⟩
  · have e : i = n := by omega
    subst e
    exact .inl ⟨w.stops H q, hd H p⟩
theorem sck_eq {P : Program} {w : World} {wi : TI} {g : TG} {tt : TT} {te : TE} {vs : List Nat} {σ : St} {H : Hp} {Q : VK} : tScK P w wi g tt te vs σ H Q = wi σ H (fun J H1 => ∀ D, H1 D = none → AcG J g tt (taK P w te) (fun D => SetK P w D (fun _ => false) 0) vs σ H1 D (fun H => Q (.ref D) H)) := rfl
theorem dct_eq {wi : TI} {g : TG} {tt : TT} {tk tv : TE} {vs : List Nat} {σ : St} {H : Hp} {Q : VK} : tDcT wi g tt tk tv vs σ H Q = wi σ H (fun J H1 => ∀ D, H1 D = none → AcG J g tt (taT tk tv) (fun _ => .dT []) vs σ H1 D (fun H => Q (.ref D) H)) := rfl
/-- all true: what all([..]) asks -/
theorem fm_true {α : Type} (ds : List α) : ds.filterMap (fun _ => some (V.bl true)) = (List.replicate ds.length true).map V.bl := by
  induction ds with
  | nil => rfl
  | cons d ds ih =>
    rw [List.filterMap_cons, ih]
    rfl
theorem all_t {K : PySem.W.Frag} {H : Hp} {Q : VK} {D : Addr} {n : Nat} (h : H D = some (.lst ((List.replicate n true).map V.bl))) (q : Q (.bl true) H) : rAll K [.ref D] H Q := by
  refine ⟨D, _, rfl, SqL.of h, ?_⟩
  rw [all_rep]
  exact q
theorem fm_bools {α : Type} (f : α → Bool) (ds : List α) : ds.filterMap (fun d => some (V.bl (f d))) = (ds.map f).map V.bl := by
  induction ds with
  | nil => rfl
  | cons d ds ih =>
    rw [List.filterMap_cons, ih]
    rfl
end Mk
/-! basics.py: is_name, is_number, is_one_of, part_of -/
namespace Mk
open PySem PySem.Spec L2 He
local macro_rules | `(tactic| walk_at "rdu0") => `(tactic| dsimp only [tSeq, tNext, tRet, tRetN, tAsg, tDrop, tIfS, tOr, tAnd, tNot, tB, tTest, tCB, tCons, tNil, tVar, tC, tOp, tUn, tOrV, tAndV, tNotV, tIf, tChain, tCall, tTup, tLst, gName, L2.start, dl_map, dl_map0, dl_app, dl_app0, List.length_cons, List.length_nil, List.replicate, List.set, Nat.reduceAdd, Nat.reduceSub, tLc_eq, tFor_eq, sck_eq, dct_eq, tPar, gCons, gNil, iList, iTup, iRng1, iStr, wipe, tYes, tSl, tPart, tNoPart, tFld, tMeth, tMake])
local macro_rules | `(tactic| walk_at "lk0") => `(tactic| first | assumption | (with_reducible exact upd_same) | ((with_reducible apply keep); rotate_left; (focus assumption); walk_at "lk0") | ((with_reducible apply kp); (focus assumption); walk_at "lk0"))
local macro_rules | `(tactic| walk_at "sm0") => `(tactic| first | exact Same.refl _ | assumption | (refine same_upd2 ?_ (by assumption); walk_at "sm0") | (refine same_upd ?_ (by assumption); walk_at "sm0") | (refine Same.trans ?_ (by assumption); walk_at "sm0"))
local macro_rules | `(tactic| walk_at "rd10") => `(tactic| first
  | ((with_reducible apply req_ss))
  | ((with_reducible apply req_ii))
  | ((with_reducible apply req_bb))
  | ((with_reducible apply rne_ss))
  | ((with_reducible apply rne_ii))
  | ((with_reducible apply cm_l); (focus omega); (focus omega))
  | ((with_reducible apply cm_r); (focus omega); (focus omega))
  | ((with_reducible apply cd_i); (focus omega); (focus omega))
  | ((with_reducible apply md_i); (focus omega))
  | refine ⟨_, rfl, ?_⟩
  | refine ⟨_, _, rfl, rfl, ?_⟩
  | ((with_reducible apply gcons_t))
  | ((with_reducible apply gpar_t))
  | ((with_reducible apply gpar3_t))
  | refine ⟨rfl, ?_⟩
  | ((with_reducible apply iteT))
  | ((with_reducible apply iteF))
  | ((with_reducible apply ri_ii))
  | ((with_reducible apply ri_ib))
  | ((with_reducible apply ri_ss))
  | ((with_reducible apply ri_bb))
  | ((with_reducible apply ri_tt); (focus (walk_at "lk0")))
  | ((with_reducible apply ri_ll); (focus (walk_at "lk0")))
  | ((with_reducible apply ri_dd); (focus (walk_at "lk0")))
  | ((with_reducible apply rt_l); (focus (walk_at "lk0")); (focus (walk_at "lk0")))
  | ((with_reducible apply rt_t); (focus (walk_at "lk0")); (focus (walk_at "lk0")))
  | ((with_reducible apply rix_t); (focus (walk_at "lk0")); (focus with_unfolding_all rfl))
  | ((with_reducible apply rix_l); (focus (walk_at "lk0")); (focus with_unfolding_all rfl))
  | ((with_reducible apply rlen_t); (focus (walk_at "lk0")); (focus first | (simp only [List.length_cons, List.length_nil]; done) | (simp only [List.length_cons, List.length_nil]; with_unfolding_all rfl) | with_unfolding_all rfl))
  | ((with_reducible apply rlen_l); (focus (walk_at "lk0")); (focus first | (simp only [List.length_cons, List.length_nil]; done) | (simp only [List.length_cons, List.length_nil]; with_unfolding_all rfl) | with_unfolding_all rfl))
  | ((with_reducible apply rin_t); (focus (walk_at "lk0")); (focus with_unfolding_all rfl))
  | ((with_reducible apply rnin_t); (focus (walk_at "lk0")); (focus with_unfolding_all rfl))
  | ((with_reducible apply rsl_t); (focus (walk_at "lk0")); (focus with_unfolding_all rfl); (focus first | (simp [cutV, HT.sIx]; done) | (simp [cutV, HT.sIx]; rfl)); intro _ _)
  | ((with_reducible apply rin_l); (focus (walk_at "lk0")))
  | ((with_reducible apply rnin_l); (focus (walk_at "lk0")))
  | ((with_reducible apply gtup_t); (focus (walk_at "lk0")); (focus with_unfolding_all rfl); walk_at "rdu0")
  | ((with_reducible apply alc); (focus decide); intro _ _)
  | ((with_reducible apply itenT))
  | ((with_reducible apply itenF))
  | ((with_reducible apply ited_sT); (focus first | rfl | assumption))
  | ((with_reducible apply ited_sF); (focus first | assumption | decide +kernel))
  | ((with_reducible apply itedn_sT); (focus first | assumption | decide +kernel))
  | ((with_reducible apply itedn_sF); (focus first | rfl | assumption))
  | ((with_reducible apply ited_mT); (focus first | assumption | decide +kernel))
  | ((with_reducible apply ited_mF); (focus first | assumption | decide +kernel))
  | ((with_reducible apply itedn_mT); (focus first | assumption | decide +kernel))
  | ((with_reducible apply itedn_mF); (focus first | assumption | decide +kernel))
  | ((with_reducible apply ited_s) <;> intro _)
  | ((with_reducible apply itedn_s) <;> intro _)
  | ((with_reducible apply ited_m) <;> intro _)
  | ((with_reducible apply itedn_m) <;> intro _)
  | ((with_reducible apply itedT); (focus first | assumption | omega))
  | ((with_reducible apply itedF); (focus first | assumption | omega))
  | ((with_reducible apply itednF); (focus first | assumption | omega))
  | ((with_reducible apply itednT); (focus first | assumption | omega))
  | ((with_reducible apply ited) <;> intro _)
  | ((with_reducible apply itedn) <;> intro _)
  | ((with_reducible apply itebn) <;> intro _)
  | ((with_reducible apply iteb) <;> intro _)
  | walk_at "rdu0"
  | contradiction)
local macro_rules | `(tactic| walk_at "rd0") => `(tactic| (try walk_at "rdu0"); repeat' walk_at "rd10")
def isNum (i a : Int) (m : Option Int) : Bool := decide (a ≤ i) && (match m with | none => true | some b => decide (i ≤ b))
def oV : Option Int → V
  | none => .non
  | some i => .int i
def spNum : Sp := fun vs H Q _ => ∃ (i a : Int) (m : Option Int), vs = [.int i, .int a, oV m] ∧ Q (.bl (isNum i a m)) H
def lettersS : Str := "abcdefghijklmnopqrstuvwxyz"
def nameB (z : Str) : Bool := decide (1 ≤ z.length) && (decide (z.length ≤ 8) && z.cps.toList.all fun c => decide (c ∈ lettersS.cps.toList))
theorem nameB_iff {z : Str} : nameB z = true ↔ 1 ≤ z.length ∧ z.length ≤ 8 ∧ ∀ c ∈ z.cps.toList, c ∈ lettersS.cps.toList := by
  unfold nameB
  simp only [Bool.and_eq_true, decide_eq_true_eq, List.all_eq_true]
def spName : Sp := fun vs H Q _ => ∃ (z : Str), vs = [.str z] ∧ nameB z = true ∧ ∀ H', Same H H' → Q (.bl true) H'
def spOne (K : PySem.W.Frag) : Sp := fun vs H Q _ => ∃ (z : Str) (p : Addr) (ss : List Str), vs = [.str z, .ref p] ∧ (SqL K H p (ss.map V.str) ∨ SqT K H p (ss.map V.str)) ∧ Q (.bl (decide (z ∈ ss))) H
def spPart : Sp := fun vs H Q _ => ∃ (a b c : Int), vs = [.int a, .int b, .int c] ∧ CMul a b ∧ CDiv (a * b) c ∧ Q (.int (a * b / c)) H
section
variable {P : Program} {w : World} {K : PySem.W.Frag} {mg : Str → Option Value} {base : Heap}
theorem ok_is_number (T : Tx w K mg) : ∃ fd, FunD K "is_number" "is_number" (defArgs s_is_number) (defBody s_is_number) (defScope s_is_number) [V.non] [] (ga K "is_number") fd ∧ FnOk P w K mg base CX0 1 (ga K "is_number") fd ps_is_number spNum := by
  obtain ⟨fd, F⟩ := T.d_is_number
  refine ⟨fd, F, F.ok sc_is_number (fun vs H Q E h => ?_) (fun cdv A outer s H vs Q E hr h => ?_)⟩
  · obtain ⟨i, a, m, rfl, _⟩ := h
    rfl
  · refine ⟨_, PSs.nox (pss_cons (ps_if (PW.pt (pw_or (pt_not (pt_val (pe_callB (call_isiA (K := K) (by rfl)) (by rfl) T.b_isinstance bt_isinstance (pa_cons (pv 0) (pa_cons (pe_ty T.b_int bt_int) pa_nil))))) (pw_or (pt_val (pe_callB (call_isiA (K := K) (by rfl)) (by rfl) T.b_isinstance bt_isinstance (pa_cons (pv 0) (pa_cons (pe_ty T.b_bool bt_bool) pa_nil)))) (pw_or1 (pt_cmpR op_lt (pv 0) (pv 1) (nomark _)))))) (pss_one (ps_ret pe_bl)) pss_nil)
      (pss_one (ps_ret (pe_or (pe_cmpR op_isN (pv 2) pe_non (nomark _)) (pe_one (pe_cmpR op_le (pv 0) (pv 2) (nomark _))))))), ?_⟩
    obtain ⟨i, a, m, rfl, k⟩ := h
    cases m with
    | none =>
      walk_at "rd0"
      · exact qb k (by simp [isNum]; omega)
      · exact qb k (by simp [isNum]; omega)
    | some b =>
      walk_at "rd0"
      · exact qb k (by simp [isNum]; omega)
      · exact qb k (by simp [isNum]; omega)
theorem f_is_number3 (T : Tx w K mg) : Fok P w K mg base CX0 "is_number" ps_is_number [] 1 spNum := by
  obtain ⟨fd, F, G⟩ := ok_is_number (P := P) (base := base) T
  obtain ⟨ds, v, b⟩ := F.binds1 (ps := ps_is_number) 3 1 (by simp) rfl (fun T kV doc pm an cdv ct us its hl hl2 => match us, hl, its, hl2 with | [_, _, _], _, [_], _ => ⟨_, rfl, rfl⟩)
  exact ⟨⟨fd, ds, G, b, v⟩, F.kp, T.g_is_number⟩
theorem f_is_number2 (T : Tx w K mg) : Fok P w K mg base CX0 "is_number" ps_is_number [.non] 1 spNum := by
  obtain ⟨fd, F, G⟩ := ok_is_number (P := P) (base := base) T
  obtain ⟨ds, v, b⟩ := F.binds1 (ps := ps_is_number) 2 0 (by simp) rfl (fun T kV doc pm an cdv ct us its hl hl2 => match us, hl, its, hl2 with | [_, _], _, [_], _ => ⟨_, rfl, rfl⟩)
  exact ⟨⟨fd, ds, G, b, v⟩, F.kp, T.g_is_number⟩
theorem ok_part_of (T : Tx w K mg) : ∃ fd, FunD K "part_of" "part_of" (defArgs s_part_of) (defBody s_part_of) (defScope s_part_of) [V.int 10000] [] (ga K "part_of") fd ∧ FnOk P w K mg base CX0 1 (ga K "part_of") fd ps_part_of spPart := by
  obtain ⟨fd, F⟩ := T.d_part_of
  refine ⟨fd, F, F.ok sc_part_of (fun vs H Q E h => ?_) (fun cdv A outer s H vs Q E hr h => ?_)⟩
  · obtain ⟨a, b, c, rfl, _⟩ := h
    rfl
  · refine ⟨_, PSs.nox (pss_one (ps_ret (pe_op op_fdiv (pe_op op_mul (pv 0) (pv 1)) (pv 2)))), ?_⟩
    obtain ⟨a, b, c, rfl, h1, h2, k⟩ := h
    walk_at "rdu0"
    exact ⟨_, rfl, _, rfl, _, _, rfl, rfl, h1, _, rfl, _, _, rfl, rfl, h2, k⟩
theorem f_part_of3 (T : Tx w K mg) : Fok P w K mg base CX0 "part_of" ps_part_of [] 1 spPart := by
  obtain ⟨fd, F, G⟩ := ok_part_of (P := P) (base := base) T
  obtain ⟨ds, v, b⟩ := F.binds1 (ps := ps_part_of) 3 1 (by simp) rfl (fun T kV doc pm an cdv ct us its hl hl2 => match us, hl, its, hl2 with | [_, _, _], _, [_], _ => ⟨_, rfl, rfl⟩)
  exact ⟨⟨fd, ds, G, b, v⟩, F.kp, T.g_part_of⟩
theorem f_part_of2 (T : Tx w K mg) : Fok P w K mg base CX0 "part_of" ps_part_of [.int 10000] 1 spPart := by
  obtain ⟨fd, F, G⟩ := ok_part_of (P := P) (base := base) T
  obtain ⟨ds, v, b⟩ := F.binds1 (ps := ps_part_of) 2 0 (by simp) rfl (fun T kV doc pm an cdv ct us its hl hl2 => match us, hl, its, hl2 with | [_, _], _, [_], _ => ⟨_, rfl, rfl⟩)
  exact ⟨⟨fd, ds, G, b, v⟩, F.kp, T.g_part_of⟩
/-- a def without defaults -/
theorem fok {x : Str} {pa : Arguments} {bd : List Stmt} {sc : Scope} {ps : List Str} {k : Nat} {sp : Sp} {CX : CXT} {fd : FuncData} (F : FunD K x x pa bd sc [] [] (ga K x) fd) (g : mg x = some (.ref (ga K x)))
    (hb : ∀ (kV doc pm : Value) (an : Option Addr) (cdv ct : Value) (us : List Value), us.length = ps.length → bindArgs (PySem.W.fnOf x x pa bd sc .none kV doc pm an cdv ct) ⟨us, []⟩ = pure (ps.zip us))
    (G : FnOk P w K mg base CX k (ga K x) fd ps sp) : Fok P w K mg base CX x ps [] k sp := ⟨⟨fd, [], G, F.bindsN hb, .nil⟩, F.kp, g⟩
theorem inV_str {z : Str} : ∀ {ss : List Str}, inV (.str z) (ss.map V.str) = decide (z ∈ ss)
  | [] => by simp [inV]
  | s :: ss => by
    have ih := inV_str (z := z) (ss := ss)
    unfold inV at ih ⊢
    rw [List.map_cons, List.any_cons, ih]
    by_cases e : s = z
    · subst e
      simp [eqV]
    · have e' : ¬ z = s := fun q => e q.symm
      simp [eqV, e, e']
theorem flat_strs (ss : List Str) : (ss.map V.str).all flatV = true := by
  rw [List.all_eq_true]
  intro x hx
  obtain ⟨s, _, rfl⟩ := List.mem_map.mp hx
  rfl
theorem f_is_one_of (T : Tx w K mg) : Fok P w K mg base CX0 "is_one_of" ps_is_one_of [] 1 (spOne K) := by
  obtain ⟨fd, F⟩ := T.d_is_one_of
  refine fok F T.g_is_one_of (fun _ _ _ _ _ _ us hl => match us, hl with | [_, _], _ => rfl) (F.ok sc_is_one_of (fun vs H Q E h => ?_) (fun cdv A outer s H vs Q E hr h => ?_))
  · obtain ⟨z, p, ss, rfl, _⟩ := h
    rfl
  · refine ⟨_, PSs.nox (pss_one (ps_ret (pe_and (pe_callB (call_isiA (K := K) (by rfl)) (by rfl) T.b_isinstance bt_isinstance (pa_cons (pv 0) (pa_cons (pe_ty T.b_str bt_str) pa_nil))) (pe_one (pe_cmpR (op_inK (K := K) (by rfl)) (pv 0) (pv 1) rfl))))), ?_⟩
    obtain ⟨z, p, ss, rfl, hp, k⟩ := h
    walk_at "rd0"
    refine ⟨p, _, rfl, hp, rfl, flat_strs ss, ?_⟩
    rw [if_neg (by decide), inV_str]
    exact k
theorem f_is_name (T : Tx w K mg) : Fok P w K mg base CX0 "is_name" ps_is_name [] 1 spName := by
  obtain ⟨fd, F⟩ := T.d_is_name
  refine fok F T.g_is_name (fun _ _ _ _ _ _ us hl => match us, hl with | [_], _ => rfl) (F.ok sc_is_name (fun vs H Q E h => ?_) (fun cdv A outer s H vs Q E hr h => ?_))
  · obtain ⟨z, rfl, _⟩ := h
    rfl
  · refine ⟨_, PSs.nox (pss_cons (ps_if (PW.pt (pw_or (pt_not (pt_val (pe_callB (call_isiA (K := K) (by rfl)) (by rfl) T.b_isinstance bt_isinstance (pa_cons (pv 0) (pa_cons (pe_ty T.b_str bt_str) pa_nil))))) (pw_or1 (pt_not (pt_chain op_le op_le pe_int (pe_callB call_len_str (by rfl) T.b_len bt_len (pa_cons (pv 0) pa_nil)) (pe_gi T.i_LONGEST)))))) (pss_one (ps_ret pe_bl)) pss_nil)
      (pss_one (ps_ret (pe_callB (cr_allK (K := K) (by rfl) rfl) (by rfl) T.b_all bt_all (pa_cons (pe_lc (own := [("sign", 1)])  (by rfl) sc_is_name.nd (by exact (pi_str (pv 0))) (blkOk_by (own := [("sign", 1)]) (N := ns_is_name) (sc := defScope s_is_name) (by decide +kernel)) (fun _ _ _ _ _ => (pg_name (i := 1) sc_is_name.nd rfl (Or.inl rfl))) (fun _ _ _ _ _ => pts_nil) (fun _ _ _ _ _ => (pe_cmpR op_in_sign (pv 1) (pe_gs T.s_LETTERS) rfl))) pa_nil))))), ?_⟩
    obtain ⟨z, rfl, hz, k⟩ := h
    obtain ⟨h1, h2, h3⟩ := nameB_iff.mp hz
    have hl : z.length ≤ sizeLine := Nat.le_trans h2 (by decide)
    walk_at "rd0"
    refine ⟨hl, ?_⟩
    walk_at "rd0"
    intro D hD
    refine lc_pure (walk_str (z := z)) hD (Nat.le_trans h2 (by decide)) (fun _ => some (.bl true)) (fun _ _ => trivial) (fun i x H1 H2 R R0 hi s y hr h0 => ?_) (fun H1 s e => ?_)
    · obtain ⟨rfl, c, hc, rfl⟩ := y
      walk_at "rd0"
      refine hr _ _ (Same.refl _) ?_
      have q := h3 c (List.mem_of_getElem? (by rw [← Array.getElem?_toList] at hc; exact hc))
      exact congrArg (fun b => some (V.bl b)) (decide_eq_true q).symm
    · refine ⟨D, List.replicate z.cps.size true, rfl, SqL.of ?_, ?_⟩
      · rw [e, range_true]
      · rw [all_rep]
        exact k _ s
end
section
variable {K : PySem.W.Frag} {H : Hp} {Q : VK} {E : XK} {i a b c : Int} {z : Str} {p : Addr} {xs : List V} {ss : List Str}
theorem num2 (q : Q (.bl (decide (a ≤ i))) H) : spNum [.int i, .int a, .non] H Q E := ⟨i, a, none, rfl, qb q (by simp [isNum])⟩
theorem num3 (q : Q (.bl (decide (a ≤ i ∧ i ≤ b))) H) : spNum [.int i, .int a, .int b] H Q E := ⟨i, a, some b, rfl, qb q (by simp [isNum])⟩
theorem name1 (h : nameB z = true) (k : ∀ H', Same H H' → Q (.bl true) H') : spName [.str z] H Q E := ⟨z, rfl, h, k⟩
theorem one_m (h : SqL K H p (ss.map V.str) ∨ SqT K H p (ss.map V.str)) (q : Q (.bl (decide (z ∈ ss))) H) : spOne K [.str z, .ref p] H Q E := ⟨z, p, ss, rfl, h, q⟩
theorem one_s (h : SqL K H p xs ∨ SqT K H p xs) (e : xs = (strsOf xs).map V.str) (q : Q (.bl (decide (z ∈ strsOf xs))) H) : spOne K [.str z, .ref p] H Q E := ⟨z, p, strsOf xs, rfl, e ▸ h, q⟩
theorem part1 (q : CMul a b ∧ CDiv (a * b) c ∧ Q (.int (a * b / c)) H) : spPart [.int a, .int b, .int c] H Q E := ⟨a, b, c, rfl, q.1, q.2.1, q.2.2⟩
theorem sq2_same {H' : Hp} (s : Same H H') (h : SqL K H p xs ∨ SqT K H p xs) : SqL K H' p xs ∨ SqT K H' p xs := h.imp (fun x => s.seq x) fun x => same_seqT s x
end
end Mk
/-! rules.py: is_levy, is_said, is_rule, are_rules, verdict; basics.py: are_names -/
namespace Mk
open PySem PySem.Spec L2 He
local macro_rules | `(tactic| walk_at "rdu") => `(tactic| dsimp only [tSeq, tNext, tRet, tRetN, tAsg, tDrop, tIfS, tOr, tAnd, tNot, tB, tTest, tCB, tCons, tNil, tVar, tC, tOp, tUn, tOrV, tAndV, tNotV, tIf, tChain, tCall, tTup, tLst, gName, L2.start, dl_map, dl_map0, dl_app, dl_app0, List.length_cons, List.length_nil, List.replicate, List.set, Nat.reduceAdd, Nat.reduceSub, tLc_eq, tFor_eq, sck_eq, dct_eq, tPar, gCons, gNil, iList, iTup, iRng1, iStr, wipe, tYes, tSl, tPart, tNoPart, tFld, tMeth, tMake])
local macro_rules | `(tactic| walk_at "lk") => `(tactic| first | assumption | (with_reducible exact upd_same) | ((with_reducible apply keep); rotate_left; (focus assumption); walk_at "lk") | ((with_reducible apply kp); (focus assumption); walk_at "lk"))
local macro_rules | `(tactic| walk_at "lq") => `(tactic| first | assumption | exact .inl (SqL.of (by walk_at "lk")) | exact .inr (SqT.of (by walk_at "lk")) | (refine sq2_same (grow (by assumption)) ?_; walk_at "lq") | (refine sq2_same (by assumption) ?_; walk_at "lq"))
local macro_rules | `(tactic| walk_at "sm") => `(tactic| first | exact Same.refl _ | assumption | (refine same_upd2 ?_ (by assumption); walk_at "sm") | (refine same_upd ?_ (by assumption); walk_at "sm") | (refine Same.trans ?_ (by assumption); walk_at "sm"))
local macro_rules | `(tactic| walk_at "rd1") => `(tactic| first
  | ((with_reducible apply req_ss))
  | ((with_reducible apply req_ii))
  | ((with_reducible apply req_bb))
  | ((with_reducible apply rne_ss))
  | ((with_reducible apply rne_ii))
  | ((with_reducible apply cm_l); (focus omega); (focus omega))
  | ((with_reducible apply cm_r); (focus omega); (focus omega))
  | ((with_reducible apply cd_i); (focus omega); (focus omega))
  | ((with_reducible apply md_i); (focus omega))
  | ((with_reducible apply part1))
  | ((with_reducible apply num2))
  | ((with_reducible apply num3))
  | ((with_reducible apply name1); (focus first | assumption | decide +kernel); intro _ _)
  | ((with_reducible apply one_m); (focus (walk_at "lq")))
  | ((with_reducible apply one_s); (focus (walk_at "lq")); (focus with_unfolding_all rfl))
  | refine ⟨_, rfl, ?_⟩
  | refine ⟨_, _, rfl, rfl, ?_⟩
  | ((with_reducible apply gcons_t))
  | ((with_reducible apply gpar_t))
  | ((with_reducible apply gpar3_t))
  | refine ⟨rfl, ?_⟩
  | ((with_reducible apply iteT))
  | ((with_reducible apply iteF))
  | ((with_reducible apply ri_ii))
  | ((with_reducible apply ri_ib))
  | ((with_reducible apply ri_ss))
  | ((with_reducible apply ri_bb))
  | ((with_reducible apply ri_tt); (focus (walk_at "lk")))
  | ((with_reducible apply ri_ll); (focus (walk_at "lk")))
  | ((with_reducible apply ri_dd); (focus (walk_at "lk")))
  | ((with_reducible apply rt_l); (focus (walk_at "lk")); (focus (walk_at "lk")))
  | ((with_reducible apply rt_t); (focus (walk_at "lk")); (focus (walk_at "lk")))
  | ((with_reducible apply rix_t); (focus (walk_at "lk")); (focus with_unfolding_all rfl))
  | ((with_reducible apply rix_l); (focus (walk_at "lk")); (focus with_unfolding_all rfl))
  | ((with_reducible apply rlen_t); (focus (walk_at "lk")); (focus first | (simp only [List.length_cons, List.length_nil]; done) | (simp only [List.length_cons, List.length_nil]; with_unfolding_all rfl) | with_unfolding_all rfl))
  | ((with_reducible apply rlen_l); (focus (walk_at "lk")); (focus first | (simp only [List.length_cons, List.length_nil]; done) | (simp only [List.length_cons, List.length_nil]; with_unfolding_all rfl) | with_unfolding_all rfl))
  | ((with_reducible apply rin_t); (focus (walk_at "lk")); (focus with_unfolding_all rfl))
  | ((with_reducible apply rnin_t); (focus (walk_at "lk")); (focus with_unfolding_all rfl))
  | ((with_reducible apply rsl_t); (focus (walk_at "lk")); (focus with_unfolding_all rfl); (focus first | (simp [cutV, HT.sIx]; done) | (simp [cutV, HT.sIx]; rfl)); intro _ _)
  | ((with_reducible apply rin_l); (focus (walk_at "lk")))
  | ((with_reducible apply rnin_l); (focus (walk_at "lk")))
  | ((with_reducible apply gtup_t); (focus (walk_at "lk")); (focus with_unfolding_all rfl); walk_at "rdu")
  | ((with_reducible apply alc); (focus decide); intro _ _)
  | ((with_reducible apply itenT))
  | ((with_reducible apply itenF))
  | ((with_reducible apply ited_sT); (focus first | rfl | assumption))
  | ((with_reducible apply ited_sF); (focus first | assumption | decide +kernel))
  | ((with_reducible apply itedn_sT); (focus first | assumption | decide +kernel))
  | ((with_reducible apply itedn_sF); (focus first | rfl | assumption))
  | ((with_reducible apply ited_mT); (focus first | assumption | decide +kernel))
  | ((with_reducible apply ited_mF); (focus first | assumption | decide +kernel))
  | ((with_reducible apply itedn_mT); (focus first | assumption | decide +kernel))
  | ((with_reducible apply itedn_mF); (focus first | assumption | decide +kernel))
  | ((with_reducible apply ited_s) <;> intro _)
  | ((with_reducible apply itedn_s) <;> intro _)
  | ((with_reducible apply ited_m) <;> intro _)
  | ((with_reducible apply itedn_m) <;> intro _)
  | ((with_reducible apply itedT); (focus first | assumption | omega))
  | ((with_reducible apply itedF); (focus first | assumption | omega))
  | ((with_reducible apply itednF); (focus first | assumption | omega))
  | ((with_reducible apply itednT); (focus first | assumption | omega))
  | ((with_reducible apply ited) <;> intro _)
  | ((with_reducible apply itedn) <;> intro _)
  | ((with_reducible apply itebn) <;> intro _)
  | ((with_reducible apply iteb) <;> intro _)
  | walk_at "rdu"
  | contradiction)
local macro_rules | `(tactic| walk_at "rd") => `(tactic| (try walk_at "rdu"); repeat' walk_at "rd1")
def Due.good (ls ks : List Str) (d : Due) : Prop := d.land ∈ ls ∧ d.kind ∈ ks ∧ 0 ≤ d.beg ∧ 0 ≤ d.rate ∧ d.rate ≤ 5000
def spLevy (K : PySem.W.Frag) : Sp := fun vs H Q _ => ∃ (p l k : Addr) (d : Due) (ls ks : List Str), vs = [.ref p, .ref l, .ref k] ∧ H p = some (.tup d.vs) ∧ (SqL K H l (ls.map V.str) ∨ SqT K H l (ls.map V.str)) ∧ (SqL K H k (ks.map V.str) ∨ SqT K H k (ks.map V.str)) ∧ d.good ls ks ∧ Q (.bl true) H
section
variable {P : Program} {w : World} {K : PySem.W.Frag} {mg : Str → Option Value} {base : Heap}
theorem isNum_t {i a : Int} {m : Option Int} (h1 : a ≤ i) (h2 : ∀ b, m = some b → i ≤ b) : isNum i a m = true := by
  unfold isNum
  cases m with
  | none => simp [h1]
  | some b => simp [h1, h2 b rfl]
theorem f_is_levy (T : Tx w K mg) : Fok P w K mg base CX0 "is_levy" ps_is_levy [] 2 (spLevy K) := by
  obtain ⟨fd, F⟩ := T.d_is_levy
  have G_is_one_of := f_is_one_of (P := P) (base := base) T
  have G_is_number2 := f_is_number2 (P := P) (base := base) T
  have G_is_number3 := f_is_number3 (P := P) (base := base) T
  refine fok F T.g_is_levy (fun _ _ _ _ _ _ us hl => match us, hl with | [_, _, _], _ => rfl) (F.ok sc_is_levy (fun vs H Q E h => ?_) (fun cdv A outer s H vs Q E hr h => ?_))
  · obtain ⟨p, l, k, d, ls, ks, rfl, _⟩ := h
    rfl
  · refine ⟨_, PSs.nox (pss_cons (ps_if (PW.pt (pw_or (pt_not (pt_val (pe_callB (call_isiA (K := K) (by rfl)) (by rfl) T.b_isinstance bt_isinstance (pa_cons (pv 0) (pa_cons (pe_ty T.b_tuple bt_tuple) pa_nil))))) (pw_or (pt_cmpR op_ne (pe_callB (call_lenA (K := K) (by rfl)) (by rfl) T.b_len bt_len (pa_cons (pv 0) pa_nil)) pe_int (nomark _)) (pw_or1 (pt_not (pt_val (pe_fn G_is_one_of (hr.mono (by decide)) pass0 (pa_cons (pe_ix (ix_tupK (K := K) (by rfl)) (pv 0) pe_int (fun _ _ => rfl)) (pa_cons (pv 1) pa_nil))))))))) (pss_one (ps_ret pe_bl)) pss_nil)
      (pss_one (ps_ret (pe_and (pe_fn G_is_one_of (hr.mono (by decide)) pass0 (pa_cons (pe_ix (ix_tupK (K := K) (by rfl)) (pv 0) pe_int (fun _ _ => rfl)) (pa_cons (pv 2) pa_nil))) (pe_and (pe_fn G_is_number2 (hr.mono (by decide)) pass0 (pa_cons (pe_ix (ix_tupK (K := K) (by rfl)) (pv 0) pe_int (fun _ _ => rfl)) (pa_cons pe_int pa_nil))) (pe_one (pe_fn G_is_number3 (hr.mono (by decide)) pass0 (pa_cons (pe_ix (ix_tupK (K := K) (by rfl)) (pv 0) pe_int (fun _ _ => rfl)) (pa_cons pe_int (pa_cons (pe_gi T.i_MOST_RATE_basics) pa_nil)))))))))), ?_⟩
    obtain ⟨p, l, k, d, ls, ks, rfl, hp, hl, hk, ⟨g1, g2, g3, g4, g5⟩, q⟩ := h
    dsimp only [Due.vs] at hp
    walk_at "rd"
    exact qb q (by simp; omega)
/-! ### is_said -/
def pairGood (p : SS) : Prop := (p.1 = "buyer" ∨ p.1 = "seller") ∧ nameB p.2 = true
def spSaid : Sp := fun vs H Q _ => ∃ (p : Addr) (d : SS), vs = [.ref p] ∧ H p = some (.tup (pairV d)) ∧ pairGood d ∧ ∀ H', Same H H' → Q (.bl true) H'
theorem f_is_said (T : Tx w K mg) : Fok P w K mg base CX0 "is_said" ps_is_said [] 2 spSaid := by
  obtain ⟨fd, F⟩ := T.d_is_said
  have G_is_one_of := f_is_one_of (P := P) (base := base) T
  have G_is_name := f_is_name (P := P) (base := base) T
  refine fok F T.g_is_said (fun _ _ _ _ _ _ us hl => match us, hl with | [_], _ => rfl) (F.ok sc_is_said (fun vs H Q E h => ?_) (fun cdv A outer s H vs Q E hr h => ?_))
  · obtain ⟨p, d, rfl, _⟩ := h
    rfl
  · refine ⟨_, PSs.nox (pss_one (ps_ret (pe_and (pe_callB (call_isiA (K := K) (by rfl)) (by rfl) T.b_isinstance bt_isinstance (pa_cons (pv 0) (pa_cons (pe_ty T.b_tuple bt_tuple) pa_nil))) (pe_and (pe_cmpR op_eq (pe_callB (call_lenA (K := K) (by rfl)) (by rfl) T.b_len bt_len (pa_cons (pv 0) pa_nil)) pe_int (nomark _)) (pe_and (pe_fn G_is_one_of (hr.mono (by decide)) pass0 (pa_cons (pe_ix (ix_tupK (K := K) (by rfl)) (pv 0) pe_int (fun _ _ => rfl)) (pa_cons (pe_ga T.g_SIDES) pa_nil))) (pe_one (pe_fn G_is_name (hr.mono (by decide)) pass0 (pa_cons (pe_ix (ix_tupK (K := K) (by rfl)) (pv 0) pe_int (fun _ _ => rfl)) pa_nil)))))))), ?_⟩
    obtain ⟨p, d, rfl, hp, ⟨g1, g2⟩, q⟩ := h
    dsimp only [pairV] at hp
    walk_at "rd"
    refine one_s (.inr (T.t_SIDES _)) rfl ?_
    have g3 : d.1 ∈ strsOf [V.str "buyer", V.str "seller"] := by
      show d.1 ∈ ([("buyer" : Str), "seller"] : List Str)
      rcases g1 with e | e <;> simp [e]
    walk_at "rd"
    exact q _ (by walk_at "sm")
/-! ### is_rule -/
def Norm.good (n : Norm) : Prop := nameB n.word = true ∧ n.pairs.length ≤ 3 ∧ (∀ p ∈ n.pairs, pairGood p) ∧ 0 ≤ n.days ∧ n.days ≤ 9 ∧ 0 ≤ n.part ∧ n.part ≤ 100
def spRule : Sp := fun vs H Q _ => ∃ (p : Addr) (n : Norm), vs = [.ref p] ∧ NormAt H p n ∧ n.good ∧ ∀ H', Same H H' → Q (.bl true) H'
theorem f_is_rule (T : Tx w K mg) : Fok P w K mg base CX0 "is_rule" ps_is_rule [] 3 spRule := by
  obtain ⟨fd, F⟩ := T.d_is_rule
  have G_is_said := f_is_said (P := P) (base := base) T
  have G_is_name := f_is_name (P := P) (base := base) T
  have G_is_number3 := f_is_number3 (P := P) (base := base) T
  refine fok F T.g_is_rule (fun _ _ _ _ _ _ us hl => match us, hl with | [_], _ => rfl) (F.ok sc_is_rule (fun vs H Q E h => ?_) (fun cdv A outer s H vs Q E hr h => ?_))
  · obtain ⟨p, n, rfl, _⟩ := h
    rfl
  · refine ⟨_, PSs.nox (pss_cons (ps_if (PW.pt (pw_or (pt_not (pt_val (pe_callB (call_isiA (K := K) (by rfl)) (by rfl) T.b_isinstance bt_isinstance (pa_cons (pv 0) (pa_cons (pe_ty T.b_tuple bt_tuple) pa_nil))))) (pw_or (pt_cmpR op_ne (pe_callB (call_lenA (K := K) (by rfl)) (by rfl) T.b_len bt_len (pa_cons (pv 0) pa_nil)) pe_int (nomark _)) (pw_or1 (pt_not (pt_val (pe_fn G_is_name (hr.mono (by decide)) pass0 (pa_cons (pe_ix (ix_tupK (K := K) (by rfl)) (pv 0) pe_int (fun _ _ => rfl)) pa_nil)))))))) (pss_one (ps_ret pe_bl)) pss_nil)
      (pss_cons (ps_if (PW.pt (pw_or (pt_not (pt_val (pe_callB (call_isiA (K := K) (by rfl)) (by rfl) T.b_isinstance bt_isinstance (pa_cons (pe_ix (ix_tupK (K := K) (by rfl)) (pv 0) pe_int (fun _ _ => rfl)) (pa_cons (pe_ty T.b_tuple bt_tuple) pa_nil))))) (pw_or (pt_cmpR op_gt (pe_callB (call_lenA (K := K) (by rfl)) (by rfl) T.b_len bt_len (pa_cons (pe_ix (ix_tupK (K := K) (by rfl)) (pv 0) pe_int (fun _ _ => rfl)) pa_nil)) (pe_gi T.i_MOST_SAID) (nomark _)) (pw_or1 (pt_not (pt_val (pe_callB (cr_allK (K := K) (by rfl) rfl) (by rfl) T.b_all bt_all (pa_cons (pe_lc (own := [("one", 1)])  (by rfl) sc_is_rule.nd (by exact (pi_tupK (K := K) (by rfl) (pe_ix (ix_tupK (K := K) (by rfl)) (pv 0) pe_int (fun _ _ => rfl)))) (blkOk_by (own := [("one", 1)]) (N := ns_is_rule) (sc := defScope s_is_rule) (by decide +kernel)) (fun _ _ _ _ _ => (pg_name (i := 1) sc_is_rule.nd rfl (Or.inl rfl))) (fun _ _ _ _ _ => pts_nil) (fun _ _ _ _ _ => (pe_fn G_is_said (hr.mono (by decide)) pass0 (pa_cons (pv 1) pa_nil)))) pa_nil)))))))) (pss_one (ps_ret pe_bl)) pss_nil)
      (pss_one (ps_ret (pe_and (pe_fn G_is_number3 (hr.mono (by decide)) pass0 (pa_cons (pe_ix (ix_tupK (K := K) (by rfl)) (pv 0) pe_int (fun _ _ => rfl)) (pa_cons pe_int (pa_cons (pe_gi T.i_MOST_DAYS_rules) pa_nil)))) (pe_and (pe_fn G_is_number3 (hr.mono (by decide)) pass0 (pa_cons (pe_ix (ix_tupK (K := K) (by rfl)) (pv 0) pe_int (fun _ _ => rfl)) (pa_cons pe_int (pa_cons (pe_gi T.i_WHOLE_PART) pa_nil)))) (pe_one (pe_callB (call_isiA (K := K) (by rfl)) (by rfl) T.b_isinstance bt_isinstance (pa_cons (pe_ix (ix_tupK (K := K) (by rfl)) (pv 0) pe_int (fun _ _ => rfl)) (pa_cons (pe_ty T.b_bool bt_bool) pa_nil)))))))))), ?_⟩
    obtain ⟨p, n, rfl, ⟨pp, bs, hp, hpp, hb⟩, ⟨g1, g2, g3, g4, g5, g6, g7⟩, q⟩ := h
    have hlen : (bs.map V.ref).length ≤ 3 := by rw [List.length_map, paired_len hb]; exact g2
    walk_at "rd"
    rename_i H2 s2
    refine ⟨⟨_, SqT.of (s2 _ _ hpp)⟩, fun D hD => ?_⟩
    refine lc_dataT (Rel := fun H a d => H a = some (.tup (pairV d))) (fun _ _ _ _ s h => s _ _ h) hD (SqT.of (s2 _ _ hpp)) (atT_same s2 hb) (by omega) (fun _ => some (.bl true)) (fun i b d H3 R R0 hi s hrel h1 h0 => ?_) (fun H3 s3 e3 => ?_)
    · walk_at "rd"
      exact ⟨b, d, rfl, hrel, g3 d (List.mem_of_getElem? hi), fun H4 s4 => h1 _ _ s4 rfl⟩
    · rw [fm_true] at e3
      have s5 := s2.trans s3
      refine all_t e3 ?_
      walk_at "rd"
      exact q _ s5
end
end Mk
/-! are_rules, verdict, are_names -/
namespace Mk
open PySem PySem.Spec L2 He
local macro_rules | `(tactic| walk_at "rdu") => `(tactic| dsimp only [tSeq, tNext, tRet, tRetN, tAsg, tDrop, tIfS, tOr, tAnd, tNot, tB, tTest, tCB, tCons, tNil, tVar, tC, tOp, tUn, tOrV, tAndV, tNotV, tIf, tChain, tCall, tTup, tLst, gName, L2.start, dl_map, dl_map0, dl_app, dl_app0, List.length_cons, List.length_nil, List.replicate, List.set, Nat.reduceAdd, Nat.reduceSub, tLc_eq, tFor_eq, sck_eq, dct_eq, tPar, gCons, gNil, iList, iTup, iRng1, iStr, wipe, tYes, tSl, tPart, tNoPart, tFld, tMeth, tMake])
local macro_rules | `(tactic| walk_at "lk") => `(tactic| first | assumption | (with_reducible exact upd_same) | ((with_reducible apply keep); rotate_left; (focus assumption); walk_at "lk") | ((with_reducible apply kp); (focus assumption); walk_at "lk"))
local macro_rules | `(tactic| walk_at "lq") => `(tactic| first | assumption | exact .inl (SqL.of (by walk_at "lk")) | exact .inr (SqT.of (by walk_at "lk")) | (refine sq2_same (grow (by assumption)) ?_; walk_at "lq") | (refine sq2_same (by assumption) ?_; walk_at "lq"))
local macro_rules | `(tactic| walk_at "sm") => `(tactic| first | exact Same.refl _ | assumption | (refine same_upd2 ?_ (by assumption); walk_at "sm") | (refine same_upd ?_ (by assumption); walk_at "sm") | (refine Same.trans ?_ (by assumption); walk_at "sm"))
local macro_rules | `(tactic| walk_at "rd1") => `(tactic| first
  | ((with_reducible apply req_ss))
  | ((with_reducible apply req_ii))
  | ((with_reducible apply req_bb))
  | ((with_reducible apply rne_ss))
  | ((with_reducible apply rne_ii))
  | ((with_reducible apply cm_l); (focus omega); (focus omega))
  | ((with_reducible apply cm_r); (focus omega); (focus omega))
  | ((with_reducible apply cd_i); (focus omega); (focus omega))
  | ((with_reducible apply md_i); (focus omega))
  | ((with_reducible apply part1))
  | ((with_reducible apply num2))
  | ((with_reducible apply num3))
  | ((with_reducible apply name1); (focus first | assumption | decide +kernel); intro _ _)
  | ((with_reducible apply one_m); (focus (walk_at "lq")))
  | ((with_reducible apply one_s); (focus (walk_at "lq")); (focus with_unfolding_all rfl))
  | refine ⟨_, rfl, ?_⟩
  | refine ⟨_, _, rfl, rfl, ?_⟩
  | ((with_reducible apply gcons_t))
  | ((with_reducible apply gpar_t))
  | ((with_reducible apply gpar3_t))
  | refine ⟨rfl, ?_⟩
  | ((with_reducible apply iteT))
  | ((with_reducible apply iteF))
  | ((with_reducible apply ri_ii))
  | ((with_reducible apply ri_ib))
  | ((with_reducible apply ri_ss))
  | ((with_reducible apply ri_bb))
  | ((with_reducible apply ri_tt); (focus (walk_at "lk")))
  | ((with_reducible apply ri_ll); (focus (walk_at "lk")))
  | ((with_reducible apply ri_dd); (focus (walk_at "lk")))
  | ((with_reducible apply rt_l); (focus (walk_at "lk")); (focus (walk_at "lk")))
  | ((with_reducible apply rt_t); (focus (walk_at "lk")); (focus (walk_at "lk")))
  | ((with_reducible apply rix_t); (focus (walk_at "lk")); (focus with_unfolding_all rfl))
  | ((with_reducible apply rix_l); (focus (walk_at "lk")); (focus with_unfolding_all rfl))
  | ((with_reducible apply rlen_t); (focus (walk_at "lk")); (focus first | (simp only [List.length_cons, List.length_nil]; done) | (simp only [List.length_cons, List.length_nil]; with_unfolding_all rfl) | with_unfolding_all rfl))
  | ((with_reducible apply rlen_l); (focus (walk_at "lk")); (focus first | (simp only [List.length_cons, List.length_nil]; done) | (simp only [List.length_cons, List.length_nil]; with_unfolding_all rfl) | with_unfolding_all rfl))
  | ((with_reducible apply rin_t); (focus (walk_at "lk")); (focus with_unfolding_all rfl))
  | ((with_reducible apply rnin_t); (focus (walk_at "lk")); (focus with_unfolding_all rfl))
  | ((with_reducible apply rsl_t); (focus (walk_at "lk")); (focus with_unfolding_all rfl); (focus first | (simp [cutV, HT.sIx]; done) | (simp [cutV, HT.sIx]; rfl)); intro _ _)
  | ((with_reducible apply rin_l); (focus (walk_at "lk")))
  | ((with_reducible apply rnin_l); (focus (walk_at "lk")))
  | ((with_reducible apply gtup_t); (focus (walk_at "lk")); (focus with_unfolding_all rfl); walk_at "rdu")
  | ((with_reducible apply alc); (focus decide); intro _ _)
  | ((with_reducible apply itenT))
  | ((with_reducible apply itenF))
  | ((with_reducible apply ited_sT); (focus first | rfl | assumption))
  | ((with_reducible apply ited_sF); (focus first | assumption | decide +kernel))
  | ((with_reducible apply itedn_sT); (focus first | assumption | decide +kernel))
  | ((with_reducible apply itedn_sF); (focus first | rfl | assumption))
  | ((with_reducible apply ited_mT); (focus first | assumption | decide +kernel))
  | ((with_reducible apply ited_mF); (focus first | assumption | decide +kernel))
  | ((with_reducible apply itedn_mT); (focus first | assumption | decide +kernel))
  | ((with_reducible apply itedn_mF); (focus first | assumption | decide +kernel))
  | ((with_reducible apply ited_s) <;> intro _)
  | ((with_reducible apply itedn_s) <;> intro _)
  | ((with_reducible apply ited_m) <;> intro _)
  | ((with_reducible apply itedn_m) <;> intro _)
  | ((with_reducible apply itedT); (focus first | assumption | omega))
  | ((with_reducible apply itedF); (focus first | assumption | omega))
  | ((with_reducible apply itednF); (focus first | assumption | omega))
  | ((with_reducible apply itednT); (focus first | assumption | omega))
  | ((with_reducible apply ited) <;> intro _)
  | ((with_reducible apply itedn) <;> intro _)
  | ((with_reducible apply itebn) <;> intro _)
  | ((with_reducible apply iteb) <;> intro _)
  | walk_at "rdu"
  | contradiction)
local macro_rules | `(tactic| walk_at "rd") => `(tactic| (try walk_at "rdu"); repeat' walk_at "rd1")
/-- a list or a tuple of references -/
def SeqAt2 (H : Hp) (p : Addr) (xs : List V) : Prop := H p = some (.lst xs) ∨ H p = some (.tup xs)
theorem SeqAt2.same {H H' : Hp} {p : Addr} {xs : List V} (s : Same H H') (h : SeqAt2 H p xs) : SeqAt2 H' p xs := h.imp (s _ _) (s _ _)
theorem SeqAt2.sq {K : PySem.W.Frag} {H : Hp} {p : Addr} {xs : List V} (h : SeqAt2 H p xs) : SqL K H p xs ∨ SqT K H p xs := h.imp SqL.of SqT.of
theorem rlen_2 {K : PySem.W.Frag} {H : Hp} {Q : VK} {p : Addr} {xs : List V} (h : SeqAt2 H p xs) (q : Q (.int xs.length) H) : rLenS K [.ref p] H Q := ⟨p, xs, rfl, h.sq, q⟩
theorem isi_2 {K : PySem.W.Frag} {H : Hp} {Q : VK} {p tp : Addr} {xs : List V} (ht : H tp = some (.tup [.ty "list", .ty "tuple"])) (h : SeqAt2 H p xs) (q : Q (.bl true) H) : rIsiT K [.ref p, .ref tp] H Q := by
  rcases h with h | h
  · exact rt_l ht h q
  · exact rt_t ht h q
def RulesAt (H : Hp) (p : Addr) (ns : List Norm) : Prop := ∃ as : List Addr, SeqAt2 H p (as.map V.ref) ∧ Paired (NormAt H) as ns
theorem rulesAt_same {H H' : Hp} (s : Same H H') {p : Addr} {ns : List Norm} (h : RulesAt H p ns) : RulesAt H' p ns := by
  obtain ⟨as, h1, h2⟩ := h
  exact ⟨as, h1.same s, Paired.mapP h2 fun _ _ x => normAt_same s x⟩
def spRules : Sp := fun vs H Q _ => ∃ (p : Addr) (ns : List Norm), vs = [.ref p] ∧ RulesAt H p ns ∧ ns.length ≤ 10 ∧ (∀ n ∈ ns, n.good) ∧ ∀ H', Same H H' → Q (.bl true) H'
section
variable {P : Program} {w : World} {K : PySem.W.Frag} {mg : Str → Option Value} {base : Heap}
theorem f_are_rules (T : Tx w K mg) : Fok P w K mg base CX0 "are_rules" ps_are_rules [] 4 spRules := by
  obtain ⟨fd, F⟩ := T.d_are_rules
  have G_is_rule := f_is_rule (P := P) (base := base) T
  refine fok F T.g_are_rules (fun _ _ _ _ _ _ us hl => match us, hl with | [_], _ => rfl) (F.ok sc_are_rules (fun vs H Q E h => ?_) (fun cdv A outer s H vs Q E hr h => ?_))
  · obtain ⟨p, n, rfl, _⟩ := h
    rfl
  · refine ⟨_, PSs.nox (pss_one (ps_ret (pe_and (pe_callB (call_isiB (K := K) (by rfl)) (by rfl) T.b_isinstance bt_isinstance (pa_cons (pv 0) (pa_cons (pe_tup (pa_cons (pe_ty T.b_list bt_list) (pa_cons (pe_ty T.b_tuple bt_tuple) pa_nil))) pa_nil))) (pe_and (pe_cmpR op_le (pe_callB (call_lenA (K := K) (by rfl)) (by rfl) T.b_len bt_len (pa_cons (pv 0) pa_nil)) (pe_gi T.i_MOST_RULES) (nomark _)) (pe_one (pe_callB (cr_allK (K := K) (by rfl) rfl) (by rfl) T.b_all bt_all (pa_cons (pe_lc (own := [("one", 1)])  (by rfl) sc_are_rules.nd (by exact (pi_anyK (K := K) (by rfl) (pv 0))) (blkOk_by (own := [("one", 1)]) (N := ns_are_rules) (sc := defScope s_are_rules) (by decide +kernel)) (fun _ _ _ _ _ => (pg_name (i := 1) sc_are_rules.nd rfl (Or.inl rfl))) (fun _ _ _ _ _ => pts_nil) (fun _ _ _ _ _ => (pe_fn G_is_rule (hr.mono (by decide)) pass0 (pa_cons (pv 1) pa_nil)))) pa_nil))))))), ?_⟩
    obtain ⟨p, ns, rfl, ⟨as, h1, h2⟩, hl, hg, q⟩ := h
    have hla : (as.map V.ref).length ≤ 10 := by rw [List.length_map, paired_len h2]; exact hl
    walk_at "rd"
    rename_i tp htp
    refine isi_2 upd_same (h1.same (grow htp)) ?_
    walk_at "rd"
    have s1 : Same H (upd H tp (.tup [.ty "list", .ty "tuple"])) := grow htp
    refine rlen_2 (h1.same s1) ?_
    walk_at "rd"
    have fin : ∀ D H3, Same (upd H tp (.tup [.ty "list", .ty "tuple"])) H3 → H3 D = some (.lst (ns.filterMap fun _ => some (.bl true))) → rAll K [.ref D] H3 Q := fun D H3 s3 e3 => by
      rw [fm_true] at e3
      exact all_t e3 (q _ (s1.trans s3))
    rcases h1 with h1 | h1
    · refine .inl ⟨_, rfl, _, rfl, ⟨_, SqL.of (s1 _ _ h1)⟩, fun D hD => ?_⟩
      refine lc_dataL (Rel := NormAt) (fun _ _ _ _ s h => normAt_same s h) hD (SqL.of (s1 _ _ h1)) (Paired.mapP h2 fun _ _ x => normAt_same s1 x) (by omega) (fun _ => some (.bl true)) (fun i b d H3 R R0 hi s hrel h1 h0 => ?_) (fin D)
      walk_at "rd"
      exact ⟨b, d, rfl, hrel, hg d (List.mem_of_getElem? hi), fun H4 s4 => h1 _ _ s4 rfl⟩
    · refine .inr ⟨_, rfl, _, rfl, ⟨_, SqT.of (s1 _ _ h1)⟩, fun D hD => ?_⟩
      refine lc_dataT (Rel := NormAt) (fun _ _ _ _ s h => normAt_same s h) hD (SqT.of (s1 _ _ h1)) (Paired.mapP h2 fun _ _ x => normAt_same s1 x) (by omega) (fun _ => some (.bl true)) (fun i b d H3 R R0 hi s hrel h1 h0 => ?_) (fin D)
      walk_at "rd"
      exact ⟨b, d, rfl, hrel, hg d (List.mem_of_getElem? hi), fun H4 s4 => h1 _ _ s4 rfl⟩
end
/-! ### verdict -/
def meets (word : Str) (said : List SS) (days : Int) (n : Norm) : Bool := decide (n.word = word) && (decide (days ≤ n.days) && n.pairs.all fun p => decide (p ∈ said))
def verdM (word : Str) (said : List SS) (days : Int) : List Norm → Int × Bool
  | [] => (0, false)
  | n :: ns => if meets word said days n = true then (n.part, n.back) else verdM word said days ns
theorem verdM_none {word : Str} {said : List SS} {days : Int} : ∀ {ns : List Norm}, (∀ (i : Nat) (n : Norm), ns[i]? = some n → meets word said days n = false) → verdM word said days ns = (0, false)
  | [], _ => rfl
  | n :: ns, h => by
    unfold verdM
    rw [h 0 n rfl, if_neg Bool.false_ne_true]
    exact verdM_none fun i m hm => h (i + 1) m hm
theorem verdM_at {word : Str} {said : List SS} {days : Int} : ∀ {ns : List Norm} {i : Nat} {n : Norm}, ns[i]? = some n → (∀ (j : Nat) (m : Norm), j < i → ns[j]? = some m → meets word said days m = false) → meets word said days n = true → verdM word said days ns = (n.part, n.back)
  | [], i, n, h, _, _ => by cases h
  | m :: ns, 0, n, h, _, hm => by
    have e := Option.some.inj h
    subst e
    unfold verdM
    rw [if_pos hm]
  | m :: ns, i + 1, n, h, hj, hm => by
    unfold verdM
    rw [hj 0 m (Nat.succ_pos _) rfl, if_neg Bool.false_ne_true]
    exact verdM_at h (fun j k hk e => hj (j + 1) k (Nat.succ_lt_succ hk) e) hm
def prD (p : SS) : PyData := .tuple [.str p.1, .str p.2]
theorem prD_at {K : PySem.W.Frag} {H : Hp} {a : Addr} {p : SS} (h : H a = some (.tup (pairV p))) : Dp K H (.ref a) (prD p) := .tup (SqT.of h) (.cons (.str _) (.cons (.str _) .nil))
theorem prDs_at {K : PySem.W.Frag} {H : Hp} : ∀ {as : List Addr} {ps : List SS}, AtT pairV H as ps → DpAll K H (as.map V.ref) (ps.map prD)
  | _, _, .nil => .nil
  | _, _, .cons h t => .cons (prD_at h) (prDs_at t)
def okS (z : Str) : Prop := PyData.strOk z = true
theorem okS_name {z : Str} (h : nameB z = true) : okS z := by
  obtain ⟨_, _, h3⟩ := nameB_iff.mp h
  have h4 : ∀ c ∈ lettersS.cps.toList, c < 0x110000 := by decide +kernel
  show z.cps.all (fun c => decide (c < 0x110000)) = true
  rw [Array.all_eq_true_iff_forall_mem]
  intro c hc
  exact decide_eq_true (h4 c (h3 c (Array.mem_toList_iff.mpr hc)))
theorem pairGood_ok {p : SS} (h : pairGood p) : okS p.1 ∧ okS p.2 := by
  refine ⟨?_, okS_name h.2⟩
  rcases h.1 with e | e
  · rw [e]
    exact okS_name (by decide +kernel)
  · rw [e]
    exact okS_name (by decide +kernel)
theorem prD_sh {p : SS} (g : okS p.1 ∧ okS p.2) : SeqAt.shaped (prD p) = true := by
  show ((prD p).canLay0 && decide ((prD p).depth ≤ 64)) = true
  simp [prD, PyData.canLay0, PyData.canLayAll0, PyData.depth, PyData.depthAll]
  exact g
theorem prDs_sh (ps : List SS) (g : ∀ p ∈ ps, okS p.1 ∧ okS p.2) : SeqAt.shaped (.list (ps.map prD)) = true := by
  have h1 : ∀ ps : List SS, (∀ p ∈ ps, okS p.1 ∧ okS p.2) → PyData.canLayAll0 (ps.map prD) = true ∧ PyData.depthAll (ps.map prD) ≤ 2 := by
    intro ps
    induction ps with
    | nil => simp [PyData.canLayAll0, PyData.depthAll]
    | cons p ps ih =>
      intro g
      have ih := ih fun q hq => g q (List.mem_cons_of_mem _ hq)
      have e1 : (prD p).canLay0 = true := by
        simp [prD, PyData.canLay0, PyData.canLayAll0]
        exact g p List.mem_cons_self
      have e2 : (prD p).depth = 1 := by simp [prD, PyData.depth, PyData.depthAll]
      rw [List.map_cons]
      simp only [PyData.canLayAll0, PyData.depthAll, e1, e2, ih.1, Bool.and_self, true_and]
      have := ih.2
      omega
  show (PyData.canLay0 (.list (ps.map prD)) && decide (PyData.depth (.list (ps.map prD)) ≤ 64)) = true
  rw [Bool.and_eq_true]
  refine ⟨by simp only [PyData.canLay0]; exact (h1 ps g).1, decide_eq_true ?_⟩
  have := (h1 ps g).2
  simp only [PyData.depth]
  omega
theorem prD_any (p : SS) (ps : List SS) : ((ps.map prD).any fun z => PyData.eqv z (prD p)) = decide (p ∈ ps) := by
  induction ps with
  | nil => simp
  | cons q ps ih =>
    rw [List.map_cons, List.any_cons, ih]
    have e : PyData.eqv (prD q) (prD p) = decide (q = p) := by
      obtain ⟨a, b⟩ := q
      obtain ⟨c, d⟩ := p
      have e1 : PyData.eqv (prD (a, b)) (prD (c, d)) = ((a == c) && ((b == d) && true)) := by simp only [prD, PyData.eqv, PyData.eqvAll]
      rw [e1]
      by_cases h1 : a = c
      · by_cases h2 : b = d
        · simp [h1, h2]
        · simp [h1, h2]
      · simp [h1]
    rw [e]
    by_cases h : q = p
    · simp [h]
    · have h' : ¬ p = q := fun z => h z.symm
      simp [h, h']
/-- pair in said -/
theorem rin_pair {K : PySem.W.Frag} {H : Hp} {Q : VK} {a l : Addr} {p : SS} {as : List Addr} {ps : List SS} (h : H a = some (.tup (pairV p))) (hl : H l = some (.lst (as.map V.ref))) (hp : AtT pairV H as ps) (g : pairGood p) (gs : ∀ p ∈ ps, pairGood p) (q : Q (.bl (decide (p ∈ ps))) H) : rInD K (.ref a) (.ref l) H Q :=
  ⟨prD p, ps.map prD, prD_at h, .lst (SqL.of hl) (prDs_at hp), prD_sh (pairGood_ok g), prDs_sh ps (fun p hp => pairGood_ok (gs p hp)), qb q (prD_any p ps).symm⟩
def spVerd : Sp := fun vs H Q _ => ∃ (word : Str) (sa : Addr) (days : Int) (ra : Addr) (bs as : List Addr) (said : List SS) (ns : List Norm), vs = [.str word, .ref sa, .int days, .ref ra] ∧ H sa = some (.lst (bs.map V.ref)) ∧ AtT pairV H bs said ∧ H ra = some (.tup (as.map V.ref)) ∧ Paired (NormAt H) as ns ∧ ns.length ≤ 10 ∧ (∀ n ∈ ns, n.good) ∧ (∀ p ∈ said, pairGood p) ∧
  ∀ (p : Addr) (H' : Hp), Same H H' → H' p = some (.tup [.int (verdM word said days ns).1, .bl (verdM word said days ns).2]) → Q (.ref p) H'
section
variable {P : Program} {w : World} {K : PySem.W.Frag} {mg : Str → Option Value} {base : Heap}
theorem f_verdict (T : Tx w K mg) : Fok P w K mg base CX0 "verdict" ps_verdict [] 4 spVerd := by
  obtain ⟨fd, F⟩ := T.d_verdict
  refine fok F T.g_verdict (fun _ _ _ _ _ _ us hl => match us, hl with | [_, _, _, _], _ => rfl) (F.ok sc_verdict (fun vs H Q E h => ?_) (fun cdv A outer s H vs Q E hr h => ?_))
  · obtain ⟨word, sa, days, ra, bs, as, said, ns, rfl, _⟩ := h
    rfl
  · refine ⟨_, PSs.nox (pss_cons (ps_for PassesOwn.never rfl (pi_tupK (K := K) (by rfl) (pv 3)) (pg_tupK (K := K) (n := 5) (by rfl) (by rfl) (by rfl) (pgs_cons (pg_name (i := 4) sc_verdict.nd rfl (Or.inl rfl)) (pgs_cons (pg_name (i := 5) sc_verdict.nd rfl (Or.inl rfl)) (pgs_cons (pg_name (i := 6) sc_verdict.nd rfl (Or.inl rfl)) (pgs_cons (pg_name (i := 7) sc_verdict.nd rfl (Or.inl rfl)) (pgs_cons (pg_name (i := 8) sc_verdict.nd rfl (Or.inl rfl)) pgs_nil)))))) (pss_one (ps_if (PW.pt (pw_and (pt_cmpR op_eq (pv 4) (pv 0) (nomark _)) (pw_and (pt_cmpR op_le (pv 2) (pv 6) (nomark _)) (pw_and1 (pt_val (pe_callB (cr_allK (K := K) (by rfl) rfl) (by rfl) T.b_all bt_all (pa_cons (pe_lc (own := [("pair", 9)])  (by rfl) sc_verdict.nd (by exact (pi_tupK (K := K) (by rfl) (pv 5))) (blkOk_by (own := [("pair", 9)]) (N := ns_verdict) (sc := defScope s_verdict) (by decide +kernel)) (fun _ _ _ _ _ => (pg_name (i := 9) sc_verdict.nd rfl (Or.inl rfl))) (fun _ _ _ _ _ => pts_nil) (fun _ _ _ _ _ => (pe_cmpR (op_inDK (K := K) (by rfl) (hu65 hr)) (pv 9) (pv 1) rfl))) pa_nil))))))) (pss_one (ps_ret (pe_tup (pa_cons (pv 7) (pa_cons (pv 8) pa_nil))))) pss_nil)))
      (pss_one (ps_ret (pe_tup (pa_cons pe_int (pa_cons pe_bl pa_nil)))))), ?_⟩
    obtain ⟨word, sa, days, ra, bs, as, said, ns, rfl, h1, h2, h3, h4, h5, h6, h7, q⟩ := h
    walk_at "rd"
    refine ⟨⟨_, SqT.of h3⟩, ?_⟩
    have hl : as.length = ns.length := paired_len h4
    refine fr_it (walk_tup (K := K) (a := ra) (xs := as.map V.ref)) (fun i σ H2 => Same H H2 ∧ (∀ (j : Nat) (m : Norm), j < i → ns[j]? = some m → meets word said days m = false) ∧ ∃ a b c d e f, σ = [some (.str word), some (.ref sa), some (.int days), some (.ref ra), a, b, c, d, e, f])
      ⟨Same.refl _, fun j m hj => absurd hj (Nat.not_lt_zero _), _, _, _, _, _, _, rfl⟩ (fun i σ H2 _ p => SqT.of (p.1 _ _ h3)) (fun i x σ H2 H3 hi p y => ?_) (fun σ H2 p => ?_)
    · obtain ⟨s2, hno, a, b, c, d, e, f, rfl⟩ := p
      obtain ⟨rfl, ex⟩ := y
      rw [List.length_map, hl] at hi
      obtain ⟨t, ht, n1, n2, n3, n4, n5⟩ := paired_get2 h4 (List.getElem?_eq_getElem hi)
      have hn : ns[i]? = some ns[i] := List.getElem?_eq_getElem hi
      rw [List.getElem?_map, ht] at ex
      have ex' : V.ref t = x := Option.some.inj ex
      subst ex'
      have m1 := s2 _ _ n3
      have m2 := s2 _ _ n4
      have gd := h6 _ (List.mem_of_getElem? hn)
      generalize ns[i] = nn at hn m1 m2 n5 gd
      have next : meets word said days nn = false → ∀ (j : Nat) (m : Norm), j < i + 1 → ns[j]? = some m → meets word said days m = false := fun hm j m hj e => by
        rcases Nat.lt_succ_iff_lt_or_eq.mp hj with h | h
        · exact hno j m h e
        · rw [h, hn] at e
          cases e
          exact hm
      walk_at "rd"
      · rename_i e1 e2
        refine ⟨⟨_, SqT.of m2⟩, fun D hD => ?_⟩
        refine lc_dataT (Rel := fun H a d => H a = some (.tup (pairV d))) (fun _ _ _ _ s h => s _ _ h) hD (SqT.of m2) (atT_same s2 n5) (by have := gd.2.1; omega) (fun p => some (.bl (decide (p ∈ said)))) (fun i b d H5 R R0 hi s hrel h1' h0 => ?_) (fun H5 s5 e5 => ?_)
        · walk_at "rd"
          exact rin_pair hrel (s _ _ (s2 _ _ h1)) (atT_same (s2.trans s) h2) (gd.2.2.1 _ (List.mem_of_getElem? hi)) h7 (h1' _ _ (Same.refl _) rfl)
        · have e6 : nn.pairs.filterMap (fun p => some (V.bl (decide (p ∈ said)))) = (nn.pairs.map fun p => decide (p ∈ said)).map V.bl := fm_bools _ _
          rw [e6] at e5
          refine ⟨D, _, rfl, SqL.of e5, ?_⟩
          have e7 : (nn.pairs.map fun p => decide (p ∈ said)).all id = nn.pairs.all fun p => decide (p ∈ said) := by rw [List.all_map]; rfl
          have s6 : Same H H5 := s2.trans s5
          walk_at "rd"
          · rename_i e8 pt hpt
            have hm : meets word said days nn = true := by
              unfold meets
              rw [decide_eq_true e1, decide_eq_true e2, ← e7]
              simpa using e8
            rw [verdM_at hn hno hm] at q
            exact q _ _ (same_upd2 s6 hpt) upd_same
          · rename_i e8
            have hm : meets word said days nn = false := by
              unfold meets
              rw [decide_eq_true e1, decide_eq_true e2, ← e7]
              simpa using e8
            exact ⟨s6, next hm, _, _, _, _, _, _, rfl⟩
      · rename_i e1 e2
        exact ⟨s2, next (by unfold meets; rw [decide_eq_false e2]; simp), _, _, _, _, _, _, rfl⟩
      · rename_i e1
        exact ⟨s2, next (by unfold meets; rw [decide_eq_false e1]; simp), _, _, _, _, _, _, rfl⟩
    · obtain ⟨s2, hno, a, b, c, d, e, f, rfl⟩ := p
      rw [List.length_map, hl] at hno
      rw [verdM_none fun i n hi => hno i n (List.getElem?_eq_some_iff.mp hi).1 hi] at q
      walk_at "rd"
      rename_i pt hpt
      exact q _ _ (same_upd2 s2 hpt) upd_same
end
end Mk
/-! are_names -/
namespace Mk
open PySem PySem.Spec L2 He
local macro_rules | `(tactic| walk_at "rdu") => `(tactic| dsimp only [tSeq, tNext, tRet, tRetN, tAsg, tDrop, tIfS, tOr, tAnd, tNot, tB, tTest, tCB, tCons, tNil, tVar, tC, tOp, tUn, tOrV, tAndV, tNotV, tIf, tChain, tCall, tTup, tLst, gName, L2.start, dl_map, dl_map0, dl_app, dl_app0, List.length_cons, List.length_nil, List.replicate, List.set, Nat.reduceAdd, Nat.reduceSub, tLc_eq, tFor_eq, sck_eq, dct_eq, tPar, gCons, gNil, iList, iTup, iRng1, iStr, wipe, tYes, tSl, tPart, tNoPart, tFld, tMeth, tMake])
local macro_rules | `(tactic| walk_at "lk") => `(tactic| first | assumption | (with_reducible exact upd_same) | ((with_reducible apply keep); rotate_left; (focus assumption); walk_at "lk") | ((with_reducible apply kp); (focus assumption); walk_at "lk"))
local macro_rules | `(tactic| walk_at "lq") => `(tactic| first | assumption | exact .inl (SqL.of (by walk_at "lk")) | exact .inr (SqT.of (by walk_at "lk")) | (refine sq2_same (grow (by assumption)) ?_; walk_at "lq") | (refine sq2_same (by assumption) ?_; walk_at "lq"))
local macro_rules | `(tactic| walk_at "sm") => `(tactic| first | exact Same.refl _ | assumption | (refine same_upd2 ?_ (by assumption); walk_at "sm") | (refine same_upd ?_ (by assumption); walk_at "sm") | (refine Same.trans ?_ (by assumption); walk_at "sm"))
local macro_rules | `(tactic| walk_at "rd1") => `(tactic| first
  | ((with_reducible apply req_ss))
  | ((with_reducible apply req_ii))
  | ((with_reducible apply req_bb))
  | ((with_reducible apply rne_ss))
  | ((with_reducible apply rne_ii))
  | ((with_reducible apply cm_l); (focus omega); (focus omega))
  | ((with_reducible apply cm_r); (focus omega); (focus omega))
  | ((with_reducible apply cd_i); (focus omega); (focus omega))
  | ((with_reducible apply md_i); (focus omega))
  | ((with_reducible apply part1))
  | ((with_reducible apply num2))
  | ((with_reducible apply num3))
  | ((with_reducible apply name1); (focus first | assumption | decide +kernel); intro _ _)
  | ((with_reducible apply one_m); (focus (walk_at "lq")))
  | ((with_reducible apply one_s); (focus (walk_at "lq")); (focus with_unfolding_all rfl))
  | refine ⟨_, rfl, ?_⟩
  | refine ⟨_, _, rfl, rfl, ?_⟩
  | ((with_reducible apply gcons_t))
  | ((with_reducible apply gpar_t))
  | ((with_reducible apply gpar3_t))
  | refine ⟨rfl, ?_⟩
  | ((with_reducible apply iteT))
  | ((with_reducible apply iteF))
  | ((with_reducible apply ri_ii))
  | ((with_reducible apply ri_ib))
  | ((with_reducible apply ri_ss))
  | ((with_reducible apply ri_bb))
  | ((with_reducible apply ri_tt); (focus (walk_at "lk")))
  | ((with_reducible apply ri_ll); (focus (walk_at "lk")))
  | ((with_reducible apply ri_dd); (focus (walk_at "lk")))
  | ((with_reducible apply rt_l); (focus (walk_at "lk")); (focus (walk_at "lk")))
  | ((with_reducible apply rt_t); (focus (walk_at "lk")); (focus (walk_at "lk")))
  | ((with_reducible apply rix_t); (focus (walk_at "lk")); (focus with_unfolding_all rfl))
  | ((with_reducible apply rix_l); (focus (walk_at "lk")); (focus with_unfolding_all rfl))
  | ((with_reducible apply rlen_t); (focus (walk_at "lk")); (focus first | (simp only [List.length_cons, List.length_nil]; done) | (simp only [List.length_cons, List.length_nil]; with_unfolding_all rfl) | with_unfolding_all rfl))
  | ((with_reducible apply rlen_l); (focus (walk_at "lk")); (focus first | (simp only [List.length_cons, List.length_nil]; done) | (simp only [List.length_cons, List.length_nil]; with_unfolding_all rfl) | with_unfolding_all rfl))
  | ((with_reducible apply rin_t); (focus (walk_at "lk")); (focus with_unfolding_all rfl))
  | ((with_reducible apply rnin_t); (focus (walk_at "lk")); (focus with_unfolding_all rfl))
  | ((with_reducible apply rsl_t); (focus (walk_at "lk")); (focus with_unfolding_all rfl); (focus first | (simp [cutV, HT.sIx]; done) | (simp [cutV, HT.sIx]; rfl)); intro _ _)
  | ((with_reducible apply rin_l); (focus (walk_at "lk")))
  | ((with_reducible apply rnin_l); (focus (walk_at "lk")))
  | ((with_reducible apply gtup_t); (focus (walk_at "lk")); (focus with_unfolding_all rfl); walk_at "rdu")
  | ((with_reducible apply alc); (focus decide); intro _ _)
  | ((with_reducible apply itenT))
  | ((with_reducible apply itenF))
  | ((with_reducible apply ited_sT); (focus first | rfl | assumption))
  | ((with_reducible apply ited_sF); (focus first | assumption | decide +kernel))
  | ((with_reducible apply itedn_sT); (focus first | assumption | decide +kernel))
  | ((with_reducible apply itedn_sF); (focus first | rfl | assumption))
  | ((with_reducible apply ited_mT); (focus first | assumption | decide +kernel))
  | ((with_reducible apply ited_mF); (focus first | assumption | decide +kernel))
  | ((with_reducible apply itedn_mT); (focus first | assumption | decide +kernel))
  | ((with_reducible apply itedn_mF); (focus first | assumption | decide +kernel))
  | ((with_reducible apply ited_s) <;> intro _)
  | ((with_reducible apply itedn_s) <;> intro _)
  | ((with_reducible apply ited_m) <;> intro _)
  | ((with_reducible apply itedn_m) <;> intro _)
  | ((with_reducible apply itedT); (focus first | assumption | omega))
  | ((with_reducible apply itedF); (focus first | assumption | omega))
  | ((with_reducible apply itednF); (focus first | assumption | omega))
  | ((with_reducible apply itednT); (focus first | assumption | omega))
  | ((with_reducible apply ited) <;> intro _)
  | ((with_reducible apply itedn) <;> intro _)
  | ((with_reducible apply itebn) <;> intro _)
  | ((with_reducible apply iteb) <;> intro _)
  | walk_at "rdu"
  | contradiction)
local macro_rules | `(tactic| walk_at "rd") => `(tactic| (try walk_at "rdu"); repeat' walk_at "rd1")
def spNames : Sp := fun vs H Q _ => ∃ (p : Addr) (ss : List Str) (a b : Int), vs = [.ref p, .int a, .int b] ∧ H p = some (.lst (ss.map V.str)) ∧ ss.length ≤ 60 ∧ a ≤ ss.length ∧ ss.length ≤ b ∧ (∀ z ∈ ss, nameB z = true) ∧ ss.Nodup ∧ ∀ H', Same H H' → Q (.bl true) H'
section
variable {P : Program} {w : World} {K : PySem.W.Frag} {mg : Str → Option Value} {base : Heap}
theorem f_are_names (T : Tx w K mg) : Fok P w K mg base CX0 "are_names" ps_are_names [] 2 spNames := by
  obtain ⟨fd, F⟩ := T.d_are_names
  have G_is_name := f_is_name (P := P) (base := base) T
  refine fok F T.g_are_names (fun _ _ _ _ _ _ us hl => match us, hl with | [_, _, _], _ => rfl) (F.ok sc_are_names (fun vs H Q E h => ?_) (fun cdv A outer s H vs Q E hr h => ?_))
  · obtain ⟨p, ss, a, b, rfl, _⟩ := h
    rfl
  · refine ⟨_, PSs.nox (pss_cons (ps_if (PW.pt (pw_or (pt_not (pt_val (pe_callB (call_isiB (K := K) (by rfl)) (by rfl) T.b_isinstance bt_isinstance (pa_cons (pv 0) (pa_cons (pe_tup (pa_cons (pe_ty T.b_list bt_list) (pa_cons (pe_ty T.b_tuple bt_tuple) pa_nil))) pa_nil))))) (pw_or1 (pt_not (pt_chain op_le op_le (pv 1) (pe_callB (call_lenA (K := K) (by rfl)) (by rfl) T.b_len bt_len (pa_cons (pv 0) pa_nil)) (pv 2)))))) (pss_one (ps_ret pe_bl)) pss_nil)
      (pss_one (ps_ret (pe_and (pe_callB (cr_allK (K := K) (by rfl) rfl) (by rfl) T.b_all bt_all (pa_cons (pe_lc (own := [("one", 3)])  (by rfl) sc_are_names.nd (by exact (pi_listK (K := K) (by rfl) (pv 0))) (blkOk_by (own := [("one", 3)]) (N := ns_are_names) (sc := defScope s_are_names) (by decide +kernel)) (fun _ _ _ _ _ => (pg_name (i := 3) sc_are_names.nd rfl (Or.inl rfl))) (fun _ _ _ _ _ => pts_nil) (fun _ _ _ _ _ => (pe_fn G_is_name (hr.mono (by decide)) pass0 (pa_cons (pv 3) pa_nil)))) pa_nil)) (pe_one (pe_cmpR op_eq (pe_callB call_lenK (by rfl) T.b_len bt_len (pa_cons (pe_scK (own := [("one", 3)])  (by rfl) sc_are_names.nd (by exact (pi_listK (K := K) (by rfl) (pv 0))) (blkOk_by (own := [("one", 3)]) (N := ns_are_names) (sc := defScope s_are_names) (by decide +kernel)) (fun _ _ _ _ _ => (pg_name (i := 3) sc_are_names.nd rfl (Or.inl rfl))) (fun _ _ _ _ _ => pts_nil) (fun _ _ _ _ _ => (pv 3))) pa_nil)) (pe_callB (call_lenA (K := K) (by rfl)) (by rfl) T.b_len bt_len (pa_cons (pv 0) pa_nil)) (nomark _))))))), ?_⟩
    obtain ⟨p, ss, a, b, rfl, hp, h60, h1, h2, h3, h4, q⟩ := h
    have hlm : (ss.map V.str).length = ss.length := List.length_map _
    have hnm : ∀ (i : Nat) (x : V), (ss.map V.str)[i]? = some x → ∃ z, x = .str z ∧ ss[i]? = some z ∧ nameB z = true := fun i x e => by
      rw [List.getElem?_map] at e
      cases hz : ss[i]? with
      | none =>
        rw [hz] at e
        cases e
      | some z =>
        rw [hz] at e
        exact ⟨z, (Option.some.inj e).symm, rfl, h3 z (List.mem_of_getElem? hz)⟩
    walk_at "rd"
    rename_i tp htp
    have s1 : Same H (upd H tp (.tup [.ty "list", .ty "tuple"])) := grow htp
    refine ⟨⟨_, SqL.of (s1 _ _ hp)⟩, fun D hD => ?_⟩
    refine lc_pureL hD (SqL.of (s1 _ _ hp)) (by omega) (fun _ => some (.bl true)) (fun i x H2 R R0 hx s h1 h0 => ?_) (fun H2 s2 e2 => ?_)
    · obtain ⟨z, rfl, _, hz⟩ := hnm i x hx
      walk_at "rd"
      exact h1 _ _ (by assumption) rfl
    · rw [fm_true] at e2
      refine all_t e2 ?_
      have s3 : Same H H2 := s1.trans s2
      walk_at "rd"
      refine ⟨⟨_, SqL.of (s3 _ _ hp)⟩, fun D2 hD2 => ?_⟩
      refine ac_it (walk_list (K := K) (a := p) (xs := ss.map V.str)) (fun i H3 => Same H2 H3 ∧ ∃ S : Key → Bool, H3 D2 = some (SetK P w D2 S i) ∧ ∀ k, S k = true → ∃ j z, j < i ∧ ss[j]? = some z ∧ k = .inr z) ⟨grow hD2, _, upd_same, fun k hk => by cases hk⟩
        (fun i H3 _ pv => SqL.of (pv.1 _ _ (s3 _ _ hp))) (fun i x H3 H4 hi pv y => ?_) (fun H3 pv => ?_)
      · obtain ⟨sv, S, hS, hk⟩ := pv
        obtain ⟨rfl, ex⟩ := y
        obtain ⟨z, rfl, hzi, hz⟩ := hnm i x ex
        have hno : S (.inr z) = false := by
          cases hs : S (.inr z) with
          | false => rfl
          | true =>
            obtain ⟨j, z', hj, hzj, e⟩ := hk _ hs
            have e' : z = z' := by injection e
            subst e'
            have := (List.getElem?_inj (List.getElem?_eq_some_iff.mp hzj).1 h4).mp (hzj.trans hzi.symm)
            omega
        walk_at "rd"
        refine ⟨.inr z, S, i, rfl, hS, by unfold scanBound; rw [hlm] at hi; omega, fun b o e => ?_, _, by rw [upd_same, hno]; rfl, fun k hk' => ?_⟩
        · by_cases hb : b = D2
          · rw [hb] at e
            rw [hD2] at e
            cases e
          · rw [upd_ne hb]
            exact sv _ _ e
        · rcases Bool.or_eq_true_iff.mp hk' with e | e
          · obtain ⟨j, z', hj, h⟩ := hk k e
            exact ⟨j, z', Nat.lt_succ_of_lt hj, h⟩
          · exact ⟨i, z, Nat.lt_succ_self _, hzi, of_decide_eq_true e⟩
      · obtain ⟨sv, S, hS, hk⟩ := pv
        refine ⟨D2, S, _, rfl, hS, ?_⟩
        have s4 : Same H H3 := s3.trans sv
        walk_at "rd"
        exact qb (q _ s4) (by simp)
end
end Mk
/-! forms.py: is_made, is_ended, is_row -/
namespace Mk
open PySem PySem.Spec L2 He
local macro_rules | `(tactic| walk_at "rdu") => `(tactic| dsimp only [tSeq, tNext, tRet, tRetN, tAsg, tDrop, tIfS, tOr, tAnd, tNot, tB, tTest, tCB, tCons, tNil, tVar, tC, tOp, tUn, tOrV, tAndV, tNotV, tIf, tChain, tCall, tTup, tLst, gName, L2.start, dl_map, dl_map0, dl_app, dl_app0, List.length_cons, List.length_nil, List.replicate, List.set, Nat.reduceAdd, Nat.reduceSub, tLc_eq, tFor_eq, sck_eq, dct_eq, tPar, gCons, gNil, iList, iTup, iRng1, iStr, wipe, tYes, tSl, tPart, tNoPart, tFld, tMeth, tMake])
local macro_rules | `(tactic| walk_at "lk") => `(tactic| first | assumption | (with_reducible exact upd_same) | ((with_reducible apply keep); rotate_left; (focus assumption); walk_at "lk") | ((with_reducible apply kp); (focus assumption); walk_at "lk"))
local macro_rules | `(tactic| walk_at "lq") => `(tactic| first | assumption | exact .inl (SqL.of (by walk_at "lk")) | exact .inr (SqT.of (by walk_at "lk")) | (refine sq2_same (grow (by assumption)) ?_; walk_at "lq") | (refine sq2_same (by assumption) ?_; walk_at "lq"))
local macro_rules | `(tactic| walk_at "sm") => `(tactic| first | exact Same.refl _ | assumption | (refine same_upd2 ?_ (by assumption); walk_at "sm") | (refine same_upd ?_ (by assumption); walk_at "sm") | (refine Same.trans ?_ (by assumption); walk_at "sm"))
local macro_rules | `(tactic| walk_at "rd1") => `(tactic| first
  | ((with_reducible apply req_ss))
  | ((with_reducible apply req_ii))
  | ((with_reducible apply req_bb))
  | ((with_reducible apply rne_ss))
  | ((with_reducible apply rne_ii))
  | ((with_reducible apply cm_l); (focus omega); (focus omega))
  | ((with_reducible apply cm_r); (focus omega); (focus omega))
  | ((with_reducible apply cd_i); (focus omega); (focus omega))
  | ((with_reducible apply md_i); (focus omega))
  | ((with_reducible apply part1))
  | ((with_reducible apply num2))
  | ((with_reducible apply num3))
  | ((with_reducible apply name1); (focus first | assumption | decide +kernel); intro _ _)
  | ((with_reducible apply one_m); (focus (walk_at "lq")))
  | ((with_reducible apply one_s); (focus (walk_at "lq")); (focus with_unfolding_all rfl))
  | refine ⟨_, rfl, ?_⟩
  | refine ⟨_, _, rfl, rfl, ?_⟩
  | ((with_reducible apply gcons_t))
  | ((with_reducible apply gpar_t))
  | ((with_reducible apply gpar3_t))
  | refine ⟨rfl, ?_⟩
  | ((with_reducible apply iteT))
  | ((with_reducible apply iteF))
  | ((with_reducible apply ri_ii))
  | ((with_reducible apply ri_ib))
  | ((with_reducible apply ri_ss))
  | ((with_reducible apply ri_bb))
  | ((with_reducible apply ri_tt); (focus (walk_at "lk")))
  | ((with_reducible apply ri_ll); (focus (walk_at "lk")))
  | ((with_reducible apply ri_dd); (focus (walk_at "lk")))
  | ((with_reducible apply rt_l); (focus (walk_at "lk")); (focus (walk_at "lk")))
  | ((with_reducible apply rt_t); (focus (walk_at "lk")); (focus (walk_at "lk")))
  | ((with_reducible apply rix_t); (focus (walk_at "lk")); (focus with_unfolding_all rfl))
  | ((with_reducible apply rix_l); (focus (walk_at "lk")); (focus with_unfolding_all rfl))
  | ((with_reducible apply rlen_t); (focus (walk_at "lk")); (focus first | (simp only [List.length_cons, List.length_nil]; done) | (simp only [List.length_cons, List.length_nil]; with_unfolding_all rfl) | with_unfolding_all rfl))
  | ((with_reducible apply rlen_l); (focus (walk_at "lk")); (focus first | (simp only [List.length_cons, List.length_nil]; done) | (simp only [List.length_cons, List.length_nil]; with_unfolding_all rfl) | with_unfolding_all rfl))
  | ((with_reducible apply rin_t); (focus (walk_at "lk")); (focus with_unfolding_all rfl))
  | ((with_reducible apply rnin_t); (focus (walk_at "lk")); (focus with_unfolding_all rfl))
  | ((with_reducible apply rsl_t); (focus (walk_at "lk")); (focus with_unfolding_all rfl); (focus first | (simp [cutV, HT.sIx]; done) | (simp [cutV, HT.sIx]; rfl)); intro _ _)
  | ((with_reducible apply rin_l); (focus (walk_at "lk")))
  | ((with_reducible apply rnin_l); (focus (walk_at "lk")))
  | ((with_reducible apply gtup_t); (focus (walk_at "lk")); (focus with_unfolding_all rfl); walk_at "rdu")
  | ((with_reducible apply alc); (focus decide); intro _ _)
  | ((with_reducible apply itenT))
  | ((with_reducible apply itenF))
  | ((with_reducible apply ited_sT); (focus first | rfl | assumption))
  | ((with_reducible apply ited_sF); (focus first | assumption | decide +kernel))
  | ((with_reducible apply itedn_sT); (focus first | assumption | decide +kernel))
  | ((with_reducible apply itedn_sF); (focus first | rfl | assumption))
  | ((with_reducible apply ited_mT); (focus first | assumption | decide +kernel))
  | ((with_reducible apply ited_mF); (focus first | assumption | decide +kernel))
  | ((with_reducible apply itedn_mT); (focus first | assumption | decide +kernel))
  | ((with_reducible apply itedn_mF); (focus first | assumption | decide +kernel))
  | ((with_reducible apply ited_s) <;> intro _)
  | ((with_reducible apply itedn_s) <;> intro _)
  | ((with_reducible apply ited_m) <;> intro _)
  | ((with_reducible apply itedn_m) <;> intro _)
  | ((with_reducible apply itedT); (focus first | assumption | omega))
  | ((with_reducible apply itedF); (focus first | assumption | omega))
  | ((with_reducible apply itednF); (focus first | assumption | omega))
  | ((with_reducible apply itednT); (focus first | assumption | omega))
  | ((with_reducible apply ited) <;> intro _)
  | ((with_reducible apply itedn) <;> intro _)
  | ((with_reducible apply itebn) <;> intro _)
  | ((with_reducible apply iteb) <;> intro _)
  | walk_at "rdu"
  | contradiction)
local macro_rules | `(tactic| walk_at "rd") => `(tactic| (try walk_at "rdu"); repeat' walk_at "rd1")
def endGood (how : Str) (part : Int) (back : Bool) : Prop := how = "judged" ∨ (how = "back" ∧ part = 100 ∧ back = true) ∨ (how = "lost" ∧ part = 100 ∧ back = false) ∨ (how = "sold" ∧ part = 0 ∧ back = false)
def Row.good : Row → Prop
  | .made d s b x y z m p _ => 0 ≤ d ∧ d ≤ 1000 ∧ 0 ≤ s ∧ s ≤ 1000 ∧ 0 ≤ b ∧ b ≤ 1000 ∧ s ≠ b ∧ nameB x = true ∧ nameB y = true ∧ nameB z = true ∧ x ≠ y ∧ 1 ≤ m ∧ m ≤ 99 ∧ 1 ≤ p ∧ p ≤ 9999
  | .sent d w a => 0 ≤ d ∧ d ≤ 1000 ∧ nameB w = true ∧ 0 ≤ a ∧ a ≤ 1000
  | .came d => 0 ≤ d ∧ d ≤ 1000
  | .comp d w => 0 ≤ d ∧ d ≤ 1000 ∧ nameB w = true
  | .said d w z => 0 ≤ d ∧ d ≤ 1000 ∧ pairGood (w, z)
  | .ended d h p b => 0 ≤ d ∧ d ≤ 1000 ∧ 0 ≤ p ∧ p ≤ 100 ∧ endGood h p b
/-- a made row that the program takes -/
def Row.okMade : Row → Bool
  | .made _ _ _ _ _ _ m p t => decide (0 ≤ t ∧ t ≤ m * p * 5000 / 10000)
  | _ => false
def Row.isMade : Row → Bool
  | .made .. => true
  | _ => false
def spMade : Sp := fun vs H Q _ => ∃ (a : Addr) (r : Row), vs = [.ref a] ∧ H a = some (.tup r.vs) ∧ r.good ∧ ∀ H', Same H H' → Q (.bl r.okMade) H'
def spRow : Sp := fun vs H Q _ => ∃ (a : Addr) (r : Row), vs = [.ref a] ∧ H a = some (.tup r.vs) ∧ r.good ∧ ∀ H', Same H H' → Q (.bl (!r.isMade)) H'
def spEnded : Sp := fun vs H Q _ => ∃ (a : Addr) (d : Int) (h : Str) (p : Int) (b : Bool), vs = [.ref a] ∧ H a = some (.tup (Row.ended d h p b).vs) ∧ (Row.ended d h p b).good ∧ ∀ H', Same H H' → Q (.bl true) H'
section
variable {P : Program} {w : World} {K : PySem.W.Frag} {mg : Str → Option Value} {base : Heap}
theorem mem3 {α : Type} {a b c x : α} {i : Nat} (h : [a, b, c][i]? = some x) : x = a ∨ x = b ∨ x = c := by
  match i, h with
  | 0, h => exact .inl (Option.some.inj h).symm
  | 1, h => exact .inr (.inl (Option.some.inj h).symm)
  | 2, h => exact .inr (.inr (Option.some.inj h).symm)
  | i + 3, h => simp at h
/-- all of a list of trues that a comprehension gave -/
theorem all_fm {K : PySem.W.Frag} {α : Type} {ds : List α} {H : Hp} {Q : VK} {D : Addr} (h : H D = some (.lst (ds.filterMap fun _ => some (V.bl true)))) (q : Q (.bl true) H) : rAll K [.ref D] H Q := by
  rw [fm_true] at h
  exact all_t h q
theorem f_is_made (T : Tx w K mg) : Fok P w K mg base CX0 "is_made" ps_is_made [] 3 spMade := by
  obtain ⟨fd, F⟩ := T.d_is_made
  have G_is_one_of := f_is_one_of (P := P) (base := base) T
  have G_is_name := f_is_name (P := P) (base := base) T
  have G_is_number3 := f_is_number3 (P := P) (base := base) T
  have G_part_of2 := f_part_of2 (P := P) (base := base) T
  refine fok F T.g_is_made (fun _ _ _ _ _ _ us hl => match us, hl with | [_], _ => rfl) (F.ok sc_is_made (fun vs H Q E h => ?_) (fun cdv A outer s H vs Q E hr h => ?_))
  · obtain ⟨p, n, rfl, _⟩ := h
    rfl
  · refine ⟨_, PSs.nox (pss_cons (ps_if (PW.pt (pw_or (pt_not (pt_val (pe_callB (call_isiA (K := K) (by rfl)) (by rfl) T.b_isinstance bt_isinstance (pa_cons (pv 0) (pa_cons (pe_ty T.b_tuple bt_tuple) pa_nil))))) (pw_or (pt_cmpR op_ne (pe_callB (call_lenA (K := K) (by rfl)) (by rfl) T.b_len bt_len (pa_cons (pv 0) pa_nil)) pe_int (nomark _)) (pw_or1 (pt_not (pt_val (pe_fn G_is_one_of (hr.mono (by decide)) pass0 (pa_cons (pe_ix (ix_tupK (K := K) (by rfl)) (pv 0) pe_int (fun _ _ => rfl)) (pa_cons (pe_tup (pa_cons pe_str pa_nil)) pa_nil))))))))) (pss_one (ps_ret pe_bl)) pss_nil)
      (pss_cons (ps_asg (pv 0) (pg_tupK (K := K) (n := 10) (by rfl) (by rfl) (by rfl) (pgs_cons (pg_name (i := 1) sc_is_made.nd rfl (Or.inl rfl)) (pgs_cons (pg_name (i := 2) sc_is_made.nd rfl (Or.inl rfl)) (pgs_cons (pg_name (i := 3) sc_is_made.nd rfl (Or.inl rfl)) (pgs_cons (pg_name (i := 4) sc_is_made.nd rfl (Or.inl rfl)) (pgs_cons (pg_name (i := 5) sc_is_made.nd rfl (Or.inl rfl)) (pgs_cons (pg_name (i := 6) sc_is_made.nd rfl (Or.inl rfl)) (pgs_cons (pg_name (i := 7) sc_is_made.nd rfl (Or.inl rfl)) (pgs_cons (pg_name (i := 8) sc_is_made.nd rfl (Or.inl rfl)) (pgs_cons (pg_name (i := 9) sc_is_made.nd rfl (Or.inl rfl)) (pgs_cons (pg_name (i := 10) sc_is_made.nd rfl (Or.inl rfl)) pgs_nil))))))))))))
      (pss_cons (ps_if (PW.pt (pw_or (pt_not (pt_val (pe_callB (cr_allK (K := K) (by rfl) rfl) (by rfl) T.b_all bt_all (pa_cons (pe_lc (own := [("one", 11)])  (by rfl) sc_is_made.nd (by exact (pi_tupK (K := K) (by rfl) (pe_tup (pa_cons (pv 2) (pa_cons (pv 3) (pa_cons (pv 4) pa_nil)))))) (blkOk_by (own := [("one", 11)]) (N := ns_is_made) (sc := defScope s_is_made) (by decide +kernel)) (fun _ _ _ _ _ => (pg_name (i := 11) sc_is_made.nd rfl (Or.inl rfl))) (fun _ _ _ _ _ => pts_nil) (fun _ _ _ _ _ => (pe_fn G_is_number3 (hr.mono (by decide)) pass0 (pa_cons (pv 11) (pa_cons pe_int (pa_cons (pe_gi T.i_MOST_AMOUNT) pa_nil)))))) pa_nil)))) (pw_or1 (pt_cmpR op_eq (pv 3) (pv 4) (nomark _))))) (pss_one (ps_ret pe_bl)) pss_nil)
      (pss_cons (ps_if (PW.pt (pw_or (pt_not (pt_val (pe_callB (cr_allK (K := K) (by rfl) rfl) (by rfl) T.b_all bt_all (pa_cons (pe_lc (own := [("one", 11)])  (by rfl) sc_is_made.nd (by exact (pi_tupK (K := K) (by rfl) (pe_tup (pa_cons (pv 5) (pa_cons (pv 6) (pa_cons (pv 7) pa_nil)))))) (blkOk_by (own := [("one", 11)]) (N := ns_is_made) (sc := defScope s_is_made) (by decide +kernel)) (fun _ _ _ _ _ => (pg_name (i := 11) sc_is_made.nd rfl (Or.inl rfl))) (fun _ _ _ _ _ => pts_nil) (fun _ _ _ _ _ => (pe_fn G_is_name (hr.mono (by decide)) pass0 (pa_cons (pv 11) pa_nil)))) pa_nil)))) (pw_or1 (pt_cmpR op_eq (pv 5) (pv 6) (nomark _))))) (pss_one (ps_ret pe_bl)) pss_nil)
      (pss_cons (ps_if (PW.pt (pw_or (pt_not (pt_val (pe_fn G_is_number3 (hr.mono (by decide)) pass0 (pa_cons (pv 8) (pa_cons pe_int (pa_cons (pe_gi T.i_MOST_MANY) pa_nil)))))) (pw_or1 (pt_not (pt_val (pe_fn G_is_number3 (hr.mono (by decide)) pass0 (pa_cons (pv 9) (pa_cons pe_int (pa_cons (pe_gi T.i_MOST_PRICE) pa_nil))))))))) (pss_one (ps_ret pe_bl)) pss_nil)
      (pss_one (ps_ret (pe_fn G_is_number3 (hr.mono (by decide)) pass0 (pa_cons (pv 10) (pa_cons pe_int (pa_cons (pe_fn G_part_of2 (hr.mono (by decide)) pass0 (pa_cons (pe_op op_mul (pv 8) (pv 9)) (pa_cons (pe_gi T.i_MOST_RATE_forms) pa_nil))) pa_nil))))))))))), ?_⟩
    obtain ⟨a, r, rfl, ha, g, q⟩ := h
    cases r with
    | made d se b x y z m p t =>
      dsimp only [Row.vs] at ha
      obtain ⟨g1, g2, g3, g4, g5, g6, g7, g8, g9, g10, g11, g12, g13, g14, g15⟩ := g
      walk_at "rd"
      rename_i p1 hp1 p2 hp2
      refine ⟨⟨_, SqT.of upd_same⟩, fun D hD => ?_⟩
      refine lc_pureT hD (SqT.of upd_same) (by simp) (fun _ => some (.bl true)) (fun i v H2 R R0 hv s h1 h0 => ?_) (fun H2 s2 e2 => ?_)
      · rcases mem3 hv with rfl | rfl | rfl
        all_goals walk_at "rd"
        all_goals exact qb (h1 _ _ (Same.refl _) rfl) (by simp; omega)
      · refine all_fm e2 ?_
        have s3 : Same H H2 := (grow hp1).trans ((grow hp2).trans s2)
        clear s2
        walk_at "rd"
        rename_i p3 hp3
        refine ⟨⟨_, SqT.of upd_same⟩, fun D2 hD2 => ?_⟩
        refine lc_pureT hD2 (SqT.of upd_same) (by simp) (fun _ => some (.bl true)) (fun i v H3 R R0 hv s h1 h0 => ?_) (fun H3 s4 e3 => ?_)
        · rcases mem3 hv with rfl | rfl | rfl
          all_goals walk_at "rd"
          all_goals exact h1 _ _ (by assumption) rfl
        · refine all_fm e3 ?_
          have s5 : Same H H3 := s3.trans ((grow hp3).trans s4)
          clear s4
          have hm1 : 0 ≤ m * p := Int.mul_nonneg (by omega) (by omega)
          have hm2 : m * p ≤ 99 * 9999 := Int.mul_le_mul g13 g15 (by omega) (by omega)
          walk_at "rd"
          exact qb (q _ s5) (by simp [Row.okMade])
    | _ =>
      dsimp only [Row.vs] at ha
      walk_at "rd"
      exact q _ (by walk_at "sm")
theorem f_is_ended (T : Tx w K mg) : Fok P w K mg base CX0 "is_ended" ps_is_ended [] 2 spEnded := by
  obtain ⟨fd, F⟩ := T.d_is_ended
  have G_is_number3 := f_is_number3 (P := P) (base := base) T
  refine fok F T.g_is_ended (fun _ _ _ _ _ _ us hl => match us, hl with | [_], _ => rfl) (F.ok sc_is_ended (fun vs H Q E h => ?_) (fun cdv A outer s H vs Q E hr h => ?_))
  · obtain ⟨p, n, _, _, _, rfl, _⟩ := h
    rfl
  · refine ⟨_, PSs.nox (pss_cons (ps_if (PW.pt (pw_or (pt_cmpR op_ne (pe_callB (call_lenA (K := K) (by rfl)) (by rfl) T.b_len bt_len (pa_cons (pv 0) pa_nil)) pe_int (nomark _)) (pw_or (pt_not (pt_val (pe_callB (call_isiA (K := K) (by rfl)) (by rfl) T.b_isinstance bt_isinstance (pa_cons (pe_ix (ix_tupK (K := K) (by rfl)) (pv 0) pe_int (fun _ _ => rfl)) (pa_cons (pe_ty T.b_str bt_str) pa_nil))))) (pw_or1 (pt_not (pt_val (pe_callB (call_isiA (K := K) (by rfl)) (by rfl) T.b_isinstance bt_isinstance (pa_cons (pe_ix (ix_tupK (K := K) (by rfl)) (pv 0) pe_int (fun _ _ => rfl)) (pa_cons (pe_ty T.b_bool bt_bool) pa_nil))))))))) (pss_one (ps_ret pe_bl)) pss_nil)
      (pss_cons (ps_if (pt_not (pt_val (pe_fn G_is_number3 (hr.mono (by decide)) pass0 (pa_cons (pe_ix (ix_tupK (K := K) (by rfl)) (pv 0) pe_int (fun _ _ => rfl)) (pa_cons pe_int (pa_cons (pe_gi T.i_WHOLE_PART) pa_nil)))))) (pss_one (ps_ret pe_bl)) pss_nil)
      (pss_one (ps_ret (pe_or (pe_cmpR op_eq (pe_ix (ix_tupK (K := K) (by rfl)) (pv 0) pe_int (fun _ _ => rfl)) pe_str (nomark _)) (pe_one (pe_and (pe_cmpR (op_in_kdK (K := K) T.kd_ENDS rfl (by rfl)) (pe_ix (ix_tupK (K := K) (by rfl)) (pv 0) pe_int (fun _ _ => rfl)) (pe_ga T.g_ENDS) rfl) (pe_one (pe_cmpR (op_eqDK (K := K) (by rfl) hr.units) (pe_ix (ix_kdK (K := K) T.kd_ENDS rfl (by rfl)) (pe_ga T.g_ENDS) (pe_ix (ix_tupK (K := K) (by rfl)) (pv 0) pe_int (fun _ _ => rfl)) (fun _ _ => rfl)) (pe_tup (pa_cons (pe_ix (ix_tupK (K := K) (by rfl)) (pv 0) pe_int (fun _ _ => rfl)) (pa_cons (pe_ix (ix_tupK (K := K) (by rfl)) (pv 0) pe_int (fun _ _ => rfl)) pa_nil))) (nomark _)))))))))), ?_⟩
    obtain ⟨a, d, how, p, b, rfl, ha, ⟨g1, g2, g3, g4, g5⟩, q⟩ := h
    dsimp only [Row.vs] at ha
    rcases g5 with rfl | ⟨rfl, rfl, rfl⟩ | ⟨rfl, rfl, rfl⟩ | ⟨rfl, rfl, rfl⟩
    · walk_at "rd"
      exact q _ (Same.refl _)
    · walk_at "rd"
      refine rinkd T.ends_back.1 ?_
      walk_at "rd"
      refine rixkd T.ends_back.1 ?_
      walk_at "rd"
      rename_i pt hpt
      exact ⟨.tuple [.int 100, .bool true], .tuple [.int 100, .bool true], .tup (T.ends_back.2 _) (.cons (.int _) (.cons (.bl _) .nil)), .tup (SqT.of upd_same) (.cons (.int _) (.cons (.bl _) .nil)), by decide +kernel, by decide +kernel, qb (q _ (grow hpt)) (by decide +kernel)⟩
    · walk_at "rd"
      refine rinkd T.ends_lost.1 ?_
      walk_at "rd"
      refine rixkd T.ends_lost.1 ?_
      walk_at "rd"
      rename_i pt hpt
      exact ⟨.tuple [.int 100, .bool false], .tuple [.int 100, .bool false], .tup (T.ends_lost.2 _) (.cons (.int _) (.cons (.bl _) .nil)), .tup (SqT.of upd_same) (.cons (.int _) (.cons (.bl _) .nil)), by decide +kernel, by decide +kernel, qb (q _ (grow hpt)) (by decide +kernel)⟩
    · walk_at "rd"
      refine rinkd T.ends_sold.1 ?_
      walk_at "rd"
      refine rixkd T.ends_sold.1 ?_
      walk_at "rd"
      rename_i pt hpt
      exact ⟨.tuple [.int 0, .bool false], .tuple [.int 0, .bool false], .tup (T.ends_sold.2 _) (.cons (.int _) (.cons (.bl _) .nil)), .tup (SqT.of upd_same) (.cons (.int _) (.cons (.bl _) .nil)), by decide +kernel, by decide +kernel, qb (q _ (grow hpt)) (by decide +kernel)⟩
end
end Mk
/-! Flat data compared; lists of rows by (address, row). -/
namespace Mk
open PySem PySem.Spec L2 He
/-! ### flat data -/
def vD : V → PyData
  | .str z => .str z
  | .int i => .int i
  | .bl b => .bool b
  | _ => .none
def flatOk : V → Prop
  | .str z => okS z
  | .int _ => True
  | .bl _ => True
  | .non => True
  | _ => False
section
variable {K : PySem.W.Frag} {H : Hp} {Q : VK} {a b p q : Addr} {xs ys : List V} {v : V}
theorem dp_flat (h : flatOk v) : Dp K H v (vD v) := by
  cases v with
  | non => exact .non
  | bl b => exact .bl b
  | int i => exact .int i
  | str z => exact .str z
  | _ => exact h.elim
theorem dps_flat : ∀ {xs : List V}, (∀ v ∈ xs, flatOk v) → DpAll K H xs (xs.map vD)
  | [], _ => .nil
  | x :: xs, h => .cons (dp_flat (h x List.mem_cons_self)) (dps_flat fun v hv => h v (List.mem_cons_of_mem _ hv))
theorem vD_lay (h : flatOk v) : (vD v).canLay0 = true ∧ (vD v).depth = 0 := by
  cases v with
  | non => simp [vD, PyData.canLay0, PyData.depth]
  | bl b => simp [vD, PyData.canLay0, PyData.depth]
  | int i => simp [vD, PyData.canLay0, PyData.depth]
  | str z =>
    simp [vD, PyData.canLay0, PyData.depth]
    exact h
  | _ => exact h.elim
theorem vDs_lay : ∀ {xs : List V}, (∀ v ∈ xs, flatOk v) → PyData.canLayAll0 (xs.map vD) = true ∧ PyData.depthAll (xs.map vD) ≤ 1
  | [], _ => by simp [PyData.canLayAll0, PyData.depthAll]
  | x :: xs, h => by
    obtain ⟨h1, h2⟩ := vD_lay (h x List.mem_cons_self)
    obtain ⟨h3, h4⟩ := vDs_lay fun v hv => h v (List.mem_cons_of_mem _ hv)
    rw [List.map_cons]
    simp only [PyData.canLayAll0, PyData.depthAll, h1, h2, h3, Bool.and_self, true_and]
    omega
theorem sh_tup (h : ∀ v ∈ xs, flatOk v) : SeqAt.shaped (.tuple (xs.map vD)) = true ∧ (PyData.tuple (xs.map vD)).canLay0 = true ∧ (PyData.tuple (xs.map vD)).depth ≤ 2 := by
  obtain ⟨h3, h4⟩ := vDs_lay h
  have e1 : (PyData.tuple (xs.map vD)).canLay0 = true := by
    simp only [PyData.canLay0]
    exact h3
  have e2 : (PyData.tuple (xs.map vD)).depth ≤ 2 := by
    simp only [PyData.depth]
    omega
  refine ⟨?_, e1, e2⟩
  show ((PyData.tuple (xs.map vD)).canLay0 && decide ((PyData.tuple (xs.map vD)).depth ≤ 64)) = true
  rw [e1, decide_eq_true (by omega)]
  rfl
theorem sh_lst (h : ∀ v ∈ xs, flatOk v) : SeqAt.shaped (.list (xs.map vD)) = true := by
  obtain ⟨h3, h4⟩ := vDs_lay h
  have e1 : (PyData.list (xs.map vD)).canLay0 = true := by
    simp only [PyData.canLay0]
    exact h3
  have e2 : (PyData.list (xs.map vD)).depth ≤ 2 := by
    simp only [PyData.depth]
    omega
  show ((PyData.list (xs.map vD)).canLay0 && decide ((PyData.list (xs.map vD)).depth ≤ 64)) = true
  rw [e1, decide_eq_true (by omega)]
  rfl
def tD (xs : List V) : PyData := .tuple (xs.map vD)
theorem sh_tups {xss : List (List V)} (h : ∀ xs ∈ xss, ∀ v ∈ xs, flatOk v) : SeqAt.shaped (.list (xss.map tD)) = true := by
  have g : ∀ {xss : List (List V)}, (∀ xs ∈ xss, ∀ v ∈ xs, flatOk v) → PyData.canLayAll0 (xss.map tD) = true ∧ PyData.depthAll (xss.map tD) ≤ 3 := by
    intro xss
    induction xss with
    | nil => intro _; simp [PyData.canLayAll0, PyData.depthAll]
    | cons x xss ih =>
      intro h
      obtain ⟨_, h1, h2⟩ := sh_tup (h x List.mem_cons_self)
      obtain ⟨h3, h4⟩ := ih fun y hy => h y (List.mem_cons_of_mem _ hy)
      rw [List.map_cons]
      have h1' : (tD x).canLay0 = true := h1
      have h2' : (tD x).depth ≤ 2 := h2
      simp only [PyData.canLayAll0, PyData.depthAll, h1', h3, Bool.and_self, true_and]
      omega
  obtain ⟨h3, h4⟩ := g h
  have e1 : (PyData.list (xss.map tD)).canLay0 = true := by
    simp only [PyData.canLay0]
    exact h3
  have e2 : (PyData.list (xss.map tD)).depth ≤ 4 := by
    simp only [PyData.depth]
    omega
  show ((PyData.list (xss.map tD)).canLay0 && decide ((PyData.list (xss.map tD)).depth ≤ 64)) = true
  rw [e1, decide_eq_true (by omega)]
  rfl
theorem eqv_nil (ds : List PyData) : PyData.eqv (.list ds) (.list []) = ds.isEmpty := by
  cases ds <;> simp [PyData.eqv, PyData.eqvAll]
/-- xs != [] -/
theorem rne_nil (h : H p = some (.lst xs)) (f : ∀ v ∈ xs, flatOk v) (hq : H q = some (.lst [])) (k : Q (.bl (!xs.isEmpty)) H) : rNeD K (.ref p) (.ref q) H Q :=
  ⟨.list (xs.map vD), .list [], .lst (SqL.of h) (dps_flat f), .lst (SqL.of hq) .nil, sh_lst f, by decide +kernel, qb k (by rw [eqv_nil, List.isEmpty_map])⟩
end
/-! ### rows -/
def RowsP (H : Hp) (l : Addr) (ps : List (Addr × Row)) : Prop := H l = some (.lst (ps.map fun p => V.ref p.1)) ∧ ∀ p ∈ ps, H p.1 = some (.tup p.2.vs)
theorem RowsP.same {H H' : Hp} (s : Same H H') {l : Addr} {ps : List (Addr × Row)} (h : RowsP H l ps) : RowsP H' l ps := ⟨s _ _ h.1, fun p hp => s _ _ (h.2 p hp)⟩
theorem flatOk_row {r : Row} (g : r.good) : ∀ v ∈ r.vs, flatOk v := by
  have k0 : ∀ z : Str, nameB z = true → flatOk (.str z) := fun z h => okS_name h
  have e1 : flatOk (.str "made") := okS_name (by decide +kernel)
  have e2 : flatOk (.str "sent") := okS_name (by decide +kernel)
  have e3 : flatOk (.str "came") := okS_name (by decide +kernel)
  have e4 : flatOk (.str "complained") := by show PyData.strOk "complained" = true; decide +kernel
  have e5 : flatOk (.str "said") := okS_name (by decide +kernel)
  have e6 : flatOk (.str "ended") := okS_name (by decide +kernel)
  cases r with
  | made d s b x y z m p t =>
    obtain ⟨_, _, _, _, _, _, _, g8, g9, g10, _⟩ := g
    intro v hv
    simp only [Row.vs, List.mem_cons, List.not_mem_nil, or_false] at hv
    rcases hv with rfl | rfl | rfl | rfl | rfl | rfl | rfl | rfl | rfl | rfl
    all_goals first | exact e1 | exact True.intro | exact k0 _ g8 | exact k0 _ g9 | exact k0 _ g10
  | sent d w a =>
    obtain ⟨_, _, g3, _⟩ := g
    intro v hv
    simp only [Row.vs, List.mem_cons, List.not_mem_nil, or_false] at hv
    rcases hv with rfl | rfl | rfl | rfl
    all_goals first | exact e2 | exact True.intro | exact k0 _ g3
  | came d =>
    intro v hv
    simp only [Row.vs, List.mem_cons, List.not_mem_nil, or_false] at hv
    rcases hv with rfl | rfl
    all_goals first | exact e3 | exact True.intro
  | comp d w =>
    obtain ⟨_, _, g3⟩ := g
    intro v hv
    simp only [Row.vs, List.mem_cons, List.not_mem_nil, or_false] at hv
    rcases hv with rfl | rfl | rfl
    all_goals first | exact e4 | exact True.intro | exact k0 _ g3
  | said d w z =>
    obtain ⟨_, _, g3⟩ := g
    have g4 := pairGood_ok g3
    intro v hv
    simp only [Row.vs, List.mem_cons, List.not_mem_nil, or_false] at hv
    rcases hv with rfl | rfl | rfl | rfl
    all_goals first | exact e5 | exact True.intro | exact g4.1 | exact g4.2
  | ended d h p b =>
    obtain ⟨_, _, _, _, g5⟩ := g
    have g6 : okS h := by
      rcases g5 with rfl | ⟨rfl, _⟩ | ⟨rfl, _⟩ | ⟨rfl, _⟩
      all_goals exact okS_name (by decide +kernel)
    intro v hv
    simp only [Row.vs, List.mem_cons, List.not_mem_nil, or_false] at hv
    rcases hv with rfl | rfl | rfl | rfl | rfl
    all_goals first | exact e6 | exact True.intro | exact g6
theorem dps_rows {K : PySem.W.Frag} {H : Hp} : ∀ {ps : List (Addr × Row)}, (∀ p ∈ ps, H p.1 = some (.tup p.2.vs)) → (∀ p ∈ ps, p.2.good) → DpAll K H (ps.map fun p => V.ref p.1) ((ps.map fun p => p.2.vs).map tD)
  | [], _, _ => .nil
  | p :: ps, h, g => .cons (.tup (SqT.of (h p List.mem_cons_self)) (dps_flat (flatOk_row (g p List.mem_cons_self)))) (dps_rows (fun q hq => h q (List.mem_cons_of_mem _ hq)) fun q hq => g q (List.mem_cons_of_mem _ hq))
theorem rne_rows {K : PySem.W.Frag} {H : Hp} {Q : VK} {l q : Addr} {ps : List (Addr × Row)} (h : RowsP H l ps) (g : ∀ p ∈ ps, p.2.good) (hq : H q = some (.lst [])) (k : Q (.bl (!ps.isEmpty)) H) : rNeD K (.ref l) (.ref q) H Q := by
  refine ⟨.list ((ps.map fun p => p.2.vs).map tD), .list [], .lst (SqL.of h.1) (dps_rows h.2 g), .lst (SqL.of hq) .nil, sh_tups fun xs hx => ?_, by decide +kernel, qb k (by rw [eqv_nil, List.isEmpty_map, List.isEmpty_map])⟩
  obtain ⟨p, hp, rfl⟩ := List.mem_map.mp hx
  exact flatOk_row (g p hp)
/-- a comprehension over rows -/
theorem lc_rows {K : PySem.W.Frag} {l : Addr} {ps : List (Addr × Row)} {g : TG} {tt : TT} {te : TE} {vs : List Nat} {σ : St} {H1 : Hp} {D : Addr} {Qd : Hp → Prop} (hD : H1 D = none) (hr : RowsP H1 l ps) (hn : ps.length ≤ 1000000) (f : Addr × Row → Option V)
    (turn : ∀ (i : Nat) (p : Addr × Row) (H : Hp) (R : V → Hp → Prop) (R0 : Hp → Prop), ps[i]? = some p → Same H1 H → H p.1 = some (.tup p.2.vs) → (∀ y H4, Same H H4 → f p = some y → R y H4) → (∀ H3, Same H H3 → f p = none → R0 H3) →
      g (.ref p.1) (wipe σ vs) H fun σ2 H2 => wipe σ2 vs = wipe σ vs ∧ tt σ2 H2 fun b H3 => if b = true then te σ2 H3 R else R0 H3)
    (done : ∀ H, Same H1 H → H D = some (.lst (ps.filterMap f)) → Qd H) : LcG (Itl K l) g tt te vs σ H1 D Qd := by
  have e : (ps.map fun p => p.1).map V.ref = ps.map fun p => V.ref p.1 := by rw [List.map_map]; rfl
  have pr : ∀ {ps : List (Addr × Row)}, (∀ p ∈ ps, H1 p.1 = some (.tup p.2.vs)) → Paired (fun (b : Addr) (d : Addr × Row) => d.1 = b ∧ H1 b = some (.tup d.2.vs)) (ps.map fun p => p.1) ps := by
    intro ps
    induction ps with
    | nil => intro _; exact .nil
    | cons p ps ih => intro h; exact .cons ⟨rfl, h p List.mem_cons_self⟩ (ih fun q hq => h q (List.mem_cons_of_mem _ hq))
  refine lc_dataL (Rel := fun H (b : Addr) (d : Addr × Row) => d.1 = b ∧ H b = some (.tup d.2.vs)) (fun _ _ _ _ s h => ⟨h.1, s _ _ h.2⟩) hD (by rw [e]; exact SqL.of hr.1) (pr hr.2) hn f (fun i b d H R R0 hi s hrel h1 h0 => ?_) done
  obtain ⟨rfl, hb⟩ := hrel
  exact turn i d H R R0 hi s hb h1 h0
theorem rix_row {K : PySem.W.Frag} {H : Hp} {Q : VK} {l : Addr} {ps : List (Addr × Row)} {i : Int} {p : Addr × Row} (h : RowsP H l ps) (e : atI ps i = some p) (q : Q (.ref p.1) H) : rIxL K (.ref l) (.int i) H Q := by
  refine ⟨l, _, i, .ref p.1, rfl, rfl, SqL.of h.1, ?_, q⟩
  unfold atI at e ⊢
  rw [List.length_map]
  cases hx : ixN ps.length i with
  | none => rw [hx] at e; cases e
  | some j =>
    rw [hx] at e
    have e' : ps[j]? = some p := e
    show (ps.map fun p => V.ref p.1)[j]? = some (.ref p.1)
    rw [List.getElem?_map, e']
    rfl
theorem atI_nat {α : Type} {xs : List α} {j : Nat} {x : α} (h : xs[j]? = some x) : atI xs (j : Int) = some x := by
  have hl := (List.getElem?_eq_some_iff.mp h).1
  unfold atI ixN
  rw [if_pos (by omega), if_pos (by omega)]
  exact h
theorem rlen_row {K : PySem.W.Frag} {H : Hp} {Q : VK} {l : Addr} {ps : List (Addr × Row)} (h : RowsP H l ps) (q : Q (.int (ps.length : Nat)) H) : rLenS K [.ref l] H Q := rlen_l h.1 (List.length_map _) q
end Mk
/-! forms.py: is_row, goes_on, stands, first_wrong, is_record, row_of -/
namespace Mk
open PySem PySem.Spec L2 He
local macro_rules | `(tactic| walk_at "rdu") => `(tactic| dsimp only [tSeq, tNext, tRet, tRetN, tAsg, tDrop, tIfS, tOr, tAnd, tNot, tB, tTest, tCB, tCons, tNil, tVar, tC, tOp, tUn, tOrV, tAndV, tNotV, tIf, tChain, tCall, tTup, tLst, gName, L2.start, dl_map, dl_map0, dl_app, dl_app0, List.length_cons, List.length_nil, List.replicate, List.set, Nat.reduceAdd, Nat.reduceSub, tLc_eq, tFor_eq, sck_eq, dct_eq, tPar, gCons, gNil, iList, iTup, iRng1, iStr, wipe, tYes, tSl, tPart, tNoPart, tFld, tMeth, tMake])
local macro_rules | `(tactic| walk_at "lk") => `(tactic| first | assumption | (with_reducible exact upd_same) | ((with_reducible apply keep); rotate_left; (focus assumption); walk_at "lk") | ((with_reducible apply kp); (focus assumption); walk_at "lk"))
local macro_rules | `(tactic| walk_at "lq") => `(tactic| first | assumption | exact .inl (SqL.of (by walk_at "lk")) | exact .inr (SqT.of (by walk_at "lk")) | (refine sq2_same (grow (by assumption)) ?_; walk_at "lq") | (refine sq2_same (by assumption) ?_; walk_at "lq"))
local macro_rules | `(tactic| walk_at "sm") => `(tactic| first | exact Same.refl _ | assumption | (refine same_upd2 ?_ (by assumption); walk_at "sm") | (refine same_upd ?_ (by assumption); walk_at "sm") | (refine Same.trans ?_ (by assumption); walk_at "sm"))
local macro_rules | `(tactic| walk_at "rd1") => `(tactic| first
  | ((with_reducible apply req_ss))
  | ((with_reducible apply req_ii))
  | ((with_reducible apply req_bb))
  | ((with_reducible apply rne_ss))
  | ((with_reducible apply rne_ii))
  | ((with_reducible apply cm_l); (focus omega); (focus omega))
  | ((with_reducible apply cm_r); (focus omega); (focus omega))
  | ((with_reducible apply cd_i); (focus omega); (focus omega))
  | ((with_reducible apply md_i); (focus omega))
  | ((with_reducible apply part1))
  | ((with_reducible apply num2))
  | ((with_reducible apply num3))
  | ((with_reducible apply name1); (focus first | assumption | decide +kernel); intro _ _)
  | ((with_reducible apply one_m); (focus (walk_at "lq")))
  | ((with_reducible apply one_s); (focus (walk_at "lq")); (focus with_unfolding_all rfl))
  | refine ⟨_, rfl, ?_⟩
  | refine ⟨_, _, rfl, rfl, ?_⟩
  | ((with_reducible apply gcons_t))
  | ((with_reducible apply gpar_t))
  | ((with_reducible apply gpar3_t))
  | refine ⟨rfl, ?_⟩
  | ((with_reducible apply iteT))
  | ((with_reducible apply iteF))
  | ((with_reducible apply ri_ii))
  | ((with_reducible apply ri_ib))
  | ((with_reducible apply ri_ss))
  | ((with_reducible apply ri_bb))
  | ((with_reducible apply ri_tt); (focus (walk_at "lk")))
  | ((with_reducible apply ri_ll); (focus (walk_at "lk")))
  | ((with_reducible apply ri_dd); (focus (walk_at "lk")))
  | ((with_reducible apply rt_l); (focus (walk_at "lk")); (focus (walk_at "lk")))
  | ((with_reducible apply rt_t); (focus (walk_at "lk")); (focus (walk_at "lk")))
  | ((with_reducible apply rix_t); (focus (walk_at "lk")); (focus with_unfolding_all rfl))
  | ((with_reducible apply rix_l); (focus (walk_at "lk")); (focus with_unfolding_all rfl))
  | ((with_reducible apply rlen_t); (focus (walk_at "lk")); (focus first | (simp only [List.length_cons, List.length_nil]; done) | (simp only [List.length_cons, List.length_nil]; with_unfolding_all rfl) | with_unfolding_all rfl))
  | ((with_reducible apply rlen_l); (focus (walk_at "lk")); (focus first | (simp only [List.length_cons, List.length_nil]; done) | (simp only [List.length_cons, List.length_nil]; with_unfolding_all rfl) | with_unfolding_all rfl))
  | ((with_reducible apply rin_t); (focus (walk_at "lk")); (focus with_unfolding_all rfl))
  | ((with_reducible apply rnin_t); (focus (walk_at "lk")); (focus with_unfolding_all rfl))
  | ((with_reducible apply rsl_t); (focus (walk_at "lk")); (focus with_unfolding_all rfl); (focus first | (simp [cutV, HT.sIx]; done) | (simp [cutV, HT.sIx]; rfl)); intro _ _)
  | ((with_reducible apply rin_l); (focus (walk_at "lk")))
  | ((with_reducible apply rnin_l); (focus (walk_at "lk")))
  | ((with_reducible apply gtup_t); (focus (walk_at "lk")); (focus with_unfolding_all rfl); walk_at "rdu")
  | ((with_reducible apply alc); (focus decide); intro _ _)
  | ((with_reducible apply itenT))
  | ((with_reducible apply itenF))
  | ((with_reducible apply ited_sT); (focus first | rfl | assumption))
  | ((with_reducible apply ited_sF); (focus first | assumption | decide +kernel))
  | ((with_reducible apply itedn_sT); (focus first | assumption | decide +kernel))
  | ((with_reducible apply itedn_sF); (focus first | rfl | assumption))
  | ((with_reducible apply ited_mT); (focus first | assumption | decide +kernel))
  | ((with_reducible apply ited_mF); (focus first | assumption | decide +kernel))
  | ((with_reducible apply itedn_mT); (focus first | assumption | decide +kernel))
  | ((with_reducible apply itedn_mF); (focus first | assumption | decide +kernel))
  | ((with_reducible apply ited_s) <;> intro _)
  | ((with_reducible apply itedn_s) <;> intro _)
  | ((with_reducible apply ited_m) <;> intro _)
  | ((with_reducible apply itedn_m) <;> intro _)
  | ((with_reducible apply itedT); (focus first | assumption | omega))
  | ((with_reducible apply itedF); (focus first | assumption | omega))
  | ((with_reducible apply itednF); (focus first | assumption | omega))
  | ((with_reducible apply itednT); (focus first | assumption | omega))
  | ((with_reducible apply ited) <;> intro _)
  | ((with_reducible apply itedn) <;> intro _)
  | ((with_reducible apply itebn) <;> intro _)
  | ((with_reducible apply iteb) <;> intro _)
  | walk_at "rdu"
  | contradiction)
local macro_rules | `(tactic| walk_at "rd") => `(tactic| (try walk_at "rdu"); repeat' walk_at "rd1")
def Row.isEnded : Row → Bool
  | .ended .. => true
  | _ => false
def Row.word : Row → Str
  | .ended _ h _ _ => h
  | r => r.kind
def Row.behind : Row → List Str
  | .made .. => ["sent", "back"]
  | .sent .. => ["came", "lost"]
  | .came _ => ["complained", "sold"]
  | .comp .. => ["said", "judged"]
  | .said .. => ["said", "judged"]
  | .ended .. => []
def goesB (b r : Row) : Bool := !b.isEnded && (decide (b.day ≤ r.day) && decide (r.word ∈ b.behind))
theorem goesB_le {b r : Row} (h1 : b.isEnded = false) (h2 : b.day ≤ r.day) : goesB b r = decide (r.word ∈ b.behind) := by
  unfold goesB
  rw [h1, decide_eq_true h2]
  rfl
theorem goesB_lt {b r : Row} (h : r.day < b.day) : goesB b r = false := by
  unfold goesB
  rw [decide_eq_false (by omega)]
  simp
theorem goesB_end {b r : Row} (h : b.isEnded = true) : goesB b r = false := by
  unfold goesB
  rw [h]
  rfl
theorem rin_q {K : PySem.W.Frag} {H : Hp} {Q : VK} {p : Addr} {z : Str} {xs : List V} (h : SqT K H p xs) (e : xs = (strsOf xs).map V.str) (q : Q (.bl (decide (z ∈ strsOf xs))) H) : rIn K false (.str z) (.ref p) H Q := by
  refine ⟨p, xs, rfl, .inr h, rfl, all_strs e, ?_⟩
  rw [if_neg (by decide), e, inV_s]
  exact q
def spGoes : Sp := fun vs H Q _ => ∃ (x y : Addr) (b r : Row), vs = [.ref x, .ref y] ∧ H x = some (.tup b.vs) ∧ H y = some (.tup r.vs) ∧ Q (.bl (goesB b r)) H
section
variable {P : Program} {w : World} {K : PySem.W.Frag} {mg : Str → Option Value} {base : Heap}
theorem f_is_row (T : Tx w K mg) : Fok P w K mg base CX0 "is_row" ps_is_row [] 3 spRow := by
  obtain ⟨fd, F⟩ := T.d_is_row
  have G_is_one_of := f_is_one_of (P := P) (base := base) T
  have G_is_name := f_is_name (P := P) (base := base) T
  have G_is_number3 := f_is_number3 (P := P) (base := base) T
  have G_is_ended := f_is_ended (P := P) (base := base) T
  refine fok F T.g_is_row (fun _ _ _ _ _ _ us hl => match us, hl with | [_], _ => rfl) (F.ok sc_is_row (fun vs H Q E h => ?_) (fun cdv A outer s H vs Q E hr h => ?_))
  · obtain ⟨p, n, rfl, _⟩ := h
    rfl
  · refine ⟨_, PSs.nox (pss_cons (ps_if (PW.pt (pw_or (pt_not (pt_val (pe_callB (call_isiA (K := K) (by rfl)) (by rfl) T.b_isinstance bt_isinstance (pa_cons (pv 0) (pa_cons (pe_ty T.b_tuple bt_tuple) pa_nil))))) (pw_or (pt_cmpR op_lt (pe_callB (call_lenA (K := K) (by rfl)) (by rfl) T.b_len bt_len (pa_cons (pv 0) pa_nil)) pe_int (nomark _)) (pw_or1 (pt_not (pt_val (pe_callB (call_isiA (K := K) (by rfl)) (by rfl) T.b_isinstance bt_isinstance (pa_cons (pe_ix (ix_tupK (K := K) (by rfl)) (pv 0) pe_int (fun _ _ => rfl)) (pa_cons (pe_ty T.b_str bt_str) pa_nil))))))))) (pss_one (ps_ret pe_bl)) pss_nil)
      (pss_cons (ps_if (pt_not (pt_val (pe_fn G_is_number3 (hr.mono (by decide)) pass0 (pa_cons (pe_ix (ix_tupK (K := K) (by rfl)) (pv 0) pe_int (fun _ _ => rfl)) (pa_cons pe_int (pa_cons (pe_gi T.i_MOST_AMOUNT) pa_nil)))))) (pss_one (ps_ret pe_bl)) pss_nil)
      (pss_cons (ps_if (pt_cmpR op_eq (pe_ix (ix_tupK (K := K) (by rfl)) (pv 0) pe_int (fun _ _ => rfl)) pe_str (nomark _)) (pss_one (ps_ret (pe_and (pe_cmpR op_eq (pe_callB (call_lenA (K := K) (by rfl)) (by rfl) T.b_len bt_len (pa_cons (pv 0) pa_nil)) pe_int (nomark _)) (pe_and (pe_fn G_is_name (hr.mono (by decide)) pass0 (pa_cons (pe_ix (ix_tupK (K := K) (by rfl)) (pv 0) pe_int (fun _ _ => rfl)) pa_nil)) (pe_one (pe_fn G_is_number3 (hr.mono (by decide)) pass0 (pa_cons (pe_ix (ix_tupK (K := K) (by rfl)) (pv 0) pe_int (fun _ _ => rfl)) (pa_cons pe_int (pa_cons (pe_gi T.i_MOST_AMOUNT) pa_nil))))))))) pss_nil)
      (pss_cons (ps_if (pt_cmpR op_eq (pe_ix (ix_tupK (K := K) (by rfl)) (pv 0) pe_int (fun _ _ => rfl)) pe_str (nomark _)) (pss_one (ps_ret (pe_cmpR op_eq (pe_callB (call_lenA (K := K) (by rfl)) (by rfl) T.b_len bt_len (pa_cons (pv 0) pa_nil)) pe_int (nomark _)))) pss_nil)
      (pss_cons (ps_if (pt_cmpR op_eq (pe_ix (ix_tupK (K := K) (by rfl)) (pv 0) pe_int (fun _ _ => rfl)) pe_str (nomark _)) (pss_one (ps_ret (pe_and (pe_cmpR op_eq (pe_callB (call_lenA (K := K) (by rfl)) (by rfl) T.b_len bt_len (pa_cons (pv 0) pa_nil)) pe_int (nomark _)) (pe_one (pe_fn G_is_name (hr.mono (by decide)) pass0 (pa_cons (pe_ix (ix_tupK (K := K) (by rfl)) (pv 0) pe_int (fun _ _ => rfl)) pa_nil)))))) pss_nil)
      (pss_cons (ps_if (pt_cmpR op_eq (pe_ix (ix_tupK (K := K) (by rfl)) (pv 0) pe_int (fun _ _ => rfl)) pe_str (nomark _)) (pss_one (ps_ret (pe_and (pe_cmpR op_eq (pe_callB (call_lenA (K := K) (by rfl)) (by rfl) T.b_len bt_len (pa_cons (pv 0) pa_nil)) pe_int (nomark _)) (pe_and (pe_fn G_is_one_of (hr.mono (by decide)) pass0 (pa_cons (pe_ix (ix_tupK (K := K) (by rfl)) (pv 0) pe_int (fun _ _ => rfl)) (pa_cons (pe_ga T.g_SIDES) pa_nil))) (pe_one (pe_fn G_is_name (hr.mono (by decide)) pass0 (pa_cons (pe_ix (ix_tupK (K := K) (by rfl)) (pv 0) pe_int (fun _ _ => rfl)) pa_nil))))))) pss_nil)
      (pss_one (ps_ret (pe_and (pe_cmpR op_eq (pe_ix (ix_tupK (K := K) (by rfl)) (pv 0) pe_int (fun _ _ => rfl)) pe_str (nomark _)) (pe_one (pe_fn G_is_ended (hr.mono (by decide)) pass0 (pa_cons (pv 0) pa_nil)))))))))))), ?_⟩
    obtain ⟨a, r, rfl, ha, g, q⟩ := h
    cases r with
    | made d s b x y z m p t =>
      dsimp only [Row.vs] at ha
      obtain ⟨g1, g2, _⟩ := g
      walk_at "rd"
      exact q _ (Same.refl _)
    | sent d w a =>
      dsimp only [Row.vs] at ha
      obtain ⟨g1, g2, g3, g4, g5⟩ := g
      walk_at "rd"
      exact qb (q _ (by assumption)) (by simp [Row.isMade]; omega)
    | came d =>
      dsimp only [Row.vs] at ha
      obtain ⟨g1, g2⟩ := g
      walk_at "rd"
      exact q _ (Same.refl _)
    | comp d w =>
      dsimp only [Row.vs] at ha
      obtain ⟨g1, g2, g3⟩ := g
      walk_at "rd"
      exact q _ (by assumption)
    | said d w z =>
      dsimp only [Row.vs] at ha
      obtain ⟨g1, g2, g3, g4⟩ := g
      walk_at "rd"
      refine one_s (.inr (T.t_SIDES _)) rfl ?_
      have g5 : w ∈ strsOf [V.str "buyer", V.str "seller"] := by
        show w ∈ ([("buyer" : Str), "seller"] : List Str)
        rcases g3 with e | e <;> simp at e <;> simp [e]
      walk_at "rd"
      exact q _ (by assumption)
    | ended d h p b =>
      have ha' := ha
      have g' := g
      dsimp only [Row.vs] at ha
      obtain ⟨g1, g2, g3⟩ := g
      walk_at "rd"
      exact ⟨a, d, h, p, b, rfl, ha', g', fun H' s => q _ s⟩
theorem f_goes_on (T : Tx w K mg) : Fok P w K mg base CX0 "goes_on" ps_goes_on [] 1 spGoes := by
  obtain ⟨fd, F⟩ := T.d_goes_on
  refine fok F T.g_goes_on (fun _ _ _ _ _ _ us hl => match us, hl with | [_, _], _ => rfl) (F.ok sc_goes_on (fun vs H Q E h => ?_) (fun cdv A outer s H vs Q E hr h => ?_))
  · obtain ⟨x, y, b, r, rfl, _⟩ := h
    rfl
  · refine ⟨_, PSs.nox (pss_cons (ps_if (PW.pt (pw_or (pt_cmpR op_eq (pe_ix (ix_tupK (K := K) (by rfl)) (pv 0) pe_int (fun _ _ => rfl)) pe_str (nomark _)) (pw_or1 (pt_cmpR op_lt (pe_ix (ix_tupK (K := K) (by rfl)) (pv 1) pe_int (fun _ _ => rfl)) (pe_ix (ix_tupK (K := K) (by rfl)) (pv 0) pe_int (fun _ _ => rfl)) (nomark _))))) (pss_one (ps_ret pe_bl)) pss_nil)
      (pss_one (ps_ret (pe_cmpR (op_inK (K := K) (by rfl)) (pe_ifExp (pt_cmpR op_eq (pe_ix (ix_tupK (K := K) (by rfl)) (pv 1) pe_int (fun _ _ => rfl)) pe_str (nomark _)) (pe_ix (ix_tupK (K := K) (by rfl)) (pv 1) pe_int (fun _ _ => rfl)) (pe_ix (ix_tupK (K := K) (by rfl)) (pv 1) pe_int (fun _ _ => rfl))) (pe_ix (ix_kdK (K := K) T.kd_BEHIND rfl (by rfl)) (pe_ga T.g_BEHIND) (pe_ix (ix_tupK (K := K) (by rfl)) (pv 0) pe_int (fun _ _ => rfl)) (fun _ _ => rfl)) rfl)))), ?_⟩
    obtain ⟨x, y, b, r, rfl, hx, hy, q⟩ := h
    cases b with
    | ended d h p b =>
      dsimp only [Row.vs] at hx
      walk_at "rd"
      exact qb q (goesB_end rfl)
    | made d s b x y z m p t =>
      cases r
      all_goals
        dsimp only [Row.vs] at hx hy
        walk_at "rd"
        · exact qb q (goesB_lt (by assumption))
        · refine rixkd T.behind_made.1 ?_
          exact rin_q (T.behind_made.2 _) rfl (qb q (goesB_le rfl (Int.not_lt.mp (by assumption))))
    | sent d w a =>
      cases r
      all_goals
        dsimp only [Row.vs] at hx hy
        walk_at "rd"
        · exact qb q (goesB_lt (by assumption))
        · refine rixkd T.behind_sent.1 ?_
          exact rin_q (T.behind_sent.2 _) rfl (qb q (goesB_le rfl (Int.not_lt.mp (by assumption))))
    | came d =>
      cases r
      all_goals
        dsimp only [Row.vs] at hx hy
        walk_at "rd"
        · exact qb q (goesB_lt (by assumption))
        · refine rixkd T.behind_came.1 ?_
          exact rin_q (T.behind_came.2 _) rfl (qb q (goesB_le rfl (Int.not_lt.mp (by assumption))))
    | comp d w =>
      cases r
      all_goals
        dsimp only [Row.vs] at hx hy
        walk_at "rd"
        · exact qb q (goesB_lt (by assumption))
        · refine rixkd T.behind_complained.1 ?_
          exact rin_q (T.behind_complained.2 _) rfl (qb q (goesB_le rfl (Int.not_lt.mp (by assumption))))
    | said d w z =>
      cases r
      all_goals
        dsimp only [Row.vs] at hx hy
        walk_at "rd"
        · exact qb q (goesB_lt (by assumption))
        · refine rixkd T.behind_said.1 ?_
          exact rin_q (T.behind_said.2 _) rfl (qb q (goesB_le rfl (Int.not_lt.mp (by assumption))))
end
end Mk
/-! forms.py: stands, first_wrong, is_record, row_of -/
namespace Mk
open PySem PySem.Spec L2 He
local macro_rules | `(tactic| walk_at "rdu") => `(tactic| dsimp only [tSeq, tNext, tRet, tRetN, tAsg, tDrop, tIfS, tOr, tAnd, tNot, tB, tTest, tCB, tCons, tNil, tVar, tC, tOp, tUn, tOrV, tAndV, tNotV, tIf, tChain, tCall, tTup, tLst, gName, L2.start, dl_map, dl_map0, dl_app, dl_app0, List.length_cons, List.length_nil, List.replicate, List.set, Nat.reduceAdd, Nat.reduceSub, tLc_eq, tFor_eq, sck_eq, dct_eq, tPar, gCons, gNil, iList, iTup, iRng1, iStr, wipe, tYes, tSl, tPart, tNoPart, tFld, tMeth, tMake])
local macro_rules | `(tactic| walk_at "lk") => `(tactic| first | assumption | (with_reducible exact upd_same) | ((with_reducible apply keep); rotate_left; (focus assumption); walk_at "lk") | ((with_reducible apply kp); (focus assumption); walk_at "lk"))
local macro_rules | `(tactic| walk_at "lq") => `(tactic| first | assumption | exact .inl (SqL.of (by walk_at "lk")) | exact .inr (SqT.of (by walk_at "lk")) | (refine sq2_same (grow (by assumption)) ?_; walk_at "lq") | (refine sq2_same (by assumption) ?_; walk_at "lq"))
local macro_rules | `(tactic| walk_at "sm") => `(tactic| first | exact Same.refl _ | assumption | (refine same_upd2 ?_ (by assumption); walk_at "sm") | (refine same_upd ?_ (by assumption); walk_at "sm") | (refine Same.trans ?_ (by assumption); walk_at "sm"))
local macro_rules | `(tactic| walk_at "rd1") => `(tactic| first
  | ((with_reducible apply req_ss))
  | ((with_reducible apply req_ii))
  | ((with_reducible apply req_bb))
  | ((with_reducible apply rne_ss))
  | ((with_reducible apply rne_ii))
  | ((with_reducible apply cm_l); (focus omega); (focus omega))
  | ((with_reducible apply cm_r); (focus omega); (focus omega))
  | ((with_reducible apply cd_i); (focus omega); (focus omega))
  | ((with_reducible apply md_i); (focus omega))
  | ((with_reducible apply part1))
  | ((with_reducible apply num2))
  | ((with_reducible apply num3))
  | ((with_reducible apply name1); (focus first | assumption | decide +kernel); intro _ _)
  | ((with_reducible apply one_m); (focus (walk_at "lq")))
  | ((with_reducible apply one_s); (focus (walk_at "lq")); (focus with_unfolding_all rfl))
  | refine ⟨_, rfl, ?_⟩
  | refine ⟨_, _, rfl, rfl, ?_⟩
  | ((with_reducible apply gcons_t))
  | ((with_reducible apply gpar_t))
  | ((with_reducible apply gpar3_t))
  | refine ⟨rfl, ?_⟩
  | ((with_reducible apply iteT))
  | ((with_reducible apply iteF))
  | ((with_reducible apply ri_ii))
  | ((with_reducible apply ri_ib))
  | ((with_reducible apply ri_ss))
  | ((with_reducible apply ri_bb))
  | ((with_reducible apply ri_tt); (focus (walk_at "lk")))
  | ((with_reducible apply ri_ll); (focus (walk_at "lk")))
  | ((with_reducible apply ri_dd); (focus (walk_at "lk")))
  | ((with_reducible apply rt_l); (focus (walk_at "lk")); (focus (walk_at "lk")))
  | ((with_reducible apply rt_t); (focus (walk_at "lk")); (focus (walk_at "lk")))
  | ((with_reducible apply rix_t); (focus (walk_at "lk")); (focus with_unfolding_all rfl))
  | ((with_reducible apply rix_l); (focus (walk_at "lk")); (focus with_unfolding_all rfl))
  | ((with_reducible apply rlen_t); (focus (walk_at "lk")); (focus first | (simp only [List.length_cons, List.length_nil]; done) | (simp only [List.length_cons, List.length_nil]; with_unfolding_all rfl) | with_unfolding_all rfl))
  | ((with_reducible apply rlen_l); (focus (walk_at "lk")); (focus first | (simp only [List.length_cons, List.length_nil]; done) | (simp only [List.length_cons, List.length_nil]; with_unfolding_all rfl) | with_unfolding_all rfl))
  | ((with_reducible apply rin_t); (focus (walk_at "lk")); (focus with_unfolding_all rfl))
  | ((with_reducible apply rnin_t); (focus (walk_at "lk")); (focus with_unfolding_all rfl))
  | ((with_reducible apply rsl_t); (focus (walk_at "lk")); (focus with_unfolding_all rfl); (focus first | (simp [cutV, HT.sIx]; done) | (simp [cutV, HT.sIx]; rfl)); intro _ _)
  | ((with_reducible apply rin_l); (focus (walk_at "lk")))
  | ((with_reducible apply rnin_l); (focus (walk_at "lk")))
  | ((with_reducible apply gtup_t); (focus (walk_at "lk")); (focus with_unfolding_all rfl); walk_at "rdu")
  | ((with_reducible apply alc); (focus decide); intro _ _)
  | ((with_reducible apply itenT))
  | ((with_reducible apply itenF))
  | ((with_reducible apply ited_sT); (focus first | rfl | assumption))
  | ((with_reducible apply ited_sF); (focus first | assumption | decide +kernel))
  | ((with_reducible apply itedn_sT); (focus first | assumption | decide +kernel))
  | ((with_reducible apply itedn_sF); (focus first | rfl | assumption))
  | ((with_reducible apply ited_mT); (focus first | assumption | decide +kernel))
  | ((with_reducible apply ited_mF); (focus first | assumption | decide +kernel))
  | ((with_reducible apply itedn_mT); (focus first | assumption | decide +kernel))
  | ((with_reducible apply itedn_mF); (focus first | assumption | decide +kernel))
  | ((with_reducible apply ited_s) <;> intro _)
  | ((with_reducible apply itedn_s) <;> intro _)
  | ((with_reducible apply ited_m) <;> intro _)
  | ((with_reducible apply itedn_m) <;> intro _)
  | ((with_reducible apply itedT); (focus first | assumption | omega))
  | ((with_reducible apply itedF); (focus first | assumption | omega))
  | ((with_reducible apply itednF); (focus first | assumption | omega))
  | ((with_reducible apply itednT); (focus first | assumption | omega))
  | ((with_reducible apply ited) <;> intro _)
  | ((with_reducible apply itedn) <;> intro _)
  | ((with_reducible apply itebn) <;> intro _)
  | ((with_reducible apply iteb) <;> intro _)
  | walk_at "rdu"
  | contradiction)
local macro_rules | `(tactic| walk_at "rd") => `(tactic| (try walk_at "rdu"); repeat' walk_at "rd1")
/-- the carrier is neither party -/
def sndOk (rs : List Row) : Prop := ∀ d s b x y z m p t, Row.made d s b x y z m p t ∈ rs → ∀ d' w a, Row.sent d' w a ∈ rs → w ≠ x ∧ w ≠ y
def standsB (rs : List Row) (i : Nat) : Bool := match rs[i]? with
  | none => false
  | some r => if i = 0 then r.okMade else match rs[i - 1]? with
    | none => false
    | some b => !r.isMade && goesB b r
def recB (rs : List Row) : Bool := (List.range rs.length).all (standsB rs)
theorem okMade_made {r : Row} (h : r.okMade = true) : ∃ d s b x y z m p t, r = .made d s b x y z m p t := by
  cases r with
  | made d s b x y z m p t => exact ⟨d, s, b, x, y, z, m, p, t, rfl⟩
  | _ => cases h
def spStands : Sp := fun vs H Q _ => ∃ (l : Addr) (ps : List (Addr × Row)) (i : Nat), vs = [.ref l, .int (i : Int)] ∧ RowsP H l ps ∧ (∀ p ∈ ps, p.2.good) ∧ sndOk (ps.map (·.2)) ∧ i < ps.length ∧ ps.length ≤ 1000 ∧ (0 < i → standsB (ps.map (·.2)) 0 = true) ∧ ∀ H', Same H H' → Q (.bl (standsB (ps.map (·.2)) i)) H'
def spFirst : Sp := fun vs H Q _ => ∃ (l : Addr) (ps : List (Addr × Row)), vs = [.ref l] ∧ RowsP H l ps ∧ (∀ p ∈ ps, p.2.good) ∧ sndOk (ps.map (·.2)) ∧ ps.length ≤ 1000 ∧ (∀ H', Same H H' → recB (ps.map (·.2)) = true → Q .non H') ∧ ∀ H' i, Same H H' → recB (ps.map (·.2)) = false → Q (.int i) H'
def spRecord : Sp := fun vs H Q _ => ∃ (l : Addr) (ps : List (Addr × Row)), vs = [.ref l] ∧ RowsP H l ps ∧ (∀ p ∈ ps, p.2.good) ∧ sndOk (ps.map (·.2)) ∧ ps.length ≤ 1000 ∧ ∀ H', Same H H' → Q (.bl (!ps.isEmpty && recB (ps.map (·.2)))) H'
def spRowOf : Sp := fun vs H Q _ => ∃ (l : Addr) (ps : List (Addr × Row)) (word : Str), vs = [.ref l, .str word] ∧ RowsP H l ps ∧ (∀ p ∈ ps, p.2.good) ∧ ps.length ≤ 1000 ∧ (∀ H' p, Same H H' → ps.find? (fun p => decide (p.2.kind = word)) = some p → Q (.ref p.1) H') ∧ ∀ H', Same H H' → ps.find? (fun p => decide (p.2.kind = word)) = none → Q .non H'
theorem kind_sent {r : Row} (h : r.kind = "sent") : ∃ d w a, r = .sent d w a := by
  cases r with
  | sent d w a => exact ⟨d, w, a, rfl⟩
  | made a b c d e f g h' i => exact absurd (show ("made" : Str) = "sent" from h) (by decide +kernel)
  | came a => exact absurd (show ("came" : Str) = "sent" from h) (by decide +kernel)
  | comp a b => exact absurd (show ("complained" : Str) = "sent" from h) (by decide +kernel)
  | said a b c => exact absurd (show ("said" : Str) = "sent" from h) (by decide +kernel)
  | ended a b c d => exact absurd (show ("ended" : Str) = "sent" from h) (by decide +kernel)
theorem rix_kind {K : PySem.W.Frag} {H : Hp} {Q : VK} {p : Addr} {r : Row} (h : H p = some (.tup r.vs)) (q : Q (.str r.kind) H) : rIxT K (.ref p) (.int 0) H Q := by
  refine rix_t h ?_ q
  cases r <;> rfl
theorem rix_day {K : PySem.W.Frag} {H : Hp} {Q : VK} {p : Addr} {r : Row} (h : H p = some (.tup r.vs)) (q : Q (.int r.day) H) : rIxT K (.ref p) (.int 1) H Q := by
  refine rix_t h ?_ q
  cases r <;> rfl
section
variable {P : Program} {w : World} {K : PySem.W.Frag} {mg : Str → Option Value} {base : Heap}
theorem f_stands (T : Tx w K mg) : Fok P w K mg base CX0 "stands" ps_stands [] 4 spStands := by
  obtain ⟨fd, F⟩ := T.d_stands
  have G_is_made := f_is_made (P := P) (base := base) T
  have G_is_row := f_is_row (P := P) (base := base) T
  have G_goes_on := f_goes_on (P := P) (base := base) T
  refine fok F T.g_stands (fun _ _ _ _ _ _ us hl => match us, hl with | [_, _], _ => rfl) (F.ok sc_stands (fun vs H Q E h => ?_) (fun cdv A outer s H vs Q E hr h => ?_))
  · obtain ⟨l, ps, i, rfl, _⟩ := h
    rfl
  · refine ⟨_, PSs.nox (pss_cons (ps_set (i := 2) sc_stands.nd rfl (Or.inl rfl) (pe_ix (ix_listK (K := K) (by rfl)) (pv 0) (pv 1) (fun _ _ => rfl)))
      (pss_cons (ps_if (pt_cmpR op_eq (pv 1) pe_int (nomark _)) (pss_one (ps_ret (pe_fn G_is_made (hr.mono (by decide)) pass0 (pa_cons (pv 2) pa_nil)))) pss_nil)
      (pss_cons (ps_if (PW.pt (pw_or (pt_not (pt_val (pe_fn G_is_row (hr.mono (by decide)) pass0 (pa_cons (pv 2) pa_nil)))) (pw_or1 (pt_not (pt_val (pe_fn G_goes_on (hr.mono (by decide)) pass0 (pa_cons (pe_ix (ix_listK (K := K) (by rfl)) (pv 0) (pe_op op_sub (pv 1) pe_int) (fun _ _ => rfl)) (pa_cons (pv 2) pa_nil)))))))) (pss_one (ps_ret pe_bl)) pss_nil)
      (pss_one (ps_ret (pe_or (pe_cmpR op_ne (pe_ix (ix_tupK (K := K) (by rfl)) (pv 2) pe_int (fun _ _ => rfl)) pe_str (nomark _)) (pe_one (pe_cmpR (op_notInK (K := K) (by rfl)) (pe_ix (ix_tupK (K := K) (by rfl)) (pv 2) pe_int (fun _ _ => rfl)) (pe_slice (sl_tupK (K := K) (by rfl)) (pe_ix (ix_listK (K := K) (by rfl)) (pv 0) pe_int (fun _ _ => rfl)) (po_some pe_int) (po_some pe_int)) rfl)))))))), ?_⟩
    obtain ⟨l, ps, i, rfl, hl, hg, hs, hi, h1000, h0, q⟩ := h
    have hp : ps[i]? = some ps[i] := List.getElem?_eq_getElem hi
    have hb := hl.2 _ (List.getElem_mem hi)
    have hgd := hg _ (List.getElem_mem hi)
    generalize ps[i] = p at hp hb hgd
    have hm : (ps.map (·.2))[i]? = some p.2 := by rw [List.getElem?_map, hp]; rfl
    walk_at "rd"
    refine rix_row hl (atI_nat hp) ?_
    walk_at "rd"
    · rename_i e
      refine ⟨p.1, p.2, rfl, hb, hgd, fun H' s => qb (q _ s) ?_⟩
      have e' : i = 0 := by omega
      subst e'
      unfold standsB
      rw [hm]
      rfl
    · rename_i e
      have hi0 : i ≠ 0 := by omega
      have hpr : i - 1 < ps.length := by omega
      have hp2 : ps[i - 1]? = some ps[i - 1] := List.getElem?_eq_getElem hpr
      have hb2 := hl.2 _ (List.getElem_mem hpr)
      generalize ps[i - 1] = p2 at hp2 hb2
      have hm2 : (ps.map (·.2))[i - 1]? = some p2.2 := by rw [List.getElem?_map, hp2]; rfl
      have hst : standsB (ps.map (·.2)) i = (!p.2.isMade && goesB p2.2 p.2) := by
        unfold standsB
        rw [hm, hm2]
        simp only [hi0, if_false]
      refine ⟨p.1, p.2, rfl, hb, hgd, fun H' s => ?_⟩
      walk_at "rd"
      · rename_i e2
        exact qb (q _ s) (by rw [hst, e2]; rfl)
      · rename_i e2
        have ec : (i : Int) - 1 = ((i - 1 : Nat) : Int) := by omega
        refine rix_row (hl.same s) (by rw [ec]; exact atI_nat hp2) ?_
        walk_at "rd"
        refine ⟨p2.1, p.1, p2.2, p.2, rfl, s _ _ hb2, s _ _ hb, ?_⟩
        walk_at "rd"
        · rename_i e3
          exact qb (q _ s) (by rw [hst, e3, Bool.and_false])
        · rename_i e3
          have fin : standsB (ps.map (·.2)) i = true := by rw [hst, e2, e3]; rfl
          refine rix_kind (s _ _ hb) ?_
          walk_at "rd"
          · exact qb (q _ s) fin
          · rename_i e4
            have hkind : p.2.kind = "sent" := e4
            obtain ⟨d', w', a', er⟩ := kind_sent hkind
            have h00 := h0 (by omega)
            have hlen : 0 < ps.length := by omega
            have hp0 : ps[0]? = some ps[0] := List.getElem?_eq_getElem hlen
            have hb0 := hl.2 _ (List.getElem_mem hlen)
            have hmem0 : ps[0] ∈ ps := List.getElem_mem hlen
            generalize ps[0] = p0 at hp0 hb0 hmem0
            have hm0 : (ps.map (·.2))[0]? = some p0.2 := by rw [List.getElem?_map, hp0]; rfl
            obtain ⟨d, s0, b, x, y, z, m, pr, t, er0⟩ : ∃ d s b x y z m p t, p0.2 = .made d s b x y z m p t := okMade_made (by
              unfold standsB at h00
              rw [hm0] at h00
              exact h00)
            have hne := hs d s0 b x y z m pr t (by rw [← er0]; exact List.mem_map.mpr ⟨_, hmem0, rfl⟩) d' w' a' (by rw [← er]; exact List.mem_map.mpr ⟨_, List.mem_of_getElem? hp, rfl⟩)
            rw [er] at hb
            rw [er0] at hb0
            have hb' := s _ _ hb
            have hb0' := s _ _ hb0
            dsimp only [Row.vs] at hb' hb0'
            walk_at "rd"
            refine rix_row (hl.same s) (atI_nat (j := 0) hp0) ?_
            walk_at "rd"
            rename_i q1 hq1
            have hno : ¬ w' ∈ strsOf [V.str x, V.str y] := by
              show ¬ w' ∈ [x, y]
              simp [hne.1, hne.2]
            exact qb (q _ (s.trans (grow hq1))) (by rw [fin, decide_eq_false hno]; rfl)
theorem f_first_wrong (T : Tx w K mg) : Fok P w K mg base CX0 "first_wrong" ps_first_wrong [] 5 spFirst := by
  obtain ⟨fd, F⟩ := T.d_first_wrong
  have G_stands := f_stands (P := P) (base := base) T
  refine fok F T.g_first_wrong (fun _ _ _ _ _ _ us hl => match us, hl with | [_], _ => rfl) (F.ok sc_first_wrong (fun vs H Q E h => ?_) (fun cdv A outer s H vs Q E hr h => ?_))
  · obtain ⟨l, ps, rfl, _⟩ := h
    rfl
  · refine ⟨_, PSs.nox (pss_cons (ps_for PassesOwn.never rfl (pi_range1 (by rfl) T.b_range (pa_cons (pe_callB (call_lenA (K := K) (by rfl)) (by rfl) T.b_len bt_len (pa_cons (pv 0) pa_nil)) pa_nil)) (pg_name (i := 1) sc_first_wrong.nd rfl (Or.inl rfl)) (pss_one (ps_if (pt_not (pt_val (pe_fn G_stands (hr.mono (by decide)) pass0 (pa_cons (pv 0) (pa_cons (pv 1) pa_nil))))) (pss_one (ps_ret (pv 1))) pss_nil)))
      (pss_one (ps_ret pe_non))), ?_⟩
    obtain ⟨l, ps, rfl, hl, hg, hs, h1000, q1, q0⟩ := h
    have hrec : recB (ps.map (·.2)) = (List.range ps.length).all (standsB (ps.map (·.2))) := by
      unfold recB
      rw [List.length_map]
    walk_at "rd"
    refine rlen_row hl ?_
    walk_at "rd"
    have e0 : ((ps.length : Nat) : Int).toNat = ps.length := Int.toNat_natCast _
    rw [e0]
    refine ⟨by omega, by omega, ?_⟩
    refine fr_it (walk_range (lo := 0) (n := ps.length)) (fun i σ H2 => Same H H2 ∧ (∀ j, j < i → standsB (ps.map (·.2)) j = true) ∧ ∃ a, σ = [some (.ref l), a]) ⟨Same.refl _, fun j hj => absurd hj (Nat.not_lt_zero _), _, rfl⟩ (fun _ _ _ _ _ => trivial) (fun i x σ H2 H3 hi p y => ?_) (fun σ H2 p => ?_)
    · obtain ⟨s2, hno, a, rfl⟩ := p
      obtain ⟨rfl, rfl⟩ := y
      have ez : (0 : Int) + (i : Nat) = (i : Int) := by omega
      walk_at "rd"
      refine ⟨l, ps, i, by rw [ez], hl.same s2, hg, hs, hi, h1000, fun h => hno 0 h, fun H4 s4 => ?_⟩
      have s5 := s2.trans s4
      walk_at "rd"
      · rename_i e
        refine q0 _ _ s5 ?_
        rw [hrec, List.all_eq_false]
        exact ⟨i, List.mem_range.mpr hi, by rw [e]; exact Bool.false_ne_true⟩
      · rename_i e
        refine ⟨s5, fun j hj => ?_, _, rfl⟩
        rcases Nat.lt_succ_iff_lt_or_eq.mp hj with h | h
        · exact hno j h
        · rw [h]
          exact e
    · obtain ⟨s2, hno, a, rfl⟩ := p
      walk_at "rd"
      refine q1 _ s2 ?_
      rw [hrec, List.all_eq_true]
      intro j hj
      exact hno j (List.mem_range.mp hj)
theorem f_is_record (T : Tx w K mg) : Fok P w K mg base CX0 "is_record" ps_is_record [] 6 spRecord := by
  obtain ⟨fd, F⟩ := T.d_is_record
  have G_first_wrong := f_first_wrong (P := P) (base := base) T
  refine fok F T.g_is_record (fun _ _ _ _ _ _ us hl => match us, hl with | [_], _ => rfl) (F.ok sc_is_record (fun vs H Q E h => ?_) (fun cdv A outer s H vs Q E hr h => ?_))
  · obtain ⟨l, ps, rfl, _⟩ := h
    rfl
  · refine ⟨_, PSs.nox (pss_one (ps_ret (pe_and (pe_callB (call_isiA (K := K) (by rfl)) (by rfl) T.b_isinstance bt_isinstance (pa_cons (pv 0) (pa_cons (pe_ty T.b_list bt_list) pa_nil))) (pe_and (pe_cmpR (op_neDK (K := K) (by rfl) hr.units) (pv 0) (pe_lst pa_nil) (nomark _)) (pe_one (pe_cmpR op_isN (pe_fn G_first_wrong (hr.mono (by decide)) pass0 (pa_cons (pv 0) pa_nil)) pe_non (nomark _))))))), ?_⟩
    obtain ⟨l, ps, rfl, hl, hg, hs, h1000, q⟩ := h
    have hl1 := hl.1
    walk_at "rd"
    rename_i q1 hq1
    refine rne_rows (hl.same (grow hq1)) hg upd_same ?_
    walk_at "rd"
    · rename_i e
      have e' : ps.isEmpty = false := by simpa using e
      rw [e'] at q
      refine ⟨l, ps, rfl, hl.same (grow hq1), hg, hs, h1000, fun H' s h => ?_, fun H' i s h => ?_⟩
      · walk_at "rd"
        exact qb (q _ ((grow hq1).trans s)) (by rw [h]; rfl)
      · walk_at "rd"
        exact qb (q _ ((grow hq1).trans s)) (by rw [h]; rfl)
    · rename_i e
      have e' : ps.isEmpty = true := by simpa using e
      rw [e'] at q
      exact q _ (grow hq1)
theorem f_row_of (T : Tx w K mg) : Fok P w K mg base CX0 "row_of" ps_row_of [] 1 spRowOf := by
  obtain ⟨fd, F⟩ := T.d_row_of
  refine fok F T.g_row_of (fun _ _ _ _ _ _ us hl => match us, hl with | [_, _], _ => rfl) (F.ok sc_row_of (fun vs H Q E h => ?_) (fun cdv A outer s H vs Q E hr h => ?_))
  · obtain ⟨l, ps, word, rfl, _⟩ := h
    rfl
  · refine ⟨_, PSs.nox (pss_cons (ps_setLc (i := 2) (own := [("row", 3)]) (by rfl) sc_row_of.nd rfl rfl (sw_true rfl rfl rfl (by decide +kernel)) (by exact (pi_listK (K := K) (by rfl) (pv 0))) (blkOk_by (own := [("row", 3)]) (N := ns_row_of) (sc := defScope s_row_of) (by decide +kernel)) (fun _ _ _ _ _ => (pg_name (i := 3) sc_row_of.nd rfl (Or.inl rfl))) (fun _ _ _ _ _ => (pts_one (pt_cmpR op_eq (pe_ix (ix_tupK (K := K) (by rfl)) (pv 3) pe_int (fun _ _ => rfl)) (pv 1) (nomark _)))) (fun _ _ _ _ _ => (pv 3)))
      (pss_one (ps_ret (pe_ifExp (pt_cmpR (op_neDK (K := K) (by rfl) hr.units) (pv 2) (pe_lst pa_nil) (nomark _)) (pe_ix (ix_listK (K := K) (by rfl)) (pv 2) pe_int (fun _ _ => rfl)) pe_non)))), ?_⟩
    obtain ⟨l, ps, word, rfl, hl, hg, h1000, q1, q0⟩ := h
    walk_at "rd"
    refine ⟨⟨_, SqL.of hl.1⟩, fun D hD => ?_⟩
    refine lc_rows hD hl (by omega) (fun p => if p.2.kind = word then some (.ref p.1) else none) (fun i p H2 R R0 hi s hb h1 h0 => ?_) (fun H2 s2 e2 => ?_)
    · walk_at "rd"
      refine rix_kind hb ?_
      walk_at "rd"
      · rename_i e
        exact h1 _ _ (Same.refl _) (if_pos e)
      · rename_i e
        exact h0 _ (Same.refl _) (if_neg e)
    · have e3 : ps.filterMap (fun p => if p.2.kind = word then some (V.ref p.1) else none) = (ps.filter fun p => decide (p.2.kind = word)).map fun p => V.ref p.1 := by
        clear q1 q0 hl hg h1000 e2
        induction ps with
        | nil => rfl
        | cons p ps ih =>
          rw [List.filterMap_cons, List.filter_cons]
          by_cases e : p.2.kind = word
          · rw [if_pos e, if_pos (decide_eq_true e), ih]
            rfl
          · rw [if_neg e, if_neg (by rw [decide_eq_false e]; exact Bool.false_ne_true), ih]
      rw [e3] at e2
      have hf : RowsP H2 D (ps.filter fun p => decide (p.2.kind = word)) := ⟨e2, fun p hp => s2 _ _ (hl.2 p (List.mem_filter.mp hp).1)⟩
      walk_at "rd"
      rename_i q2 hq2
      refine rne_rows (hf.same (grow hq2)) (fun p hp => hg p (List.mem_filter.mp hp).1) upd_same ?_
      have s3 : Same H (upd H2 q2 (.lst [])) := s2.trans (grow hq2)
      have hh : (ps.filter fun p => decide (p.2.kind = word)).head? = ps.find? fun p => decide (p.2.kind = word) := List.head?_filter
      cases hfl : ps.filter fun p => decide (p.2.kind = word) with
      | nil =>
        rw [hfl] at hh
        walk_at "rd"
        exact q0 _ s3 hh.symm
      | cons p r =>
        rw [hfl] at hh hf
        walk_at "rd"
        refine rix_row (hf.same (grow hq2)) (i := 0) (p := p) (atI_nat (j := 0) rfl) ?_
        exact q1 _ p s3 hh.symm
end
end Mk
/-! records.py: judged_by, judged -/
namespace Mk
open PySem PySem.Spec L2 He
local macro_rules | `(tactic| walk_at "rdu") => `(tactic| dsimp only [tSeq, tNext, tRet, tRetN, tAsg, tDrop, tIfS, tOr, tAnd, tNot, tB, tTest, tCB, tCons, tNil, tVar, tC, tOp, tUn, tOrV, tAndV, tNotV, tIf, tChain, tCall, tTup, tLst, gName, L2.start, dl_map, dl_map0, dl_app, dl_app0, List.length_cons, List.length_nil, List.replicate, List.set, Nat.reduceAdd, Nat.reduceSub, tLc_eq, tFor_eq, sck_eq, dct_eq, tPar, gCons, gNil, iList, iTup, iRng1, iStr, wipe, tYes, tSl, tPart, tNoPart, tFld, tMeth, tMake])
local macro_rules | `(tactic| walk_at "lk") => `(tactic| first | assumption | (with_reducible exact upd_same) | ((with_reducible apply keep); rotate_left; (focus assumption); walk_at "lk") | ((with_reducible apply kp); (focus assumption); walk_at "lk"))
local macro_rules | `(tactic| walk_at "lq") => `(tactic| first | assumption | exact .inl (SqL.of (by walk_at "lk")) | exact .inr (SqT.of (by walk_at "lk")) | (refine sq2_same (grow (by assumption)) ?_; walk_at "lq") | (refine sq2_same (by assumption) ?_; walk_at "lq"))
local macro_rules | `(tactic| walk_at "sm") => `(tactic| first | exact Same.refl _ | assumption | (refine same_upd2 ?_ (by assumption); walk_at "sm") | (refine same_upd ?_ (by assumption); walk_at "sm") | (refine Same.trans ?_ (by assumption); walk_at "sm"))
local macro_rules | `(tactic| walk_at "rd1") => `(tactic| first
  | ((with_reducible apply req_ss))
  | ((with_reducible apply req_ii))
  | ((with_reducible apply req_bb))
  | ((with_reducible apply rne_ss))
  | ((with_reducible apply rne_ii))
  | ((with_reducible apply cm_l); (focus omega); (focus omega))
  | ((with_reducible apply cm_r); (focus omega); (focus omega))
  | ((with_reducible apply cd_i); (focus omega); (focus omega))
  | ((with_reducible apply md_i); (focus omega))
  | ((with_reducible apply part1))
  | ((with_reducible apply num2))
  | ((with_reducible apply num3))
  | ((with_reducible apply name1); (focus first | assumption | decide +kernel); intro _ _)
  | ((with_reducible apply one_m); (focus (walk_at "lq")))
  | ((with_reducible apply one_s); (focus (walk_at "lq")); (focus with_unfolding_all rfl))
  | refine ⟨_, rfl, ?_⟩
  | refine ⟨_, _, rfl, rfl, ?_⟩
  | ((with_reducible apply gcons_t))
  | ((with_reducible apply gpar_t))
  | ((with_reducible apply gpar3_t))
  | refine ⟨rfl, ?_⟩
  | ((with_reducible apply iteT))
  | ((with_reducible apply iteF))
  | ((with_reducible apply ri_ii))
  | ((with_reducible apply ri_ib))
  | ((with_reducible apply ri_ss))
  | ((with_reducible apply ri_bb))
  | ((with_reducible apply ri_tt); (focus (walk_at "lk")))
  | ((with_reducible apply ri_ll); (focus (walk_at "lk")))
  | ((with_reducible apply ri_dd); (focus (walk_at "lk")))
  | ((with_reducible apply rt_l); (focus (walk_at "lk")); (focus (walk_at "lk")))
  | ((with_reducible apply rt_t); (focus (walk_at "lk")); (focus (walk_at "lk")))
  | ((with_reducible apply rix_t); (focus (walk_at "lk")); (focus with_unfolding_all rfl))
  | ((with_reducible apply rix_l); (focus (walk_at "lk")); (focus with_unfolding_all rfl))
  | ((with_reducible apply rlen_t); (focus (walk_at "lk")); (focus first | (simp only [List.length_cons, List.length_nil]; done) | (simp only [List.length_cons, List.length_nil]; with_unfolding_all rfl) | with_unfolding_all rfl))
  | ((with_reducible apply rlen_l); (focus (walk_at "lk")); (focus first | (simp only [List.length_cons, List.length_nil]; done) | (simp only [List.length_cons, List.length_nil]; with_unfolding_all rfl) | with_unfolding_all rfl))
  | ((with_reducible apply rin_t); (focus (walk_at "lk")); (focus with_unfolding_all rfl))
  | ((with_reducible apply rnin_t); (focus (walk_at "lk")); (focus with_unfolding_all rfl))
  | ((with_reducible apply rsl_t); (focus (walk_at "lk")); (focus with_unfolding_all rfl); (focus first | (simp [cutV, HT.sIx]; done) | (simp [cutV, HT.sIx]; rfl)); intro _ _)
  | ((with_reducible apply rin_l); (focus (walk_at "lk")))
  | ((with_reducible apply rnin_l); (focus (walk_at "lk")))
  | ((with_reducible apply gtup_t); (focus (walk_at "lk")); (focus with_unfolding_all rfl); walk_at "rdu")
  | ((with_reducible apply alc); (focus decide); intro _ _)
  | ((with_reducible apply itenT))
  | ((with_reducible apply itenF))
  | ((with_reducible apply ited_sT); (focus first | rfl | assumption))
  | ((with_reducible apply ited_sF); (focus first | assumption | decide +kernel))
  | ((with_reducible apply itedn_sT); (focus first | assumption | decide +kernel))
  | ((with_reducible apply itedn_sF); (focus first | rfl | assumption))
  | ((with_reducible apply ited_mT); (focus first | assumption | decide +kernel))
  | ((with_reducible apply ited_mF); (focus first | assumption | decide +kernel))
  | ((with_reducible apply itedn_mT); (focus first | assumption | decide +kernel))
  | ((with_reducible apply itedn_mF); (focus first | assumption | decide +kernel))
  | ((with_reducible apply ited_s) <;> intro _)
  | ((with_reducible apply itedn_s) <;> intro _)
  | ((with_reducible apply ited_m) <;> intro _)
  | ((with_reducible apply itedn_m) <;> intro _)
  | ((with_reducible apply itedT); (focus first | assumption | omega))
  | ((with_reducible apply itedF); (focus first | assumption | omega))
  | ((with_reducible apply itednF); (focus first | assumption | omega))
  | ((with_reducible apply itednT); (focus first | assumption | omega))
  | ((with_reducible apply ited) <;> intro _)
  | ((with_reducible apply itedn) <;> intro _)
  | ((with_reducible apply itebn) <;> intro _)
  | ((with_reducible apply iteb) <;> intro _)
  | walk_at "rdu"
  | contradiction)
local macro_rules | `(tactic| walk_at "rd") => `(tactic| (try walk_at "rdu"); repeat' walk_at "rd1")
def Row.pair : Row → Option SS
  | .said _ w z => some (w, z)
  | _ => none
def saids (rs : List Row) : List SS := rs.filterMap Row.pair
def findK (k : Str) (ps : List (Addr × Row)) : Option (Addr × Row) := ps.find? fun p => decide (p.2.kind = k)
theorem findK_mem {k : Str} {ps : List (Addr × Row)} {p : Addr × Row} (h : findK k ps = some p) : p ∈ ps ∧ p.2.kind = k := ⟨List.mem_of_find?_eq_some h, by have := List.find?_some h; simpa using this⟩
theorem kind_came {r : Row} (h : r.kind = "came") : ∃ d, r = .came d := by
  cases r with
  | came a => exact ⟨a, rfl⟩
  | made a b c d e f g h' i => exact absurd (show ("made" : Str) = "came" from h) (by decide +kernel)
  | sent a b c => exact absurd (show ("sent" : Str) = "came" from h) (by decide +kernel)
  | comp a b => exact absurd (show ("complained" : Str) = "came" from h) (by decide +kernel)
  | said a b c => exact absurd (show ("said" : Str) = "came" from h) (by decide +kernel)
  | ended a b c d => exact absurd (show ("ended" : Str) = "came" from h) (by decide +kernel)
theorem kind_comp {r : Row} (h : r.kind = "complained") : ∃ d w, r = .comp d w := by
  cases r with
  | comp a b => exact ⟨a, b, rfl⟩
  | came a => exact absurd (show ("came" : Str) = "complained" from h) (by decide +kernel)
  | made a b c d e f g h' i => exact absurd (show ("made" : Str) = "complained" from h) (by decide +kernel)
  | sent a b c => exact absurd (show ("sent" : Str) = "complained" from h) (by decide +kernel)
  | said a b c => exact absurd (show ("said" : Str) = "complained" from h) (by decide +kernel)
  | ended a b c d => exact absurd (show ("ended" : Str) = "complained" from h) (by decide +kernel)
theorem kind_said {r : Row} (h : r.kind = "said") : ∃ d w z, r = .said d w z := by
  cases r with
  | said a b c => exact ⟨a, b, c, rfl⟩
  | comp a b => exact absurd (show ("complained" : Str) = "said" from h) (by decide +kernel)
  | came a => exact absurd (show ("came" : Str) = "said" from h) (by decide +kernel)
  | made a b c d e f g h' i => exact absurd (show ("made" : Str) = "said" from h) (by decide +kernel)
  | sent a b c => exact absurd (show ("sent" : Str) = "said" from h) (by decide +kernel)
  | ended a b c d => exact absurd (show ("ended" : Str) = "said" from h) (by decide +kernel)
theorem pair_kind {r : Row} (h : ¬ r.kind = "said") : r.pair = none := by
  cases r with
  | said a b c => exact absurd rfl h
  | _ => rfl
def RulesT (H : Hp) (ra : Addr) (ns : List Norm) : Prop := ∃ as : List Addr, H ra = some (.tup (as.map V.ref)) ∧ Paired (NormAt H) as ns
theorem RulesT.same {H H' : Hp} (s : Same H H') {ra : Addr} {ns : List Norm} (h : RulesT H ra ns) : RulesT H' ra ns := by
  obtain ⟨as, h1, h2⟩ := h
  exact ⟨as, s _ _ h1, Paired.mapP h2 fun _ _ x => normAt_same s x⟩
/-- what the first rule that is met tells of a record -/
def tells (rs : List Row) (d : Int) (w : Str) (d' : Int) (ns : List Norm) : Int × Bool := verdM w (saids rs) (d - d') ns
def spJBy : Sp := fun vs H Q _ => ∃ (l ra : Addr) (ps : List (Addr × Row)) (ns : List Norm) (pc pq : Addr × Row) (d d' : Int) (w : Str), vs = [.ref l, .ref ra] ∧ RowsP H l ps ∧ (∀ p ∈ ps, p.2.good) ∧ ps.length ≤ 1000 ∧ RulesT H ra ns ∧ ns.length ≤ 10 ∧ (∀ n ∈ ns, n.good) ∧
  findK "came" ps = some pc ∧ pc.2 = .came d' ∧ findK "complained" ps = some pq ∧ pq.2 = .comp d w ∧ ∀ (p : Addr) (H' : Hp), Same H H' → H' p = some (.tup [.int (tells (ps.map (·.2)) d w d' ns).1, .bl (tells (ps.map (·.2)) d w d' ns).2]) → Q (.ref p) H'
def spJudged (K : PySem.W.Frag) : Sp := fun vs H Q E => ∃ (l ra : Addr) (ps : List (Addr × Row)) (ns : List Norm), vs = [.ref l, .ref ra] ∧ RowsP H l ps ∧ (∀ p ∈ ps, p.2.good) ∧ sndOk (ps.map (·.2)) ∧ ps.length ≤ 1000 ∧ RulesT H ra ns ∧ ns.length ≤ 10 ∧ (∀ n ∈ ns, n.good) ∧
  ((!ps.isEmpty && recB (ps.map (·.2))) = true → ∀ pq, findK "complained" ps = some pq → ∃ pc, findK "came" ps = some pc) ∧
  (((!ps.isEmpty && recB (ps.map (·.2))) = false ∨ findK "complained" ps = none) → ∀ H', Same H H' → E (.ref (ga K "BadRecord")) none H') ∧
  ((!ps.isEmpty && recB (ps.map (·.2))) = true → ∀ (pc pq : Addr × Row) (d d' : Int) (w : Str), findK "came" ps = some pc → pc.2 = .came d' → findK "complained" ps = some pq → pq.2 = .comp d w →
    ∀ (p : Addr) (H' : Hp), Same H H' → H' p = some (.tup [.int (tells (ps.map (·.2)) d w d' ns).1, .bl (tells (ps.map (·.2)) d w d' ns).2]) → Q (.ref p) H')
theorem rowof_s {H : Hp} {Q : VK} {E : XK} {l : Addr} {ps : List (Addr × Row)} {word : Str} {p : Addr × Row} (h : RowsP H l ps) (g : ∀ p ∈ ps, p.2.good) (n : ps.length ≤ 1000) (f : findK word ps = some p) (k : ∀ H', Same H H' → Q (.ref p.1) H') : spRowOf [.ref l, .str word] H Q E :=
  ⟨l, ps, word, rfl, h, g, n, fun H' p' s e => by
    have e' : findK word ps = some p' := e
    rw [f] at e'
    cases e'
    exact k H' s, fun H' s e => by
    have e' : findK word ps = none := e
    rw [f] at e'
    cases e'⟩
theorem rowof_g {H : Hp} {Q : VK} {E : XK} {l : Addr} {ps : List (Addr × Row)} {word : Str} (h : RowsP H l ps) (g : ∀ p ∈ ps, p.2.good) (n : ps.length ≤ 1000) (k : ∀ H' p, Same H H' → findK word ps = some p → Q (.ref p.1) H') (k0 : ∀ H', Same H H' → findK word ps = none → Q .non H') : spRowOf [.ref l, .str word] H Q E :=
  ⟨l, ps, word, rfl, h, g, n, k, k0⟩
section
variable {P : Program} {w : World} {K : PySem.W.Frag} {mg : Str → Option Value} {base : Heap}
theorem f_judged_by (T : Tx w K mg) : Fok P w K mg base CX0 "judged_by" ps_judged_by [] 5 spJBy := by
  obtain ⟨fd, F⟩ := T.d_judged_by
  have G_row_of := f_row_of (P := P) (base := base) T
  have G_verdict := f_verdict (P := P) (base := base) T
  refine fok F T.g_judged_by (fun _ _ _ _ _ _ us hl => match us, hl with | [_, _], _ => rfl) (F.ok sc_judged_by (fun vs H Q E h => ?_) (fun cdv A outer s H vs Q E hr h => ?_))
  · obtain ⟨l, ra, ps, ns, pc, pq, d, d', w, rfl, _⟩ := h
    rfl
  · refine ⟨_, PSs.nox (pss_cons (ps_par (i := 2) (j := 3) (by rfl) sc_judged_by.nd rfl rfl (by decide) rfl rfl (pa_cons (pe_fn G_row_of (hr.mono (by decide)) pass0 (pa_cons (pv 0) (pa_cons pe_str pa_nil))) (pa_cons (pe_fn G_row_of (hr.mono (by decide)) pass0 (pa_cons (pv 0) (pa_cons pe_str pa_nil))) pa_nil)) (by rfl))
      (pss_cons (ps_setLc (i := 4) (own := [("row", 5)]) (by rfl) sc_judged_by.nd rfl rfl (sw_true rfl rfl rfl (by decide +kernel)) (by exact (pi_listK (K := K) (by rfl) (pv 0))) (blkOk_by (own := [("row", 5)]) (N := ns_judged_by) (sc := defScope s_judged_by) (by decide +kernel)) (fun _ _ _ _ _ => (pg_name (i := 5) sc_judged_by.nd rfl (Or.inl rfl))) (fun _ _ _ _ _ => (pts_one (pt_cmpR op_eq (pe_ix (ix_tupK (K := K) (by rfl)) (pv 5) pe_int (fun _ _ => rfl)) pe_str (nomark _)))) (fun _ _ _ _ _ => (pe_slice (sl_tupK (K := K) (by rfl)) (pv 5) (po_some pe_int) po_none)))
      (pss_one (ps_ret (pe_fn G_verdict (hr.mono (by decide)) pass0 (pa_cons (pe_ix (ix_tupK (K := K) (by rfl)) (pv 3) pe_int (fun _ _ => rfl)) (pa_cons (pv 4) (pa_cons (pe_op op_sub (pe_ix (ix_tupK (K := K) (by rfl)) (pv 3) pe_int (fun _ _ => rfl)) (pe_ix (ix_tupK (K := K) (by rfl)) (pv 2) pe_int (fun _ _ => rfl))) (pa_cons (pv 1) pa_nil))))))))), ?_⟩
    obtain ⟨l, ra, ps, ns, pc, pq, d, d', w, rfl, hl, hg, h1000, hra, hn, hng, f1, e1, f2, e2, q⟩ := h
    have hpc := hl.2 _ (findK_mem f1).1
    have hpq := hl.2 _ (findK_mem f2).1
    rw [e1] at hpc
    rw [e2] at hpq
    dsimp only [Row.vs] at hpc hpq
    walk_at "rd"
    refine rowof_s hl hg h1000 f1 fun H1 s1 => ?_
    walk_at "rd"
    refine rowof_s (hl.same s1) hg h1000 f2 fun H2 s2 => ?_
    have s3 := s1.trans s2
    walk_at "rd"
    refine ⟨⟨_, SqL.of (s3 _ _ hl.1)⟩, fun D hD => ?_⟩
    have hl3 := hl.same s3
    refine lc_at (walk_list (K := K) (a := l) (xs := ps.map fun p => V.ref p.1)) (fun i H4 => Same H2 H4 ∧ ∃ bs, H4 D = some (.lst (bs.map V.ref)) ∧ AtT pairV H4 bs (saids ((ps.take i).map (·.2)))) ⟨grow hD, [], upd_same, .nil⟩ (fun i H4 _ p => SqL.of (p.1 _ _ hl3.1)) (fun i x H4 H5 hi p y => ?_) (fun H4 p => ?_)
    · obtain ⟨s4, bs, hDb, hbs⟩ := p
      obtain ⟨rfl, ex⟩ := y
      rw [List.length_map] at hi
      have hp : ps[i]? = some ps[i] := List.getElem?_eq_getElem hi
      have hb := s4 _ _ (hl3.2 _ (List.getElem_mem hi))
      have hgd := hg _ (List.getElem_mem hi)
      rw [List.getElem?_map, hp] at ex
      have ex' : V.ref ps[i].1 = x := Option.some.inj ex
      subst ex'
      have htk : saids ((ps.take (i + 1)).map (·.2)) = saids ((ps.take i).map (·.2)) ++ (match ps[i].2.pair with | some z => [z] | none => []) := by
        rw [List.take_add_one, hp, List.map_append]
        unfold saids
        rw [List.filterMap_append]
        congr 1
        cases hpp : ps[i].2.pair with
        | none => simp [hpp]
        | some z => simp [hpp]
      have hDne : ∀ (b : Addr) (o : HO), H5 b = some o → (∀ xs, o ≠ .lst xs) → b ≠ D := fun b o e hno z => by
        rw [z, hDb] at e
        exact hno _ (Option.some.inj e).symm
      walk_at "rd"
      refine rix_kind hb ?_
      walk_at "rd"
      · rename_i e
        obtain ⟨d0, w0, z0, er⟩ := kind_said e
        rw [er] at hb
        dsimp only [Row.vs] at hb
        walk_at "rd"
        rename_i q1 hq1
        refine ⟨bs.map V.ref, keep hDb hq1, ?_, fun b o eb => ?_, bs ++ [q1], by rw [upd_same, List.map_append]; rfl, ?_⟩
        · have := paired_len hbs
          have h2 : (saids ((ps.take i).map (·.2))).length ≤ ((ps.take i).map (·.2)).length := List.length_filterMap_le _ _
          rw [List.length_map, List.length_take] at h2
          rw [List.length_map, sizeLine_eq]
          omega
        · have hbD : b ≠ D := fun z => by
            rw [z, hD] at eb
            cases eb
          rw [upd_ne hbD]
          exact keep (s4 _ _ eb) hq1
        · rw [htk, er]
          have up : ∀ b xs, H5 b = some (.tup xs) → upd (upd H5 q1 (.tup [.str w0, .str z0])) D (.lst (bs.map V.ref ++ [V.ref q1])) b = some (.tup xs) := fun b xs eb => by
            rw [upd_ne (hDne b _ eb (fun xs z => nomatch z))]
            exact keep eb hq1
          have ne : q1 ≠ D := fun z => by
            rw [z, hDb] at hq1
            cases hq1
          have p1 : AtT pairV (upd (upd H5 q1 (.tup [.str w0, .str z0])) D (.lst (bs.map V.ref ++ [V.ref q1]))) bs (saids ((ps.take i).map (·.2))) := Paired.mapP hbs fun a c h => up a _ h
          refine Paired.snoc p1 ?_
          rw [upd_ne ne, upd_same]
          rfl
      · rename_i e
        refine ⟨s4, bs, hDb, ?_⟩
        rw [htk, pair_kind e, List.append_nil]
        exact hbs
    · obtain ⟨s4, bs, hDb, hbs⟩ := p
      rw [List.length_map, List.take_length] at hbs
      have s5 := s3.trans s4
      obtain ⟨as, hr1, hr2⟩ := hra.same s5
      walk_at "rd"
      refine ⟨w, D, d - d', ra, bs, as, saids (ps.map fun p : Addr × Row => p.2), ns, rfl, hDb, hbs, hr1, hr2, hn, hng, fun p hp => ?_, fun p H' s6 hp => q p H' (s5.trans s6) hp⟩
      obtain ⟨r, hr, e⟩ := List.mem_filterMap.mp hp
      obtain ⟨p', hp', rfl⟩ := List.mem_map.mp hr
      have gg := hg p' hp'
      cases hpr : p'.2 with
      | said a b c =>
        rw [hpr] at gg e
        cases e
        exact gg.2.2
      | _ => rw [hpr] at e; cases e
theorem f_judged (T : Tx w K mg) : Fok P w K mg base (L2.CX P w) "judged" ps_judged [] 7 (spJudged K) := by
  obtain ⟨fd, F⟩ := T.d_judged
  have G_is_record := f_is_record (P := P) (base := base) T
  have G_row_of := f_row_of (P := P) (base := base) T
  have G_are_rules := f_are_rules (P := P) (base := base) T
  have G_judged_by := f_judged_by (P := P) (base := base) T
  refine fok F T.g_judged (fun _ _ _ _ _ _ us hl => match us, hl with | [_, _], _ => rfl) (F.ok sc_judged (fun vs H Q E h => ?_) (fun cdv A outer s H vs Q E hr h => ?_))
  · obtain ⟨l, ra, ps, ns, rfl, _⟩ := h
    rfl
  · refine ⟨_, (pss_cons (ps_if (PW.pt (pw_or (pt_not (pt_val (pe_fn G_is_record (hr.mono (by decide)) pass0 (pa_cons (pv 0) pa_nil)))) (pw_or1 (pt_cmpR op_isN (pe_fn G_row_of (hr.mono (by decide)) pass0 (pa_cons (pv 0) (pa_cons pe_str pa_nil))) pe_non (nomark _))))) (pss_one (ps_raise rfl (takes_of rfl rfl rfl rfl) (pmk_own PySem.F.excBase_ValueError T.x_BadRecord T.g_BadRecord T.k_BadRecord (raises_own T.e_BadRecord T.t_BadRecord) (by exact rfl)))) pss_nil)
      (pss_cons (ps_if (pt_not (pt_val (pe_fn G_are_rules (hr.mono (by decide)) pass0 (pa_cons (pv 1) pa_nil)))) (pss_one ps_never) pss_nil)
      (pss_one (ps_ret (pe_fn G_judged_by (hr.mono (by decide)) pass0 (pa_cons (pv 0) (pa_cons (pv 1) pa_nil))))))), ?_⟩
    obtain ⟨l, ra, ps, ns, rfl, hl, hg, hs, h1000, hra, hn, hng, hcame, qbad, qok⟩ := h
    walk_at "rd"
    refine ⟨l, ps, rfl, hl, hg, hs, h1000, fun H1 s1 => ?_⟩
    walk_at "rd"
    · rename_i e
      exact qbad (.inl e) _ s1
    · rename_i e
      refine rowof_g (hl.same s1) hg h1000 (fun H2 pq s2 f2 => ?_) (fun H2 s2 f2 => ?_)
      · have s3 := s1.trans s2
        obtain ⟨pc, f1⟩ := hcame e pq f2
        obtain ⟨d', e1⟩ := kind_came (findK_mem f1).2
        obtain ⟨d, w', e2⟩ := kind_comp (findK_mem f2).2
        walk_at "rd"
        obtain ⟨as, hr1, hr2⟩ := hra.same s3
        refine ⟨ra, ns, rfl, ⟨as, .inr hr1, hr2⟩, hn, hng, fun H4 s4 => ?_⟩
        have s5 := s3.trans s4
        walk_at "rd"
        exact ⟨l, ra, ps, ns, pc, pq, d, d', w', rfl, hl.same s5, hg, h1000, hra.same s5, hn, hng, f1, e1, f2, e2, fun p H' s6 hp => qok e pc pq d d' w' f1 e1 f2 e2 p H' (s5.trans s6) hp⟩
      · walk_at "rd"
        exact qbad (.inr f2) _ (s1.trans s2)
end
end Mk
/-! Plain: what a list of rows is that can be. -/
namespace Mk
open PySem PySem.Spec L2 He
/-- the law's own look -/
def chainB : List Row → Bool
  | [] => true
  | [_] => true
  | a :: b :: r => goesB a b && chainB (b :: r)
def canB : List Row → Bool
  | [] => false
  | m :: r => m.isMade && (!r.any Row.isMade && chainB (m :: r))
theorem chainB_at : ∀ {rs : List Row} {i : Nat} {a b : Row}, chainB rs = true → rs[i]? = some a → rs[i + 1]? = some b → goesB a b = true
  | [], _, _, _, _, h, _ => by cases h
  | [x], i, a, b, _, _, h => by cases i <;> simp at h
  | x :: y :: r, 0, a, b, hc, h1, h2 => by
    have e1 := Option.some.inj h1
    have e2 := Option.some.inj h2
    subst e1 e2
    exact (Bool.and_eq_true_iff.mp hc).1
  | x :: y :: r, i + 1, a, b, hc, h1, h2 => chainB_at (rs := y :: r) (i := i) (Bool.and_eq_true_iff.mp hc).2 h1 h2
theorem chainB_of : ∀ {rs : List Row}, (∀ i a b, rs[i]? = some a → rs[i + 1]? = some b → goesB a b = true) → chainB rs = true
  | [], _ => rfl
  | [_], _ => rfl
  | x :: y :: r, h => by
    show (goesB x y && chainB (y :: r)) = true
    rw [h 0 x y rfl rfl, chainB_of (rs := y :: r) fun i a b h1 h2 => h (i + 1) a b h1 h2]
    rfl
/-- a list of rows, each made one as the program takes it: it stands just if it can be -/
theorem recB_canB {rs : List Row} (hm : ∀ r ∈ rs, r.isMade = true → r.okMade = true) : (!rs.isEmpty && recB rs) = canB rs := by
  cases rs with
  | nil => rfl
  | cons m r =>
    show (true && recB (m :: r)) = (m.isMade && (!r.any Row.isMade && chainB (m :: r)))
    rw [Bool.true_and, Bool.eq_iff_iff]
    unfold recB
    rw [List.all_eq_true]
    constructor
    · intro h
      have h0 := h 0 (List.mem_range.mpr (Nat.succ_pos _))
      have h0' : m.okMade = true := h0
      have hs : ∀ i a b, (m :: r)[i]? = some a → (m :: r)[i + 1]? = some b → (!b.isMade && goesB a b) = true := fun i a b h1 h2 => by
        have hl := (List.getElem?_eq_some_iff.mp h2).1
        have q := h (i + 1) (List.mem_range.mpr hl)
        unfold standsB at q
        rw [h2] at q
        simp only [Nat.add_sub_cancel, h1, Nat.succ_ne_zero, if_false, Nat.add_eq_zero_iff, Nat.one_ne_zero, and_false] at q
        exact q
      rw [Bool.and_eq_true_iff, Bool.and_eq_true_iff]
      refine ⟨?_, ?_, ?_⟩
      · cases m with
        | made a b c d e f g h' i => rfl
        | _ => cases h0'
      · rw [Bool.not_eq_true', List.any_eq_false]
        intro x hx
        obtain ⟨j, hj⟩ := List.mem_iff_getElem?.mp hx
        have hj' : (m :: r)[j + 1]? = some x := hj
        obtain ⟨y, hy⟩ : ∃ y, (m :: r)[j]? = some y := ⟨(m :: r)[j]'(by have := (List.getElem?_eq_some_iff.mp hj').1; omega), List.getElem?_eq_getElem _⟩
        have q := (Bool.and_eq_true_iff.mp (hs j y x hy hj')).1
        simpa using q
      · exact chainB_of fun i a b h1 h2 => (Bool.and_eq_true_iff.mp (hs i a b h1 h2)).2
    · intro h i hi
      obtain ⟨h1, h2⟩ := Bool.and_eq_true_iff.mp h
      obtain ⟨h3, h4⟩ := Bool.and_eq_true_iff.mp h2
      have hl := List.mem_range.mp hi
      cases i with
      | zero => exact hm m List.mem_cons_self h1
      | succ j =>
        have hb : (m :: r)[j + 1]? = some (m :: r)[j + 1] := List.getElem?_eq_getElem hl
        have ha : (m :: r)[j]? = some ((m :: r)[j]'(by omega)) := List.getElem?_eq_getElem _
        have hg := chainB_at h4 ha hb
        have hn : (m :: r)[j + 1].isMade = false := by
          have hx : (m :: r)[j + 1] ∈ r := List.mem_of_getElem? (show r[j]? = some (m :: r)[j + 1] from hb)
          rw [Bool.not_eq_true', List.any_eq_false] at h3
          simpa using h3 _ hx
        unfold standsB
        rw [hb]
        simp only [Nat.add_sub_cancel, ha, Nat.succ_ne_zero, if_false, Nat.add_eq_zero_iff, Nat.one_ne_zero, and_false]
        rw [hn, hg]
        rfl
theorem goesB_word {a b : Row} (h : goesB a b = true) : b.word ∈ a.behind := by
  have h1 := (Bool.and_eq_true_iff.mp h).2
  exact of_decide_eq_true (Bool.and_eq_true_iff.mp h1).2
theorem isMade_kind {r : Row} (h : r.isMade = true) : ∃ d s b x y z m p t, r = .made d s b x y z m p t := by
  cases r with
  | made d s b x y z m p t => exact ⟨d, s, b, x, y, z, m, p, t, rfl⟩
  | _ => cases h
/-- what stands ahead of a row -/
theorem ahead_comp {a : Row} {d : Int} {w : Str} (h : goesB a (.comp d w) = true) : ∃ d', a = .came d' := by
  have q : ("complained" : Str) ∈ a.behind := goesB_word h
  cases a with
  | came d' => exact ⟨d', rfl⟩
  | _ => exact absurd q (by simp only [Row.behind]; decide +kernel)
theorem ahead_came {a : Row} {d : Int} (h : goesB a (.came d) = true) : ∃ d' w at_, a = .sent d' w at_ := by
  have q : ("came" : Str) ∈ a.behind := goesB_word h
  cases a with
  | sent d' w at_ => exact ⟨d', w, at_, rfl⟩
  | _ => exact absurd q (by simp only [Row.behind]; decide +kernel)
theorem ahead_sent {a : Row} {d at_ : Int} {w : Str} (h : goesB a (.sent d w at_) = true) : a.isMade = true := by
  have q : ("sent" : Str) ∈ a.behind := goesB_word h
  cases a with
  | made d s b x y z m p t => rfl
  | _ => exact absurd q (by simp only [Row.behind]; decide +kernel)
theorem can_made0 {rs : List Row} (h : canB rs = true) : ∃ m, rs[0]? = some m ∧ m.isMade = true := by
  cases rs with
  | nil => cases h
  | cons m r => exact ⟨m, rfl, (Bool.and_eq_true_iff.mp h).1⟩
theorem can_made_at {rs : List Row} (h : canB rs = true) {i : Nat} {m : Row} (hi : rs[i]? = some m) (hm : m.isMade = true) : i = 0 := by
  cases rs with
  | nil => cases h
  | cons x r =>
    obtain ⟨h3, _⟩ := Bool.and_eq_true_iff.mp (Bool.and_eq_true_iff.mp h).2
    cases i with
    | zero => rfl
    | succ j =>
      rw [Bool.not_eq_true', List.any_eq_false] at h3
      exact absurd hm (h3 m (List.mem_of_getElem? (show r[j]? = some m from hi)))
theorem can_chain {rs : List Row} (h : canB rs = true) : chainB rs = true := by
  cases rs with
  | nil => rfl
  | cons x r => exact (Bool.and_eq_true_iff.mp (Bool.and_eq_true_iff.mp h).2).2
theorem can_prev {rs : List Row} (h : canB rs = true) {i : Nat} {b : Row} (hb : rs[i]? = some b) (hn : b.isMade = false) : ∃ j a, i = j + 1 ∧ rs[j]? = some a ∧ goesB a b = true := by
  cases i with
  | zero =>
    obtain ⟨m, hm, hmm⟩ := can_made0 h
    rw [hb] at hm
    cases hm
    rw [hn] at hmm
    cases hmm
  | succ j =>
    have hl := (List.getElem?_eq_some_iff.mp hb).1
    have ha : rs[j]? = some (rs[j]'(by omega)) := List.getElem?_eq_getElem _
    exact ⟨j, _, rfl, ha, chainB_at (can_chain h) ha hb⟩
theorem can_sent_at {rs : List Row} (h : canB rs = true) {i : Nat} {d at_ : Int} {w : Str} (hi : rs[i]? = some (.sent d w at_)) : i = 1 := by
  obtain ⟨j, a, rfl, ha, hg⟩ := can_prev h hi rfl
  rw [can_made_at h ha (ahead_sent hg)]
theorem can_came_at {rs : List Row} (h : canB rs = true) {i : Nat} {d : Int} (hi : rs[i]? = some (.came d)) : i = 2 ∧ ∃ d' w at_, rs[1]? = some (.sent d' w at_) := by
  obtain ⟨j, a, rfl, ha, hg⟩ := can_prev h hi rfl
  obtain ⟨d', w, at_, rfl⟩ := ahead_came hg
  have := can_sent_at h ha
  subst this
  exact ⟨rfl, d', w, at_, ha⟩
theorem can_comp_at {rs : List Row} (h : canB rs = true) {i : Nat} {d : Int} {w : Str} (hi : rs[i]? = some (.comp d w)) : i = 3 ∧ ∃ d', rs[2]? = some (.came d') := by
  obtain ⟨j, a, rfl, ha, hg⟩ := can_prev h hi rfl
  obtain ⟨d', rfl⟩ := ahead_comp hg
  have := (can_came_at h ha).1
  subst this
  exact ⟨rfl, d', ha⟩
/-- the first of its kind, where each of that kind stands at one place -/
theorem findK_at {k : Str} {ps : List (Addr × Row)} {i : Nat} {p : Addr × Row} (hp : ps[i]? = some p) (hk : p.2.kind = k) (ho : ∀ j q, ps[j]? = some q → q.2.kind = k → j = i) : findK k ps = some p := by
  cases hf : findK k ps with
  | none =>
    have := List.find?_eq_none.mp hf p (List.mem_of_getElem? hp)
    rw [decide_eq_true hk] at this
    exact absurd rfl this
  | some q =>
    obtain ⟨hq, hqk⟩ := findK_mem hf
    obtain ⟨j, hj⟩ := List.mem_iff_getElem?.mp hq
    have e := ho j q hj hqk
    subst e
    rw [hp] at hj
    exact hj.symm ▸ rfl
theorem at_snd {ps : List (Addr × Row)} {i : Nat} {p : Addr × Row} (h : ps[i]? = some p) : (ps.map (·.2))[i]? = some p.2 := by
  rw [List.getElem?_map, h]
  rfl
theorem at_fst {ps : List (Addr × Row)} {i : Nat} {r : Row} (h : (ps.map (·.2))[i]? = some r) : ∃ p, ps[i]? = some p ∧ p.2 = r := by
  rw [List.getElem?_map] at h
  cases hp : ps[i]? with
  | none =>
    rw [hp] at h
    cases h
  | some p =>
    rw [hp] at h
    exact ⟨p, rfl, Option.some.inj h⟩
/-- a record with a complaint: its rows 2 and 3 -/
theorem can_complaint {ps : List (Addr × Row)} (h : canB (ps.map (·.2)) = true) {q : Addr × Row} (hq : findK "complained" ps = some q) : ∃ pc d d' w, ps[2]? = some pc ∧ pc.2 = .came d' ∧ ps[3]? = some q ∧ q.2 = .comp d w ∧ findK "came" ps = some pc := by
  obtain ⟨hm, hk⟩ := findK_mem hq
  obtain ⟨d, w, e⟩ := kind_comp hk
  obtain ⟨i, hi⟩ := List.mem_iff_getElem?.mp hm
  have hi2 := at_snd hi
  rw [e] at hi2
  obtain ⟨rfl, d', h2⟩ := can_comp_at h hi2
  obtain ⟨pc, hpc, ec⟩ := at_fst h2
  refine ⟨pc, d, d', w, hpc, ec, hi, e, findK_at hpc (by rw [ec]; rfl) fun j q' hj hk' => ?_⟩
  obtain ⟨d2, e2⟩ := kind_came hk'
  have hj2 := at_snd hj
  rw [e2] at hj2
  exact (can_came_at h hj2).1
theorem can_sent1 {ps : List (Addr × Row)} (h : canB (ps.map (·.2)) = true) {q : Addr × Row} (hq : findK "sent" ps = some q) : ps[1]? = some q := by
  obtain ⟨hm, hk⟩ := findK_mem hq
  obtain ⟨d, w, a, e⟩ := kind_sent hk
  obtain ⟨i, hi⟩ := List.mem_iff_getElem?.mp hm
  have hi2 := at_snd hi
  rw [e] at hi2
  have := can_sent_at h hi2
  subst this
  exact hi
end Mk
/-! Fields, dicts of texts, methods: rules with the table written out; the data of a world. -/
namespace Mk
open PySem PySem.Spec L2 He
def rFld (K : PySem.W.Frag) (f : Str) : V → Hp → VK → Prop := fun x H Q => ∃ a C dx fs v, x = .ref a ∧ H a = some (.ins C dx fs) ∧ Cls K C ∧ NoAttr K C f ∧ fs.lookup f = some v ∧ Q v H
def tFldK (K : PySem.W.Frag) (ta : TE) (f : Str) : TE := fun σ H Q => ta σ H fun x H1 => rFld K f x H1 Q
def rSetF (K : PySem.W.Frag) (f : Str) (y : V) : V → Hp → (Hp → Prop) → Prop := fun x H R => ∃ a C dx fs, x = .ref a ∧ H a = some (.ins C dx fs) ∧ Cls K C ∧ NoAttr K C f ∧ fs.length < 1000 ∧ R (upd H a (.ins C dx (putF f y fs)))
def sFldK (K : PySem.W.Frag) (ta tv : TE) (f : Str) : TS := fun D σ H => tv σ H fun y H1 => ta σ H1 fun x H2 => rSetF K f y x H2 (D.nx σ)
def rDG (y : V) : V → Hp → VK → Prop := fun x H Q => ∃ a v, x = .ref a ∧ DGet H a y (some v) ∧ Q v H
def tDGetK (td ty : TE) : TE := fun σ H Q => td σ H fun x H1 => ty σ H1 fun y H2 => rDG y x H2 Q
def rDI (y : V) : V → Hp → VK → Prop := fun x H Q => ∃ a o, x = .ref a ∧ DGet H a y o ∧ Q (.bl o.isSome) H
def tDInK (ty td : TE) : TE := fun σ H Q => ty σ H fun y H1 => td σ H1 fun x H2 => rDI y x H2 Q
def rDN (y : V) : V → Hp → VK → Prop := fun x H Q => ∃ a o, x = .ref a ∧ DGet H a y o ∧ Q (.bl (!o.isSome)) H
def tDNotInK (ty td : TE) : TE := fun σ H Q => ty σ H fun y H1 => td σ H1 fun x H2 => rDN y x H2 Q
def rLenDK : List V → Hp → VK → Prop := fun xs H Q => ∃ a kvs, xs = [V.ref a] ∧ H a = some (.dK kvs) ∧ Q (.int kvs.length) H
def rListOf (K : PySem.W.Frag) : List V → Hp → VK → Prop := fun xs H Q => ∃ p ys, xs = [.ref p] ∧ (SqL K H p ys ∨ SqT K H p ys) ∧ ∀ l, H l = none → Q (.ref l) (upd H l (.lst ys))
def rDictDK : List V → Hp → VK → Prop := fun xs H Q => ∃ (a : Addr) (kvs : List (Key × V)), xs = [.ref a] ∧ Rd H a (.dK kvs) ∧ ∀ p, H p = none → Q (.ref p) (upd H p (.dK kvs))
def rItK : V → Hp → (It → Hp → Prop) → Prop := fun x H R => ∃ d o kvs, x = .ref d ∧ H d = some (.frz o (.dK kvs)) ∧ R (Iti d o kvs) H
def iItemsK (td : TE) : TI := fun σ H R => td σ H fun x H1 => rItK x H1 R
section
variable {X : Cx} {K : PySem.W.Frag}
theorem pe_fldK {e : Expr} {f : Str} {pos : Pos} {ta : TE} (ek : X.K = K) (he : PE X e ta) (hb : attributeBase e f X.env (eval e X.env) = eval e X.env) : PE X (.Attribute e f pos) (tFldK K ta f) := ek ▸ pe_fld he hb
theorem ps_fldK {o value : Expr} {f : Str} {pos pos' : Pos} {ta tv : TE} (ek : X.K = K) (ha : PE X o ta) (hv : PE X value tv) (hs : swapsWith value (some (.Attribute o f pos')) pos.line X.env = pure false) : PS X (.Assign [.Attribute o f pos'] value pos) (sFldK K ta tv f) := ek ▸ ps_fld ha hv hs
theorem pe_dgetK {o i : Expr} {td ty : TE} {pos : Pos} (hu : X.A.units + 1 < cLine) (ho : PE X o td) (hi : PE X i ty) (hs : NoSl i) : PE X (.Subscript o i pos) (tDGetK td ty) := pe_dget hu ho hi hs
theorem pc_dinK {e o : Expr} {ty td : TE} (hu : X.A.units + 1 < cLine) (he : PE X e ty) (ho : PE X o td) : PC X .In e o (tDInK ty td) := pc_din hu he ho
theorem pc_dnotinK {e o : Expr} {ty td : TE} (hu : X.A.units + 1 < cLine) (he : PE X e ty) (ho : PE X o td) : PC X .NotIn e o (tDNotInK ty td) := pc_dnotin hu he ho
theorem call_lenDK : CallR X (.builtin "len") rLenDK := call_lenD
theorem call_list_ofK (ek : X.K = K) : CallR X (.type "list") (rListOf K) := ek ▸ call_list_of
theorem call_dictDK : CallR X (.type "dict") rDictDK := call_dictD
theorem pi_itemsK {e : Expr} {td : TE} {apos cpos : Pos} {elts : List Expr} {kk : Nat} {tpos : Pos} (he : PE X e td) (hbase : attributeBase e "items" X.env (eval e X.env) = eval e X.env := by rfl) (hline : (apos.endLine == cpos.line) = true := by rfl) :
    PI X (.Tuple elts kk tpos) (.Call (.Attribute e "items" apos) [] [] cpos) (iItemsK td) := pi_items he hbase hline
end
section
variable {K : PySem.W.Frag} {H : Hp} {Q : VK} {a p C dx : Addr} {f z : Str} {fs : List (Str × V)} {v y : V} {kvs : List (Key × V)} {xs : List V}
theorem rfld_t (h : H a = some (.ins C dx fs)) (c : Cls K C) (n : NoAttr K C f) (l : fs.lookup f = some v) (q : Q v H) : rFld K f (.ref a) H Q := ⟨a, C, dx, fs, v, rfl, h, c, n, l, q⟩
theorem putF_new : ∀ {fs : List (Str × V)}, fs.lookup f = none → putF f y fs = fs ++ [(f, y)]
  | [], _ => rfl
  | (g, x) :: r, h => by
    by_cases e : g = f
    · rw [e, List.lookup_cons, beq_self_eq_true] at h
      cases h
    · have e' : (f == g) = false := beq_eq_false_iff_ne.mpr fun z => e z.symm
      rw [List.lookup_cons, e'] at h
      show (if g = f then (g, y) :: r else (g, x) :: putF f y r) = _
      rw [if_neg e, putF_new h]
      rfl
theorem rsetf_t {R : Hp → Prop} (h : H a = some (.ins C dx fs)) (c : Cls K C) (n : NoAttr K C f) (l : fs.lookup f = none) (l2 : fs.length < 1000) (q : R (upd H a (.ins C dx (fs ++ [(f, y)])))) : rSetF K f y (.ref a) H R := ⟨a, C, dx, fs, rfl, h, c, n, l2, by rw [putF_new l]; exact q⟩
theorem rdg_t (h : H a = some (.dK kvs)) (e : valV kvs (.inr z) = some v) (q : Q v H) : rDG (.str z) (.ref a) H Q := ⟨a, v, rfl, e ▸ DGet.k (k := .inr z) h, q⟩
theorem rdi_t (h : H a = some (.dK kvs)) (q : Q (.bl (valV kvs (.inr z)).isSome) H) : rDI (.str z) (.ref a) H Q := ⟨a, _, rfl, DGet.k (k := .inr z) h, q⟩
theorem rdn_t (h : H a = some (.dK kvs)) (q : Q (.bl (!(valV kvs (.inr z)).isSome)) H) : rDN (.str z) (.ref a) H Q := ⟨a, _, rfl, DGet.k (k := .inr z) h, q⟩
theorem rdi_some (h : H a = some (.dK kvs)) (e : valV kvs (.inr z) = some v) (q : Q (.bl true) H) : rDI (.str z) (.ref a) H Q := rdi_t h (by rw [e]; exact q)
theorem rdn_some (h : H a = some (.dK kvs)) (e : valV kvs (.inr z) = some v) (q : Q (.bl false) H) : rDN (.str z) (.ref a) H Q := rdn_t h (by rw [e]; exact q)
theorem rlend_t (h : H a = some (.dK kvs)) (q : Q (.int kvs.length) H) : rLenDK [.ref a] H Q := ⟨a, kvs, rfl, h, q⟩
theorem rlist_l (h : H a = some (.lst xs)) (k : ∀ l, H l = none → Q (.ref l) (upd H l (.lst xs))) : rListOf K [.ref a] H Q := ⟨a, xs, rfl, .inl (SqL.of h), k⟩
theorem rdict_d (h : H a = some (.dK kvs)) (k : ∀ l, H l = none → Q (.ref l) (upd H l (.dK kvs))) : rDictDK [.ref a] H Q := ⟨a, kvs, rfl, .inl h, k⟩
/-- other things stand where an instance changes -/
theorem keepI {u o : HO} (h : H a = some o) (hp : H p = some (.ins C dx fs)) (d : ∀ C dx fs, o ≠ .ins C dx fs) : upd H p u a = some o := by
  rw [upd_ne (fun e => by
    rw [e, hp] at h
    exact d _ _ _ (Option.some.inj h).symm)]
  exact h
end
theorem rcat_t {H : Hp} {Q : VK} {a b : Addr} {xs zs : List V} (h : H a = some (.lst xs)) (hb : H b = some (.lst zs)) (l : xs.length + zs.length ≤ sizeLine) (k : ∀ p, H p = none → Q (.ref p) (upd H p (.lst (xs ++ zs)))) : rCat (.ref a) (.ref b) H Q := ⟨a, b, xs, zs, rfl, rfl, h, hb, l, k⟩
theorem line_ge {n : Nat} (h : n ≤ 16777216) : n ≤ sizeLine := by rw [sizeLine_eq]; exact h
/-! ### methods -/
structure Mok (P : Program) (w : World) (K : PySem.W.Frag) (mg : Str → Option Value) (base : Heap) (CX : CXT) (C : Addr) (m : Str) (ps : List Str) (k : Nat) (sp : Sp) : Prop where
  ex : ∃ (f : Addr) (fd : FuncData), FnOk P w K mg base CX k f fd ps sp ∧ Binds K fd ps [] ∧ Meth K C m f
  cl : Cls K C
theorem pe_mt {X : Cx} {CX : CXT} {k : Nat} {C : Addr} {m : Str} {ps : List Str} {sp : Sp} {E : XK} {o e : Expr} {es : List Expr} {pos apos : Pos} {ta : TE} {t : TA} {pl : Sem Bool} (F : Mok X.prog X.w X.K X.mg X.base CX C m ps k sp) (hr : Room k X.A) (hx : Passes CX X E) (he : PE X o ta) (ha : PA X (e :: es) t)
    (hst : starEach (e :: es) X.env = (false, eval e X.env) :: starEach es X.env := by rfl) (hpl : (backTo pos (starEach es X.env)).any (·.1) = false := by rfl)
    (ht : eval (.Call (.Attribute o m apos) (e :: es) [] pos) X.env = (do
      let ov ← eval o X.env
      standAt apos.atName
      let (f, first) ← holding [ov] (getMethod ov m pl)
      callWith pos f first (backTo pos (starEach (e :: es) X.env)) (backToKw pos (keywordEach [] X.env))) := by rfl) : PE X (.Call (.Attribute o m apos) (e :: es) [] pos) (tMeth C m sp [] E ta t) := by
  obtain ⟨f, fd, F1, b, hm⟩ := F.ex
  exact pe_meth he F.cl hm F1 hr b .nil hx ha hst hpl ht
theorem mok {P : Program} {w : World} {K : PySem.W.Frag} {mg : Str → Option Value} {base : Heap} {x q : Str} {pa : Arguments} {bd : List Stmt} {sc : Scope} {ps : List Str} {k : Nat} {sp : Sp} {CX : CXT} {fd : FuncData} {f C : Addr} (F : FunD K x q pa bd sc [] [] f fd) (c : Cls K C) (hm : Meth K C x f)
    (hb : ∀ (kV doc pm : Value) (an : Option Addr) (cdv ct : Value) (us : List Value), us.length = ps.length → bindArgs (PySem.W.fnOf x q pa bd sc .none kV doc pm an cdv ct) ⟨us, []⟩ = pure (ps.zip us))
    (G : FnOk P w K mg base CX k f fd ps sp) : Mok P w K mg base CX C x ps k sp := ⟨⟨f, fd, G, F.bindsN hb, hm⟩, c⟩
theorem rmeth_t {H : Hp} {a C dx : Addr} {fs : List (Str × V)} {m : Str} {R : Addr → Prop} (h : H a = some (.ins C dx fs)) (l : fs.lookup m = none) (q : R a) : ∃ a' dx' fs', V.ref a = V.ref a' ∧ H a' = some (.ins C dx' fs') ∧ fs'.lookup m = none ∧ R a' := ⟨a, dx, fs, rfl, h, l, q⟩
/-! ### the world's data -/
def dKS (xs : List SS) : List (Key × V) := xs.map fun p => (.inr p.1, .str p.2)
def lookS (xs : List SS) (z : Str) : Option Str := (xs.find? fun p => decide (p.1 = z)).map (·.2)
theorem valV_dKS (z : Str) : ∀ xs : List SS, valV (dKS xs) (.inr z) = (lookS xs z).map V.str
  | [] => rfl
  | p :: xs => by
    have ih := valV_dKS z xs
    unfold dKS lookS at ih ⊢
    by_cases e : p.1 = z
    · rw [List.map_cons, valV_pos (by rw [e]), List.find?_cons]
      simp [e]
    · rw [List.map_cons, valV_neg (fun q => e (by injection q)), ih, List.find?_cons]
      simp [e]
structure Wd where
  lands : List Str
  wares : List SS
  parties : List SS
  porters : List Str
  dues : List Due
  norms : List Norm
  cut : Int
  wait : Int
  comp : Int
/-- list(d.values()), the dict one of texts -/
def rLV : V → Hp → VK → Prop := fun x H1 Q => ∃ (d : Addr) (kvs : List (Key × V)), x = .ref d ∧ H1 d = some (.dK kvs) ∧ ∀ p, H1 p = none → Q (.ref p) (upd H1 p (.lst (kvs.map (·.2))))
def tLV (te : TE) : TE := fun σ H Q => te σ H fun x H1 => rLV x H1 Q
theorem pe_lv {X : Cx} {e : Expr} {te : TE} {p apos cpos pos : Pos} (hc : X.calm = true) (he : PE X e te) (hg : Gl X "list") (hm : X.mg "list" = none) (hv : bootBuiltins "list" = some (.type "list")) (hbase : attributeBase e "values" X.env (eval e X.env) = eval e X.env := by rfl) (hline : (apos.endLine == cpos.line) = true := by rfl)
    (hs : starEach [.Call (.Attribute e "values" apos) [] [] cpos] X.env = (false, eval (.Call (.Attribute e "values" apos) [] [] cpos) X.env) :: starEach [] X.env := by rfl) :
    PE X (.Call (.Name "list" p) [.Call (.Attribute e "values" apos) [] [] cpos] [] pos) (tLV te) := pe_listValues hc he hg hm hv hbase hline hs
theorem rlv_t {H : Hp} {Q : VK} {a : Addr} {xs : List SS} (h : H a = some (.dK (dKS xs))) (k : ∀ p, H p = none → Q (.ref p) (upd H p (.lst ((xs.map (·.2)).map V.str)))) : rLV (.ref a) H Q := by
  refine ⟨a, _, rfl, h, fun p hp => ?_⟩
  have e : (dKS xs).map (·.2) = (xs.map (·.2)).map V.str := by
    unfold dKS
    rw [List.map_map, List.map_map]
    rfl
  rw [e]
  exact k p hp
/-- a land is one, .. -/
structure Wd.good (W : Wd) : Prop where
  l1 : 1 ≤ W.lands.length ∧ W.lands.length ≤ 4
  l2 : (∀ z ∈ W.lands, nameB z = true) ∧ W.lands.Nodup
  w1 : 1 ≤ W.wares.length ∧ W.wares.length ≤ 6
  w2 : ∀ p ∈ W.wares, nameB p.1 = true ∧ nameB p.2 = true
  p1 : 1 ≤ W.parties.length ∧ W.parties.length ≤ 8
  p2 : ∀ p ∈ W.parties, nameB p.1 = true ∧ p.1 ≠ "market" ∧ p.2 ∈ W.lands
  c1 : W.porters.length ≤ 3
  c2 : (∀ z ∈ W.porters, nameB z = true) ∧ W.porters.Nodup
  c3 : ∀ z ∈ W.porters, (lookS W.parties z).isSome = true
  d1 : W.dues.length ≤ 20
  d2 : ∀ d ∈ W.dues, d.good W.lands (W.wares.map (·.2))
  n1 : W.norms.length ≤ 10
  n2 : ∀ n ∈ W.norms, n.good
  k1 : 0 ≤ W.cut ∧ W.cut ≤ 2000
  k2 : 1 ≤ W.wait ∧ W.wait ≤ 9
  k3 : 1 ≤ W.comp ∧ W.comp ≤ 9
def WorldAt (K : PySem.W.Frag) (H : Hp) (a : Addr) (W : Wd) : Prop := ∃ (dx l k h c v r d : Addr) (as : List Addr), H a = some (.ins (ga K "World") dx [("lands", .ref l), ("kinds", .ref k), ("homes", .ref h), ("carriers", .ref c), ("levies", .ref v), ("listed", .ref r), ("fee", .int W.cut), ("days", .ref d)]) ∧
  H l = some (.lst (W.lands.map V.str)) ∧ H k = some (.dK (dKS W.wares)) ∧ H h = some (.dK (dKS W.parties)) ∧ H c = some (.lst (W.porters.map V.str)) ∧ H v = some (.lst (as.map V.ref)) ∧ AtT Due.vs H as W.dues
theorem worldAt_same {K : PySem.W.Frag} {H H' : Hp} (s : Same H H') {a : Addr} {W : Wd} (h : WorldAt K H a W) : WorldAt K H' a W := by
  obtain ⟨dx, l, k, h, c, v, r, d, as, h1, h2, h3, h4, h5, h6, h7⟩ := h
  exact ⟨dx, l, k, h, c, v, r, d, as, s _ _ h1, s _ _ h2, s _ _ h3, s _ _ h4, s _ _ h5, s _ _ h6, atT_same s h7⟩
/-- the rate in force -/
def stepR (land kind : Str) (day : Int) (acc : Int × Int) (d : Due) : Int × Int := if d.land = land ∧ d.kind = kind ∧ acc.1 ≤ d.beg ∧ d.beg ≤ day then (d.beg, d.rate) else acc
def rateM (ds : List Due) (land kind : Str) (day : Int) : Int := (ds.foldl (stepR land kind day) (0, 0)).2
theorem rateM_bound {ls ks : List Str} {ds : List Due} (h : ∀ d ∈ ds, d.good ls ks) (land kind : Str) (day : Int) : 0 ≤ rateM ds land kind day ∧ rateM ds land kind day ≤ 5000 := by
  unfold rateM
  have gen : ∀ (ds : List Due) (acc : Int × Int), (∀ d ∈ ds, d.good ls ks) → 0 ≤ acc.2 ∧ acc.2 ≤ 5000 → 0 ≤ (ds.foldl (stepR land kind day) acc).2 ∧ (ds.foldl (stepR land kind day) acc).2 ≤ 5000 := by
    intro ds
    induction ds with
    | nil => intro acc _ h; exact h
    | cons d ds ih =>
      intro acc h ha
      rw [List.foldl_cons]
      refine ih _ (fun x hx => h x (List.mem_cons_of_mem _ hx)) ?_
      unfold stepR
      split
      · exact ⟨(h d List.mem_cons_self).2.2.2.1, (h d List.mem_cons_self).2.2.2.2⟩
      · exact ha
  exact gen ds (0, 0) h (by decide)
end Mk
/-! worlds.py: are_wares, are_parties, rate_at, rate_for, rate -/
namespace Mk
open PySem PySem.Spec L2 He
local macro_rules | `(tactic| walk_at "rdu2") => `(tactic| dsimp only [tSeq, tNext, tRet, tRetN, tAsg, tDrop, tIfS, tOr, tAnd, tNot, tB, tTest, tCB, tCons, tNil, tVar, tC, tOp, tUn, tOrV, tAndV, tNotV, tIf, tChain, tCall, tTup, tLst, gName, L2.start, dl_map, dl_map0, dl_app, dl_app0, List.length_cons, List.length_nil, List.replicate, List.set, Nat.reduceAdd, Nat.reduceSub, tLc_eq, tFor_eq, sck_eq, dct_eq, tPar, gCons, gNil, iList, iTup, iRng1, iStr, wipe, tYes, tSl, tPart, tNoPart, tFld, tMeth, tMake, tFldK, sFldK, tDGetK, tDInK, tDNotInK, iItemsK, tLV, tLockE, tLock, tMakeK,  tDNewK, tPairs])
local macro_rules | `(tactic| walk_at "lk2") => `(tactic| first | assumption | (with_reducible exact upd_same) | ((with_reducible apply keep); rotate_left; (focus assumption); walk_at "lk2") | ((with_reducible apply kp); (focus assumption); walk_at "lk2") | ((with_reducible apply keepI); rotate_left; (focus (walk_at "lk2")); (focus (intro _ _ _ e; cases e)); walk_at "lk2"))
local macro_rules | `(tactic| walk_at "lq2") => `(tactic| first | assumption | exact .inl (SqL.of (by walk_at "lk2")) | exact .inr (SqT.of (by walk_at "lk2")) | (refine sq2_same (grow (by assumption)) ?_; walk_at "lq2") | (refine sq2_same (by assumption) ?_; walk_at "lq2"))
local macro_rules | `(tactic| walk_at "sm2") => `(tactic| first | exact Same.refl _ | assumption | (refine same_upd2 ?_ (by assumption); walk_at "sm2") | (refine same_upd ?_ (by assumption); walk_at "sm2") | (refine Same.trans ?_ (by assumption); walk_at "sm2"))
local macro_rules | `(tactic| walk_at "rd12") => `(tactic| first
  | ((with_reducible apply rfld_t); (focus (walk_at "lk2")); (focus assumption); (focus assumption); (focus with_unfolding_all rfl))
  | ((with_reducible apply rsetf_t); (focus (walk_at "lk2")); (focus assumption); (focus assumption); (focus with_unfolding_all rfl); (focus (simp; done)); walk_at "rdu2")
  | ((with_reducible apply rlend_t); (focus (walk_at "lk2")))
  | ((with_reducible apply rlist_l); (focus (walk_at "lk2")); intro _ _)
  | ((with_reducible apply rdict_d); (focus (walk_at "lk2")); intro _ _)
  | ((with_reducible apply rdg_t); (focus (walk_at "lk2")); (focus first | assumption | with_unfolding_all rfl))
  | ((with_reducible apply rdi_some); (focus (walk_at "lk2")); (focus assumption))
  | ((with_reducible apply rdn_some); (focus (walk_at "lk2")); (focus assumption))
  | ((with_reducible apply rdi_t); (focus (walk_at "lk2")))
  | ((with_reducible apply rdn_t); (focus (walk_at "lk2")))
  | ((with_reducible apply rcat_t); (focus (walk_at "lk2")); (focus (walk_at "lk2")); (focus first | (refine line_ge ?_; simp; done) | (refine line_ge ?_; simp; omega)); intro _ _; walk_at "rdu2")
  | ((with_reducible apply rmeth_t); (focus (walk_at "lk2")); (focus with_unfolding_all rfl))
  | ((with_reducible apply rlv_t); (focus (walk_at "lk2")); intro _ _)
  | ((with_reducible apply req_ss))
  | ((with_reducible apply req_ii))
  | ((with_reducible apply req_bb))
  | ((with_reducible apply rne_ss))
  | ((with_reducible apply rne_ii))
  | ((with_reducible apply cm_l); (focus omega); (focus omega))
  | ((with_reducible apply cm_r); (focus omega); (focus omega))
  | ((with_reducible apply cd_i); (focus omega); (focus omega))
  | ((with_reducible apply md_i); (focus omega))
  | ((with_reducible apply part1))
  | ((with_reducible apply num2))
  | ((with_reducible apply num3))
  | ((with_reducible apply name1); (focus first | assumption | decide +kernel); intro _ _)
  | ((with_reducible apply one_m); (focus (walk_at "lq2")))
  | ((with_reducible apply one_s); (focus (walk_at "lq2")); (focus with_unfolding_all rfl))
  | refine ⟨_, rfl, ?_⟩
  | refine ⟨_, _, rfl, rfl, ?_⟩
  | ((with_reducible apply gcons_t))
  | ((with_reducible apply gpar_t))
  | ((with_reducible apply gpar3_t))
  | refine ⟨rfl, ?_⟩
  | ((with_reducible apply iteT))
  | ((with_reducible apply iteF))
  | ((with_reducible apply ri_ii))
  | ((with_reducible apply ri_ib))
  | ((with_reducible apply ri_ss))
  | ((with_reducible apply ri_bb))
  | ((with_reducible apply ri_tt); (focus (walk_at "lk2")))
  | ((with_reducible apply ri_ll); (focus (walk_at "lk2")))
  | ((with_reducible apply ri_dd); (focus (walk_at "lk2")))
  | ((with_reducible apply rt_l); (focus (walk_at "lk2")); (focus (walk_at "lk2")))
  | ((with_reducible apply rt_t); (focus (walk_at "lk2")); (focus (walk_at "lk2")))
  | ((with_reducible apply rix_t); (focus (walk_at "lk2")); (focus with_unfolding_all rfl))
  | ((with_reducible apply rix_l); (focus (walk_at "lk2")); (focus with_unfolding_all rfl))
  | ((with_reducible apply rlen_t); (focus (walk_at "lk2")); (focus first | (simp only [List.length_cons, List.length_nil]; done) | (simp only [List.length_cons, List.length_nil]; with_unfolding_all rfl) | with_unfolding_all rfl))
  | ((with_reducible apply rlen_l); (focus (walk_at "lk2")); (focus first | (simp only [List.length_cons, List.length_nil]; done) | (simp only [List.length_cons, List.length_nil]; with_unfolding_all rfl) | with_unfolding_all rfl))
  | ((with_reducible apply rin_t); (focus (walk_at "lk2")); (focus with_unfolding_all rfl))
  | ((with_reducible apply rnin_t); (focus (walk_at "lk2")); (focus with_unfolding_all rfl))
  | ((with_reducible apply rsl_t); (focus (walk_at "lk2")); (focus with_unfolding_all rfl); (focus first | (simp [cutV, HT.sIx]; done) | (simp [cutV, HT.sIx]; rfl)); intro _ _)
  | ((with_reducible apply rin_l); (focus (walk_at "lk2")))
  | ((with_reducible apply rnin_l); (focus (walk_at "lk2")))
  | ((with_reducible apply gtup_t); (focus (walk_at "lk2")); (focus with_unfolding_all rfl); walk_at "rdu2")
  | ((with_reducible apply alc); (focus decide); intro _ _)
  | ((with_reducible apply itenT))
  | ((with_reducible apply itenF))
  | ((with_reducible apply ited_sT); (focus first | rfl | assumption))
  | ((with_reducible apply ited_sF); (focus first | assumption | decide +kernel))
  | ((with_reducible apply itedn_sT); (focus first | assumption | decide +kernel))
  | ((with_reducible apply itedn_sF); (focus first | rfl | assumption))
  | ((with_reducible apply ited_mT); (focus first | assumption | decide +kernel))
  | ((with_reducible apply ited_mF); (focus first | assumption | decide +kernel))
  | ((with_reducible apply itedn_mT); (focus first | assumption | decide +kernel))
  | ((with_reducible apply itedn_mF); (focus first | assumption | decide +kernel))
  | ((with_reducible apply ited_s) <;> intro _)
  | ((with_reducible apply itedn_s) <;> intro _)
  | ((with_reducible apply ited_m) <;> intro _)
  | ((with_reducible apply itedn_m) <;> intro _)
  | ((with_reducible apply itedT); (focus first | assumption | omega))
  | ((with_reducible apply itedF); (focus first | assumption | omega))
  | ((with_reducible apply itednF); (focus first | assumption | omega))
  | ((with_reducible apply itednT); (focus first | assumption | omega))
  | ((with_reducible apply ited) <;> intro _)
  | ((with_reducible apply itedn) <;> intro _)
  | ((with_reducible apply itebn) <;> intro _)
  | ((with_reducible apply iteb) <;> intro _)
  | walk_at "rdu2"
  | contradiction)
local macro_rules | `(tactic| walk_at "rd2") => `(tactic| (try walk_at "rdu2"); repeat' walk_at "rd12")
def spWares : Sp := fun vs H Q _ => ∃ (p : Addr) (xs : List SS), vs = [.ref p] ∧ H p = some (.dK (dKS xs)) ∧ 1 ≤ xs.length ∧ xs.length ≤ 6 ∧ (∀ p ∈ xs, nameB p.1 = true ∧ nameB p.2 = true) ∧ ∀ H', Same H H' → Q (.bl true) H'
def spParties : Sp := fun vs H Q _ => ∃ (p l : Addr) (xs : List SS) (ls : List Str), vs = [.ref p, .ref l] ∧ H p = some (.dK (dKS xs)) ∧ H l = some (.lst (ls.map V.str)) ∧ 1 ≤ xs.length ∧ xs.length ≤ 8 ∧ (∀ p ∈ xs, nameB p.1 = true ∧ p.1 ≠ "market" ∧ p.2 ∈ ls) ∧ ∀ H', Same H H' → Q (.bl true) H'
def spRateAt (K : PySem.W.Frag) : Sp := fun vs H Q _ => ∃ (x : Addr) (W : Wd) (land kind : Str) (day : Int), vs = [.ref x, .str land, .str kind, .int day] ∧ WorldAt K H x W ∧ W.good ∧ ∀ H', Same H H' → Q (.int (rateM W.dues land kind day)) H'
def spRateFor (K : PySem.W.Frag) : Sp := fun vs H Q _ => ∃ (x : Addr) (W : Wd) (buyer ware : Str) (day : Int) (land kind : Str), vs = [.ref x, .str buyer, .str ware, .int day] ∧ WorldAt K H x W ∧ W.good ∧ lookS W.parties buyer = some land ∧ lookS W.wares ware = some kind ∧ ∀ H', Same H H' → Q (.int (rateM W.dues land kind day)) H'
def spRate (K : PySem.W.Frag) : Sp := fun vs H Q _ => ∃ (x : Addr) (W : Wd) (land kind : Str) (day : Int), vs = [.ref x, .str land, .str kind, .int day] ∧ WorldAt K H x W ∧ W.good ∧ land ∈ W.lands ∧ kind ∈ W.wares.map (·.2) ∧ 0 ≤ day ∧ ∀ H', Same H H' → Q (.int (rateM W.dues land kind day)) H'
/-- behind a lock -/
theorem same_unlock {H H' : Hp} {d : Addr} {o : HO} {od : Obj} (h : H d = some o) (s : Same (upd H d (.frz od o)) H') : Same H (upd H' d o) := fun b u e => by
  by_cases hb : b = d
  · rw [hb, h] at e
    rw [hb, upd_same]
    exact e
  · rw [upd_ne hb]
    exact s _ _ (by rw [upd_ne hb]; exact e)
theorem foldl_take {α β : Type} (f : β → α → β) (z : β) {xs : List α} {i : Nat} {x : α} (h : xs[i]? = some x) : (xs.take (i + 1)).foldl f z = f ((xs.take i).foldl f z) x := by
  rw [List.take_add_one, h, List.foldl_append]
  rfl
theorem item_at {xs : List SS} {i : Nat} {a b : V} (ea : ((dKS xs)[i]?.map fun kv => kV kv.1) = some a) (eb : (dKS xs)[i]?.map Prod.snd = some b) : ∃ p, xs[i]? = some p ∧ a = .str p.1 ∧ b = .str p.2 := by
  unfold dKS at ea eb
  rw [List.getElem?_map] at ea eb
  cases h : xs[i]? with
  | none =>
    rw [h] at ea
    cases ea
  | some p =>
    rw [h] at ea eb
    exact ⟨p, rfl, (Option.some.inj ea).symm, (Option.some.inj eb).symm⟩
section
variable {P : Program} {w : World} {K : PySem.W.Frag} {mg : Str → Option Value} {base : Heap}
theorem f_are_wares (T : Tx w K mg) : Fok P w K mg base CX0 "are_wares" ps_are_wares [] 2 spWares := by
  obtain ⟨fd, F⟩ := T.d_are_wares
  have G_is_name := f_is_name (P := P) (base := base) T
  refine fok F T.g_are_wares (fun _ _ _ _ _ _ us hl => match us, hl with | [_], _ => rfl) (F.ok sc_are_wares (fun vs H Q E h => ?_) (fun cdv A outer s H vs Q E hr h => ?_))
  · obtain ⟨p, xs, rfl, _⟩ := h
    rfl
  · refine ⟨_, PSs.nox (pss_cons (ps_if (PW.pt (pw_or (pt_not (pt_val (pe_callB (call_isiA (K := K) (by rfl)) (by rfl) T.b_isinstance bt_isinstance (pa_cons (pv 0) (pa_cons (pe_ty T.b_dict bt_dict) pa_nil))))) (pw_or1 (pt_not (pt_chain op_le op_le pe_int (pe_callB call_lenDK (by rfl) T.b_len bt_len (pa_cons (pv 0) pa_nil)) (pe_gi T.i_MOST_WARES)))))) (pss_one (ps_ret pe_bl)) pss_nil)
      (pss_one (ps_ret (pe_lock (pe_callB (cr_allK (K := K) (by rfl) rfl) (by rfl) T.b_all bt_all (pa_cons (pe_lc (own := [("name", 1), ("kind", 2)])  (by rfl) sc_are_wares.nd (by exact (pi_itemsK (pv 0))) (blkOk_by (own := [("name", 1), ("kind", 2)]) (N := ns_are_wares) (sc := defScope s_are_wares) (by decide +kernel)) (fun _ _ _ _ _ => (pg_tupK (K := K) (n := 2) (by rfl) (by rfl) (by rfl) (pgs_cons (pg_name (i := 1) sc_are_wares.nd rfl (Or.inl rfl)) (pgs_cons (pg_name (i := 2) sc_are_wares.nd rfl (Or.inl rfl)) pgs_nil)))) (fun _ _ _ _ _ => pts_nil) (fun _ _ _ _ _ => (pe_and (pe_fn G_is_name (hr.mono (by decide)) pass0 (pa_cons (pv 1) pa_nil)) (pe_one (pe_fn G_is_name (hr.mono (by decide)) pass0 (pa_cons (pv 2) pa_nil)))))) pa_nil)))))), ?_⟩
    obtain ⟨p, xs, rfl, hp, h1, h2, h3, q⟩ := h
    have hlen : (dKS xs).length = xs.length := List.length_map _
    walk_at "rd2"
    refine ⟨p, _, hp, trivial, fun od => ⟨_, rfl, ?_⟩⟩
    refine ⟨p, od, dKS xs, rfl, upd_same, fun D hD => ?_⟩
    refine lc_pure (walk_items (d := p) (o := od) (kvs := dKS xs)) hD (by omega) (fun _ => some (.bl true)) (fun H s => s _ _ upd_same) (fun i x H1 H2 R R0 hi s y h1 h0 => ?_) (fun H1 s e => ?_)
    · obtain ⟨t, a, b, rfl, ht, rfl, ea, eb⟩ := y
      obtain ⟨pr, hpr, rfl, rfl⟩ := item_at ea eb
      obtain ⟨g1, g2⟩ := h3 pr (List.mem_of_getElem? hpr)
      walk_at "rd2"
      rename_i H3 s3 H4 s4
      exact h1 _ _ ((grow ht).trans (s3.trans s4)) rfl
    · rw [range_true] at e
      exact all_t e ⟨s _ _ upd_same, q _ (same_unlock hp s)⟩
theorem f_are_parties (T : Tx w K mg) : Fok P w K mg base CX0 "are_parties" ps_are_parties [] 2 spParties := by
  obtain ⟨fd, F⟩ := T.d_are_parties
  have G_is_name := f_is_name (P := P) (base := base) T
  have G_is_one_of := f_is_one_of (P := P) (base := base) T
  refine fok F T.g_are_parties (fun _ _ _ _ _ _ us hl => match us, hl with | [_, _], _ => rfl) (F.ok sc_are_parties (fun vs H Q E h => ?_) (fun cdv A outer s H vs Q E hr h => ?_))
  · obtain ⟨p, l, xs, ls, rfl, _⟩ := h
    rfl
  · refine ⟨_, PSs.nox (pss_cons (ps_if (PW.pt (pw_or (pt_not (pt_val (pe_callB (call_isiA (K := K) (by rfl)) (by rfl) T.b_isinstance bt_isinstance (pa_cons (pv 0) (pa_cons (pe_ty T.b_dict bt_dict) pa_nil))))) (pw_or1 (pt_not (pt_chain op_le op_le pe_int (pe_callB call_lenDK (by rfl) T.b_len bt_len (pa_cons (pv 0) pa_nil)) (pe_gi T.i_MOST_PARTIES)))))) (pss_one (ps_ret pe_bl)) pss_nil)
      (pss_one (ps_ret (pe_lock (pe_callB (cr_allK (K := K) (by rfl) rfl) (by rfl) T.b_all bt_all (pa_cons (pe_lc (own := [("name", 2), ("land", 3)])  (by rfl) sc_are_parties.nd (by exact (pi_itemsK (pv 0))) (blkOk_by (own := [("name", 2), ("land", 3)]) (N := ns_are_parties) (sc := defScope s_are_parties) (by decide +kernel)) (fun _ _ _ _ _ => (pg_tupK (K := K) (n := 2) (by rfl) (by rfl) (by rfl) (pgs_cons (pg_name (i := 2) sc_are_parties.nd rfl (Or.inl rfl)) (pgs_cons (pg_name (i := 3) sc_are_parties.nd rfl (Or.inl rfl)) pgs_nil)))) (fun _ _ _ _ _ => pts_nil) (fun _ _ _ _ _ => (pe_and (pe_fn G_is_name (hr.mono (by decide)) pass0 (pa_cons (pv 2) pa_nil)) (pe_and (pe_cmpR op_ne (pv 2) (pe_gs T.s_NOBODY) (nomark _)) (pe_one (pe_fn G_is_one_of (hr.mono (by decide)) pass0 (pa_cons (pv 3) (pa_cons (pv 1) pa_nil)))))))) pa_nil)))))), ?_⟩
    obtain ⟨p, l, xs, ls, rfl, hp, hl, h1, h2, h3, q⟩ := h
    have hlen : (dKS xs).length = xs.length := List.length_map _
    have hpl : l ≠ p := ne_of hl hp (fun z => nomatch z)
    walk_at "rd2"
    refine ⟨p, _, hp, trivial, fun od => ⟨_, rfl, ?_⟩⟩
    refine ⟨p, od, dKS xs, rfl, upd_same, fun D hD => ?_⟩
    have hl2 : upd H p (.frz od (.dK (dKS xs))) l = some (.lst (ls.map V.str)) := by rw [upd_ne hpl]; exact hl
    refine lc_pure (walk_items (d := p) (o := od) (kvs := dKS xs)) hD (by omega) (fun _ => some (.bl true)) (fun H s => s _ _ upd_same) (fun i x H1 H2 R R0 hi s y h1 h0 => ?_) (fun H1 s e => ?_)
    · obtain ⟨t, a, b, rfl, ht, rfl, ea, eb⟩ := y
      obtain ⟨pr, hpr, rfl, rfl⟩ := item_at ea eb
      obtain ⟨g1, g2, g3⟩ := h3 pr (List.mem_of_getElem? hpr)
      have hl3 := s _ _ hl2
      walk_at "rd2"
      rename_i H3 s3
      exact qb (h1 _ _ ((grow ht).trans s3) (congrArg (fun b => some (V.bl b)) (decide_eq_true g3).symm)) rfl
    · rw [range_true] at e
      exact all_t e ⟨s _ _ upd_same, q _ (same_unlock hp s)⟩
theorem f_rate_at (T : Tx w K mg) : Mok P w K mg base CX0 (ga K "World") "rate_at" ps_World_rate_at 1 (spRateAt K) := by
  obtain ⟨fd, F⟩ := T.d_World_rate_at
  have tc := T.c_World
  have tn1 := T.n_World_levies
  refine mok F T.c_World T.m_World_rate_at (fun _ _ _ _ _ _ us hl => match us, hl with | [_, _, _, _], _ => rfl) (F.ok sc_World_rate_at (fun vs H Q E h => ?_) (fun cdv A outer s H vs Q E hr h => ?_))
  · obtain ⟨x, W, land, kind, day, rfl, _⟩ := h
    rfl
  · refine ⟨_, PSs.nox (pss_cons (ps_asg (pe_tup (pa_cons pe_int (pa_cons pe_int pa_nil))) (pg_tupK (K := K) (n := 2) (by rfl) (by rfl) (by rfl) (pgs_cons (pg_name (i := 4) sc_World_rate_at.nd rfl (Or.inl rfl)) (pgs_cons (pg_name (i := 5) sc_World_rate_at.nd rfl (Or.inl rfl)) pgs_nil))))
      (pss_cons (ps_for PassesOwn.never rfl (pi_listK (K := K) (by rfl) (pe_fldK (K := K) (by rfl) (pv 0) rfl)) (pg_tupK (K := K) (n := 4) (by rfl) (by rfl) (by rfl) (pgs_cons (pg_name (i := 6) sc_World_rate_at.nd rfl (Or.inl rfl)) (pgs_cons (pg_name (i := 7) sc_World_rate_at.nd rfl (Or.inl rfl)) (pgs_cons (pg_name (i := 8) sc_World_rate_at.nd rfl (Or.inl rfl)) (pgs_cons (pg_name (i := 9) sc_World_rate_at.nd rfl (Or.inl rfl)) pgs_nil))))) (pss_one (ps_if (PW.pt (pw_and (pt_cmpR op_eq (pv 6) (pv 1) (nomark _)) (pw_and (pt_cmpR op_eq (pv 7) (pv 2) (nomark _)) (pw_and1 (pt_chain op_le op_le (pv 4) (pv 8) (pv 3)))))) (pss_one (ps_par (i := 4) (j := 5) (by rfl) sc_World_rate_at.nd rfl rfl (by decide) rfl rfl (pa_cons (pv 8) (pa_cons (pv 9) pa_nil)) (by rfl))) pss_nil)))
      (pss_one (ps_ret (pv 5))))), ?_⟩
    obtain ⟨x, W, land, kind, day, rfl, ⟨dx, l, k, h', c, v, r, d, as, a1, a2, a3, a4, a5, a6, a7⟩, gd, q⟩ := h
    walk_at "rd2"
    rename_i p0 hp0
    have s0 : Same H (upd H p0 (.tup [.int 0, .int 0])) := grow hp0
    refine ⟨⟨_, SqL.of (s0 _ _ a6)⟩, ?_⟩
    have hl : as.length = W.dues.length := paired_len a7
    refine fr_it (walk_list (K := K) (a := v) (xs := as.map V.ref)) (fun i σ H2 => Same H H2 ∧ ∃ e f g j, σ = [some (.ref x), some (.str land), some (.str kind), some (.int day), some (.int ((W.dues.take i).foldl (stepR land kind day) (0, 0)).1), some (.int ((W.dues.take i).foldl (stepR land kind day) (0, 0)).2), e, f, g, j])
      ⟨s0, _, _, _, _, rfl⟩ (fun i σ H2 _ p => SqL.of (p.1 _ _ a6)) (fun i y σ H2 H3 hi p yy => ?_) (fun σ H2 p => ?_)
    · obtain ⟨s2, e, f, g, j, rfl⟩ := p
      obtain ⟨rfl, ex⟩ := yy
      rw [List.length_map, hl] at hi
      have hd : W.dues[i]? = some W.dues[i] := List.getElem?_eq_getElem hi
      obtain ⟨t, ht, hrel⟩ := paired_get2 a7 hd
      rw [List.getElem?_map, ht] at ex
      have ex' : V.ref t = y := Option.some.inj ex
      subst ex'
      have hb := s2 _ _ hrel
      have hst := foldl_take (stepR land kind day) (0, 0) hd
      rw [hst]
      clear hst
      generalize W.dues[i] = dd at hb
      generalize (W.dues.take i).foldl (stepR land kind day) (0, 0) = acc
      obtain ⟨c1, c2⟩ := acc
      dsimp only [Due.vs] at hb ⊢
      have no : ¬ (dd.land = land ∧ dd.kind = kind ∧ c1 ≤ dd.beg ∧ dd.beg ≤ day) → stepR land kind day (c1, c2) dd = (c1, c2) := fun h => if_neg h
      walk_at "rd2"
      all_goals first
        | (rename_i e1 e2 e3 e4
           have yes : stepR land kind day (c1, c2) dd = (dd.beg, dd.rate) := if_pos ⟨e1, e2, e3, e4⟩
           rw [yes]
           exact ⟨s2, _, _, _, _, rfl⟩)
        | (rw [no (fun z => by
            obtain ⟨z1, z2, z3, z4⟩ := z
            first | contradiction | omega)]
           exact ⟨s2, _, _, _, _, rfl⟩)
    · obtain ⟨s2, e, f, g, j, rfl⟩ := p
      rw [List.length_map, hl, List.take_length]
      walk_at "rd2"
      exact q _ s2
theorem f_rate_for (T : Tx w K mg) : Mok P w K mg base CX0 (ga K "World") "rate_for" ps_World_rate_for 2 (spRateFor K) := by
  obtain ⟨fd, F⟩ := T.d_World_rate_for
  have tc := T.c_World
  have tn1 := T.n_World_homes
  have tn2 := T.n_World_kinds
  have G_World_rate_at := f_rate_at (P := P) (base := base) T
  refine mok F T.c_World T.m_World_rate_for (fun _ _ _ _ _ _ us hl => match us, hl with | [_, _, _, _], _ => rfl) (F.ok sc_World_rate_for (fun vs H Q E h => ?_) (fun cdv A outer s H vs Q E hr h => ?_))
  · obtain ⟨x, W, buyer, ware, day, land, kind, rfl, _⟩ := h
    rfl
  · refine ⟨_, PSs.nox (pss_one (ps_ret (pe_mt G_World_rate_at (hr.mono (by decide)) pass0 (pv 0) (pa_cons (pe_dgetK (hu_of hr) (pe_fldK (K := K) (by rfl) (pv 0) rfl) (pv 1) (fun _ _ => rfl)) (pa_cons (pe_dgetK (hu_of hr) (pe_fldK (K := K) (by rfl) (pv 0) rfl) (pv 2) (fun _ _ => rfl)) (pa_cons (pv 3) pa_nil)))))), ?_⟩
    obtain ⟨x, W, buyer, ware, day, land, kind, rfl, hw, gd, e1, e2, q⟩ := h
    have hw' := hw
    obtain ⟨dx, l, k, h', c, v, r, d, as, a1, a2, a3, a4, a5, a6, a7⟩ := hw
    have v1 : valV (dKS W.parties) (.inr buyer) = some (.str land) := by rw [valV_dKS, e1]; rfl
    have v2 : valV (dKS W.wares) (.inr ware) = some (.str kind) := by rw [valV_dKS, e2]; rfl
    walk_at "rd2"
    exact ⟨x, W, land, kind, day, rfl, hw', gd, q⟩
theorem f_rate (T : Tx w K mg) : Mok P w K mg base CX0 (ga K "World") "rate" ps_World_rate 2 (spRate K) := by
  obtain ⟨fd, F⟩ := T.d_World_rate
  have tc := T.c_World
  have tn1 := T.n_World_lands
  have tn2 := T.n_World_kinds
  have G_World_rate_at := f_rate_at (P := P) (base := base) T
  have G_is_one_of := f_is_one_of (P := P) (base := base) T
  have G_is_number2 := f_is_number2 (P := P) (base := base) T
  refine mok F T.c_World T.m_World_rate (fun _ _ _ _ _ _ us hl => match us, hl with | [_, _, _, _], _ => rfl) (F.ok sc_World_rate (fun vs H Q E h => ?_) (fun cdv A outer s H vs Q E hr h => ?_))
  · obtain ⟨x, W, land, kind, day, rfl, _⟩ := h
    rfl
  · refine ⟨_, PSs.nox (pss_cons (ps_if (PW.pt (pw_or (pt_not (pt_val (pe_fn G_is_one_of (hr.mono (by decide)) pass0 (pa_cons (pv 1) (pa_cons (pe_fldK (K := K) (by rfl) (pv 0) rfl) pa_nil))))) (pw_or1 (pt_not (pt_val (pe_fn G_is_one_of (hr.mono (by decide)) pass0 (pa_cons (pv 2) (pa_cons (pe_lv rfl (pe_fldK (K := K) (by rfl) (pv 0) rfl) rfl T.b_list bt_list) pa_nil)))))))) (pss_one ps_never) pss_nil)
      (pss_cons (ps_if (pt_not (pt_val (pe_fn G_is_number2 (hr.mono (by decide)) pass0 (pa_cons (pv 3) (pa_cons pe_int pa_nil))))) (pss_one ps_never) pss_nil)
      (pss_one (ps_ret (pe_mt G_World_rate_at (hr.mono (by decide)) pass0 (pv 0) (pa_cons (pv 1) (pa_cons (pv 2) (pa_cons (pv 3) pa_nil)))))))), ?_⟩
    obtain ⟨x, W, land, kind, day, rfl, hw, gd, e1, e2, e3, q⟩ := h
    have hw' := hw
    obtain ⟨dx, l, k, h', c, v, r, d, as, a1, a2, a3, a4, a5, a6, a7⟩ := hw
    walk_at "rd2"
    rename_i p1 hp1
    refine ⟨x, W, land, kind, day, rfl, worldAt_same (grow hp1) hw', gd, fun H' s => q _ ((grow hp1).trans s)⟩
end
end Mk
/-! worlds.py: World.__init__ -/
namespace Mk
open PySem PySem.Spec L2 He
local macro_rules | `(tactic| walk_at "rdu2") => `(tactic| dsimp only [tSeq, tNext, tRet, tRetN, tAsg, tDrop, tIfS, tOr, tAnd, tNot, tB, tTest, tCB, tCons, tNil, tVar, tC, tOp, tUn, tOrV, tAndV, tNotV, tIf, tChain, tCall, tTup, tLst, gName, L2.start, dl_map, dl_map0, dl_app, dl_app0, List.length_cons, List.length_nil, List.replicate, List.set, Nat.reduceAdd, Nat.reduceSub, tLc_eq, tFor_eq, sck_eq, dct_eq, tPar, gCons, gNil, iList, iTup, iRng1, iStr, wipe, tYes, tSl, tPart, tNoPart, tFld, tMeth, tMake, tFldK, sFldK, tDGetK, tDInK, tDNotInK, iItemsK, tLV, tLockE, tLock, tMakeK,  tDNewK, tPairs])
local macro_rules | `(tactic| walk_at "lk2") => `(tactic| first | assumption | (with_reducible exact upd_same) | ((with_reducible apply keep); rotate_left; (focus assumption); walk_at "lk2") | ((with_reducible apply kp); (focus assumption); walk_at "lk2") | ((with_reducible apply keepI); rotate_left; (focus (walk_at "lk2")); (focus (intro _ _ _ e; cases e)); walk_at "lk2"))
local macro_rules | `(tactic| walk_at "lq2") => `(tactic| first | assumption | exact .inl (SqL.of (by walk_at "lk2")) | exact .inr (SqT.of (by walk_at "lk2")) | (refine sq2_same (grow (by assumption)) ?_; walk_at "lq2") | (refine sq2_same (by assumption) ?_; walk_at "lq2"))
local macro_rules | `(tactic| walk_at "sm2") => `(tactic| first | exact Same.refl _ | assumption | (refine same_upd2 ?_ (by assumption); walk_at "sm2") | (refine same_upd ?_ (by assumption); walk_at "sm2") | (refine Same.trans ?_ (by assumption); walk_at "sm2"))
local macro_rules | `(tactic| walk_at "rd12") => `(tactic| first
  | ((with_reducible apply rfld_t); (focus (walk_at "lk2")); (focus assumption); (focus assumption); (focus with_unfolding_all rfl))
  | ((with_reducible apply rsetf_t); (focus (walk_at "lk2")); (focus assumption); (focus assumption); (focus with_unfolding_all rfl); (focus (simp; done)); walk_at "rdu2")
  | ((with_reducible apply rlend_t); (focus (walk_at "lk2")))
  | ((with_reducible apply rlist_l); (focus (walk_at "lk2")); intro _ _)
  | ((with_reducible apply rdict_d); (focus (walk_at "lk2")); intro _ _)
  | ((with_reducible apply rdg_t); (focus (walk_at "lk2")); (focus first | assumption | with_unfolding_all rfl))
  | ((with_reducible apply rdi_some); (focus (walk_at "lk2")); (focus assumption))
  | ((with_reducible apply rdn_some); (focus (walk_at "lk2")); (focus assumption))
  | ((with_reducible apply rdi_t); (focus (walk_at "lk2")))
  | ((with_reducible apply rdn_t); (focus (walk_at "lk2")))
  | ((with_reducible apply rcat_t); (focus (walk_at "lk2")); (focus (walk_at "lk2")); (focus first | (refine line_ge ?_; simp; done) | (refine line_ge ?_; simp; omega)); intro _ _; walk_at "rdu2")
  | ((with_reducible apply rmeth_t); (focus (walk_at "lk2")); (focus with_unfolding_all rfl))
  | ((with_reducible apply rlv_t); (focus (walk_at "lk2")); intro _ _)
  | ((with_reducible apply req_ss))
  | ((with_reducible apply req_ii))
  | ((with_reducible apply req_bb))
  | ((with_reducible apply rne_ss))
  | ((with_reducible apply rne_ii))
  | ((with_reducible apply cm_l); (focus omega); (focus omega))
  | ((with_reducible apply cm_r); (focus omega); (focus omega))
  | ((with_reducible apply cd_i); (focus omega); (focus omega))
  | ((with_reducible apply md_i); (focus omega))
  | ((with_reducible apply part1))
  | ((with_reducible apply num2))
  | ((with_reducible apply num3))
  | ((with_reducible apply name1); (focus first | assumption | decide +kernel); intro _ _)
  | ((with_reducible apply one_m); (focus (walk_at "lq2")))
  | ((with_reducible apply one_s); (focus (walk_at "lq2")); (focus with_unfolding_all rfl))
  | refine ⟨_, rfl, ?_⟩
  | refine ⟨_, _, rfl, rfl, ?_⟩
  | ((with_reducible apply gcons_t))
  | ((with_reducible apply gpar_t))
  | ((with_reducible apply gpar3_t))
  | refine ⟨rfl, ?_⟩
  | ((with_reducible apply iteT))
  | ((with_reducible apply iteF))
  | ((with_reducible apply ri_ii))
  | ((with_reducible apply ri_ib))
  | ((with_reducible apply ri_ss))
  | ((with_reducible apply ri_bb))
  | ((with_reducible apply ri_tt); (focus (walk_at "lk2")))
  | ((with_reducible apply ri_ll); (focus (walk_at "lk2")))
  | ((with_reducible apply ri_dd); (focus (walk_at "lk2")))
  | ((with_reducible apply rt_l); (focus (walk_at "lk2")); (focus (walk_at "lk2")))
  | ((with_reducible apply rt_t); (focus (walk_at "lk2")); (focus (walk_at "lk2")))
  | ((with_reducible apply rix_t); (focus (walk_at "lk2")); (focus with_unfolding_all rfl))
  | ((with_reducible apply rix_l); (focus (walk_at "lk2")); (focus with_unfolding_all rfl))
  | ((with_reducible apply rlen_t); (focus (walk_at "lk2")); (focus first | (simp only [List.length_cons, List.length_nil]; done) | (simp only [List.length_cons, List.length_nil]; with_unfolding_all rfl) | with_unfolding_all rfl))
  | ((with_reducible apply rlen_l); (focus (walk_at "lk2")); (focus first | (simp only [List.length_cons, List.length_nil]; done) | (simp only [List.length_cons, List.length_nil]; with_unfolding_all rfl) | with_unfolding_all rfl))
  | ((with_reducible apply rin_t); (focus (walk_at "lk2")); (focus with_unfolding_all rfl))
  | ((with_reducible apply rnin_t); (focus (walk_at "lk2")); (focus with_unfolding_all rfl))
  | ((with_reducible apply rsl_t); (focus (walk_at "lk2")); (focus with_unfolding_all rfl); (focus first | (simp [cutV, HT.sIx]; done) | (simp [cutV, HT.sIx]; rfl)); intro _ _)
  | ((with_reducible apply rin_l); (focus (walk_at "lk2")))
  | ((with_reducible apply rnin_l); (focus (walk_at "lk2")))
  | ((with_reducible apply gtup_t); (focus (walk_at "lk2")); (focus with_unfolding_all rfl); walk_at "rdu2")
  | ((with_reducible apply alc); (focus decide); intro _ _)
  | ((with_reducible apply itenT))
  | ((with_reducible apply itenF))
  | ((with_reducible apply ited_sT); (focus first | rfl | assumption))
  | ((with_reducible apply ited_sF); (focus first | assumption | decide +kernel))
  | ((with_reducible apply itedn_sT); (focus first | assumption | decide +kernel))
  | ((with_reducible apply itedn_sF); (focus first | rfl | assumption))
  | ((with_reducible apply ited_mT); (focus first | assumption | decide +kernel))
  | ((with_reducible apply ited_mF); (focus first | assumption | decide +kernel))
  | ((with_reducible apply itedn_mT); (focus first | assumption | decide +kernel))
  | ((with_reducible apply itedn_mF); (focus first | assumption | decide +kernel))
  | ((with_reducible apply ited_s) <;> intro _)
  | ((with_reducible apply itedn_s) <;> intro _)
  | ((with_reducible apply ited_m) <;> intro _)
  | ((with_reducible apply itedn_m) <;> intro _)
  | ((with_reducible apply itedT); (focus first | assumption | omega))
  | ((with_reducible apply itedF); (focus first | assumption | omega))
  | ((with_reducible apply itednF); (focus first | assumption | omega))
  | ((with_reducible apply itednT); (focus first | assumption | omega))
  | ((with_reducible apply ited) <;> intro _)
  | ((with_reducible apply itedn) <;> intro _)
  | ((with_reducible apply itebn) <;> intro _)
  | ((with_reducible apply iteb) <;> intro _)
  | walk_at "rdu2"
  | contradiction)
local macro_rules | `(tactic| walk_at "rd2") => `(tactic| (try walk_at "rdu2"); repeat' walk_at "rd12")
/-- the parts a world is made of, as they stand -/
def PartsIn (H : Hp) (la wa pa ca da na : Addr) (W : Wd) : Prop := H la = some (.lst (W.lands.map V.str)) ∧ H wa = some (.dK (dKS W.wares)) ∧ H pa = some (.dK (dKS W.parties)) ∧ H ca = some (.lst (W.porters.map V.str)) ∧
  (∃ as : List Addr, H da = some (.lst (as.map V.ref)) ∧ AtT Due.vs H as W.dues) ∧ ∃ as : List Addr, H na = some (.lst (as.map V.ref)) ∧ Paired (NormAt H) as W.norms
theorem PartsIn.same {H H' : Hp} (s : Same H H') {la wa pa ca da na : Addr} {W : Wd} (h : PartsIn H la wa pa ca da na W) : PartsIn H' la wa pa ca da na W := by
  obtain ⟨h1, h2, h3, h4, ⟨as, h5, h6⟩, bs, h7, h8⟩ := h
  exact ⟨s _ _ h1, s _ _ h2, s _ _ h3, s _ _ h4, ⟨as, s _ _ h5, atT_same s h6⟩, bs, s _ _ h7, Paired.mapP h8 fun _ _ x => normAt_same s x⟩
/-- but for x, all as it was -/
def But (x : Addr) (H H' : Hp) : Prop := ∀ b o, H b = some o → b ≠ x → H' b = some o
theorem But.same {x : Addr} {H H' : Hp} (s : Same H H') : But x H H' := fun b o e _ => s _ _ e
theorem But.new {x p : Addr} {o : HO} {H H' : Hp} (h : But x H H') (hp : H' p = none) : But x H (upd H' p o) := fun b u e hb => by
  rw [upd_ne (ne_of_none (h b u e hb) hp)]
  exact h b u e hb
theorem But.at {x : Addr} {o : HO} {H H' : Hp} (h : But x H H') : But x H (upd H' x o) := fun b u e hb => by
  rw [upd_ne hb]
  exact h b u e hb
def spInit (K : PySem.W.Frag) : Sp := fun vs H Q _ => ∃ (x dx la wa pa ca da na : Addr) (W : Wd), vs = [.ref x, .ref la, .ref wa, .ref pa, .ref ca, .ref da, .ref na, .int W.cut, .int W.wait, .int W.comp] ∧ H x = some (.ins (ga K "World") dx []) ∧ PartsIn H la wa pa ca da na W ∧ W.good ∧
  ∀ H', But x H H' → WorldAt K H' x W → Q .non H'
section
variable {P : Program} {w : World} {K : PySem.W.Frag} {mg : Str → Option Value} {base : Heap}
theorem ok_init (T : Tx w K mg) : ∃ fd, FunD K "__init__" "World.__init__" (defArgs s_World___init__) (defBody s_World___init__) (defScope s_World___init__) [] [("fee", V.int 0), ("send", V.int 2), ("complain", V.int 2)] (ma K (ga K "World") "__init__") fd ∧ FnOk P w K mg base CX0 5 (ma K (ga K "World") "__init__") fd ps_World___init__ (spInit K) := by
  obtain ⟨fd, F⟩ := T.d_World___init__
  have tc := T.c_World
  have t1 := T.n_World_lands
  have t2 := T.n_World_kinds
  have t3 := T.n_World_homes
  have t4 := T.n_World_carriers
  have t5 := T.n_World_levies
  have t6 := T.n_World_listed
  have t7 := T.n_World_fee
  have t8 := T.n_World_days
  have G_are_names := f_are_names (P := P) (base := base) T
  have G_are_wares := f_are_wares (P := P) (base := base) T
  have G_are_parties := f_are_parties (P := P) (base := base) T
  have G_are_rules := f_are_rules (P := P) (base := base) T
  have G_is_levy := f_is_levy (P := P) (base := base) T
  have G_is_number3 := f_is_number3 (P := P) (base := base) T
  refine ⟨fd, F, F.ok sc_World___init__ (fun vs H Q E h => ?_) (fun cdv A outer s H vs Q E hr h => ?_)⟩
  · obtain ⟨x, dx, la, wa, pa, ca, da, na, W, rfl, _⟩ := h
    rfl
  · refine ⟨_, PSs.nox (pss_cons (ps_if (PW.pt (pw_or (pt_not (pt_val (pe_fn G_are_names (hr.mono (by decide)) pass0 (pa_cons (pv 1) (pa_cons pe_int (pa_cons (pe_gi T.i_MOST_LANDS) pa_nil)))))) (pw_or (pt_not (pt_val (pe_fn G_are_wares (hr.mono (by decide)) pass0 (pa_cons (pv 2) pa_nil)))) (pw_or1 (pt_not (pt_val (pe_fn G_are_parties (hr.mono (by decide)) pass0 (pa_cons (pv 3) (pa_cons (pv 1) pa_nil))))))))) (pss_one ps_never) pss_nil)
      (pss_cons (ps_if (PW.pt (pw_or (pt_not (pt_val (pe_fn G_are_names (hr.mono (by decide)) pass0 (pa_cons (pv 4) (pa_cons pe_int (pa_cons (pe_gi T.i_MOST_CARRIERS) pa_nil)))))) (pw_or1 (pt_not (pt_val (pe_callB (cr_allK (K := K) (by rfl) rfl) (by rfl) T.b_all bt_all (pa_cons (pe_lc (own := [("one", 10)])  (by rfl) sc_World___init__.nd (by exact (pi_listK (K := K) (by rfl) (pv 4))) (blkOk_by (own := [("one", 10)]) (N := ns_World___init__) (sc := defScope s_World___init__) (by decide +kernel)) (fun _ _ _ _ _ => (pg_name (i := 10) sc_World___init__.nd rfl (Or.inl rfl))) (fun _ _ _ _ _ => pts_nil) (fun _ _ _ _ _ => (pe_cmp (pc_dinK (hu_of hr) (pv 10) (pv 3))))) pa_nil))))))) (pss_one ps_never) pss_nil)
      (pss_cons (ps_if (PW.pt (pw_or (pt_not (pt_val (pe_callB (call_isiB (K := K) (by rfl)) (by rfl) T.b_isinstance bt_isinstance (pa_cons (pv 5) (pa_cons (pe_tup (pa_cons (pe_ty T.b_list bt_list) (pa_cons (pe_ty T.b_tuple bt_tuple) pa_nil))) pa_nil))))) (pw_or (pt_cmpR op_gt (pe_callB (call_lenA (K := K) (by rfl)) (by rfl) T.b_len bt_len (pa_cons (pv 5) pa_nil)) (pe_gi T.i_MOST_LEVIES) (nomark _)) (pw_or1 (pt_not (pt_val (pe_fn G_are_rules (hr.mono (by decide)) pass0 (pa_cons (pv 6) pa_nil)))))))) (pss_one ps_never) pss_nil)
      (pss_cons (ps_if (pt_not (pt_val (pe_callB (cr_allK (K := K) (by rfl) rfl) (by rfl) T.b_all bt_all (pa_cons (pe_lc (own := [("one", 10)])  (by rfl) sc_World___init__.nd (by exact (pi_listK (K := K) (by rfl) (pv 5))) (blkOk_by (own := [("one", 10)]) (N := ns_World___init__) (sc := defScope s_World___init__) (by decide +kernel)) (fun _ _ _ _ _ => (pg_name (i := 10) sc_World___init__.nd rfl (Or.inl rfl))) (fun _ _ _ _ _ => pts_nil) (fun _ _ _ _ _ => (pe_fn G_is_levy (hr.mono (by decide)) pass0 (pa_cons (pv 10) (pa_cons (pv 1) (pa_cons (pe_lv rfl (pv 2) rfl T.b_list bt_list) pa_nil)))))) pa_nil)))) (pss_one ps_never) pss_nil)
      (pss_cons (ps_if (PW.pt (pw_or (pt_not (pt_val (pe_fn G_is_number3 (hr.mono (by decide)) pass0 (pa_cons (pv 7) (pa_cons pe_int (pa_cons (pe_gi T.i_MOST_FEE) pa_nil)))))) (pw_or1 (pt_not (pt_val (pe_callB (cr_allK (K := K) (by rfl) rfl) (by rfl) T.b_all bt_all (pa_cons (pe_lc (own := [("one", 10)])  (by rfl) sc_World___init__.nd (by exact (pi_tupK (K := K) (by rfl) (pe_tup (pa_cons (pv 8) (pa_cons (pv 9) pa_nil))))) (blkOk_by (own := [("one", 10)]) (N := ns_World___init__) (sc := defScope s_World___init__) (by decide +kernel)) (fun _ _ _ _ _ => (pg_name (i := 10) sc_World___init__.nd rfl (Or.inl rfl))) (fun _ _ _ _ _ => pts_nil) (fun _ _ _ _ _ => (pe_fn G_is_number3 (hr.mono (by decide)) pass0 (pa_cons (pv 10) (pa_cons pe_int (pa_cons (pe_gi T.i_MOST_DAYS_worlds) pa_nil)))))) pa_nil))))))) (pss_one ps_never) pss_nil)
      (pss_cons (ps_fldK (K := K) (by rfl) (pv 0) (pe_callTy (call_list_ofK (K := K) (by rfl)) (by rfl) T.b_list bt_list (pa_cons (pv 1) pa_nil)) rfl)
      (pss_cons (ps_fldK (K := K) (by rfl) (pv 0) (pe_callTy call_dictDK (by rfl) T.b_dict bt_dict (pa_cons (pv 2) pa_nil)) rfl)
      (pss_cons (ps_fldK (K := K) (by rfl) (pv 0) (pe_callTy call_dictDK (by rfl) T.b_dict bt_dict (pa_cons (pv 3) pa_nil)) rfl)
      (pss_cons (ps_fldK (K := K) (by rfl) (pv 0) (pe_callTy (call_list_ofK (K := K) (by rfl)) (by rfl) T.b_list bt_list (pa_cons (pv 4) pa_nil)) rfl)
      (pss_cons (ps_fldK (K := K) (by rfl) (pv 0) (pe_callTy (call_list_ofK (K := K) (by rfl)) (by rfl) T.b_list bt_list (pa_cons (pv 5) pa_nil)) rfl)
      (pss_cons (ps_fldK (K := K) (by rfl) (pv 0) (pe_callTy (call_list_ofK (K := K) (by rfl)) (by rfl) T.b_list bt_list (pa_cons (pv 6) pa_nil)) rfl)
      (pss_cons (ps_fldK (K := K) (by rfl) (pv 0) (pv 7) rfl)
      (pss_one (ps_fldK (K := K) (by rfl) (pv 0) (pe_tup (pa_cons (pv 8) (pa_cons (pv 9) pa_nil))) rfl)))))))))))))), ?_⟩
    obtain ⟨x, dx, la, wa, pa, ca, da, na, W, rfl, hx, hparts, g, q⟩ := h
    walk_at "rd2"
    refine ⟨la, W.lands, 1, 4, rfl, hparts.1, by have := g.l1; omega, by have := g.l1; omega, by have := g.l1; omega, g.l2.1, g.l2.2, fun H1 s1 => ?_⟩
    have hp1 := hparts.same s1
    walk_at "rd2"
    refine ⟨wa, W.wares, rfl, hp1.2.1, g.w1.1, g.w1.2, g.w2, fun H2 s2 => ?_⟩
    have hp2 := hp1.same s2
    walk_at "rd2"
    refine ⟨pa, la, W.parties, W.lands, rfl, hp2.2.2.1, hp2.1, g.p1.1, g.p1.2, g.p2, fun H3 s3 => ?_⟩
    have hp3 := hp2.same s3
    walk_at "rd2"
    refine ⟨ca, W.porters, 0, 3, rfl, hp3.2.2.2.1, by have := g.c1; omega, by omega, by have := g.c1; omega, g.c2.1, g.c2.2, fun H4 s4 => ?_⟩
    have s5 := s1.trans (s2.trans (s3.trans s4))
    clear hp1 hp2 hp3
    obtain ⟨q1, q2, q3, q4, ⟨das, q5, q6⟩, nas, q7, q8⟩ := hparts.same s5
    have lca : (W.porters.map V.str).length ≤ 3 := by rw [List.length_map]; exact g.c1
    have lda : (das.map V.ref).length ≤ 20 := by rw [List.length_map, paired_len q6]; exact g.d1
    walk_at "rd2"
    refine ⟨⟨_, SqL.of q4⟩, fun D hD => ?_⟩
    refine lc_pureL hD (SqL.of q4) (by omega) (fun _ => some (.bl true)) (fun i y H5 R R0 hy s h1 h0 => ?_) (fun H5 sA e5 => ?_)
    · rw [List.getElem?_map] at hy
      cases hz : W.porters[i]? with
      | none =>
        rw [hz] at hy
        cases hy
      | some z =>
        rw [hz] at hy
        have ey : V.str z = y := Option.some.inj hy
        subst ey
        have q3' := s _ _ q3
        have hin := g.c3 z (List.mem_of_getElem? hz)
        walk_at "rd2"
        refine qb (h1 _ _ (Same.refl _) rfl) ?_
        rw [valV_dKS, Option.isSome_map, hin]
    · rw [fm_true] at e5
      refine all_t e5 ?_
      have s6 := s5.trans sA
      have hp5 := hparts.same s6
      clear e5 sA q1 q2 q3 q4 q5 q6 q7 q8 hD
      obtain ⟨q1, q2, q3, q4, ⟨das, q5, q6⟩, nas, q7, q8⟩ := hp5
      have lda : (das.map V.ref).length ≤ 20 := by rw [List.length_map, paired_len q6]; exact g.d1
      walk_at "rd2"
      rename_i tp htp
      refine ⟨na, W.norms, rfl, ⟨nas, .inl (keep q7 htp), Paired.mapP q8 fun _ _ x => normAt_same (grow htp) x⟩, g.n1, g.n2, fun H6 s7 => ?_⟩
      have s8 := s6.trans ((grow htp).trans s7)
      have hp6 := hparts.same s8
      clear q1 q2 q3 q4 q5 q6 q7 q8 htp s7
      obtain ⟨q1, q2, q3, q4, ⟨das, q5, q6⟩, nas, q7, q8⟩ := hp6
      have lda : (das.map V.ref).length ≤ 20 := by rw [List.length_map, paired_len q6]; exact g.d1
      walk_at "rd2"
      refine ⟨⟨_, SqL.of q5⟩, fun D2 hD2 => ?_⟩
      refine lc_dataL (Rel := fun H a d => H a = some (.tup (Due.vs d))) (fun _ _ _ _ s h => s _ _ h) hD2 (SqL.of q5) q6 (by have := g.d1; omega) (fun _ => some (.bl true)) (fun i b d H7 R R0 hi s hrel h1 h0 => ?_) (fun H7 sB e7 => ?_)
      · have q1' := s _ _ q1
        have q2' := s _ _ q2
        walk_at "rd2"
        rename_i pl hpl
        exact ⟨b, la, pl, d, W.lands, W.wares.map (·.2), rfl, keep hrel hpl, .inl (SqL.of (keep q1' hpl)), .inl (SqL.of upd_same), g.d2 d (List.mem_of_getElem? hi), h1 _ _ (grow hpl) rfl⟩
      · rw [fm_true] at e7
        refine all_t e7 ?_
        have s9 := s8.trans sB
        have hp7 := hparts.same s9
        clear e7 sB q1 q2 q3 q4 q5 q6 q7 q8 hD2
        obtain ⟨k1, k2⟩ := g.k1
        obtain ⟨k3, k4⟩ := g.k2
        obtain ⟨k5, k6⟩ := g.k3
        walk_at "rd2"
        rename_i tq htq
        refine ⟨⟨_, SqT.of upd_same⟩, fun D3 hD3 => ?_⟩
        refine lc_pureT hD3 (SqT.of upd_same) (by simp) (fun _ => some (.bl true)) (fun i v H8 R R0 hv s h1 h0 => ?_) (fun H8 sC e8 => ?_)
        · have hv2 : v = .int W.wait ∨ v = .int W.comp := by
            match i, hv with
            | 0, hv => exact .inl (Option.some.inj hv).symm
            | 1, hv => exact .inr (Option.some.inj hv).symm
            | i + 2, hv => simp at hv
          rcases hv2 with rfl | rfl
          all_goals walk_at "rd2"
          all_goals exact qb (h1 _ _ (Same.refl _) rfl) (by simp; omega)
        · refine all_fm e8 ?_
          have s10 := s9.trans ((grow htq).trans sC)
          have hp8 := hparts.same s10
          clear e8 sC hp7 hD3 htq
          obtain ⟨q1, q2, q3, q4, ⟨das, q5, q6⟩, nas, q7, q8⟩ := hp8
          have hx' := s10 _ _ hx
          walk_at "rd2"
          refine q _ ?_ ⟨dx, _, _, _, _, _, _, _, das, upd_same, ?_, ?_, ?_, ?_, ?_, Paired.mapP q6 fun a d hh => ?_⟩
          · have b0 : But x H H8 := But.same s10
            repeat' first | exact b0 | refine But.at ?_ | refine But.new ?_ (by assumption)
          all_goals walk_at "lk2"
/-- World(..), each keyword given -/
theorem kb_init (T : Tx w K mg) {fd : FuncData} (F : FunD K "__init__" "World.__init__" (defArgs s_World___init__) (defBody s_World___init__) (defScope s_World___init__) [] [("fee", V.int 0), ("send", V.int 2), ("complain", V.int 2)] (ma K (ga K "World") "__init__") fd) :
    ∃ mv : List Value, KBn K fd ps_World___init__ 4 ["carriers", "levies", "rules", "fee", "send", "complain"] (fun us ws => us ++ (ws ++ mv)) (fun vs zs => vs ++ (zs ++ [])) := by
  refine F.kbinds0 4 ["carriers", "levies", "rules", "fee", "send", "complain"] [] (fun us mv ws => us ++ (ws ++ mv)) (by simp) (fun q hq => by cases hq) (fun r1 r2 r3 => r1.append (r3.append r2)) (fun D doc pm an cdv ct us mv ws h1 h2 h3 => ?_)
  match us, h1, mv, h2, ws, h3 with
  | [_, _, _, _], _, [], _, [_, _, _, _, _, _], _ => exact rfl
end
end Mk
/-! Rules for shares: items of a tuple-keyed dict, sums, stores; Deal. -/
namespace Mk
open PySem PySem.Spec L2 He
def rItT : V → Hp → (It → Hp → Prop) → Prop := fun x H R => ∃ d o kvs, x = .ref d ∧ H d = some (.frz o (.dT kvs)) ∧ R (ItiT d o kvs) H
def iItemsTK (td : TE) : TI := fun σ H R => td σ H fun x H1 => rItT x H1 R
section
variable {X : Cx} {K : PySem.W.Frag}
theorem pi_itemsTK {e : Expr} {td : TE} {apos cpos : Pos} {elts : List Expr} {kk : Nat} {tpos : Pos} (he : PE X e td) (hbase : attributeBase e "items" X.env (eval e X.env) = eval e X.env := by rfl) (hline : (apos.endLine == cpos.line) = true := by rfl) :
    PI X (.Tuple elts kk tpos) (.Call (.Attribute e "items" apos) [] [] cpos) (iItemsTK td) := pi_itemsT he hbase hline
theorem cr_sumK (e : X.K = K) (hc : X.calm = true) : CallR X (.builtin "sum") (rSum K) := e ▸ cr_sum hc
end
/-! ### dicts whose keys are tuples of texts, values ints -/
abbrev FI := List (List Str × Int)
def kk (k : List Str) : List L2.Key := k.map Sum.inr
theorem kk_kV (k : List Str) : (kk k).map kV = k.map V.str := by
  unfold kk
  rw [List.map_map]
  rfl
theorem kk_inj {a b : List Str} (h : kk a = kk b) : a = b := by
  unfold kk at h
  exact List.map_inj_right (fun x y e => by injection e) |>.mp h
def toT (F : FI) : KTs := F.map fun p => (kk p.1, V.int p.2)
def putI (F : FI) (k : List Str) (v : Int) : FI := if (F.any fun p => decide (p.1 = k)) = true then F.map (fun p => if p.1 = k then (p.1, v) else p) else F ++ [(k, v)]
def getI (F : FI) (k : List Str) : Option Int := (F.find? fun p => decide (p.1 = k)).map (·.2)
theorem toT_put (F : FI) (k : List Str) (v : Int) : putK (toT F) (kk k) (V.int v) = toT (putI F k v) := by
  have e : ((toT F).any fun kv => decide (kv.1 = kk k)) = F.any fun p => decide (p.1 = k) := by
    unfold toT
    rw [List.any_map]
    congr 1
    funext p
    show decide (kk p.1 = kk k) = decide (p.1 = k)
    by_cases h : p.1 = k
    · rw [h]
      simp
    · have h2 : ¬ kk p.1 = kk k := fun z => h (kk_inj z)
      simp [h, h2]
  unfold putK putI
  rw [e]
  by_cases h : (F.any fun p => decide (p.1 = k)) = true
  · rw [if_pos h, if_pos h]
    unfold toT
    rw [List.map_map, List.map_map]
    congr 1
    funext p
    show (if kk p.1 = kk k then (kk p.1, V.int v) else (kk p.1, V.int p.2)) = (kk (if p.1 = k then (p.1, v) else p).1, V.int (if p.1 = k then (p.1, v) else p).2)
    by_cases h : p.1 = k
    · rw [if_pos (by rw [h]), if_pos h]
    · rw [if_neg (fun z => h (kk_inj z)), if_neg h]
  · rw [if_neg h, if_neg h]
    unfold toT
    rw [List.map_append]
    rfl
theorem toT_get (k : List Str) : ∀ F : FI, valV (toT F) (kk k) = (getI F k).map V.int
  | [] => rfl
  | p :: F => by
    have ih := toT_get k F
    unfold toT getI at ih ⊢
    by_cases h : p.1 = k
    · rw [List.map_cons, valV_pos (by rw [h]), List.find?_cons]
      simp [h]
    · rw [List.map_cons, valV_neg (fun z => h (kk_inj z)), ih, List.find?_cons]
      simp [h]
theorem toT_len (F : FI) : (toT F).length = F.length := List.length_map _
theorem putI_len (F : FI) (k : List Str) (v : Int) : (putI F k v).length ≤ F.length + 1 := by
  unfold putI
  split
  · rw [List.length_map]
    omega
  · rw [List.length_append]
    exact Nat.le_refl _
/-- d[k] = v, d[k] += v -/
def rDPut (v y : V) : V → Hp → (Hp → Prop) → Prop := fun x H R => ∃ a H4, x = .ref a ∧ DPut H a y v H4 ∧ R H4
def sDPutK (td ty tv : TE) : TS := fun D σ H => tv σ H fun v H1 => td σ H1 fun x H2 => ty σ H2 fun y H3 => rDPut v y x H3 (D.nx σ)
def rDAug (y : V) (k : V → Hp → (V → Hp → Prop) → Prop) : V → Hp → (Hp → Prop) → Prop := fun x H R => ∃ a v, x = .ref a ∧ DGet H a y (some v) ∧ k v H fun z H4 => ∃ H5, DPut H4 a y z H5 ∧ R H5
def sDAugK (td ty tv : TE) (rd : V → V → Hp → VK → Prop) : TS := fun D σ H => td σ H fun x H1 => ty σ H1 fun y H2 => rDAug y (fun v H2 K4 => tv σ H2 fun y2 H3 => rd v y2 H3 K4) x H2 (D.nx σ)
theorem rdput_t {a b : Addr} {F : FI} {k : List Str} {v : Int} {H : Hp} {R : Hp → Prop} (h : H a = some (.dT (toT F))) (hb : H b = some (.tup (k.map V.str))) (hl : F.length ≤ 1000) (q : R (upd H a (.dT (toT (putI F k v))))) : rDPut (.int v) (.ref b) (.ref a) H R :=
  ⟨a, _, rfl, DPut.t (k := kk k) h (by rw [kk_kV]; exact hb) (by rw [toT_len, sizeLine_eq]; omega), by rw [toT_put]; exact q⟩
theorem rdaug_t {a b : Addr} {F : FI} {k : List Str} {v w : Int} {H : Hp} {R : Hp → Prop} (h : H a = some (.dT (toT F))) (hb : H b = some (.tup (k.map V.str))) (hl : F.length ≤ 1000) (e : getI F k = some v) (q : R (upd H a (.dT (toT (putI F k (v + w)))))) :
    rDAug (.ref b) (fun v H2 K4 => ∃ i j, v = .int i ∧ V.int w = .int j ∧ K4 (.int (i + j)) H2) (.ref a) H R := by
  refine ⟨a, .int v, rfl, ?_, v, w, rfl, rfl, _, DPut.t (k := kk k) h (by rw [kk_kV]; exact hb) (by rw [toT_len, sizeLine_eq]; omega), by rw [toT_put]; exact q⟩
  have g := DGet.t (k := kk k) h (b := b) (by rw [kk_kV]; exact hb)
  rw [toT_get, e] at g
  exact g
theorem rdaug_g {a b : Addr} {F : FI} {k : List Str} {v : Int} {H : Hp} {R : Hp → Prop} {kc : V → Hp → (V → Hp → Prop) → Prop} (h : H a = some (.dT (toT F))) (hb : H b = some (.tup (k.map V.str))) (e : getI F k = some v) (q : kc (.int v) H fun z H4 => ∃ H5, DPut H4 a (.ref b) z H5 ∧ R H5) : rDAug (.ref b) kc (.ref a) H R := by
  refine ⟨a, .int v, rfl, ?_, q⟩
  have g := DGet.t (k := kk k) h (b := b) (by rw [kk_kV]; exact hb)
  rw [toT_get, e] at g
  exact g
theorem dput_ex {a b : Addr} {F : FI} {k : List Str} {w : Int} {H : Hp} {R : Hp → Prop} (h : H a = some (.dT (toT F))) (hb : H b = some (.tup (k.map V.str))) (hl : F.length ≤ 1000) (q : R (upd H a (.dT (toT (putI F k w))))) : ∃ H5, DPut H a (.ref b) (.int w) H5 ∧ R H5 :=
  ⟨_, DPut.t (k := kk k) h (by rw [kk_kV]; exact hb) (by rw [toT_len, sizeLine_eq]; omega), by rw [toT_put]; exact q⟩
theorem ps_dputK {X : Cx} {o i value : Expr} {td ty tv : TE} {pos pos' : Pos} (hu : X.A.units + 1 < cLine) (ho : PE X o td) (hi : PE X i ty) (hv : PE X value tv) (hs : swapsWith value (some (.Subscript o i pos')) pos.line X.env = pure false) : PS X (.Assign [.Subscript o i pos'] value pos) (sDPutK td ty tv) := ps_dput hu ho hi hv hs
theorem ps_daugK {X : Cx} {op : Operator} {rd : V → V → Hp → VK → Prop} {o i value : Expr} {td ty tv : TE} {pos tpos : Pos} (hu : X.A.units + 1 < cLine) (ho : PE X o td) (hi : PE X i ty) (hv : PE X value tv) (hop : InOp X op rd)
    (ha : ∀ ov iv new, augStore i ov iv new = (do holding [new, ov, iv] (setItem ov iv new); release [new, ov, iv] []; pure .next)) : PS X (.AugAssign (.Subscript o i tpos) op value pos) (sDAugK td ty tv rd) := ps_daug hu ho hi hv hop ha
def rDispT (p : Addr) (ps : List (V × V)) (H2 : Hp) (Q : VK) : Prop := H2 p = some (.dT []) ∧ ∃ xs : List (List L2.Key × Addr × V), ps = xs.map (fun x => (V.ref x.2.1, x.2.2)) ∧ xs.length ≤ 15 ∧ (∀ x ∈ xs, H2 x.2.1 = some (.tup (x.1.map kV))) ∧ Q (.ref p) (upd H2 p (.dT (mergeT [] xs)))
def tDispTK (trs : List (TE × TE)) : TE := fun σ H Q => ∀ p, H p = none → tPairs trs σ (upd H p (.dT [])) fun ps H2 => rDispT p ps H2 Q
theorem pe_dispTK {X : Cx} {pos : Pos} {keys : List (Option Expr)} {values : List Expr} {trs : List (TE × TE)} (hu : X.A.units + 64 < cLine) (h : PPs X pos keys values trs) (hall : keys.all (·.isSome) = true) (hl : keys.length = values.length) (h0 : keys ≠ [])
    (h15 : keys.length ≤ 15) : PE X (.Dict keys values pos) (tDispTK trs) := pe_dispT hu h hall hl h0 h15
theorem rdisp2 {H : Hp} {Q : VK} {p a b : Addr} {k1 k2 : List Str} {v1 v2 : Int} (h : H p = some (.dT [])) (h1 : H a = some (.tup (k1.map V.str))) (h2 : H b = some (.tup (k2.map V.str))) (q : Q (.ref p) (upd H p (.dT (toT (putI (putI [] k1 v1) k2 v2))))) : rDispT p [(V.ref a, V.int v1), (V.ref b, V.int v2)] H Q := by
  refine ⟨h, [(kk k1, a, .int v1), (kk k2, b, .int v2)], rfl, by simp, fun x hx => ?_, ?_⟩
  · rcases List.mem_cons.mp hx with rfl | hx
    · rw [kk_kV]
      exact h1
    · rw [List.mem_singleton.mp hx, kk_kV]
      exact h2
  · have e : mergeT [] [(kk k1, a, V.int v1), (kk k2, b, V.int v2)] = toT (putI (putI [] k1 v1) k2 v2) := by
      show putK (putK [] (kk k1) (V.int v1)) (kk k2) (V.int v2) = _
      have e1 : putK ([] : KTs) (kk k1) (V.int v1) = toT (putI [] k1 v1) := toT_put [] k1 v1
      rw [e1, toT_put]
    rw [e]
    exact q
theorem atI_last {α : Type} {xs : List α} {x : α} (h : xs.getLast? = some x) : atI xs (-1) = some x := by
  have hne : xs ≠ [] := fun z => by rw [z] at h; cases h
  have hl : 0 < xs.length := List.length_pos_iff.mpr hne
  rw [List.getLast?_eq_getElem?] at h
  unfold atI ixN
  rw [if_neg (by omega), if_pos (by omega)]
  have e : ((-1 : Int) + (xs.length : Nat)).toNat = xs.length - 1 := by omega
  show (xs[((-1 : Int) + (xs.length : Nat)).toNat]? : Option α) = some x
  rw [e]
  exact h
local macro_rules | `(tactic| walk_at "rdu3") => `(tactic| dsimp only [tSeq, tNext, tRet, tRetN, tAsg, tDrop, tIfS, tOr, tAnd, tNot, tB, tTest, tCB, tCons, tNil, tVar, tC, tOp, tUn, tOrV, tAndV, tNotV, tIf, tChain, tCall, tTup, tLst, gName, L2.start, dl_map, dl_map0, dl_app, dl_app0, List.length_cons, List.length_nil, List.replicate, List.set, Nat.reduceAdd, Nat.reduceSub, tLc_eq, tFor_eq, sck_eq, dct_eq, tPar, gCons, gNil, iList, iTup, iRng1, iStr, wipe, tYes, tSl, tPart, tNoPart, tFld, tMeth, tMake, tFldK, sFldK, tDGetK, tDInK, tDNotInK, iItemsK, tLV, tLockE, tLock, tMakeK,  tDNewK, tPairs, tBM, tDispTK, iItemsTK, sDPutK, sDAugK])
local macro_rules | `(tactic| walk_at "lk3") => `(tactic| first | assumption | (with_reducible exact upd_same) | ((with_reducible apply keep); rotate_left; (focus assumption); walk_at "lk3") | ((with_reducible apply kp); (focus assumption); walk_at "lk3") | ((with_reducible apply keepI); rotate_left; (focus (walk_at "lk3")); (focus (intro _ _ _ e; cases e)); walk_at "lk3"))
local macro_rules | `(tactic| walk_at "lq3") => `(tactic| first | assumption | exact .inl (SqL.of (by walk_at "lk3")) | exact .inr (SqT.of (by walk_at "lk3")) | (refine sq2_same (grow (by assumption)) ?_; walk_at "lq3") | (refine sq2_same (by assumption) ?_; walk_at "lq3"))
local macro_rules | `(tactic| walk_at "sm3") => `(tactic| first | exact Same.refl _ | assumption | (refine same_upd2 ?_ (by assumption); walk_at "sm3") | (refine same_upd ?_ (by assumption); walk_at "sm3") | (refine Same.trans ?_ (by assumption); walk_at "sm3"))
local macro_rules | `(tactic| walk_at "rd13") => `(tactic| first
  | ((with_reducible apply rfld_t); (focus (walk_at "lk3")); (focus assumption); (focus assumption); (focus with_unfolding_all rfl))
  | ((with_reducible apply rsetf_t); (focus (walk_at "lk3")); (focus assumption); (focus assumption); (focus with_unfolding_all rfl); (focus (simp; done)); walk_at "rdu3")
  | ((with_reducible apply rlend_t); (focus (walk_at "lk3")))
  | ((with_reducible apply rlist_l); (focus (walk_at "lk3")); intro _ _)
  | ((with_reducible apply rdict_d); (focus (walk_at "lk3")); intro _ _)
  | ((with_reducible apply rdg_t); (focus (walk_at "lk3")); (focus first | assumption | with_unfolding_all rfl))
  | ((with_reducible apply rdi_some); (focus (walk_at "lk3")); (focus assumption))
  | ((with_reducible apply rdn_some); (focus (walk_at "lk3")); (focus assumption))
  | ((with_reducible apply rdi_t); (focus (walk_at "lk3")))
  | ((with_reducible apply rdn_t); (focus (walk_at "lk3")))
  | ((with_reducible apply rcat_t); (focus (walk_at "lk3")); (focus (walk_at "lk3")); (focus first | (refine line_ge ?_; simp; done) | (refine line_ge ?_; simp; omega)); intro _ _; walk_at "rdu3")
  | ((with_reducible apply rmeth_t); (focus (walk_at "lk3")); (focus with_unfolding_all rfl))
  | ((with_reducible apply rlv_t); (focus (walk_at "lk3")); intro _ _)
  | ((with_reducible apply rpow18))
  | ((with_reducible apply rng_t); (focus omega); (focus omega))
  | ((with_reducible apply tyl); (focus (walk_at "lk3")))
  | ((with_reducible apply rapp_t); (focus (walk_at "lk3")); (focus first | (refine Nat.lt_of_lt_of_le ?_ (line_ge (Nat.le_refl 16777216)); simp; omega) | (rw [sizeLine_eq]; simp; omega) | (rw [sizeLine_eq]; omega)); walk_at "rdu3")
  | ((with_reducible apply req_ss))
  | ((with_reducible apply req_ii))
  | ((with_reducible apply req_bb))
  | ((with_reducible apply rne_ss))
  | ((with_reducible apply rne_ii))
  | ((with_reducible apply cm_l); (focus omega); (focus omega))
  | ((with_reducible apply cm_r); (focus omega); (focus omega))
  | ((with_reducible apply cd_i); (focus omega); (focus omega))
  | ((with_reducible apply md_i); (focus omega))
  | ((with_reducible apply part1))
  | ((with_reducible apply num2))
  | ((with_reducible apply num3))
  | ((with_reducible apply name1); (focus first | assumption | decide +kernel); intro _ _)
  | ((with_reducible apply one_m); (focus (walk_at "lq3")))
  | ((with_reducible apply one_s); (focus (walk_at "lq3")); (focus with_unfolding_all rfl))
  | refine ⟨_, rfl, ?_⟩
  | refine ⟨_, _, rfl, rfl, ?_⟩
  | ((with_reducible apply gcons_t))
  | ((with_reducible apply gpar_t))
  | ((with_reducible apply gpar3_t))
  | refine ⟨rfl, ?_⟩
  | ((with_reducible apply iteT))
  | ((with_reducible apply iteF))
  | ((with_reducible apply ri_ii))
  | ((with_reducible apply ri_ib))
  | ((with_reducible apply ri_ss))
  | ((with_reducible apply ri_bb))
  | ((with_reducible apply ri_tt); (focus (walk_at "lk3")))
  | ((with_reducible apply ri_ll); (focus (walk_at "lk3")))
  | ((with_reducible apply ri_dd); (focus (walk_at "lk3")))
  | ((with_reducible apply rt_l); (focus (walk_at "lk3")); (focus (walk_at "lk3")))
  | ((with_reducible apply rt_t); (focus (walk_at "lk3")); (focus (walk_at "lk3")))
  | ((with_reducible apply rix_t); (focus (walk_at "lk3")); (focus with_unfolding_all rfl))
  | ((with_reducible apply rix_l); (focus (walk_at "lk3")); (focus with_unfolding_all rfl))
  | ((with_reducible apply rlen_t); (focus (walk_at "lk3")); (focus first | (simp only [List.length_cons, List.length_nil]; done) | (simp only [List.length_cons, List.length_nil]; with_unfolding_all rfl) | with_unfolding_all rfl))
  | ((with_reducible apply rlen_l); (focus (walk_at "lk3")); (focus first | (simp only [List.length_cons, List.length_nil]; done) | (simp only [List.length_cons, List.length_nil]; with_unfolding_all rfl) | with_unfolding_all rfl))
  | ((with_reducible apply rin_t); (focus (walk_at "lk3")); (focus with_unfolding_all rfl))
  | ((with_reducible apply rnin_t); (focus (walk_at "lk3")); (focus with_unfolding_all rfl))
  | ((with_reducible apply rsl_t); (focus (walk_at "lk3")); (focus with_unfolding_all rfl); (focus first | (simp [cutV, HT.sIx]; done) | (simp [cutV, HT.sIx]; rfl)); intro _ _)
  | ((with_reducible apply rin_l); (focus (walk_at "lk3")))
  | ((with_reducible apply rnin_l); (focus (walk_at "lk3")))
  | ((with_reducible apply gtup_t); (focus (walk_at "lk3")); (focus with_unfolding_all rfl); walk_at "rdu3")
  | ((with_reducible apply alc); (focus decide); intro _ _)
  | ((with_reducible apply itenT))
  | ((with_reducible apply itenF))
  | ((with_reducible apply ited_sT); (focus first | rfl | assumption))
  | ((with_reducible apply ited_sF); (focus first | assumption | decide +kernel))
  | ((with_reducible apply itedn_sT); (focus first | assumption | decide +kernel))
  | ((with_reducible apply itedn_sF); (focus first | rfl | assumption))
  | ((with_reducible apply ited_mT); (focus first | assumption | decide +kernel))
  | ((with_reducible apply ited_mF); (focus first | assumption | decide +kernel))
  | ((with_reducible apply itedn_mT); (focus first | assumption | decide +kernel))
  | ((with_reducible apply itedn_mF); (focus first | assumption | decide +kernel))
  | ((with_reducible apply ited_s) <;> intro _)
  | ((with_reducible apply itedn_s) <;> intro _)
  | ((with_reducible apply ited_m) <;> intro _)
  | ((with_reducible apply itedn_m) <;> intro _)
  | ((with_reducible apply itedT); (focus first | assumption | omega))
  | ((with_reducible apply itedF); (focus first | assumption | omega))
  | ((with_reducible apply itednF); (focus first | assumption | omega))
  | ((with_reducible apply itednT); (focus first | assumption | omega))
  | ((with_reducible apply ited) <;> intro _)
  | ((with_reducible apply itedn) <;> intro _)
  | ((with_reducible apply itebn) <;> intro _)
  | ((with_reducible apply iteb) <;> intro _)
  | walk_at "rdu3"
  | contradiction)
local macro_rules | `(tactic| walk_at "rd3") => `(tactic| (try walk_at "rdu3"); repeat' walk_at "rd13")
structure Cok (P : Program) (w : World) (K : PySem.W.Frag) (mg : Str → Option Value) (base : Heap) (CX : CXT) (x : Str) (ps : List Str) (k : Nat) (sp : Sp) : Prop where
  ex : ∃ (f : Addr) (fd : FuncData), FnOk P w K mg base CX k f fd ps sp ∧ Binds K fd ps [] ∧ L2.Mk K (ga K x) f
  gl : mg x = some (.ref (ga K x))
theorem pe_mk {X : Cx} {CX : CXT} {k : Nat} {x : Str} {ps : List Str} {sp : Sp} {E : XK} {p pos : Pos} {e : Expr} {es : List Expr} {t : TA} (F : Cok X.prog X.w X.K X.mg X.base CX x ps k sp) (hr : Room (k + 1) X.A) (hx : Passes CX X E) (ha : PA X (e :: es) t) (hg : Gl X x := by rfl) (hdb : (x == ("__debug__" : Str)) = false := by decide)
    (he : starEach (e :: es) X.env = (false, eval e X.env) :: starEach es X.env := by rfl) (hpl : (backTo pos (starEach es X.env)).any (·.1) = false := by rfl) : PE X (.Call (.Name x p) (e :: es) [] pos) (tMake (ga X.K x) sp [] E t) := by
  obtain ⟨f, fd, F1, b, m⟩ := F.ex
  exact pe_make m F1 hr hg F.gl b .nil hx ha hdb he hpl
/-- a deal -/
structure Dl where
  seller : Str
  buyer : Str
  land : Str
  whole : Int
  tax : Int
  levy : Int
  fee : Int
def DealAt (K : PySem.W.Frag) (H : Hp) (a : Addr) (D : Dl) : Prop := ∃ dx, H a = some (.ins (ga K "Deal") dx [("seller", .str D.seller), ("buyer", .str D.buyer), ("land", .str D.land), ("whole", .int D.whole), ("tax", .int D.tax), ("levy", .int D.levy), ("fee", .int D.fee)])
def spDealInit (K : PySem.W.Frag) : Sp := fun vs H Q _ => ∃ (x dx : Addr) (D : Dl), vs = [.ref x, .str D.seller, .str D.buyer, .str D.land, .int D.whole, .int D.tax, .int D.levy, .int D.fee] ∧ H x = some (.ins (ga K "Deal") dx []) ∧ ∀ H', But x H H' → DealAt K H' x D → Q .non H'
section
variable {P : Program} {w : World} {K : PySem.W.Frag} {mg : Str → Option Value} {base : Heap}
theorem c_deal (T : Tx w K mg) : Cok P w K mg base CX0 "Deal" ps_Deal___init__ 1 (spDealInit K) := by
  obtain ⟨fd, F⟩ := T.d_Deal___init__
  have tc := T.c_Deal
  have t1 := T.n_Deal_seller
  have t2 := T.n_Deal_buyer
  have t3 := T.n_Deal_land
  have t4 := T.n_Deal_whole
  have t5 := T.n_Deal_tax
  have t6 := T.n_Deal_levy
  have t7 := T.n_Deal_fee
  refine ⟨⟨_, fd, F.ok sc_Deal___init__ (fun vs H Q E h => ?_) (fun cdv A outer s H vs Q E hr h => ?_), F.bindsN (fun _ _ _ _ _ _ us hl => match us, hl with | [_, _, _, _, _, _, _, _], _ => rfl), T.k_Deal⟩, T.g_Deal⟩
  · obtain ⟨x, dx, D, rfl, _⟩ := h
    rfl
  · refine ⟨_, PSs.nox (pss_cons (ps_fldK (K := K) (by rfl) (pv 0) (pv 1) rfl)
      (pss_cons (ps_fldK (K := K) (by rfl) (pv 0) (pv 2) rfl)
      (pss_cons (ps_fldK (K := K) (by rfl) (pv 0) (pv 3) rfl)
      (pss_cons (ps_fldK (K := K) (by rfl) (pv 0) (pv 4) rfl)
      (pss_cons (ps_fldK (K := K) (by rfl) (pv 0) (pv 5) rfl)
      (pss_cons (ps_fldK (K := K) (by rfl) (pv 0) (pv 6) rfl)
      (pss_one (ps_fldK (K := K) (by rfl) (pv 0) (pv 7) rfl)))))))), ?_⟩
    obtain ⟨x, dx, D, rfl, hx, q⟩ := h
    walk_at "rd3"
    refine q _ ?_ ⟨dx, upd_same⟩
    have b0 : But x H H := But.same (Same.refl _)
    repeat' first | exact b0 | refine But.at ?_
end
end Mk
/-! shares.py: deal_of, moves_for -/
namespace Mk
open PySem PySem.Spec L2 He
local macro_rules | `(tactic| walk_at "rdu3") => `(tactic| dsimp only [tSeq, tNext, tRet, tRetN, tAsg, tDrop, tIfS, tOr, tAnd, tNot, tB, tTest, tCB, tCons, tNil, tVar, tC, tOp, tUn, tOrV, tAndV, tNotV, tIf, tChain, tCall, tTup, tLst, gName, L2.start, dl_map, dl_map0, dl_app, dl_app0, List.length_cons, List.length_nil, List.replicate, List.set, Nat.reduceAdd, Nat.reduceSub, tLc_eq, tFor_eq, sck_eq, dct_eq, tPar, gCons, gNil, iList, iTup, iRng1, iStr, wipe, tYes, tSl, tPart, tNoPart, tFld, tMeth, tMake, tFldK, sFldK, tDGetK, tDInK, tDNotInK, iItemsK, tLV, tLockE, tLock, tMakeK,  tDNewK, tPairs, tBM, tDispTK, iItemsTK, sDPutK, sDAugK])
local macro_rules | `(tactic| walk_at "lk3") => `(tactic| first | assumption | (with_reducible exact upd_same) | ((with_reducible apply keep); rotate_left; (focus assumption); walk_at "lk3") | ((with_reducible apply kp); (focus assumption); walk_at "lk3") | ((with_reducible apply keepI); rotate_left; (focus (walk_at "lk3")); (focus (intro _ _ _ e; cases e)); walk_at "lk3"))
local macro_rules | `(tactic| walk_at "lq3") => `(tactic| first | assumption | exact .inl (SqL.of (by walk_at "lk3")) | exact .inr (SqT.of (by walk_at "lk3")) | (refine sq2_same (grow (by assumption)) ?_; walk_at "lq3") | (refine sq2_same (by assumption) ?_; walk_at "lq3"))
local macro_rules | `(tactic| walk_at "sm3") => `(tactic| first | exact Same.refl _ | assumption | (refine same_upd2 ?_ (by assumption); walk_at "sm3") | (refine same_upd ?_ (by assumption); walk_at "sm3") | (refine Same.trans ?_ (by assumption); walk_at "sm3"))
local macro_rules | `(tactic| walk_at "rd13") => `(tactic| first
  | ((with_reducible apply rfld_t); (focus (walk_at "lk3")); (focus assumption); (focus assumption); (focus with_unfolding_all rfl))
  | ((with_reducible apply rsetf_t); (focus (walk_at "lk3")); (focus assumption); (focus assumption); (focus with_unfolding_all rfl); (focus (simp; done)); walk_at "rdu3")
  | ((with_reducible apply rlend_t); (focus (walk_at "lk3")))
  | ((with_reducible apply rlist_l); (focus (walk_at "lk3")); intro _ _)
  | ((with_reducible apply rdict_d); (focus (walk_at "lk3")); intro _ _)
  | ((with_reducible apply rdg_t); (focus (walk_at "lk3")); (focus first | assumption | with_unfolding_all rfl))
  | ((with_reducible apply rdi_some); (focus (walk_at "lk3")); (focus assumption))
  | ((with_reducible apply rdn_some); (focus (walk_at "lk3")); (focus assumption))
  | ((with_reducible apply rdi_t); (focus (walk_at "lk3")))
  | ((with_reducible apply rdn_t); (focus (walk_at "lk3")))
  | ((with_reducible apply rcat_t); (focus (walk_at "lk3")); (focus (walk_at "lk3")); (focus first | (refine line_ge ?_; simp; done) | (refine line_ge ?_; simp; omega)); intro _ _; walk_at "rdu3")
  | ((with_reducible apply rmeth_t); (focus (walk_at "lk3")); (focus with_unfolding_all rfl))
  | ((with_reducible apply rlv_t); (focus (walk_at "lk3")); intro _ _)
  | ((with_reducible apply rpow18))
  | ((with_reducible apply rng_t); (focus omega); (focus omega))
  | ((with_reducible apply tyl); (focus (walk_at "lk3")))
  | ((with_reducible apply rapp_t); (focus (walk_at "lk3")); (focus first | (refine Nat.lt_of_lt_of_le ?_ (line_ge (Nat.le_refl 16777216)); simp; omega) | (rw [sizeLine_eq]; simp; omega) | (rw [sizeLine_eq]; omega)); walk_at "rdu3")
  | ((with_reducible apply req_ss))
  | ((with_reducible apply req_ii))
  | ((with_reducible apply req_bb))
  | ((with_reducible apply rne_ss))
  | ((with_reducible apply rne_ii))
  | ((with_reducible apply cm_l); (focus omega); (focus omega))
  | ((with_reducible apply cm_r); (focus omega); (focus omega))
  | ((with_reducible apply cd_i); (focus omega); (focus omega))
  | ((with_reducible apply md_i); (focus omega))
  | ((with_reducible apply part1))
  | ((with_reducible apply num2))
  | ((with_reducible apply num3))
  | ((with_reducible apply name1); (focus first | assumption | decide +kernel); intro _ _)
  | ((with_reducible apply one_m); (focus (walk_at "lq3")))
  | ((with_reducible apply one_s); (focus (walk_at "lq3")); (focus with_unfolding_all rfl))
  | refine ⟨_, rfl, ?_⟩
  | refine ⟨_, _, rfl, rfl, ?_⟩
  | ((with_reducible apply gcons_t))
  | ((with_reducible apply gpar_t))
  | ((with_reducible apply gpar3_t))
  | refine ⟨rfl, ?_⟩
  | ((with_reducible apply iteT))
  | ((with_reducible apply iteF))
  | ((with_reducible apply ri_ii))
  | ((with_reducible apply ri_ib))
  | ((with_reducible apply ri_ss))
  | ((with_reducible apply ri_bb))
  | ((with_reducible apply ri_tt); (focus (walk_at "lk3")))
  | ((with_reducible apply ri_ll); (focus (walk_at "lk3")))
  | ((with_reducible apply ri_dd); (focus (walk_at "lk3")))
  | ((with_reducible apply rt_l); (focus (walk_at "lk3")); (focus (walk_at "lk3")))
  | ((with_reducible apply rt_t); (focus (walk_at "lk3")); (focus (walk_at "lk3")))
  | ((with_reducible apply rix_t); (focus (walk_at "lk3")); (focus with_unfolding_all rfl))
  | ((with_reducible apply rix_l); (focus (walk_at "lk3")); (focus with_unfolding_all rfl))
  | ((with_reducible apply rlen_t); (focus (walk_at "lk3")); (focus first | (simp only [List.length_cons, List.length_nil]; done) | (simp only [List.length_cons, List.length_nil]; with_unfolding_all rfl) | with_unfolding_all rfl))
  | ((with_reducible apply rlen_l); (focus (walk_at "lk3")); (focus first | (simp only [List.length_cons, List.length_nil]; done) | (simp only [List.length_cons, List.length_nil]; with_unfolding_all rfl) | with_unfolding_all rfl))
  | ((with_reducible apply rin_t); (focus (walk_at "lk3")); (focus with_unfolding_all rfl))
  | ((with_reducible apply rnin_t); (focus (walk_at "lk3")); (focus with_unfolding_all rfl))
  | ((with_reducible apply rsl_t); (focus (walk_at "lk3")); (focus with_unfolding_all rfl); (focus first | (simp [cutV, HT.sIx]; done) | (simp [cutV, HT.sIx]; rfl)); intro _ _)
  | ((with_reducible apply rin_l); (focus (walk_at "lk3")))
  | ((with_reducible apply rnin_l); (focus (walk_at "lk3")))
  | ((with_reducible apply gtup_t); (focus (walk_at "lk3")); (focus with_unfolding_all rfl); walk_at "rdu3")
  | ((with_reducible apply alc); (focus decide); intro _ _)
  | ((with_reducible apply itenT))
  | ((with_reducible apply itenF))
  | ((with_reducible apply ited_sT); (focus first | rfl | assumption))
  | ((with_reducible apply ited_sF); (focus first | assumption | decide +kernel))
  | ((with_reducible apply itedn_sT); (focus first | assumption | decide +kernel))
  | ((with_reducible apply itedn_sF); (focus first | rfl | assumption))
  | ((with_reducible apply ited_mT); (focus first | assumption | decide +kernel))
  | ((with_reducible apply ited_mF); (focus first | assumption | decide +kernel))
  | ((with_reducible apply itedn_mT); (focus first | assumption | decide +kernel))
  | ((with_reducible apply itedn_mF); (focus first | assumption | decide +kernel))
  | ((with_reducible apply ited_s) <;> intro _)
  | ((with_reducible apply itedn_s) <;> intro _)
  | ((with_reducible apply ited_m) <;> intro _)
  | ((with_reducible apply itedn_m) <;> intro _)
  | ((with_reducible apply itedT); (focus first | assumption | omega))
  | ((with_reducible apply itedF); (focus first | assumption | omega))
  | ((with_reducible apply itednF); (focus first | assumption | omega))
  | ((with_reducible apply itednT); (focus first | assumption | omega))
  | ((with_reducible apply ited) <;> intro _)
  | ((with_reducible apply itedn) <;> intro _)
  | ((with_reducible apply itebn) <;> intro _)
  | ((with_reducible apply iteb) <;> intro _)
  | walk_at "rdu3"
  | contradiction)
local macro_rules | `(tactic| walk_at "rd3") => `(tactic| (try walk_at "rdu3"); repeat' walk_at "rd13")
/-- the carrier of a record is one of the world's -/
def sentIn (W : Wd) (ps : List (Addr × Row)) : Prop := ∀ p, findK "sent" ps = some p → ∀ d w a, p.2 = .sent d w a → w ∈ W.porters
def spDealOf (K : PySem.W.Frag) : Sp := fun vs H Q _ => ∃ (l x : Addr) (ps : List (Addr × Row)) (W : Wd) (p0 : Addr × Row) (d sl bu : Int) (se by_ wr : Str) (m pr t : Int) (land kind : Str), vs = [.ref l, .ref x] ∧ RowsP H l ps ∧ (∀ p ∈ ps, p.2.good) ∧ ps.length ≤ 1000 ∧ sndOk (ps.map (·.2)) ∧ WorldAt K H x W ∧ W.good ∧
  ps[0]? = some p0 ∧ p0.2 = .made d sl bu se by_ wr m pr t ∧ (lookS W.parties se).isSome = true ∧ lookS W.parties by_ = some land ∧ lookS W.wares wr = some kind ∧
  (sentIn W ps ∧ t = m * pr * rateM W.dues land kind d / 10000 → ∀ a H', Same H H' → DealAt K H' a ⟨se, by_, land, m * pr, t, rateM W.dues land kind d, W.cut⟩ → Q (.ref a) H') ∧
  (¬ (sentIn W ps ∧ t = m * pr * rateM W.dues land kind d / 10000) → ∀ H', Same H H' → Q .non H')
section
variable {P : Program} {w : World} {K : PySem.W.Frag} {mg : Str → Option Value} {base : Heap}
theorem f_deal_of (T : Tx w K mg) : Fok P w K mg base CX0 "deal_of" ps_deal_of [] 4 (spDealOf K) := by
  obtain ⟨fd, F⟩ := T.d_deal_of
  have tc := T.c_World
  have t1 := T.n_World_homes
  have t2 := T.n_World_kinds
  have t3 := T.n_World_carriers
  have t4 := T.n_World_fee
  have G_row_of := f_row_of (P := P) (base := base) T
  have G_part_of2 := f_part_of2 (P := P) (base := base) T
  have G_World_rate_for := f_rate_for (P := P) (base := base) T
  have G_Deal := c_deal (P := P) (base := base) T
  refine fok F T.g_deal_of (fun _ _ _ _ _ _ us hl => match us, hl with | [_, _], _ => rfl) (F.ok sc_deal_of (fun vs H Q E h => ?_) (fun cdv A outer s H vs Q E hr h => ?_))
  · obtain ⟨l, x, ps, W, p0, d, sl, bu, se, by_, wr, m, pr, t, land, kind, rfl, _⟩ := h
    rfl
  · refine ⟨_, PSs.nox (pss_cons (ps_asg (pe_ix (ix_listK (K := K) (by rfl)) (pv 0) pe_int (fun _ _ => rfl)) (pg_tupK (K := K) (n := 10) (by rfl) (by rfl) (by rfl) (pgs_cons (pg_name (i := 2) sc_deal_of.nd rfl (Or.inl rfl)) (pgs_cons (pg_name (i := 3) sc_deal_of.nd rfl (Or.inl rfl)) (pgs_cons (pg_name (i := 4) sc_deal_of.nd rfl (Or.inl rfl)) (pgs_cons (pg_name (i := 5) sc_deal_of.nd rfl (Or.inl rfl)) (pgs_cons (pg_name (i := 6) sc_deal_of.nd rfl (Or.inl rfl)) (pgs_cons (pg_name (i := 7) sc_deal_of.nd rfl (Or.inl rfl)) (pgs_cons (pg_name (i := 8) sc_deal_of.nd rfl (Or.inl rfl)) (pgs_cons (pg_name (i := 9) sc_deal_of.nd rfl (Or.inl rfl)) (pgs_cons (pg_name (i := 10) sc_deal_of.nd rfl (Or.inl rfl)) (pgs_cons (pg_name (i := 11) sc_deal_of.nd rfl (Or.inl rfl)) pgs_nil))))))))))))
      (pss_cons (ps_set (i := 12) sc_deal_of.nd rfl (Or.inl rfl) (pe_fn G_row_of (hr.mono (by decide)) pass0 (pa_cons (pv 0) (pa_cons pe_str pa_nil))))
      (pss_cons (ps_if (PW.pt (pw_or (pt_cmp (pc_dnotinK (hu_of hr) (pv 6) (pe_fldK (K := K) (by rfl) (pv 1) rfl))) (pw_or (pt_cmp (pc_dnotinK (hu_of hr) (pv 7) (pe_fldK (K := K) (by rfl) (pv 1) rfl))) (pw_or1 (pt_cmp (pc_dnotinK (hu_of hr) (pv 8) (pe_fldK (K := K) (by rfl) (pv 1) rfl))))))) (pss_one (ps_ret pe_non)) pss_nil)
      (pss_cons (ps_if (PW.pt (pw_and (pt_cmpR op_notN (pv 12) pe_non (nomark _)) (pw_and1 (PW.pt (pw_or (pt_cmpR (op_notInK (K := K) (by rfl)) (pe_ix (ix_tupK (K := K) (by rfl)) (pv 12) pe_int (fun _ _ => rfl)) (pe_fldK (K := K) (by rfl) (pv 1) rfl) rfl) (pw_or1 (pt_cmpR (op_inK (K := K) (by rfl)) (pe_ix (ix_tupK (K := K) (by rfl)) (pv 12) pe_int (fun _ _ => rfl)) (pe_tup (pa_cons (pv 6) (pa_cons (pv 7) pa_nil))) rfl))))))) (pss_one (ps_ret pe_non)) pss_nil)
      (pss_cons (ps_set (i := 13) sc_deal_of.nd rfl (Or.inl rfl) (pe_mt G_World_rate_for (hr.mono (by decide)) pass0 (pv 1) (pa_cons (pv 7) (pa_cons (pv 8) (pa_cons (pv 3) pa_nil)))))
      (pss_cons (ps_if (pt_cmpR op_ne (pv 11) (pe_fn G_part_of2 (hr.mono (by decide)) pass0 (pa_cons (pe_op op_mul (pv 9) (pv 10)) (pa_cons (pv 13) pa_nil))) (nomark _)) (pss_one (ps_ret pe_non)) pss_nil)
      (pss_one (ps_ret (pe_mk G_Deal (hr.mono (by decide)) pass0 (pa_cons (pv 6) (pa_cons (pv 7) (pa_cons (pe_dgetK (hu_of hr) (pe_fldK (K := K) (by rfl) (pv 1) rfl) (pv 7) (fun _ _ => rfl)) (pa_cons (pe_op op_mul (pv 9) (pv 10)) (pa_cons (pv 11) (pa_cons (pv 13) (pa_cons (pe_fldK (K := K) (by rfl) (pv 1) rfl) pa_nil)))))))))))))))), ?_⟩
    obtain ⟨l, x, ps, W, p0, d, sl, bu, se, by_, wr, m, pr, t, land, kind, rfl, hl, hg, h1000, hs, hw, gd, e0, er, v1, v2, v3, q1, q0⟩ := h
    have hb := hl.2 _ (List.mem_of_getElem? e0)
    have hgd := hg _ (List.mem_of_getElem? e0)
    rw [er] at hb hgd
    obtain ⟨g1, g2, g3, g4, g5, g6, g7, g8, g9, g10, g11, g12, g13, g14, g15⟩ := hgd
    dsimp only [Row.vs] at hb
    have hm1 : 0 ≤ m * pr := Int.mul_nonneg (by omega) (by omega)
    have hm2 : m * pr ≤ 99 * 9999 := Int.mul_le_mul g13 g15 (by omega) (by omega)
    obtain ⟨r1, r2⟩ := rateM_bound gd.d2 land kind d
    obtain ⟨v1', v1⟩ := Option.isSome_iff_exists.mp v1
    have n1 : (valV (dKS W.parties) (.inr se)) = some (.str v1') := by rw [valV_dKS, v1]; rfl
    have n2 : (valV (dKS W.parties) (.inr by_)) = some (.str land) := by rw [valV_dKS, v2]; rfl
    have n3 : (valV (dKS W.wares) (.inr wr)) = some (.str kind) := by rw [valV_dKS, v3]; rfl
    walk_at "rd3"
    refine rix_row hl (i := 0) (atI_nat (j := 0) e0) ?_
    walk_at "rd3"
    refine rowof_g hl hg h1000 (fun H1 p s1 f => ?_) (fun H1 s1 f => ?_)
    · obtain ⟨d', w', a', ep⟩ := kind_sent (findK_mem f).2
      have hpb := s1 _ _ (hl.2 _ (findK_mem f).1)
      rw [ep] at hpb
      dsimp only [Row.vs] at hpb
      have hne := hs d sl bu se by_ wr m pr t (by rw [← er]; exact List.mem_map.mpr ⟨_, List.mem_of_getElem? e0, rfl⟩) d' w' a' (by rw [← ep]; exact List.mem_map.mpr ⟨_, (findK_mem f).1, rfl⟩)
      have hw1 := worldAt_same s1 hw
      obtain ⟨dx, wl, wk, wh, wc, wv, wr', wd, was, a1, a2, a3, a4, a5, a6, a7⟩ := id hw1
      have hno : ¬ w' ∈ strsOf [V.str se, V.str by_] := by
        show ¬ w' ∈ [se, by_]
        simp [hne.1, hne.2]
      walk_at "rd3"
      · rename_i e
        exact q0 (fun z => e (z.1 p f d' w' a' ep)) _ s1
      · rename_i e pt hpt
        have sin : sentIn W ps := fun p' f' d2 w2 a2 e2 => by
          rw [f] at f'
          cases f'
          rw [ep] at e2
          cases e2
          exact e
        have s1' := s1.trans (grow hpt : Same H1 (upd H1 pt (.tup [.str se, .str by_])))
        refine ⟨x, W, by_, wr, d, land, kind, rfl, worldAt_same s1' hw, gd, v2, v3, fun H2 s2 => ?_⟩
        have s3 : Same H H2 := Same.trans s1' s2
        have hw2 := worldAt_same s3 hw
        obtain ⟨dx2, wl2, wk2, wh2, wc2, wv2, wr2, wd2, was2, b1, b2, b3, b4, b5, b6, b7⟩ := id hw2
        walk_at "rd3"
        · rename_i e
          exact q0 (fun z => e z.2) _ s3
        · rename_i e
          intro xx dd hx1 hx2 hx3
          have hxn : (upd (upd H2 dd (.own xx)) xx (.ins (ga K "Deal") dd [])) xx = some (.ins (ga K "Deal") dd []) := upd_same
          refine ⟨xx, dd, ⟨se, by_, land, m * pr, t, rateM W.dues land kind d, W.cut⟩, rfl, hxn, fun H3 bt da => ⟨rfl, ?_⟩⟩
          refine q1 ⟨sin, e⟩ _ _ (fun b o eb => bt b o ?_ (ne_of_none (s3 _ _ eb) hx1)) da
          rw [upd_ne (ne_of_none (s3 _ _ eb) hx1), upd_ne (ne_of_none (s3 _ _ eb) hx2)]
          exact s3 _ _ eb
    · have hw1 := worldAt_same s1 hw
      obtain ⟨dx, wl, wk, wh, wc, wv, wr', wd, was, a1, a2, a3, a4, a5, a6, a7⟩ := id hw1
      have sin : sentIn W ps := fun p' f' => by
        rw [f] at f'
        cases f'
      walk_at "rd3"
      refine ⟨x, W, by_, wr, d, land, kind, rfl, worldAt_same s1 hw, gd, v2, v3, fun H2 s2 => ?_⟩
      have s3 : Same H H2 := Same.trans s1 s2
      have hw2 := worldAt_same s3 hw
      obtain ⟨dx2, wl2, wk2, wh2, wc2, wv2, wr2, wd2, was2, b1, b2, b3, b4, b5, b6, b7⟩ := id hw2
      walk_at "rd3"
      · rename_i e
        exact q0 (fun z => e z.2) _ s3
      · rename_i e
        intro xx dd hx1 hx2 hx3
        have hxn : (upd (upd H2 dd (.own xx)) xx (.ins (ga K "Deal") dd [])) xx = some (.ins (ga K "Deal") dd []) := upd_same
        refine ⟨xx, dd, ⟨se, by_, land, m * pr, t, rateM W.dues land kind d, W.cut⟩, rfl, hxn, fun H3 bt da => ⟨rfl, ?_⟩⟩
        refine q1 ⟨sin, e⟩ _ _ (fun b o eb => bt b o ?_ (ne_of_none (s3 _ _ eb) hx1)) da
        rw [upd_ne (ne_of_none (s3 _ _ eb) hx1), upd_ne (ne_of_none (s3 _ _ eb) hx2)]
        exact s3 _ _ eb
end
/-! ### moves -/
abbrev Mv := List Str × Int
abbrev kP (z : Str) : List Str := ["party", z]
abbrev kT (z : Str) : List Str := ["tax", z]
abbrev kF : List Str := ["fee"]
def MvAt (H : Hp) (a : Addr) (m : Mv) : Prop := ∃ (k : Addr) (why : Str), H a = some (.tup [.ref k, .int m.2, .str why]) ∧ H k = some (.tup (m.1.map V.str))
def MvsAt (H : Hp) (l : Addr) (ms : List Mv) : Prop := ∃ as : List Addr, H l = some (.lst (as.map V.ref)) ∧ Paired (MvAt H) as ms
theorem mvAt_same {H H' : Hp} (s : Same H H') {a : Addr} {m : Mv} (h : MvAt H a m) : MvAt H' a m := by
  obtain ⟨k, y, h1, h2⟩ := h
  exact ⟨k, y, s _ _ h1, s _ _ h2⟩
theorem mvsAt_same {H H' : Hp} (s : Same H H') {l : Addr} {ms : List Mv} (h : MvsAt H l ms) : MvsAt H' l ms := by
  obtain ⟨as, h1, h2⟩ := h
  exact ⟨as, s _ _ h1, Paired.mapP h2 fun _ _ x => mvAt_same s x⟩
def Dl.back (D : Dl) (part : Int) : Int := D.whole * part / 100
def Dl.rest (D : Dl) (part : Int) : Int := D.whole - D.back part
def Dl.cut (D : Dl) (part : Int) : Int := D.rest part * D.fee / 10000
def Dl.due (D : Dl) (part : Int) : Int := D.rest part * D.levy / 10000
def movesM (D : Dl) (how : Str) (part : Int) : List Mv × List Mv :=
  if how = "back" then ([(kP D.buyer, D.whole + D.tax)], [])
  else if how = "lost" then ([(kP D.buyer, D.whole + D.tax)], [(kP D.seller, D.whole)])
  else if how = "judged" then ([(kP D.buyer, D.back part + D.tax - D.due part), (kF, D.cut part), (kP D.seller, D.rest part - D.cut part), (kT D.land, D.due part)], [])
  else ([(kF, D.cut part), (kP D.seller, D.rest part - D.cut part), (kT D.land, D.tax)], [])
theorem movesM_back (D : Dl) (part : Int) : movesM D "back" part = ([(kP D.buyer, D.whole + D.tax)], []) := if_pos rfl
theorem movesM_lost (D : Dl) (part : Int) : movesM D "lost" part = ([(kP D.buyer, D.whole + D.tax)], [(kP D.seller, D.whole)]) := by
  unfold movesM
  rw [if_neg (by decide +kernel), if_pos rfl]
theorem movesM_judged (D : Dl) (part : Int) : movesM D "judged" part = ([(kP D.buyer, D.back part + D.tax - D.due part), (kF, D.cut part), (kP D.seller, D.rest part - D.cut part), (kT D.land, D.due part)], []) := by
  unfold movesM
  rw [if_neg (by decide +kernel), if_neg (by decide +kernel), if_pos rfl]
theorem movesM_sold (D : Dl) (part : Int) : movesM D "sold" part = ([(kF, D.cut part), (kP D.seller, D.rest part - D.cut part), (kT D.land, D.tax)], []) := by
  unfold movesM
  rw [if_neg (by decide +kernel), if_neg (by decide +kernel), if_neg (by decide +kernel)]
section
variable {H : Hp} {l a b c d k : Addr} {m1 m2 m3 m4 : Mv} {x y why : Str} {i : Int}
theorem mvat1 (h : H a = some (.tup [.ref k, .int i, .str why])) (hk : H k = some (.tup [.str x])) : MvAt H a ([x], i) := ⟨k, why, h, hk⟩
theorem mvat2 (h : H a = some (.tup [.ref k, .int i, .str why])) (hk : H k = some (.tup [.str x, .str y])) : MvAt H a ([x, y], i) := ⟨k, why, h, hk⟩
theorem mvs0 (h : H l = some (.lst [])) : MvsAt H l [] := ⟨[], h, .nil⟩
theorem mvs1 (h : H l = some (.lst [.ref a])) (h1 : MvAt H a m1) : MvsAt H l [m1] := ⟨[a], h, .cons h1 .nil⟩
theorem mvs3 (h : H l = some (.lst [.ref a, .ref b, .ref c])) (h1 : MvAt H a m1) (h2 : MvAt H b m2) (h3 : MvAt H c m3) : MvsAt H l [m1, m2, m3] := ⟨[a, b, c], h, .cons h1 (.cons h2 (.cons h3 .nil))⟩
theorem mvs4 (h : H l = some (.lst [.ref a, .ref b, .ref c, .ref d])) (h1 : MvAt H a m1) (h2 : MvAt H b m2) (h3 : MvAt H c m3) (h4 : MvAt H d m4) : MvsAt H l [m1, m2, m3, m4] := ⟨[a, b, c, d], h, .cons h1 (.cons h2 (.cons h3 (.cons h4 .nil)))⟩
end
def spMoves (K : PySem.W.Frag) : Sp := fun vs H Q _ => ∃ (x : Addr) (D : Dl) (how : Str) (part : Int) (c : V), vs = [.ref x, .str how, .int part, c] ∧ DealAt K H x D ∧ (how = "back" ∨ how = "lost" ∨ how = "sold" ∨ how = "judged") ∧ 0 ≤ D.whole ∧ D.whole ≤ 1000000 ∧ 0 ≤ D.levy ∧ D.levy ≤ 5000 ∧ 0 ≤ D.fee ∧ D.fee ≤ 2000 ∧ 0 ≤ part ∧ part ≤ 100 ∧
  ∀ (H' : Hp) (p a b : Addr), Same H H' → H' p = some (.tup [.ref a, .ref b]) → MvsAt H' a (movesM D how part).1 → MvsAt H' b (movesM D how part).2 → Q (.ref p) H'
section
variable {P : Program} {w : World} {K : PySem.W.Frag} {mg : Str → Option Value} {base : Heap}
theorem f_moves_for (T : Tx w K mg) : Fok P w K mg base CX0 "moves_for" ps_moves_for [] 2 (spMoves K) := by
  obtain ⟨fd, F⟩ := T.d_moves_for
  have tc := T.c_Deal
  have t1 := T.n_Deal_seller
  have t2 := T.n_Deal_buyer
  have t3 := T.n_Deal_land
  have t4 := T.n_Deal_whole
  have t5 := T.n_Deal_tax
  have t6 := T.n_Deal_levy
  have t7 := T.n_Deal_fee
  have G_part_of2 := f_part_of2 (P := P) (base := base) T
  have G_part_of3 := f_part_of3 (P := P) (base := base) T
  refine fok F T.g_moves_for (fun _ _ _ _ _ _ us hl => match us, hl with | [_, _, _, _], _ => rfl) (F.ok sc_moves_for (fun vs H Q E h => ?_) (fun cdv A outer s H vs Q E hr h => ?_))
  · obtain ⟨x, D, how, part, c, rfl, _⟩ := h
    rfl
  · refine ⟨_, PSs.nox (pss_cons (ps_if (pt_cmpR (op_inK (K := K) (by rfl)) (pv 1) (pe_tup (pa_cons pe_str (pa_cons pe_str pa_nil))) rfl) (pss_cons (ps_set (i := 4) sc_moves_for.nd rfl (Or.inl rfl) (pe_lst (pa_cons (pe_tup (pa_cons (pe_tup (pa_cons pe_str (pa_cons (pe_fldK (K := K) (by rfl) (pv 0) rfl) pa_nil))) (pa_cons (pe_op op_add (pe_fldK (K := K) (by rfl) (pv 0) rfl) (pe_fldK (K := K) (by rfl) (pv 0) rfl)) (pa_cons pe_str pa_nil)))) pa_nil)))
      (pss_cons (ps_set (i := 5) sc_moves_for.nd rfl (Or.inl rfl) (pe_ifExp (pt_cmpR op_eq (pv 1) pe_str (nomark _)) (pe_lst (pa_cons (pe_tup (pa_cons (pe_tup (pa_cons pe_str (pa_cons (pe_fldK (K := K) (by rfl) (pv 0) rfl) pa_nil))) (pa_cons (pe_fldK (K := K) (by rfl) (pv 0) rfl) (pa_cons pe_str pa_nil)))) pa_nil)) (pe_lst pa_nil)))
      (pss_one (ps_ret (pe_tup (pa_cons (pv 4) (pa_cons (pv 5) pa_nil))))))) pss_nil)
      (pss_cons (ps_set (i := 6) sc_moves_for.nd rfl (Or.inl rfl) (pe_fn G_part_of3 (hr.mono (by decide)) pass0 (pa_cons (pe_fldK (K := K) (by rfl) (pv 0) rfl) (pa_cons (pv 2) (pa_cons (pe_gi T.i_WHOLE_PART) pa_nil)))))
      (pss_cons (ps_set (i := 7) sc_moves_for.nd rfl (Or.inl rfl) (pe_op op_sub (pe_fldK (K := K) (by rfl) (pv 0) rfl) (pv 6)))
      (pss_cons (ps_set (i := 8) sc_moves_for.nd rfl (Or.inl rfl) (pe_ifExp (pt_cmpR op_eq (pv 1) pe_str (nomark _)) (pe_fn G_part_of2 (hr.mono (by decide)) pass0 (pa_cons (pv 7) (pa_cons (pe_fldK (K := K) (by rfl) (pv 0) rfl) pa_nil))) (pe_fldK (K := K) (by rfl) (pv 0) rfl)))
      (pss_cons (ps_set (i := 9) sc_moves_for.nd rfl (Or.inl rfl) (pe_fn G_part_of2 (hr.mono (by decide)) pass0 (pa_cons (pv 7) (pa_cons (pe_fldK (K := K) (by rfl) (pv 0) rfl) pa_nil))))
      (pss_cons (ps_set (i := 4) sc_moves_for.nd rfl (Or.inl rfl) (pe_ifExp (pt_cmpR op_eq (pv 1) pe_str (nomark _)) (pe_lst (pa_cons (pe_tup (pa_cons (pe_tup (pa_cons pe_str (pa_cons (pe_fldK (K := K) (by rfl) (pv 0) rfl) pa_nil))) (pa_cons (pe_op op_sub (pe_op op_add (pv 6) (pe_fldK (K := K) (by rfl) (pv 0) rfl)) (pv 8)) (pa_cons pe_str pa_nil)))) pa_nil)) (pe_lst pa_nil)))
      (pss_cons (ps_set (i := 4) sc_moves_for.nd rfl (Or.inl rfl) (pe_op op_cat (pv 4) (pe_lst (pa_cons (pe_tup (pa_cons (pe_tup (pa_cons pe_str pa_nil)) (pa_cons (pv 9) (pa_cons pe_str pa_nil)))) (pa_cons (pe_tup (pa_cons (pe_tup (pa_cons pe_str (pa_cons (pe_fldK (K := K) (by rfl) (pv 0) rfl) pa_nil))) (pa_cons (pe_op op_sub (pv 7) (pv 9)) (pa_cons pe_str pa_nil)))) pa_nil)))))
      (pss_one (ps_ret (pe_tup (pa_cons (pe_op op_cat (pv 4) (pe_lst (pa_cons (pe_tup (pa_cons (pe_tup (pa_cons pe_str (pa_cons (pe_fldK (K := K) (by rfl) (pv 0) rfl) pa_nil))) (pa_cons (pv 8) (pa_cons pe_str pa_nil)))) pa_nil))) (pa_cons (pe_lst pa_nil) pa_nil)))))))))))), ?_⟩
    obtain ⟨x, D, how, part, c, rfl, ⟨dx, hx⟩, hh, g1, g2, g3, g4, g5, g6, g7, g8, q⟩ := h
    have b1 : 0 ≤ D.whole * part := Int.mul_nonneg g1 g7
    have b2 : D.whole * part ≤ D.whole * 100 := Int.mul_le_mul_of_nonneg_left g8 g1
    have b3 : 0 ≤ D.back part := Int.ediv_nonneg b1 (by decide)
    have b4 : D.back part ≤ D.whole := by unfold Dl.back; omega
    have b5 : 0 ≤ D.rest part := by unfold Dl.rest; omega
    have b6 : D.rest part ≤ D.whole := by unfold Dl.rest; omega
    rcases hh with rfl | rfl | rfl | rfl
    · rw [movesM_back] at q
      walk_at "rd3"
      exact q _ _ _ _ (by walk_at "sm3") upd_same (mvs1 (by walk_at "lk3") (mvat2 (by walk_at "lk3") (by walk_at "lk3"))) (mvs0 (by walk_at "lk3"))
    · rw [movesM_lost] at q
      walk_at "rd3"
      exact q _ _ _ _ (by walk_at "sm3") upd_same (mvs1 (by walk_at "lk3") (mvat2 (by walk_at "lk3") (by walk_at "lk3"))) (mvs1 (by walk_at "lk3") (mvat2 (by walk_at "lk3") (by walk_at "lk3")))
    · rw [movesM_sold] at q
      dsimp only [Dl.back, Dl.rest, Dl.cut, Dl.due] at q b3 b4 b5 b6
      walk_at "rd3"
      exact q _ _ _ _ (by walk_at "sm3") upd_same (mvs3 (by walk_at "lk3") (mvat1 (by walk_at "lk3") (by walk_at "lk3")) (mvat2 (by walk_at "lk3") (by walk_at "lk3")) (mvat2 (by walk_at "lk3") (by walk_at "lk3"))) (mvs0 (by walk_at "lk3"))
    · rw [movesM_judged] at q
      dsimp only [Dl.back, Dl.rest, Dl.cut, Dl.due] at q b3 b4 b5 b6
      walk_at "rd3"
      exact q _ _ _ _ (by walk_at "sm3") upd_same (mvs4 (by walk_at "lk3") (mvat2 (by walk_at "lk3") (by walk_at "lk3")) (mvat1 (by walk_at "lk3") (by walk_at "lk3")) (mvat2 (by walk_at "lk3") (by walk_at "lk3")) (mvat2 (by walk_at "lk3") (by walk_at "lk3"))) (mvs0 (by walk_at "lk3"))
end
end Mk
/-! shares.py: the end of shares -/
namespace Mk
open PySem PySem.Spec L2 He
local macro_rules | `(tactic| walk_at "rdu3") => `(tactic| dsimp only [tSeq, tNext, tRet, tRetN, tAsg, tDrop, tIfS, tOr, tAnd, tNot, tB, tTest, tCB, tCons, tNil, tVar, tC, tOp, tUn, tOrV, tAndV, tNotV, tIf, tChain, tCall, tTup, tLst, gName, L2.start, dl_map, dl_map0, dl_app, dl_app0, List.length_cons, List.length_nil, List.replicate, List.set, Nat.reduceAdd, Nat.reduceSub, tLc_eq, tFor_eq, sck_eq, dct_eq, tPar, gCons, gNil, iList, iTup, iRng1, iStr, wipe, tYes, tSl, tPart, tNoPart, tFld, tMeth, tMake, tFldK, sFldK, tDGetK, tDInK, tDNotInK, iItemsK, tLV, tLockE, tLock, tMakeK,  tDNewK, tPairs, tBM, tDispTK, iItemsTK, sDPutK, sDAugK])
local macro_rules | `(tactic| walk_at "lk3") => `(tactic| first | assumption | (with_reducible exact upd_same) | ((with_reducible apply keep); rotate_left; (focus assumption); walk_at "lk3") | ((with_reducible apply kp); (focus assumption); walk_at "lk3") | ((with_reducible apply keepI); rotate_left; (focus (walk_at "lk3")); (focus (intro _ _ _ e; cases e)); walk_at "lk3"))
local macro_rules | `(tactic| walk_at "lq3") => `(tactic| first | assumption | exact .inl (SqL.of (by walk_at "lk3")) | exact .inr (SqT.of (by walk_at "lk3")) | (refine sq2_same (grow (by assumption)) ?_; walk_at "lq3") | (refine sq2_same (by assumption) ?_; walk_at "lq3"))
local macro_rules | `(tactic| walk_at "sm3") => `(tactic| first | exact Same.refl _ | assumption | (refine same_upd2 ?_ (by assumption); walk_at "sm3") | (refine same_upd ?_ (by assumption); walk_at "sm3") | (refine Same.trans ?_ (by assumption); walk_at "sm3"))
local macro_rules | `(tactic| walk_at "rd13") => `(tactic| first
  | ((with_reducible apply rfld_t); (focus (walk_at "lk3")); (focus assumption); (focus assumption); (focus with_unfolding_all rfl))
  | ((with_reducible apply rsetf_t); (focus (walk_at "lk3")); (focus assumption); (focus assumption); (focus with_unfolding_all rfl); (focus (simp; done)); walk_at "rdu3")
  | ((with_reducible apply rlend_t); (focus (walk_at "lk3")))
  | ((with_reducible apply rlist_l); (focus (walk_at "lk3")); intro _ _)
  | ((with_reducible apply rdict_d); (focus (walk_at "lk3")); intro _ _)
  | ((with_reducible apply rdg_t); (focus (walk_at "lk3")); (focus first | assumption | with_unfolding_all rfl))
  | ((with_reducible apply rdi_some); (focus (walk_at "lk3")); (focus assumption))
  | ((with_reducible apply rdn_some); (focus (walk_at "lk3")); (focus assumption))
  | ((with_reducible apply rdi_t); (focus (walk_at "lk3")))
  | ((with_reducible apply rdn_t); (focus (walk_at "lk3")))
  | ((with_reducible apply rcat_t); (focus (walk_at "lk3")); (focus (walk_at "lk3")); (focus first | (refine line_ge ?_; simp; done) | (refine line_ge ?_; simp; omega)); intro _ _; walk_at "rdu3")
  | ((with_reducible apply rmeth_t); (focus (walk_at "lk3")); (focus with_unfolding_all rfl))
  | ((with_reducible apply rlv_t); (focus (walk_at "lk3")); intro _ _)
  | ((with_reducible apply rpow18))
  | ((with_reducible apply rng_t); (focus omega); (focus omega))
  | ((with_reducible apply tyl); (focus (walk_at "lk3")))
  | ((with_reducible apply rapp_t); (focus (walk_at "lk3")); (focus first | (refine Nat.lt_of_lt_of_le ?_ (line_ge (Nat.le_refl 16777216)); simp; omega) | (rw [sizeLine_eq]; simp; omega) | (rw [sizeLine_eq]; omega)); walk_at "rdu3")
  | ((with_reducible apply req_ss))
  | ((with_reducible apply req_ii))
  | ((with_reducible apply req_bb))
  | ((with_reducible apply rne_ss))
  | ((with_reducible apply rne_ii))
  | ((with_reducible apply cm_l); (focus omega); (focus omega))
  | ((with_reducible apply cm_r); (focus omega); (focus omega))
  | ((with_reducible apply cd_i); (focus omega); (focus omega))
  | ((with_reducible apply md_i); (focus omega))
  | ((with_reducible apply part1))
  | ((with_reducible apply num2))
  | ((with_reducible apply num3))
  | ((with_reducible apply name1); (focus first | assumption | decide +kernel); intro _ _)
  | ((with_reducible apply one_m); (focus (walk_at "lq3")))
  | ((with_reducible apply one_s); (focus (walk_at "lq3")); (focus with_unfolding_all rfl))
  | refine ⟨_, rfl, ?_⟩
  | refine ⟨_, _, rfl, rfl, ?_⟩
  | ((with_reducible apply gcons_t))
  | ((with_reducible apply gpar_t))
  | ((with_reducible apply gpar3_t))
  | refine ⟨rfl, ?_⟩
  | ((with_reducible apply iteT))
  | ((with_reducible apply iteF))
  | ((with_reducible apply ri_ii))
  | ((with_reducible apply ri_ib))
  | ((with_reducible apply ri_ss))
  | ((with_reducible apply ri_bb))
  | ((with_reducible apply ri_tt); (focus (walk_at "lk3")))
  | ((with_reducible apply ri_ll); (focus (walk_at "lk3")))
  | ((with_reducible apply ri_dd); (focus (walk_at "lk3")))
  | ((with_reducible apply rt_l); (focus (walk_at "lk3")); (focus (walk_at "lk3")))
  | ((with_reducible apply rt_t); (focus (walk_at "lk3")); (focus (walk_at "lk3")))
  | ((with_reducible apply rix_t); (focus (walk_at "lk3")); (focus with_unfolding_all rfl))
  | ((with_reducible apply rix_l); (focus (walk_at "lk3")); (focus with_unfolding_all rfl))
  | ((with_reducible apply rlen_t); (focus (walk_at "lk3")); (focus first | (simp only [List.length_cons, List.length_nil]; done) | (simp only [List.length_cons, List.length_nil]; with_unfolding_all rfl) | with_unfolding_all rfl))
  | ((with_reducible apply rlen_l); (focus (walk_at "lk3")); (focus first | (simp only [List.length_cons, List.length_nil]; done) | (simp only [List.length_cons, List.length_nil]; with_unfolding_all rfl) | with_unfolding_all rfl))
  | ((with_reducible apply rin_t); (focus (walk_at "lk3")); (focus with_unfolding_all rfl))
  | ((with_reducible apply rnin_t); (focus (walk_at "lk3")); (focus with_unfolding_all rfl))
  | ((with_reducible apply rsl_t); (focus (walk_at "lk3")); (focus with_unfolding_all rfl); (focus first | (simp [cutV, HT.sIx]; done) | (simp [cutV, HT.sIx]; rfl)); intro _ _)
  | ((with_reducible apply rin_l); (focus (walk_at "lk3")))
  | ((with_reducible apply rnin_l); (focus (walk_at "lk3")))
  | ((with_reducible apply gtup_t); (focus (walk_at "lk3")); (focus with_unfolding_all rfl); walk_at "rdu3")
  | ((with_reducible apply alc); (focus decide); intro _ _)
  | ((with_reducible apply itenT))
  | ((with_reducible apply itenF))
  | ((with_reducible apply ited_sT); (focus first | rfl | assumption))
  | ((with_reducible apply ited_sF); (focus first | assumption | decide +kernel))
  | ((with_reducible apply itedn_sT); (focus first | assumption | decide +kernel))
  | ((with_reducible apply itedn_sF); (focus first | rfl | assumption))
  | ((with_reducible apply ited_mT); (focus first | assumption | decide +kernel))
  | ((with_reducible apply ited_mF); (focus first | assumption | decide +kernel))
  | ((with_reducible apply itedn_mT); (focus first | assumption | decide +kernel))
  | ((with_reducible apply itedn_mF); (focus first | assumption | decide +kernel))
  | ((with_reducible apply ited_s) <;> intro _)
  | ((with_reducible apply itedn_s) <;> intro _)
  | ((with_reducible apply ited_m) <;> intro _)
  | ((with_reducible apply itedn_m) <;> intro _)
  | ((with_reducible apply itedT); (focus first | assumption | omega))
  | ((with_reducible apply itedF); (focus first | assumption | omega))
  | ((with_reducible apply itednF); (focus first | assumption | omega))
  | ((with_reducible apply itednT); (focus first | assumption | omega))
  | ((with_reducible apply ited) <;> intro _)
  | ((with_reducible apply itedn) <;> intro _)
  | ((with_reducible apply itebn) <;> intro _)
  | ((with_reducible apply iteb) <;> intro _)
  | walk_at "rdu3"
  | contradiction)
local macro_rules | `(tactic| walk_at "rd3") => `(tactic| (try walk_at "rdu3"); repeat' walk_at "rd13")
def addI (F : FI) (m : Mv) : FI := putI F m.1 ((getI F m.1).getD 0 + m.2)
def nzI (F : FI) : FI := F.filter fun p => decide (p.2 ≠ 0)
theorem putI_keys {F : FI} {k k' : List Str} {v : Int} (h : (getI F k).isSome = true) : (getI (putI F k' v) k).isSome = true := by
  unfold getI at h ⊢
  rw [Option.isSome_map] at h ⊢
  obtain ⟨p, hp, hpk⟩ := List.find?_isSome.mp h
  refine List.find?_isSome.mpr ?_
  unfold putI
  split
  · refine ⟨if p.1 = k' then (p.1, v) else p, List.mem_map.mpr ⟨p, hp, rfl⟩, ?_⟩
    split
    · exact hpk
    · exact hpk
  · exact ⟨p, List.mem_append_left _ hp, hpk⟩
theorem putI_in (F : FI) (k : List Str) (v : Int) : (getI (putI F k v) k).isSome = true := by
  unfold getI
  rw [Option.isSome_map]
  refine List.find?_isSome.mpr ?_
  unfold putI
  split
  · rename_i h
    obtain ⟨p, hp, hk⟩ := List.any_eq_true.mp h
    have e : p.1 = k := of_decide_eq_true hk
    refine ⟨(p.1, v), List.mem_map.mpr ⟨p, hp, by rw [if_pos e]⟩, hk⟩
  · exact ⟨(k, v), List.mem_append_right _ (List.mem_singleton.mpr rfl), by simp⟩
theorem putI_nodup {F : FI} (h : (F.map (·.1)).Nodup) (k : List Str) (v : Int) : ((putI F k v).map (·.1)).Nodup := by
  unfold putI
  split
  · have e : (F.map fun p => if p.1 = k then (p.1, v) else p).map (·.1) = F.map (·.1) := by
      rw [List.map_map]
      congr 1
      funext p
      show (if p.1 = k then (p.1, v) else p).1 = p.1
      split <;> rfl
    rw [e]
    exact h
  · rename_i hn
    rw [List.map_append]
    refine List.nodup_append.mpr ⟨h, by simp, fun a ha b hb => ?_⟩
    have hb' : b = k := by simpa using hb
    intro e
    obtain ⟨p, hp, hpa⟩ := List.mem_map.mp ha
    refine hn (List.any_eq_true.mpr ⟨p, hp, ?_⟩)
    have e2 : p.1 = k := by rw [← hb', ← e]; exact hpa
    simp [e2]
theorem putI_new {F : FI} {k : List Str} {v : Int} (h : k ∉ F.map (·.1)) : putI F k v = F ++ [(k, v)] := by
  unfold putI
  rw [if_neg]
  intro z
  obtain ⟨p, hp, hk⟩ := List.any_eq_true.mp z
  exact h (List.mem_map.mpr ⟨p, hp, of_decide_eq_true hk⟩)
theorem addI_fold_keys {k : List Str} : ∀ (ms : List Mv) {F : FI}, (getI F k).isSome = true → (getI (ms.foldl addI F) k).isSome = true
  | [], _, h => h
  | m :: ms, F, h => by
    rw [List.foldl_cons]
    exact addI_fold_keys ms (putI_keys h)
theorem addI_fold_nodup : ∀ (ms : List Mv) {F : FI}, (F.map (·.1)).Nodup → ((ms.foldl addI F).map (·.1)).Nodup
  | [], _, h => h
  | m :: ms, F, h => by
    rw [List.foldl_cons]
    exact addI_fold_nodup ms (putI_nodup h _ _)
theorem addI_fold_len : ∀ (ms : List Mv) (F : FI), (ms.foldl addI F).length ≤ F.length + ms.length
  | [], _ => Nat.le_refl _
  | m :: ms, F => by
    rw [List.foldl_cons, List.length_cons]
    have h1 := addI_fold_len ms (addI F m)
    have h2 := putI_len F m.1 ((getI F m.1).getD 0 + m.2)
    have h3 : (addI F m).length ≤ F.length + 1 := h2
    omega
theorem toT_append (F G : FI) : toT (F ++ G) = toT F ++ toT G := List.map_append
theorem toT_put_new {F : FI} {k : List Str} {v : Int} (h : k ∉ F.map (·.1)) : putK (toT F) (kk k) (V.int v) = toT (F ++ [(k, v)]) := by
  rw [toT_put, putI_new h]
theorem paired_app {α β : Type} {F : α → β → Prop} : ∀ {xs : List α} {ys : List β} {xs' : List α} {ys' : List β}, Paired F xs ys → Paired F xs' ys' → Paired F (xs ++ xs') (ys ++ ys')
  | _, _, _, _, .nil, h => h
  | _, _, _, _, .cons r t, h => .cons r (paired_app t h)
theorem shares_tail {K : PySem.W.Frag} {H4 Hc : Hp} {fa ma mb a dx : Addr} {D : Dl} {F1 : FI} {mm : List Mv × List Mv} {v0 v1 v3 v4 v5 : V} {Q : VK} {nx bk ct : St → Hp → Prop} (tc : Cls K (ga K "Deal")) (t3 : NoAttr K (ga K "Deal") "land") (s : Same H4 Hc) (hfa : H4 fa = none) (hf : Hc fa = some (.dT (toT F1))) (hl1 : F1.length ≤ 10)
    (hda : H4 a = some (.ins (ga K "Deal") dx [("seller", .str D.seller), ("buyer", .str D.buyer), ("land", .str D.land), ("whole", .int D.whole), ("tax", .int D.tax), ("levy", .int D.levy), ("fee", .int D.fee)]))
    (hma : MvsAt H4 ma mm.1) (hmb : MvsAt H4 mb mm.2) (hm : mm.1.length ≤ 4 ∧ mm.2.length ≤ 1) (hk : ∀ m ∈ mm.1 ++ mm.2, (getI (putI (putI F1 (kT D.land) 0) kF 0) m.1).isSome = true) (hn : (F1.map (·.1)).Nodup)
    (q : ∀ (p : Addr) (H' : Hp), Same H4 H' → H' p = some (.dT (toT (nzI ((mm.1 ++ mm.2).foldl addI (putI (putI F1 (kT D.land) 0) kF 0))))) → Q (.ref p) H') :
    tSeq (sDPutK (tVar 8) (tTup (tCons (tC (V.str "tax")) (tCons (tFldK K (tVar 2) "land") tNil))) (tC (V.int 0)))
      (tSeq (sDPutK (tVar 8) (tTup (tCons (tC (V.str "fee")) tNil)) (tC (V.int 0)))
        (tSeq (tFor (iList K (tOp rCat (tVar 6) (tVar 7))) (gTup K 3 (gCons (gName 9) (gCons (gName 10) (gCons (gName 11) gNil)))) (sDAugK (tVar 8) (tVar 9) (tVar 10) rAdd))
          (tLock (tRet (tDcT (iItemsTK (tVar 8)) (gTup K 2 (gCons (gName 9) (gCons (gName 10) gNil))) (tTest (tOp rNe (tVar 10) (tC (V.int 0)))) (tVar 9) (tVar 10) [9, 10])))))
      { nx := nx, rt := Q, bk := bk, ct := ct } [some v0, some v1, some (.ref a), some v3, some v4, some v5, some (.ref ma), some (.ref mb), some (.ref fa), none, none, none] Hc := by
  have hdc := s _ _ hda
  walk_at "rd3"
  rename_i a1 ha1
  refine rdput_t (F := F1) (k := kT D.land) (keep hf ha1) (show _ = some (HO.tup [.str "tax", .str D.land]) from upd_same) (by omega) ?_
  have s1 : Same H4 (upd (upd Hc a1 (.tup [.str "tax", .str D.land])) fa (.dT (toT (putI F1 (kT D.land) 0)))) := same_upd (same_upd2 s ha1) hfa
  generalize hH1 : upd (upd Hc a1 (.tup [.str "tax", .str D.land])) fa (.dT (toT (putI F1 (kT D.land) 0))) = H1 at s1
  have hf1 : H1 fa = some (.dT (toT (putI F1 (kT D.land) 0))) := by rw [← hH1, upd_same]
  clear hH1 ha1 hf hdc s
  have l2 := putI_len F1 (kT D.land) 0
  walk_at "rd3"
  rename_i a2 ha2
  refine rdput_t (F := putI F1 (kT D.land) 0) (k := kF) (keep hf1 ha2) (show _ = some (HO.tup [.str "fee"]) from upd_same) (by omega) ?_
  have s2 : Same H4 (upd (upd H1 a2 (.tup [.str "fee"])) fa (.dT (toT (putI (putI F1 (kT D.land) 0) kF 0)))) := same_upd (same_upd2 s1 ha2) hfa
  generalize hH2 : upd (upd H1 a2 (.tup [.str "fee"])) fa (.dT (toT (putI (putI F1 (kT D.land) 0) kF 0))) = H2 at s2
  have hf2 : H2 fa = some (.dT (toT (putI (putI F1 (kT D.land) 0) kF 0))) := by rw [← hH2, upd_same]
  clear hH2 ha2 hf1 s1
  have l3 := putI_len (putI F1 (kT D.land) 0) kF 0
  have n3 : ((putI (putI F1 (kT D.land) 0) kF 0).map (·.1)).Nodup := putI_nodup (putI_nodup hn _ _) _ _
  generalize putI (putI F1 (kT D.land) 0) kF 0 = F3 at hk q hf2 l3 n3
  obtain ⟨as, ha1, ha2⟩ := mvsAt_same s2 hma
  obtain ⟨bs, hb1, hb2⟩ := mvsAt_same s2 hmb
  have la := paired_len ha2
  have lb := paired_len hb2
  walk_at "rd3"
  refine rcat_t ha1 hb1 (by rw [List.length_map, List.length_map, sizeLine_eq]; omega) (fun lp hlp => ?_)
  have hms : Paired (MvAt H2) (as ++ bs) (mm.1 ++ mm.2) := paired_app ha2 hb2
  generalize hMS : mm.1 ++ mm.2 = ms at hms hk q
  have hmsl : ms.length ≤ 5 := by
    have := hm.1
    have := hm.2
    rw [← hMS, List.length_append]
    omega
  have hls := paired_len hms
  have elst : as.map V.ref ++ bs.map V.ref = (as ++ bs).map V.ref := List.map_append.symm
  rw [elst]
  generalize as ++ bs = cs at hms hls
  have nlf : fa ≠ lp := ne_of_none hf2 hlp
  have hf3 : upd H2 lp (.lst (cs.map V.ref)) fa = some (.dT (toT F3)) := keep hf2 hlp
  have hl3 : upd H2 lp (.lst (cs.map V.ref)) lp = some (.lst (cs.map V.ref)) := upd_same
  have s3 : Same H4 (upd H2 lp (.lst (cs.map V.ref))) := same_upd2 s2 hlp
  have hms3 : Paired (MvAt (upd H2 lp (.lst (cs.map V.ref)))) cs ms := Paired.mapP hms fun _ _ x => mvAt_same (grow hlp) x
  clear hms hlp hf2 s2 ha1 ha2 hb1 hb2
  generalize upd H2 lp (.lst (cs.map V.ref)) = H3 at hf3 hl3 s3 hms3
  walk_at "rd3"
  refine ⟨⟨_, SqL.of hl3⟩, ?_⟩
  refine fr_it (walk_list (K := K) (a := lp) (xs := cs.map V.ref)) (fun i σ H5 => But fa H3 H5 ∧ H5 fa = some (.dT (toT ((ms.take i).foldl addI F3))) ∧ ∃ b c d, σ = [some v0, some v1, some (.ref a), some v3, some v4, some v5, some (.ref ma), some (.ref mb), some (.ref fa), b, c, d])
    ⟨But.same (Same.refl _), hf3, none, none, none, rfl⟩ (fun i σ H5 _ p => SqL.of (p.1 _ _ hl3 (Ne.symm nlf))) (fun i y σ H5 H6 hi p yy => ?_) (fun σ H5 p => ?_)
  · obtain ⟨b5, hf5, b, c, d, rfl⟩ := p
    obtain ⟨rfl, ex⟩ := yy
    rw [List.length_map, hls] at hi
    have hd : ms[i]? = some ms[i] := List.getElem?_eq_getElem hi
    obtain ⟨t, ht, kb, why, e1, e2⟩ := paired_get2 hms3 hd
    rw [List.getElem?_map, ht] at ex
    have ex' : V.ref t = y := Option.some.inj ex
    subst ex'
    have hst := foldl_take addI F3 hd
    have hkey := hk _ (List.getElem_mem hi)
    have hlen := addI_fold_len (ms.take i) F3
    rw [List.length_take] at hlen
    have hpres := addI_fold_keys (ms.take i) hkey
    rw [hst]
    clear hst
    generalize (ms.take i).foldl addI F3 = Fi at hf5 hpres hlen
    generalize ms[i] = m at e1 e2 hpres
    obtain ⟨mk, mv⟩ := m
    obtain ⟨v, hv⟩ := Option.isSome_iff_exists.mp hpres
    have n1 : t ≠ fa := ne_of e1 hf3 (fun z => nomatch z)
    have n2 : kb ≠ fa := ne_of e2 hf3 (fun z => nomatch z)
    have e1' := b5 _ _ e1 n1
    have e2' := b5 _ _ e2 n2
    dsimp only at e1' e2' hv
    walk_at "rd3"
    refine rdaug_g (F := Fi) (k := mk) hf5 e2' hv ?_
    walk_at "rd3"
    refine dput_ex (F := Fi) (k := mk) hf5 e2' (by omega) ?_
    refine ⟨But.at b5, ?_, _, _, _, rfl⟩
    rw [upd_same]
    show some (HO.dT (toT (putI Fi mk (v + mv)))) = some (HO.dT (toT (putI Fi mk ((getI Fi mk).getD 0 + mv))))
    rw [hv]
    rfl
  · obtain ⟨b5, hf5, b, c, d, rfl⟩ := p
    rw [List.length_map, hls, List.take_length] at hf5
    have n4 : ((ms.foldl addI F3).map (·.1)).Nodup := addI_fold_nodup ms n3
    have hl4 := addI_fold_len ms F3
    have s5 : Same H4 H5 := fun b o e => b5 _ _ (s3 _ _ e) (ne_of_none e hfa)
    generalize ms.foldl addI F3 = F4 at q hf5 n4 hl4
    clear b5 hf3 hl3 s3 hms3
    walk_at "rd3"
    refine ⟨fa, _, hf5, trivial, fun od => ?_⟩
    have sl : Same H4 (upd H5 fa (.frz od (.dT (toT F4)))) := same_upd s5 hfa
    walk_at "rd3"
    refine ⟨fa, od, toT F4, rfl, upd_same, fun Dn hDn => ?_⟩
    have hfl : upd H5 fa (.frz od (.dT (toT F4))) fa = some (.frz od (.dT (toT F4))) := upd_same
    generalize upd H5 fa (.frz od (.dT (toT F4))) = Hl at sl hDn hfl
    refine ac_it (walk_itemsT (d := fa) (o := od) (kvs := toT F4)) (fun i H6 => Same Hl H6 ∧ H6 Dn = some (.dT (toT (nzI (F4.take i))))) ⟨grow hDn, upd_same⟩ (fun i H6 _ p => p.1 _ _ hfl) (fun i y H6 H7 hi p yy => ?_) (fun H6 p => ?_)
    · obtain ⟨s6, hD6⟩ := p
      obtain ⟨tt, kq, k, v, hkv, hkq, rfl, htt, rfl⟩ := yy
      unfold toT at hkv
      rw [List.getElem?_map] at hkv
      cases hfi : F4[i]? with
      | none =>
        rw [hfi] at hkv
        cases hkv
      | some fe =>
        rw [hfi] at hkv
        obtain ⟨fk, fv⟩ := fe
        have e3 := Option.some.inj hkv
        injection e3 with e3 e4
        subst e3 e4
        have htk : nzI (F4.take (i + 1)) = nzI (F4.take i) ++ (if fv ≠ 0 then [(fk, fv)] else []) := by
          unfold nzI
          rw [List.take_add_one, hfi, List.filter_append]
          congr 1
          by_cases hz : fv = 0
          · simp [hz]
          · simp [hz]
        have hkq' : H6 kq = some (.tup (fk.map V.str)) := by rw [← kk_kV]; exact hkq
        have hnew : fk ∉ (nzI (F4.take i)).map (·.1) := by
          intro z
          obtain ⟨p', hp', hpe⟩ := List.mem_map.mp z
          have hp2 := (List.mem_filter.mp hp').1
          obtain ⟨j, hj⟩ := List.mem_iff_getElem?.mp hp2
          rw [List.getElem?_take] at hj
          split at hj
          · rename_i hji
            have g1 : (F4.map (·.1))[j]? = some fk := by rw [List.getElem?_map, hj, ← hpe]; rfl
            have g2 : (F4.map (·.1))[i]? = some fk := by rw [List.getElem?_map, hfi]; rfl
            have := (List.getElem?_inj (List.getElem?_eq_some_iff.mp g1).1 n4).mp (g1.trans g2.symm)
            omega
          · cases hj
        have nDl : ∀ b o, Hl b = some o → b ≠ Dn := fun b o e z => by
          rw [z, hDn] at e
          cases e
        walk_at "rd3"
        · rename_i hz
          refine ⟨toT (nzI (F4.take i)), kk fk, kq, rfl, by rw [kk_kV]; exact keep hkq' htt, keep hD6 htt, ?_, fun b o e => ?_, ?_⟩
          · rw [toT_len, sizeLine_eq]
            have h1 : (nzI (F4.take i)).length ≤ (F4.take i).length := List.length_filter_le _ _
            rw [List.length_take] at h1
            omega
          · rw [upd_ne (nDl b o e)]
            exact keep (s6 _ _ e) htt
          · rw [upd_same, toT_put_new hnew, htk, if_pos (by simpa using hz)]
        · rename_i hz
          refine ⟨fun b o e => keep (s6 _ _ e) htt, ?_⟩
          rw [htk, if_neg (by simpa using hz), List.append_nil]
          exact keep hD6 htt
    · obtain ⟨s6, hD6⟩ := p
      have el : (toT F4).length = F4.length := toT_len F4
      rw [el, List.take_length] at hD6
      refine ⟨s6 _ _ hfl, ?_⟩
      have nD : Dn ≠ fa := fun z => by
        rw [z, hfl] at hDn
        cases hDn
      exact q Dn _ (same_upd (sl.trans s6) hfa) (by rw [upd_ne nD]; exact hD6)
end Mk
/-! shares.py: shares -/
namespace Mk
open PySem PySem.Spec L2 He
local macro_rules | `(tactic| walk_at "rdu3") => `(tactic| dsimp only [tSeq, tNext, tRet, tRetN, tAsg, tDrop, tIfS, tOr, tAnd, tNot, tB, tTest, tCB, tCons, tNil, tVar, tC, tOp, tUn, tOrV, tAndV, tNotV, tIf, tChain, tCall, tTup, tLst, gName, L2.start, dl_map, dl_map0, dl_app, dl_app0, List.length_cons, List.length_nil, List.replicate, List.set, Nat.reduceAdd, Nat.reduceSub, tLc_eq, tFor_eq, sck_eq, dct_eq, tPar, gCons, gNil, iList, iTup, iRng1, iStr, wipe, tYes, tSl, tPart, tNoPart, tFld, tMeth, tMake, tFldK, sFldK, tDGetK, tDInK, tDNotInK, iItemsK, tLV, tLockE, tLock, tMakeK,  tDNewK, tPairs, tBM, tDispTK, iItemsTK, sDPutK, sDAugK])
local macro_rules | `(tactic| walk_at "lk3") => `(tactic| first | assumption | (with_reducible exact upd_same) | ((with_reducible apply keep); rotate_left; (focus assumption); walk_at "lk3") | ((with_reducible apply kp); (focus assumption); walk_at "lk3") | ((with_reducible apply keepI); rotate_left; (focus (walk_at "lk3")); (focus (intro _ _ _ e; cases e)); walk_at "lk3"))
local macro_rules | `(tactic| walk_at "lq3") => `(tactic| first | assumption | exact .inl (SqL.of (by walk_at "lk3")) | exact .inr (SqT.of (by walk_at "lk3")) | (refine sq2_same (grow (by assumption)) ?_; walk_at "lq3") | (refine sq2_same (by assumption) ?_; walk_at "lq3"))
local macro_rules | `(tactic| walk_at "sm3") => `(tactic| first | exact Same.refl _ | assumption | (refine same_upd2 ?_ (by assumption); walk_at "sm3") | (refine same_upd ?_ (by assumption); walk_at "sm3") | (refine Same.trans ?_ (by assumption); walk_at "sm3"))
local macro_rules | `(tactic| walk_at "rd13") => `(tactic| first
  | ((with_reducible apply rfld_t); (focus (walk_at "lk3")); (focus assumption); (focus assumption); (focus with_unfolding_all rfl))
  | ((with_reducible apply rsetf_t); (focus (walk_at "lk3")); (focus assumption); (focus assumption); (focus with_unfolding_all rfl); (focus (simp; done)); walk_at "rdu3")
  | ((with_reducible apply rlend_t); (focus (walk_at "lk3")))
  | ((with_reducible apply rlist_l); (focus (walk_at "lk3")); intro _ _)
  | ((with_reducible apply rdict_d); (focus (walk_at "lk3")); intro _ _)
  | ((with_reducible apply rdg_t); (focus (walk_at "lk3")); (focus first | assumption | with_unfolding_all rfl))
  | ((with_reducible apply rdi_some); (focus (walk_at "lk3")); (focus assumption))
  | ((with_reducible apply rdn_some); (focus (walk_at "lk3")); (focus assumption))
  | ((with_reducible apply rdi_t); (focus (walk_at "lk3")))
  | ((with_reducible apply rdn_t); (focus (walk_at "lk3")))
  | ((with_reducible apply rcat_t); (focus (walk_at "lk3")); (focus (walk_at "lk3")); (focus first | (refine line_ge ?_; simp; done) | (refine line_ge ?_; simp; omega)); intro _ _; walk_at "rdu3")
  | ((with_reducible apply rmeth_t); (focus (walk_at "lk3")); (focus with_unfolding_all rfl))
  | ((with_reducible apply rlv_t); (focus (walk_at "lk3")); intro _ _)
  | ((with_reducible apply rpow18))
  | ((with_reducible apply rng_t); (focus omega); (focus omega))
  | ((with_reducible apply tyl); (focus (walk_at "lk3")))
  | ((with_reducible apply rapp_t); (focus (walk_at "lk3")); (focus first | (refine Nat.lt_of_lt_of_le ?_ (line_ge (Nat.le_refl 16777216)); simp; omega) | (rw [sizeLine_eq]; simp; omega) | (rw [sizeLine_eq]; omega)); walk_at "rdu3")
  | ((with_reducible apply req_ss))
  | ((with_reducible apply req_ii))
  | ((with_reducible apply req_bb))
  | ((with_reducible apply rne_ss))
  | ((with_reducible apply rne_ii))
  | ((with_reducible apply cm_l); (focus omega); (focus omega))
  | ((with_reducible apply cm_r); (focus omega); (focus omega))
  | ((with_reducible apply cd_i); (focus omega); (focus omega))
  | ((with_reducible apply md_i); (focus omega))
  | ((with_reducible apply part1))
  | ((with_reducible apply num2))
  | ((with_reducible apply num3))
  | ((with_reducible apply name1); (focus first | assumption | decide +kernel); intro _ _)
  | ((with_reducible apply one_m); (focus (walk_at "lq3")))
  | ((with_reducible apply one_s); (focus (walk_at "lq3")); (focus with_unfolding_all rfl))
  | refine ⟨_, rfl, ?_⟩
  | refine ⟨_, _, rfl, rfl, ?_⟩
  | ((with_reducible apply gcons_t))
  | ((with_reducible apply gpar_t))
  | ((with_reducible apply gpar3_t))
  | refine ⟨rfl, ?_⟩
  | ((with_reducible apply iteT))
  | ((with_reducible apply iteF))
  | ((with_reducible apply ri_ii))
  | ((with_reducible apply ri_ib))
  | ((with_reducible apply ri_ss))
  | ((with_reducible apply ri_bb))
  | ((with_reducible apply ri_tt); (focus (walk_at "lk3")))
  | ((with_reducible apply ri_ll); (focus (walk_at "lk3")))
  | ((with_reducible apply ri_dd); (focus (walk_at "lk3")))
  | ((with_reducible apply rt_l); (focus (walk_at "lk3")); (focus (walk_at "lk3")))
  | ((with_reducible apply rt_t); (focus (walk_at "lk3")); (focus (walk_at "lk3")))
  | ((with_reducible apply rix_t); (focus (walk_at "lk3")); (focus with_unfolding_all rfl))
  | ((with_reducible apply rix_l); (focus (walk_at "lk3")); (focus with_unfolding_all rfl))
  | ((with_reducible apply rlen_t); (focus (walk_at "lk3")); (focus first | (simp only [List.length_cons, List.length_nil]; done) | (simp only [List.length_cons, List.length_nil]; with_unfolding_all rfl) | with_unfolding_all rfl))
  | ((with_reducible apply rlen_l); (focus (walk_at "lk3")); (focus first | (simp only [List.length_cons, List.length_nil]; done) | (simp only [List.length_cons, List.length_nil]; with_unfolding_all rfl) | with_unfolding_all rfl))
  | ((with_reducible apply rin_t); (focus (walk_at "lk3")); (focus with_unfolding_all rfl))
  | ((with_reducible apply rnin_t); (focus (walk_at "lk3")); (focus with_unfolding_all rfl))
  | ((with_reducible apply rsl_t); (focus (walk_at "lk3")); (focus with_unfolding_all rfl); (focus first | (simp [cutV, HT.sIx]; done) | (simp [cutV, HT.sIx]; rfl)); intro _ _)
  | ((with_reducible apply rin_l); (focus (walk_at "lk3")))
  | ((with_reducible apply rnin_l); (focus (walk_at "lk3")))
  | ((with_reducible apply gtup_t); (focus (walk_at "lk3")); (focus with_unfolding_all rfl); walk_at "rdu3")
  | ((with_reducible apply alc); (focus decide); intro _ _)
  | ((with_reducible apply itenT))
  | ((with_reducible apply itenF))
  | ((with_reducible apply ited_sT); (focus first | rfl | assumption))
  | ((with_reducible apply ited_sF); (focus first | assumption | decide +kernel))
  | ((with_reducible apply itedn_sT); (focus first | assumption | decide +kernel))
  | ((with_reducible apply itedn_sF); (focus first | rfl | assumption))
  | ((with_reducible apply ited_mT); (focus first | assumption | decide +kernel))
  | ((with_reducible apply ited_mF); (focus first | assumption | decide +kernel))
  | ((with_reducible apply itedn_mT); (focus first | assumption | decide +kernel))
  | ((with_reducible apply itedn_mF); (focus first | assumption | decide +kernel))
  | ((with_reducible apply ited_s) <;> intro _)
  | ((with_reducible apply itedn_s) <;> intro _)
  | ((with_reducible apply ited_m) <;> intro _)
  | ((with_reducible apply itedn_m) <;> intro _)
  | ((with_reducible apply itedT); (focus first | assumption | omega))
  | ((with_reducible apply itedF); (focus first | assumption | omega))
  | ((with_reducible apply itednF); (focus first | assumption | omega))
  | ((with_reducible apply itednT); (focus first | assumption | omega))
  | ((with_reducible apply ited) <;> intro _)
  | ((with_reducible apply itedn) <;> intro _)
  | ((with_reducible apply itebn) <;> intro _)
  | ((with_reducible apply iteb) <;> intro _)
  | walk_at "rdu3"
  | contradiction)
local macro_rules | `(tactic| walk_at "rd3") => `(tactic| (try walk_at "rdu3"); repeat' walk_at "rd13")
/-- what each account has by the end -/
def sharesF (D : Dl) (how : Str) (part : Int) (sent : Option Str) : FI :=
  let F0 := putI (putI [] (kP D.buyer) 0) (kP D.seller) 0
  let F1 := match sent with
    | some c => putI F0 (kP c) (-(((movesM D how part).2.map (·.2)).sum))
    | none => F0
  let F3 := putI (putI F1 (kT D.land) 0) kF 0
  ((movesM D how part).1 ++ (movesM D how part).2).foldl addI F3
def sharesM (D : Dl) (how : Str) (part : Int) (sent : Option Str) : FI := nzI (sharesF D how part sent)
def Row.who : Row → Option Str
  | .sent _ w _ => some w
  | _ => none
def carrierOf (ps : List (Addr × Row)) : Option Str := (findK "sent" ps).bind fun p => p.2.who
def recOk (ps : List (Addr × Row)) : Bool := !ps.isEmpty && recB (ps.map (·.2))
def spShares (K : PySem.W.Frag) : Sp := fun vs H Q E => ∃ (l x : Addr) (ps : List (Addr × Row)) (W : Wd), vs = [.ref l, .ref x] ∧ RowsP H l ps ∧ (∀ p ∈ ps, p.2.good) ∧ ps.length ≤ 1000 ∧ sndOk (ps.map (·.2)) ∧ WorldAt K H x W ∧ W.good ∧
  (∀ p ∈ ps, ∀ d sl bu se by_ wr m pr t, p.2 = .made d sl bu se by_ wr m pr t → (lookS W.parties se).isSome = true ∧ ∃ land kind, lookS W.parties by_ = some land ∧ lookS W.wares wr = some kind) ∧
  ((recOk ps = false ∨ (∀ p, ps.getLast? = some p → p.2.isEnded = false) ∨ ¬ sentIn W ps ∨ (∃ p, ps[0]? = some p ∧ ∀ d sl bu se by_ wr m pr t land kind, p.2 = .made d sl bu se by_ wr m pr t → lookS W.parties by_ = some land → lookS W.wares wr = some kind → t ≠ m * pr * rateM W.dues land kind d / 10000)) → ∀ H', Same H H' → E (.ref (ga K "BadRecord")) none H') ∧
  (recOk ps = true → ∀ p0 pl d sl bu se by_ wr m pr t land kind d' how part back, ps[0]? = some p0 → p0.2 = .made d sl bu se by_ wr m pr t → lookS W.parties by_ = some land → lookS W.wares wr = some kind → t = m * pr * rateM W.dues land kind d / 10000 → ps.getLast? = some pl → pl.2 = .ended d' how part back → sentIn W ps →
    ∀ (p : Addr) (H' : Hp), Same H H' → H' p = some (.dT (toT (sharesM ⟨se, by_, land, m * pr, t, rateM W.dues land kind d, W.cut⟩ how part (carrierOf ps)))) → Q (.ref p) H')
theorem kind_ended {r : Row} (h : r.kind = "ended") : ∃ d h p b, r = .ended d h p b := by
  cases r with
  | ended a b c d => exact ⟨a, b, c, d, rfl⟩
  | comp a b => exact absurd (show ("complained" : Str) = "ended" from h) (by decide +kernel)
  | came a => exact absurd (show ("came" : Str) = "ended" from h) (by decide +kernel)
  | made a b c d e f g h' i => exact absurd (show ("made" : Str) = "ended" from h) (by decide +kernel)
  | sent a b c => exact absurd (show ("sent" : Str) = "ended" from h) (by decide +kernel)
  | said a b c => exact absurd (show ("said" : Str) = "ended" from h) (by decide +kernel)
theorem isEnded_kind {r : Row} (h : ¬ r.kind = "ended") : r.isEnded = false := by
  cases r with
  | ended a b c d => exact absurd rfl h
  | _ => rfl
theorem len2' (a b : List Str) (x y : Int) : (putI (putI [] a x) b y).length ≤ 10 := by
  have h1 := putI_len (putI [] a x) b y
  have h2 := putI_len [] a x
  have h3 : ([] : FI).length = 0 := rfl
  omega
theorem len3 (a b c : List Str) (x y z : Int) : (putI (putI (putI [] a x) b y) c z).length ≤ 10 := by
  have h1 := putI_len (putI (putI [] a x) b y) c z
  have h2 := putI_len (putI [] a x) b y
  have h3 := putI_len [] a x
  have h4 : ([] : FI).length = 0 := rfl
  omega
theorem moves_keys {D : Dl} {how : Str} {part : Int} {F1 : FI} (hh : how = "back" ∨ how = "lost" ∨ how = "sold" ∨ how = "judged") (h1 : (getI F1 (kP D.buyer)).isSome = true) (h2 : (getI F1 (kP D.seller)).isSome = true) :
    ∀ m ∈ (movesM D how part).1 ++ (movesM D how part).2, (getI (putI (putI F1 (kT D.land) 0) kF 0) m.1).isSome = true := by
  have k1 : (getI (putI (putI F1 (kT D.land) 0) kF 0) (kP D.buyer)).isSome = true := putI_keys (putI_keys h1)
  have k2 : (getI (putI (putI F1 (kT D.land) 0) kF 0) (kP D.seller)).isSome = true := putI_keys (putI_keys h2)
  have k3 : (getI (putI (putI F1 (kT D.land) 0) kF 0) (kT D.land)).isSome = true := putI_keys (putI_in _ _ _)
  have k4 : (getI (putI (putI F1 (kT D.land) 0) kF 0) kF).isSome = true := putI_in _ _ _
  intro m hm
  rcases hh with rfl | rfl | rfl | rfl
  · rw [movesM_back] at hm
    simp at hm
    rw [hm]
    exact k1
  · rw [movesM_lost] at hm
    simp at hm
    rcases hm with rfl | rfl
    · exact k1
    · exact k2
  · rw [movesM_sold] at hm
    simp at hm
    rcases hm with rfl | rfl | rfl
    · exact k4
    · exact k2
    · exact k3
  · rw [movesM_judged] at hm
    simp at hm
    rcases hm with rfl | rfl | rfl | rfl
    · exact k1
    · exact k4
    · exact k2
    · exact k3
theorem len2 (a b : List Str) (x y : Int) : (putI (putI [] a x) b y).length ≤ 1000 := by
  have h1 := putI_len (putI [] a x) b y
  have h2 := putI_len [] a x
  have h3 : ([] : FI).length = 0 := rfl
  omega
section
variable {P : Program} {w : World} {K : PySem.W.Frag} {mg : Str → Option Value} {base : Heap}
theorem f_shares (T : Tx w K mg) : Fok P w K mg base (L2.CX P w) "shares" ps_shares [] 7 (spShares K) := by
  obtain ⟨fd, F⟩ := T.d_shares
  have tc := T.c_Deal
  have t1 := T.n_Deal_seller
  have t2 := T.n_Deal_buyer
  have t3 := T.n_Deal_land
  have G_is_record := f_is_record (P := P) (base := base) T
  have G_row_of := f_row_of (P := P) (base := base) T
  have G_deal_of := f_deal_of (P := P) (base := base) T
  have G_moves_for := f_moves_for (P := P) (base := base) T
  refine fok F T.g_shares (fun _ _ _ _ _ _ us hl => match us, hl with | [_, _], _ => rfl) (F.ok sc_shares (fun vs H Q E h => ?_) (fun cdv A outer s H vs Q E hr h => ?_))
  · obtain ⟨l, x, ps, W, rfl, _⟩ := h
    rfl
  · refine ⟨_, (pss_cons (ps_if (PW.pt (pw_or (pt_not (pt_val (pe_fn G_is_record (hr.mono (by decide)) pass0 (pa_cons (pv 0) pa_nil)))) (pw_or1 (pt_cmpR op_ne (pe_ix (ix_tupK (K := K) (by rfl)) (pe_ix (ix_listK (K := K) (by rfl)) (pv 0) (pe_un un_neg pe_int) (fun _ _ => rfl)) pe_int (fun _ _ => rfl)) pe_str (nomark _))))) (pss_one (ps_raise rfl (takes_of rfl rfl rfl rfl) (pmk_own PySem.F.excBase_ValueError T.x_BadRecord T.g_BadRecord T.k_BadRecord (raises_own T.e_BadRecord T.t_BadRecord) (by exact rfl)))) pss_nil)
      (pss_cons (ps_set (i := 2) sc_shares.nd rfl (Or.inl rfl) (pe_fn G_deal_of (hr.mono (by decide)) pass0 (pa_cons (pv 0) (pa_cons (pv 1) pa_nil))))
      (pss_cons (ps_if (pt_cmpR op_isN (pv 2) pe_non (nomark _)) (pss_one (ps_raise rfl (takes_of rfl rfl rfl rfl) (pmk_own PySem.F.excBase_ValueError T.x_BadRecord T.g_BadRecord T.k_BadRecord (raises_own T.e_BadRecord T.t_BadRecord) (by exact rfl)))) pss_nil)
      (pss_cons (ps_asg (pe_tup (pa_cons (pe_fn G_row_of (hr.mono (by decide)) pass0 (pa_cons (pv 0) (pa_cons pe_str pa_nil))) (pa_cons (pe_slice (sl_tupK (K := K) (by rfl)) (pe_ix (ix_listK (K := K) (by rfl)) (pv 0) (pe_un un_neg pe_int) (fun _ _ => rfl)) (po_some pe_int) (po_some pe_int)) pa_nil))) (pg_tupK (K := K) (n := 2) (by rfl) (by rfl) (by rfl) (pgs_cons (pg_name (i := 3) sc_shares.nd rfl (Or.inl rfl)) (pgs_cons (pg_tupK (K := K) (n := 2) (by rfl) (by rfl) (by rfl) (pgs_cons (pg_name (i := 4) sc_shares.nd rfl (Or.inl rfl)) (pgs_cons (pg_name (i := 5) sc_shares.nd rfl (Or.inl rfl)) pgs_nil))) pgs_nil))))
      (pss_cons (ps_asg (pe_fn G_moves_for (hr.mono (by decide)) pass0 (pa_cons (pv 2) (pa_cons (pv 4) (pa_cons (pv 5) (pa_cons (pv 3) pa_nil))))) (pg_tupK (K := K) (n := 2) (by rfl) (by rfl) (by rfl) (pgs_cons (pg_name (i := 6) sc_shares.nd rfl (Or.inl rfl)) (pgs_cons (pg_name (i := 7) sc_shares.nd rfl (Or.inl rfl)) pgs_nil))))
      (pss_cons (ps_set (i := 8) sc_shares.nd rfl (Or.inl rfl) (pe_dispTK hr.units (pps_cons (pe_tup (pa_cons pe_str (pa_cons (pe_fldK (K := K) (by rfl) (pv 2) rfl) pa_nil))) pe_int (pps_cons (pe_tup (pa_cons pe_str (pa_cons (pe_fldK (K := K) (by rfl) (pv 2) rfl) pa_nil))) pe_int pps_nil)) (by rfl) (by rfl) (fun z => by cases z) (by decide)))
      (pss_cons (ps_if (pt_cmpR op_notN (pv 3) pe_non (nomark _)) (pss_one (ps_dputK (hu_of hr) (pv 8) (pe_tup (pa_cons pe_str (pa_cons (pe_ix (ix_tupK (K := K) (by rfl)) (pv 3) pe_int (fun _ _ => rfl)) pa_nil))) (pe_un un_neg (pe_callB (cr_sumK (K := K) (by rfl) rfl) (by rfl) T.b_sum bt_sum (pa_cons (pe_lc (own := [("account", 9), ("amount", 10), ("why", 11)])  (by rfl) sc_shares.nd (by exact (pi_listK (K := K) (by rfl) (pv 7))) (blkOk_by (own := [("account", 9), ("amount", 10), ("why", 11)]) (N := ns_shares) (sc := defScope s_shares) (by decide +kernel)) (fun _ _ _ _ _ => (pg_tupK (K := K) (n := 3) (by rfl) (by rfl) (by rfl) (pgs_cons (pg_name (i := 9) sc_shares.nd rfl (Or.inl rfl)) (pgs_cons (pg_name (i := 10) sc_shares.nd rfl (Or.inl rfl)) (pgs_cons (pg_name (i := 11) sc_shares.nd rfl (Or.inl rfl)) pgs_nil))))) (fun _ _ _ _ _ => pts_nil) (fun _ _ _ _ _ => (pv 10))) pa_nil))) rfl)) pss_nil)
      (pss_cons (ps_dputK (hu_of hr) (pv 8) (pe_tup (pa_cons pe_str (pa_cons (pe_fldK (K := K) (by rfl) (pv 2) rfl) pa_nil))) pe_int rfl)
      (pss_cons (ps_dputK (hu_of hr) (pv 8) (pe_tup (pa_cons pe_str pa_nil)) pe_int rfl)
      (pss_cons (ps_for (passes_of rfl) rfl (pi_listK (K := K) (by rfl) (pe_op op_cat (pv 6) (pv 7))) (pg_tupK (K := K) (n := 3) (by rfl) (by rfl) (by rfl) (pgs_cons (pg_name (i := 9) sc_shares.nd rfl (Or.inl rfl)) (pgs_cons (pg_name (i := 10) sc_shares.nd rfl (Or.inl rfl)) (pgs_cons (pg_name (i := 11) sc_shares.nd rfl (Or.inl rfl)) pgs_nil)))) (pss_one (ps_daugK (hu_of hr) (pv 8) (pv 9) (pv 10) in_add (fun _ _ _ => rfl))))
      (pss_one (ps_lock (ps_ret (pe_dcT (own := [("account", 9), ("amount", 10)]) hr.units (by rfl) sc_shares.nd (by exact (pi_itemsTK (pv 8))) (blkOk_by (own := [("account", 9), ("amount", 10)]) (N := ns_shares) (sc := defScope s_shares) (by decide +kernel)) (fun _ _ _ _ _ => (pg_tupK (K := K) (n := 2) (by rfl) (by rfl) (by rfl) (pgs_cons (pg_name (i := 9) sc_shares.nd rfl (Or.inl rfl)) (pgs_cons (pg_name (i := 10) sc_shares.nd rfl (Or.inl rfl)) pgs_nil)))) (fun _ _ _ _ _ => (pts_one (pt_cmpR op_ne (pv 10) pe_int (nomark _)))) (fun _ _ _ _ _ => (pv 9)) (fun _ _ _ _ _ => (pv 10)))))))))))))))), ?_⟩
    obtain ⟨l, x, ps, W, rfl, hl, hg, h1000, hs, hw, gd, hmade, qbad, qok⟩ := h
    walk_at "rd3"
    refine ⟨l, ps, rfl, hl, hg, hs, h1000, fun H1 s1 => ?_⟩
    walk_at "rd3"
    · rename_i e
      exact qbad (.inl e) _ s1
    · rename_i e
      have er : recOk ps = true := e
      have hne : ps ≠ [] := fun z => by rw [z] at e; cases e
      obtain ⟨pl, hpl⟩ : ∃ pl, ps.getLast? = some pl := ⟨ps.getLast hne, List.getLast?_eq_some_getLast hne⟩
      have hlm : pl ∈ ps := List.mem_of_getLast? hpl
      have hlb := hl.2 _ hlm
      refine rix_row (hl.same s1) (atI_last hpl) ?_
      walk_at "rd3"
      refine rix_kind (s1 _ _ hlb) ?_
      walk_at "rd3"
      · rename_i e2
        exact qbad (.inr (.inl fun p hp => by rw [hpl] at hp; cases hp; exact isEnded_kind e2)) _ s1
      · rename_i e2
        obtain ⟨d', how, part, back, epl⟩ := kind_ended e2
        have hgl := hg _ hlm
        rw [epl] at hlb hgl
        dsimp only [Row.vs] at hlb
        -- the first row
        have h0 : 0 < ps.length := List.length_pos_iff.mpr hne
        have hp0 : ps[0]? = some ps[0] := List.getElem?_eq_getElem h0
        have hmem0 : ps[0] ∈ ps := List.getElem_mem h0
        generalize ps[0] = p0 at hp0 hmem0
        have hst0 : standsB (ps.map (·.2)) 0 = true := by
          have e' : recB (ps.map (·.2)) = true := (Bool.and_eq_true_iff.mp e).2
          unfold recB at e'
          exact List.all_eq_true.mp e' 0 (List.mem_range.mpr (by rw [List.length_map]; exact h0))
        have hm0 : (ps.map (·.2))[0]? = some p0.2 := by rw [List.getElem?_map, hp0]; rfl
        obtain ⟨d, sl, bu, se, by_, wr, m, pr, t, er0⟩ : ∃ d s b x y z m p t, p0.2 = .made d s b x y z m p t := okMade_made (by
          unfold standsB at hst0
          rw [hm0] at hst0
          exact hst0)
        obtain ⟨v1, land, kind, v2, v3⟩ := hmade _ hmem0 _ _ _ _ _ _ _ _ _ er0
        refine ⟨l, x, ps, W, p0, d, sl, bu, se, by_, wr, m, pr, t, land, kind, rfl, hl.same s1, hg, h1000, hs, worldAt_same s1 hw, gd, hp0, er0, v1, v2, v3, fun ok a H2 s2 da => ?_, fun nok H2 s2 => ?_⟩
        · have s3 := s1.trans s2
          obtain ⟨dx, hda⟩ := id da
          have hm1 : 0 ≤ m * pr := by
            have g := hg _ hmem0
            rw [er0] at g
            obtain ⟨_, _, _, _, _, _, _, _, _, _, _, z1, _, z2, _⟩ := g
            exact Int.mul_nonneg (by omega) (by omega)
          have hm2 : m * pr ≤ 99 * 9999 := by
            have g := hg _ hmem0
            rw [er0] at g
            obtain ⟨_, _, _, _, _, _, _, _, _, _, _, z1, z2, z3, z4⟩ := g
            exact Int.mul_le_mul z2 z4 (by omega) (by omega)
          obtain ⟨rt1, rt2⟩ := rateM_bound gd.d2 land kind d
          obtain ⟨k1, k2⟩ := gd.k1
          obtain ⟨gl1, gl2, gl3, gl4, gl5⟩ := hgl
          have hh : how = "back" ∨ how = "lost" ∨ how = "sold" ∨ how = "judged" := by
            rcases gl5 with z | ⟨z, _⟩ | ⟨z, _⟩ | ⟨z, _⟩
            · exact .inr (.inr (.inr z))
            · exact .inl z
            · exact .inr (.inl z)
            · exact .inr (.inr (.inl z))
          walk_at "rd3"
          refine rowof_g (hl.same s3) hg h1000 (fun H3 p s4 f => ?_) (fun H3 s4 f => ?_)
          · obtain ⟨ds, w', ats, ep⟩ := kind_sent (findK_mem f).2
            have s5 := s3.trans s4
            have hsb := s5 _ _ (hl.2 _ (findK_mem f).1)
            rw [ep] at hsb
            dsimp only [Row.vs] at hsb
            have hda3 := s4 _ _ hda
            have hlb3 := s5 _ _ hlb
            have hco : carrierOf ps = some w' := by
              unfold carrierOf
              rw [f]
              show p.2.who = some w'
              rw [ep]
              rfl
            rw [hco] at qok
            walk_at "rd3"
            refine rix_row (hl.same s5) (atI_last hpl) ?_
            walk_at "rd3"
            rename_i q1 hq1 q2 hq2
            refine ⟨a, ⟨se, by_, land, m * pr, t, rateM W.dues land kind d, W.cut⟩, how, part, _, rfl, ⟨dx, keep (keep hda3 hq1) hq2⟩, hh, hm1, (by show m * pr ≤ 1000000; omega), rt1, rt2, k1, k2, gl3, gl4, fun H4 mp ma mb s6 hmp hma hmb => ?_⟩
            have s7 : Same H H4 := s5.trans ((grow hq1).trans ((grow hq2).trans s6))
            have hda4 := s6 _ _ (keep (keep hda3 hq1) hq2)
            have hsb4 := s6 _ _ (keep (keep hsb hq1) hq2)
            generalize hmm : movesM _ how part = mm at hma hmb
            have hlm1 : mm.1.length ≤ 4 ∧ mm.2.length ≤ 1 := by
              rw [← hmm]
              rcases hh with rfl | rfl | rfl | rfl
              · rw [movesM_back]; exact ⟨by simp, by simp⟩
              · rw [movesM_lost]; exact ⟨by simp, by simp⟩
              · rw [movesM_sold]; exact ⟨by simp, by simp⟩
              · rw [movesM_judged]; exact ⟨by simp, by simp⟩
            walk_at "rd3"
            intro fa hfa
            walk_at "rd3"
            refine rdisp2 (k1 := kP by_) (k2 := kP se) (v1 := 0) (v2 := 0) (by walk_at "lk3") (show _ = some (HO.tup [.str "party", .str by_]) by walk_at "lk3") (show _ = some (HO.tup [.str "party", .str se]) by walk_at "lk3") ?_
            rename_i a1 ha1 a2 ha2
            have s8 : Same H4 (upd (upd (upd H4 fa (.dT [])) a1 (.tup [.str "party", .str by_])) a2 (.tup [.str "party", .str se])) := (grow hfa).trans ((grow ha1).trans (grow ha2))
            have s9 := same_upd (o := .dT (toT (putI (putI [] (kP by_) 0) (kP se) 0))) s8 hfa
            clear ha1 ha2
            generalize hH5 : upd (upd (upd (upd H4 fa (.dT [])) a1 (.tup [.str "party", .str by_])) a2 (.tup [.str "party", .str se])) fa (.dT (toT (putI (putI [] (kP by_) 0) (kP se) 0))) = H5 at s9
            have hf5 : H5 fa = some (.dT (toT (putI (putI [] (kP by_) 0) (kP se) 0))) := by rw [← hH5, upd_same]
            clear hH5 s8
            have hda5 := s9 _ _ hda4
            have hsb5 := s9 _ _ hsb4
            have hmb5 := mvsAt_same s9 hmb
            obtain ⟨bs, hb1, hb2⟩ := hmb5
            walk_at "rd3"
            refine ⟨⟨_, SqL.of hb1⟩, fun D hD => ?_⟩
            refine lc_dataL (Rel := MvAt) (fun _ _ _ _ s h => mvAt_same s h) hD (SqL.of hb1) hb2 (by omega) (fun m => some (.int m.2)) (fun i b mv H6 R R0 hi s hrel h1 h0 => ?_) (fun H6 sA e6 => ?_)
            · obtain ⟨kb, why, hv1, hv2⟩ := hrel
              walk_at "rd3"
              exact h1 _ _ (Same.refl _) rfl
            · have e7 : mm.2.filterMap (fun m : Mv => some (V.int m.2)) = (mm.2.map (·.2)).map V.int := by
                clear hD hb1 hb2 hmm hmb hlm1 e6
                induction mm.2 with
                | nil => rfl
                | cons y ys ih => rw [List.filterMap_cons, ih]; rfl
              rw [e7] at e6
              refine ⟨D, _, rfl, SqL.of e6, ?_⟩
              have hf6 := sA _ _ hf5
              have hda6 := sA _ _ hda5
              have hsb6 := sA _ _ hsb5
              have s10 : Same H4 H6 := s9.trans sA
              walk_at "rd3"
              rename_i a3 ha3
              refine rdput_t (F := putI (putI [] (kP by_) 0) (kP se) 0) (k := kP w') (keep hf6 ha3) (show _ = some (HO.tup [.str "party", .str w']) from upd_same) (len2 _ _ _ _) ?_
              have hda7 := keep (u := .tup [.str "party", .str w']) hda6 ha3
              refine shares_tail (D := ⟨se, by_, land, m * pr, t, rateM W.dues land kind d, W.cut⟩) (F1 := putI (putI (putI [] (kP by_) 0) (kP se) 0) (kP w') (-(mm.2.map (·.2)).sum)) (mm := mm) tc t3 (same_upd (same_upd2 s10 ha3) hfa) hfa upd_same (len3 _ _ _ _ _ _) hda4 hma hmb hlm1 (by rw [← hmm]; exact moves_keys hh (putI_keys (putI_keys (putI_in _ _ _))) (putI_keys (putI_in _ _ _))) (putI_nodup (putI_nodup (putI_nodup (F := []) List.nodup_nil _ _) _ _) _ _) (fun pz Hz sz hz => qok er p0 pl d sl bu se by_ wr m pr t land kind d' how part back hp0 er0 v2 v3 ok.2 hpl epl ok.1 pz Hz (s7.trans sz) ?_)
              rw [hz]
              unfold sharesM sharesF
              rw [hmm]
          · have s5 := s3.trans s4
            have hda3 := s4 _ _ hda
            have hlb3 := s5 _ _ hlb
            have hco : carrierOf ps = none := by
              unfold carrierOf
              rw [f]
              rfl
            rw [hco] at qok
            walk_at "rd3"
            refine rix_row (hl.same s5) (atI_last hpl) ?_
            walk_at "rd3"
            rename_i q1 hq1 q2 hq2
            refine ⟨a, ⟨se, by_, land, m * pr, t, rateM W.dues land kind d, W.cut⟩, how, part, _, rfl, ⟨dx, keep (keep hda3 hq1) hq2⟩, hh, hm1, (by show m * pr ≤ 1000000; omega), rt1, rt2, k1, k2, gl3, gl4, fun H4 mp ma mb s6 hmp hma hmb => ?_⟩
            have s7 : Same H H4 := s5.trans ((grow hq1).trans ((grow hq2).trans s6))
            have hda4 := s6 _ _ (keep (keep hda3 hq1) hq2)
            generalize hmm : movesM _ how part = mm at hma hmb
            have hlm1 : mm.1.length ≤ 4 ∧ mm.2.length ≤ 1 := by
              rw [← hmm]
              rcases hh with rfl | rfl | rfl | rfl
              · rw [movesM_back]; exact ⟨by simp, by simp⟩
              · rw [movesM_lost]; exact ⟨by simp, by simp⟩
              · rw [movesM_sold]; exact ⟨by simp, by simp⟩
              · rw [movesM_judged]; exact ⟨by simp, by simp⟩
            walk_at "rd3"
            intro fa hfa
            walk_at "rd3"
            refine rdisp2 (k1 := kP by_) (k2 := kP se) (v1 := 0) (v2 := 0) (by walk_at "lk3") (show _ = some (HO.tup [.str "party", .str by_]) by walk_at "lk3") (show _ = some (HO.tup [.str "party", .str se]) by walk_at "lk3") ?_
            rename_i a1 ha1 a2 ha2
            have s8 : Same H4 (upd (upd (upd H4 fa (.dT [])) a1 (.tup [.str "party", .str by_])) a2 (.tup [.str "party", .str se])) := (grow hfa).trans ((grow ha1).trans (grow ha2))
            have s9 := same_upd (o := .dT (toT (putI (putI [] (kP by_) 0) (kP se) 0))) s8 hfa
            clear ha1 ha2
            generalize hH5 : upd (upd (upd (upd H4 fa (.dT [])) a1 (.tup [.str "party", .str by_])) a2 (.tup [.str "party", .str se])) fa (.dT (toT (putI (putI [] (kP by_) 0) (kP se) 0))) = H5 at s9
            have hf5 : H5 fa = some (.dT (toT (putI (putI [] (kP by_) 0) (kP se) 0))) := by rw [← hH5, upd_same]
            clear hH5 s8
            have hda5 := s9 _ _ hda4
            refine ⟨_, rfl, rfl, _, rfl, ?_⟩
            refine itednF rfl ?_
            refine shares_tail (D := ⟨se, by_, land, m * pr, t, rateM W.dues land kind d, W.cut⟩) (F1 := putI (putI [] (kP by_) 0) (kP se) 0) (mm := mm) tc t3 s9 hfa hf5 (len2' _ _ _ _) hda4 hma hmb hlm1 (by rw [← hmm]; exact moves_keys hh (putI_keys (putI_in _ _ _)) (putI_in _ _ _)) (putI_nodup (putI_nodup (F := []) List.nodup_nil _ _) _ _) (fun pz Hz sz hz => qok er p0 pl d sl bu se by_ wr m pr t land kind d' how part back hp0 er0 v2 v3 ok.2 hpl epl ok.1 pz Hz (s7.trans sz) ?_)
            rw [hz]
            unfold sharesM sharesF
            rw [hmm]
        · walk_at "rd3"
          refine qbad ?_ _ (s1.trans s2)
          by_cases hsi : sentIn W ps
          · refine .inr (.inr (.inr ⟨p0, hp0, fun d2 sl2 bu2 se2 by2 wr2 m2 pr2 t2 land2 kind2 e3 e4 e5 z => nok ⟨hsi, ?_⟩⟩))
            rw [er0] at e3
            cases e3
            rw [v2] at e4
            cases e4
            rw [v3] at e5
            cases e5
            exact z
          · exact .inr (.inr (.inl hsi))
end
end Mk
/-! Plain: the shares by the program's way and by the law's. -/
namespace Mk
open PySem PySem.Spec L2 He
/-- the law's own sums -/
def lawRest (D : Dl) (how : Str) (part : Int) : Int := D.whole - (if how = "judged" then D.whole * part / 100 else 0)
def lawDue (D : Dl) (how : Str) (part : Int) (sent : Str) : FI :=
  if how = "back" then [(kP D.buyer, D.whole + D.tax)]
  else if how = "lost" then [(kP D.buyer, D.whole + D.tax), (kP D.seller, D.whole), (kP sent, -D.whole)]
  else [(kP D.buyer, D.whole - lawRest D how part + D.tax - lawRest D how part * D.levy / 10000), (kP D.seller, lawRest D how part - lawRest D how part * D.fee / 10000), (kT D.land, lawRest D how part * D.levy / 10000), (kF, lawRest D how part * D.fee / 10000)]
theorem pt_ne : ¬ ("party" : Str) = "tax" := by decide +kernel
theorem kP_ne {a b : Str} (h : a ≠ b) : kP a ≠ kP b := fun e => h (by injection e with _ e; injection e)
theorem kP_kT (a b : Str) : kP a ≠ kT b := fun e => by
  injection e with e _
  exact absurd e (by decide +kernel)
theorem kP_kF (a : Str) : kP a ≠ kF := fun e => by
  injection e with e _
  exact absurd e (by decide +kernel)
theorem kT_kF (a : Str) : kT a ≠ kF := fun e => by
  injection e with e _
  exact absurd e (by decide +kernel)
theorem putI_hd (k : List Str) (v w : Int) (F : FI) (h : k ∉ F.map (·.1)) : putI ((k, v) :: F) k w = (k, w) :: F := by
  unfold putI
  rw [if_pos (by simp)]
  rw [List.map_cons, if_pos rfl]
  congr 1
  have e : ∀ p ∈ F, (if p.1 = k then (p.1, w) else p) = p := fun p hp => if_neg fun z => h (List.mem_map.mpr ⟨p, hp, z⟩)
  have e2 : F.map (fun p => if p.1 = k then (p.1, w) else p) = F.map id := List.map_congr_left e
  rw [e2, List.map_id]
theorem putI_tl (k k' : List Str) (v w : Int) (F : FI) (hne : k' ≠ k) : putI ((k', v) :: F) k w = (k', v) :: putI F k w := by
  unfold putI
  rw [List.any_cons, decide_eq_false hne, Bool.false_or]
  by_cases h : (F.any fun p => decide (p.1 = k)) = true
  · rw [if_pos h, if_pos h, List.map_cons, if_neg hne]
  · rw [if_neg h, if_neg h]
    rfl
theorem putI_nl (k : List Str) (w : Int) : putI [] k w = [(k, w)] := rfl
theorem getI_hd (k : List Str) (v : Int) (F : FI) : getI ((k, v) :: F) k = some v := by
  unfold getI
  rw [List.find?_cons, decide_eq_true rfl]
  rfl
theorem getI_tl (k k' : List Str) (v : Int) (F : FI) (hne : k' ≠ k) : getI ((k', v) :: F) k = getI F k := by
  unfold getI
  rw [List.find?_cons, decide_eq_false hne]
/-- the accounts, in their order -/
def five (D : Dl) (c : Option Str) (b s x t f : Int) : FI := match c with
  | some c => [(kP D.buyer, b), (kP D.seller, s), (kP c, x), (kT D.land, t), (kF, f)]
  | none => [(kP D.buyer, b), (kP D.seller, s), (kT D.land, t), (kF, f)]
section
variable {D : Dl} {c : Option Str} (hbs : D.buyer ≠ D.seller) (hc : ∀ z, c = some z → z ≠ D.buyer ∧ z ≠ D.seller) (b s x t f v : Int)
include hbs hc
theorem five_b : addI (five D c b s x t f) (kP D.buyer, v) = five D c (b + v) s x t f := by
  unfold addI
  cases c with
  | none =>
    simp only [five]
    rw [getI_hd, putI_hd _ _ _ _ (by simp [kP_ne hbs, pt_ne])]
    rfl
  | some z =>
    obtain ⟨h1, h2⟩ := hc z rfl
    simp only [five]
    rw [getI_hd, putI_hd _ _ _ _ (by simp [kP_ne hbs, kP_ne (Ne.symm h1), pt_ne])]
    rfl
theorem five_s : addI (five D c b s x t f) (kP D.seller, v) = five D c b (s + v) x t f := by
  unfold addI
  cases c with
  | none =>
    simp only [five]
    rw [getI_tl _ _ _ _ (kP_ne hbs), getI_hd, putI_tl _ _ _ _ _ (kP_ne hbs), putI_hd _ _ _ _ (by simp [pt_ne])]
    rfl
  | some z =>
    obtain ⟨h1, h2⟩ := hc z rfl
    simp only [five]
    rw [getI_tl _ _ _ _ (kP_ne hbs), getI_hd, putI_tl _ _ _ _ _ (kP_ne hbs), putI_hd _ _ _ _ (by simp [kP_ne (Ne.symm h2), pt_ne])]
    rfl
omit hbs hc in
theorem five_t : addI (five D c b s x t f) (kT D.land, v) = five D c b s x (t + v) f := by
  unfold addI
  cases c with
  | none =>
    simp only [five]
    rw [getI_tl _ _ _ _ (kP_kT _ _), getI_tl _ _ _ _ (kP_kT _ _), getI_hd, putI_tl _ _ _ _ _ (kP_kT _ _), putI_tl _ _ _ _ _ (kP_kT _ _), putI_hd _ _ _ _ (by simp [kT_kF])]
    rfl
  | some z =>
    simp only [five]
    rw [getI_tl _ _ _ _ (kP_kT _ _), getI_tl _ _ _ _ (kP_kT _ _), getI_tl _ _ _ _ (kP_kT _ _), getI_hd, putI_tl _ _ _ _ _ (kP_kT _ _), putI_tl _ _ _ _ _ (kP_kT _ _), putI_tl _ _ _ _ _ (kP_kT _ _), putI_hd _ _ _ _ (by simp [kT_kF])]
    rfl
omit hbs hc in
theorem five_f : addI (five D c b s x t f) (kF, v) = five D c b s x t (f + v) := by
  unfold addI
  cases c with
  | none =>
    simp only [five]
    rw [getI_tl _ _ _ _ (kP_kF _), getI_tl _ _ _ _ (kP_kF _), getI_tl _ _ _ _ (kT_kF _), getI_hd, putI_tl _ _ _ _ _ (kP_kF _), putI_tl _ _ _ _ _ (kP_kF _), putI_tl _ _ _ _ _ (kT_kF _), putI_hd _ _ _ _ (by simp)]
    rfl
  | some z =>
    simp only [five]
    rw [getI_tl _ _ _ _ (kP_kF _), getI_tl _ _ _ _ (kP_kF _), getI_tl _ _ _ _ (kP_kF _), getI_tl _ _ _ _ (kT_kF _), getI_hd, putI_tl _ _ _ _ _ (kP_kF _), putI_tl _ _ _ _ _ (kP_kF _), putI_tl _ _ _ _ _ (kP_kF _), putI_tl _ _ _ _ _ (kT_kF _), putI_hd _ _ _ _ (by simp)]
    rfl
theorem five_0 : putI (putI (match c with
    | some c => putI (putI (putI [] (kP D.buyer) 0) (kP D.seller) 0) (kP c) x
    | none => putI (putI [] (kP D.buyer) 0) (kP D.seller) 0) (kT D.land) 0) kF 0 = five D c 0 0 x 0 0 := by
  cases c with
  | none =>
    simp only [five]
    rw [putI_nl, putI_tl _ _ _ _ _ (kP_ne hbs), putI_nl, putI_tl _ _ _ _ _ (kP_kT _ _), putI_tl _ _ _ _ _ (kP_kT _ _), putI_nl, putI_tl _ _ _ _ _ (kP_kF _), putI_tl _ _ _ _ _ (kP_kF _), putI_tl _ _ _ _ _ (kT_kF _), putI_nl]
  | some z =>
    obtain ⟨h1, h2⟩ := hc z rfl
    simp only [five]
    rw [putI_nl, putI_tl _ _ _ _ _ (kP_ne hbs), putI_nl, putI_tl _ _ _ _ _ (kP_ne (Ne.symm h1)), putI_tl _ _ _ _ _ (kP_ne (Ne.symm h2)), putI_nl, putI_tl _ _ _ _ _ (kP_kT _ _), putI_tl _ _ _ _ _ (kP_kT _ _), putI_tl _ _ _ _ _ (kP_kT _ _), putI_nl,
      putI_tl _ _ _ _ _ (kP_kF _), putI_tl _ _ _ _ _ (kP_kF _), putI_tl _ _ _ _ _ (kP_kF _), putI_tl _ _ _ _ _ (kT_kF _), putI_nl]
end
theorem sharesF_five {D : Dl} {c : Option Str} (hbs : D.buyer ≠ D.seller) (hc : ∀ z, c = some z → z ≠ D.buyer ∧ z ≠ D.seller) (how : Str) (part : Int) :
    sharesF D how part c = ((movesM D how part).1 ++ (movesM D how part).2).foldl addI (five D c 0 0 (-(((movesM D how part).2.map (·.2)).sum)) 0 0) := by
  cases c with
  | none =>
    rw [← five_0 hbs hc]
    rfl
  | some z =>
    rw [← five_0 hbs hc]
    rfl
/-- the two ways meet -/
theorem shares_due {D : Dl} {c : Option Str} {how : Str} {part : Int} (hbs : D.buyer ≠ D.seller) (hc : ∀ z, c = some z → z ≠ D.buyer ∧ z ≠ D.seller) (hh : how = "back" ∨ (how = "lost" ∧ c ≠ none) ∨ (how = "sold" ∧ part = 0) ∨ how = "judged") (ht : D.tax = D.whole * D.levy / 10000) :
    sharesM D how part c = nzI (lawDue D how part (c.getD "")) := by
  unfold sharesM
  rw [sharesF_five hbs hc]
  rcases hh with rfl | ⟨rfl, hcn⟩ | ⟨rfl, rfl⟩ | rfl
  · rw [movesM_back]
    show nzI (addI (five D c 0 0 (-0) 0 0) (kP D.buyer, D.whole + D.tax)) = _
    rw [five_b hbs hc]
    cases c <;> simp [five, nzI, lawDue, List.filter_cons]
  · rw [movesM_lost]
    show nzI (addI (addI (five D c 0 0 (-(D.whole + 0)) 0 0) (kP D.buyer, D.whole + D.tax)) (kP D.seller, D.whole)) = _
    rw [five_b hbs hc, five_s hbs hc]
    have e1 : ¬ ("lost" : Str) = "back" := by decide +kernel
    cases c with
    | none => exact absurd rfl hcn
    | some z =>
      unfold lawDue
      rw [if_neg e1, if_pos rfl]
      simp [five, nzI, List.filter_cons]
  · rw [movesM_sold]
    show nzI (addI (addI (addI (five D c 0 0 (-0) 0 0) (kF, D.cut 0)) (kP D.seller, D.rest 0 - D.cut 0)) (kT D.land, D.tax)) = _
    rw [five_f, five_s hbs hc, five_t]
    have e1 : ¬ ("sold" : Str) = "back" := by decide +kernel
    have e2 : ¬ ("sold" : Str) = "lost" := by decide +kernel
    have e3 : ¬ ("sold" : Str) = "judged" := by decide +kernel
    have hr : lawRest D "sold" 0 = D.whole := by
      unfold lawRest
      rw [if_neg e3]
      omega
    have hr2 : D.rest 0 = D.whole := by
      unfold Dl.rest Dl.back
      simp
    unfold lawDue Dl.cut
    rw [if_neg e1, if_neg e2, hr, hr2, ← ht]
    have e4 : D.whole - D.whole + D.tax - D.tax = 0 := by omega
    rw [e4]
    cases c <;> simp [five, nzI, List.filter_cons]
  · rw [movesM_judged]
    show nzI (addI (addI (addI (addI (five D c 0 0 (-0) 0 0) (kP D.buyer, D.back part + D.tax - D.due part)) (kF, D.cut part)) (kP D.seller, D.rest part - D.cut part)) (kT D.land, D.due part)) = _
    rw [five_b hbs hc, five_f, five_s hbs hc, five_t]
    have e1 : ¬ ("judged" : Str) = "back" := by decide +kernel
    have e2 : ¬ ("judged" : Str) = "lost" := by decide +kernel
    have hr : lawRest D "judged" part = D.rest part := by
      unfold lawRest Dl.rest Dl.back
      rw [if_pos rfl]
    unfold lawDue
    rw [if_neg e1, if_neg e2, hr]
    have e4 : D.whole - D.rest part + D.tax - D.rest part * D.levy / 10000 = D.back part + D.tax - D.due part := by
      unfold Dl.due Dl.rest
      omega
    have e5 : D.rest part * D.fee / 10000 = D.cut part := rfl
    have e6 : D.rest part * D.levy / 10000 = D.due part := rfl
    rw [e4, e5, e6]
    cases c <;> simp [five, nzI, List.filter_cons]
end Mk
/-! the law's own: _law_draw, _law_cell_at, _law_digits, _law_take -/
namespace Mk
open PySem PySem.Spec L2 He
theorem tyl {K : PySem.W.Frag} {H : Hp} {a : Addr} {xs : List V} {B : Prop} (h : H a = some (.lst xs)) (b : B) : tyV K "list" (.ref a) H ∧ B := ⟨.inl ⟨rfl, xs, SqL.of h⟩, b⟩
theorem rapp_t {H : Hp} {Q : VK} {a : Addr} {xs : List V} {y : V} (h : H a = some (.lst xs)) (l : xs.length < sizeLine) (q : Q .non (upd H a (.lst (xs ++ [y])))) : rAppend (.ref a) [y] H Q := ⟨a, xs, y, rfl, rfl, h, l, q⟩
theorem rpop_t {H : Hp} {Q : VK} {a : Addr} {xs : List V} {x : V} (h : H a = some (.lst (x :: xs))) (q : Q x (upd H a (.lst xs))) : rPopAt (.ref a) [.int 0] H Q := by
  refine ⟨a, x :: xs, 0, 0, x, rfl, rfl, h, by decide, by decide, ?_, rfl, q⟩
  unfold seqIndex?
  simp
theorem rpow18 {H : Hp} {Q : VK} (q : Q (.int 1000000000000000000) H) : rI CPow (fun i j => .int (i ^ j.toNat)) (.int 10) (.int 18) H Q := ⟨10, 18, rfl, rfl, ⟨by decide, by decide, by decide⟩, q⟩
theorem rng_t {j : Int} {B : Prop} (h1 : -4611686018427387904 ≤ j) (h2 : j < 4611686018427387904) (b : B) : -(2 ^ 62) ≤ j ∧ j < 2 ^ 62 ∧ B := ⟨by omega, by omega, b⟩
local macro_rules | `(tactic| walk_at "rdu3") => `(tactic| dsimp only [tSeq, tNext, tRet, tRetN, tAsg, tDrop, tIfS, tOr, tAnd, tNot, tB, tTest, tCB, tCons, tNil, tVar, tC, tOp, tUn, tOrV, tAndV, tNotV, tIf, tChain, tCall, tTup, tLst, gName, L2.start, dl_map, dl_map0, dl_app, dl_app0, List.length_cons, List.length_nil, List.replicate, List.set, Nat.reduceAdd, Nat.reduceSub, tLc_eq, tFor_eq, sck_eq, dct_eq, tPar, gCons, gNil, iList, iTup, iRng1, iStr, wipe, tYes, tSl, tPart, tNoPart, tFld, tMeth, tMake, tFldK, sFldK, tDGetK, tDInK, tDNotInK, iItemsK, tLV, tLockE, tLock, tMakeK,  tDNewK, tPairs, tBM, tDispTK, iItemsTK, sDPutK, sDAugK])
local macro_rules | `(tactic| walk_at "lk3") => `(tactic| first | assumption | (with_reducible exact upd_same) | ((with_reducible apply keep); rotate_left; (focus assumption); walk_at "lk3") | ((with_reducible apply kp); (focus assumption); walk_at "lk3") | ((with_reducible apply keepI); rotate_left; (focus (walk_at "lk3")); (focus (intro _ _ _ e; cases e)); walk_at "lk3"))
local macro_rules | `(tactic| walk_at "lq3") => `(tactic| first | assumption | exact .inl (SqL.of (by walk_at "lk3")) | exact .inr (SqT.of (by walk_at "lk3")) | (refine sq2_same (grow (by assumption)) ?_; walk_at "lq3") | (refine sq2_same (by assumption) ?_; walk_at "lq3"))
local macro_rules | `(tactic| walk_at "sm3") => `(tactic| first | exact Same.refl _ | assumption | (refine same_upd2 ?_ (by assumption); walk_at "sm3") | (refine same_upd ?_ (by assumption); walk_at "sm3") | (refine Same.trans ?_ (by assumption); walk_at "sm3"))
local macro_rules | `(tactic| walk_at "rd13") => `(tactic| first
  | ((with_reducible apply rfld_t); (focus (walk_at "lk3")); (focus assumption); (focus assumption); (focus with_unfolding_all rfl))
  | ((with_reducible apply rsetf_t); (focus (walk_at "lk3")); (focus assumption); (focus assumption); (focus with_unfolding_all rfl); (focus (simp; done)); walk_at "rdu3")
  | ((with_reducible apply rlend_t); (focus (walk_at "lk3")))
  | ((with_reducible apply rlist_l); (focus (walk_at "lk3")); intro _ _)
  | ((with_reducible apply rdict_d); (focus (walk_at "lk3")); intro _ _)
  | ((with_reducible apply rdg_t); (focus (walk_at "lk3")); (focus first | assumption | with_unfolding_all rfl))
  | ((with_reducible apply rdi_some); (focus (walk_at "lk3")); (focus assumption))
  | ((with_reducible apply rdn_some); (focus (walk_at "lk3")); (focus assumption))
  | ((with_reducible apply rdi_t); (focus (walk_at "lk3")))
  | ((with_reducible apply rdn_t); (focus (walk_at "lk3")))
  | ((with_reducible apply rcat_t); (focus (walk_at "lk3")); (focus (walk_at "lk3")); (focus first | (refine line_ge ?_; simp; done) | (refine line_ge ?_; simp; omega)); intro _ _; walk_at "rdu3")
  | ((with_reducible apply rmeth_t); (focus (walk_at "lk3")); (focus with_unfolding_all rfl))
  | ((with_reducible apply rlv_t); (focus (walk_at "lk3")); intro _ _)
  | ((with_reducible apply rpow18))
  | ((with_reducible apply rng_t); (focus omega); (focus omega))
  | ((with_reducible apply tyl); (focus (walk_at "lk3")))
  | ((with_reducible apply rapp_t); (focus (walk_at "lk3")); (focus first | (refine Nat.lt_of_lt_of_le ?_ (line_ge (Nat.le_refl 16777216)); simp; omega) | (rw [sizeLine_eq]; simp; omega) | (rw [sizeLine_eq]; omega)); walk_at "rdu3")
  | ((with_reducible apply req_ss))
  | ((with_reducible apply req_ii))
  | ((with_reducible apply req_bb))
  | ((with_reducible apply rne_ss))
  | ((with_reducible apply rne_ii))
  | ((with_reducible apply cm_l); (focus omega); (focus omega))
  | ((with_reducible apply cm_r); (focus omega); (focus omega))
  | ((with_reducible apply cd_i); (focus omega); (focus omega))
  | ((with_reducible apply md_i); (focus omega))
  | ((with_reducible apply part1))
  | ((with_reducible apply num2))
  | ((with_reducible apply num3))
  | ((with_reducible apply name1); (focus first | assumption | decide +kernel); intro _ _)
  | ((with_reducible apply one_m); (focus (walk_at "lq3")))
  | ((with_reducible apply one_s); (focus (walk_at "lq3")); (focus with_unfolding_all rfl))
  | refine ⟨_, rfl, ?_⟩
  | refine ⟨_, _, rfl, rfl, ?_⟩
  | ((with_reducible apply gcons_t))
  | ((with_reducible apply gpar_t))
  | ((with_reducible apply gpar3_t))
  | refine ⟨rfl, ?_⟩
  | ((with_reducible apply iteT))
  | ((with_reducible apply iteF))
  | ((with_reducible apply ri_ii))
  | ((with_reducible apply ri_ib))
  | ((with_reducible apply ri_ss))
  | ((with_reducible apply ri_bb))
  | ((with_reducible apply ri_tt); (focus (walk_at "lk3")))
  | ((with_reducible apply ri_ll); (focus (walk_at "lk3")))
  | ((with_reducible apply ri_dd); (focus (walk_at "lk3")))
  | ((with_reducible apply rt_l); (focus (walk_at "lk3")); (focus (walk_at "lk3")))
  | ((with_reducible apply rt_t); (focus (walk_at "lk3")); (focus (walk_at "lk3")))
  | ((with_reducible apply rix_t); (focus (walk_at "lk3")); (focus with_unfolding_all rfl))
  | ((with_reducible apply rix_l); (focus (walk_at "lk3")); (focus with_unfolding_all rfl))
  | ((with_reducible apply rlen_t); (focus (walk_at "lk3")); (focus first | (simp only [List.length_cons, List.length_nil]; done) | (simp only [List.length_cons, List.length_nil]; with_unfolding_all rfl) | with_unfolding_all rfl))
  | ((with_reducible apply rlen_l); (focus (walk_at "lk3")); (focus first | (simp only [List.length_cons, List.length_nil]; done) | (simp only [List.length_cons, List.length_nil]; with_unfolding_all rfl) | with_unfolding_all rfl))
  | ((with_reducible apply rin_t); (focus (walk_at "lk3")); (focus with_unfolding_all rfl))
  | ((with_reducible apply rnin_t); (focus (walk_at "lk3")); (focus with_unfolding_all rfl))
  | ((with_reducible apply rsl_t); (focus (walk_at "lk3")); (focus with_unfolding_all rfl); (focus first | (simp [cutV, HT.sIx]; done) | (simp [cutV, HT.sIx]; rfl)); intro _ _)
  | ((with_reducible apply rin_l); (focus (walk_at "lk3")))
  | ((with_reducible apply rnin_l); (focus (walk_at "lk3")))
  | ((with_reducible apply gtup_t); (focus (walk_at "lk3")); (focus with_unfolding_all rfl); walk_at "rdu3")
  | ((with_reducible apply alc); (focus decide); intro _ _)
  | ((with_reducible apply itenT))
  | ((with_reducible apply itenF))
  | ((with_reducible apply ited_sT); (focus first | rfl | assumption))
  | ((with_reducible apply ited_sF); (focus first | assumption | decide +kernel))
  | ((with_reducible apply itedn_sT); (focus first | assumption | decide +kernel))
  | ((with_reducible apply itedn_sF); (focus first | rfl | assumption))
  | ((with_reducible apply ited_mT); (focus first | assumption | decide +kernel))
  | ((with_reducible apply ited_mF); (focus first | assumption | decide +kernel))
  | ((with_reducible apply itedn_mT); (focus first | assumption | decide +kernel))
  | ((with_reducible apply itedn_mF); (focus first | assumption | decide +kernel))
  | ((with_reducible apply ited_s) <;> intro _)
  | ((with_reducible apply itedn_s) <;> intro _)
  | ((with_reducible apply ited_m) <;> intro _)
  | ((with_reducible apply itedn_m) <;> intro _)
  | ((with_reducible apply itedT); (focus first | assumption | omega))
  | ((with_reducible apply itedF); (focus first | assumption | omega))
  | ((with_reducible apply itednF); (focus first | assumption | omega))
  | ((with_reducible apply itednT); (focus first | assumption | omega))
  | ((with_reducible apply ited) <;> intro _)
  | ((with_reducible apply itedn) <;> intro _)
  | ((with_reducible apply itebn) <;> intro _)
  | ((with_reducible apply iteb) <;> intro _)
  | walk_at "rdu3"
  | contradiction)
local macro_rules | `(tactic| walk_at "rd3") => `(tactic| (try walk_at "rdu3"); repeat' walk_at "rd13")
def spTake : Sp := fun vs H Q _ => ∃ (d : Addr) (n : Int), vs = [.ref d, .int n] ∧ 0 < n ∧ H d = some (DrawsO d) ∧ ∀ (k : Int) H', Same H H' → 0 ≤ k → k < n → Q (.int k) H'
def spDraw : Sp := fun vs H Q _ => ∃ c k n : Int, vs = [.int c, .int k, .int n] ∧ 0 ≤ k ∧ k ≤ 1000000 ∧ 0 < n ∧ ∀ (r : Int) H', Same H H' → 0 ≤ r → r < n → Q (.int r) H'
def spCell : Sp := fun vs H Q _ => ∃ (a : Addr) (ns : List Int) (k : Int), vs = [.ref a, .int k] ∧ H a = some (.lst (ns.map V.int)) ∧ 0 ≤ k ∧ k ≤ 1000 ∧ ∀ (r : Int) H', Same H H' → 0 ≤ r → Q (.int r) H'
theorem prime_at {j : Int} (h0 : 0 ≤ j) (h1 : j < 16) : ∃ v : Int, atI [V.int 1000003, V.int 1000033, V.int 1000037, V.int 1000039, V.int 1000081, V.int 1000099, V.int 1000117, V.int 1000121, V.int 1000133, V.int 1000151, V.int 1000159, V.int 1000171, V.int 1000183, V.int 1000187, V.int 1000193, V.int 1000199] j = some (.int v) ∧ 0 < v := by
  have h : j = 0 ∨ j = 1 ∨ j = 2 ∨ j = 3 ∨ j = 4 ∨ j = 5 ∨ j = 6 ∨ j = 7 ∨ j = 8 ∨ j = 9 ∨ j = 10 ∨ j = 11 ∨ j = 12 ∨ j = 13 ∨ j = 14 ∨ j = 15 := by omega
  rcases h with rfl | rfl | rfl | rfl | rfl | rfl | rfl | rfl | rfl | rfl | rfl | rfl | rfl | rfl | rfl | rfl
  all_goals exact ⟨_, rfl, by decide⟩
section
variable {P : Program} {w : World} {K : PySem.W.Frag} {mg : Str → Option Value} {base : Heap}
theorem f_take (T : Tx w K mg) : Fok P w K mg base CX0 "_law_take" ps__law_take [] 1 spTake := by
  obtain ⟨fd, F⟩ := T.d__law_take
  refine fok F T.g__law_take (fun _ _ _ _ _ _ us hl => match us, hl with | [_, _], _ => rfl) (F.ok sc__law_take (fun vs H Q E h => ?_) (fun cdv A outer s H vs Q E hr h => ?_))
  · obtain ⟨d, n, rfl, _⟩ := h
    rfl
  · refine ⟨_, PSs.nox (pss_one (ps_ret (pe_open (pe_ifExp (pt_cmpR (op_neDK (K := K) (by rfl) hr.units) (pv 0) (pe_lst pa_nil) (nomark _)) (pe_op op_mod (pe_bm PySem.F.plainAttrs_list PySem.F.slot_list_pop PySem.F.type_list_pop mt_popAt (pv 0) (pa_cons pe_int pa_nil)) (pv 1)) pe_int)))), ?_⟩
    obtain ⟨d, n, rfl, hn, hd, q⟩ := h
    walk_at "rdu3"
    refine ⟨d, hd, fun xs => ?_⟩
    have hdx : upd H d (.lst (xs.map V.int)) d = some (.lst (xs.map V.int)) := upd_same
    have back : ∀ H' : Hp, (∀ b o, H b = some o → b ≠ d → H' b = some o) → Same H (upd H' d (DrawsO d)) := fun H' h b o e => by
      by_cases hb : b = d
      · rw [hb, hd] at e
        rw [hb, upd_same]
        exact e
      · rw [upd_ne hb]
        exact h b o e hb
    have hsame : ∀ b o, H b = some o → b ≠ d → upd H d (.lst (xs.map V.int)) b = some o := fun b o e hb => by
      rw [upd_ne hb]
      exact e
    generalize upd H d (.lst (xs.map V.int)) = H1 at hdx hsame
    walk_at "rd3"
    rename_i p hp
    have np : d ≠ p := ne_of_none hdx hp
    refine rne_nil (keep hdx hp) (fun v hv => by obtain ⟨i, _, rfl⟩ := List.mem_map.mp hv; exact True.intro) upd_same ?_
    have hdp : upd H1 p (.lst []) d = some (.lst (xs.map V.int)) := keep hdx hp
    have hs2 : ∀ b o, H b = some o → b ≠ d → upd H1 p (.lst []) b = some o := fun b o e hb => keep (hsame b o e hb) hp
    generalize upd H1 p (.lst []) = H2 at hdp hs2
    cases xs with
    | nil =>
      walk_at "rd3"
      exact ⟨⟨[], hdp⟩, q 0 _ (back H2 hs2) (by omega) hn⟩
    | cons y ys =>
      rw [List.map_cons] at hdp
      walk_at "rd3"
      refine rpop_t hdp ?_
      walk_at "rd3"
      refine ⟨⟨ys, upd_same⟩, q _ _ ?_ (Int.emod_nonneg _ (by omega)) (Int.emod_lt_of_pos _ hn)⟩
      rw [upd_upd]
      exact back H2 hs2
theorem f_draw (T : Tx w K mg) : Fok P w K mg base CX0 "_law_draw" ps__law_draw [] 1 spDraw := by
  obtain ⟨fd, F⟩ := T.d__law_draw
  refine fok F T.g__law_draw (fun _ _ _ _ _ _ us hl => match us, hl with | [_, _, _], _ => rfl) (F.ok sc__law_draw (fun vs H Q E h => ?_) (fun cdv A outer s H vs Q E hr h => ?_))
  · obtain ⟨c, k, n, rfl, _⟩ := h
    rfl
  · refine ⟨_, PSs.nox (pss_cons (ps_set (i := 3) sc__law_draw.nd rfl (Or.inl rfl) (pe_tup (pa_cons pe_int (pa_cons pe_int (pa_cons pe_int (pa_cons pe_int (pa_cons pe_int (pa_cons pe_int (pa_cons pe_int (pa_cons pe_int (pa_cons pe_int (pa_cons pe_int (pa_cons pe_int (pa_cons pe_int (pa_cons pe_int (pa_cons pe_int (pa_cons pe_int (pa_cons pe_int pa_nil))))))))))))))))))
      (pss_one (ps_ret (pe_op op_mod (pe_op op_mod (pe_op op_add (pe_op op_mul (pv 0) pe_int) (pe_op op_mul (pv 1) pe_int)) (pe_ix (ix_tupK (K := K) (by rfl)) (pv 3) (pe_op op_mod (pv 1) pe_int) (fun _ _ => rfl))) (pv 2))))), ?_⟩
    obtain ⟨c, k, n, rfl, h1, h2, hn, q⟩ := h
    walk_at "rd3"
    rename_i p hp
    have hk : 0 ≤ k % 16 ∧ k % 16 < 16 := ⟨Int.emod_nonneg _ (by decide), Int.emod_lt_of_pos _ (by decide)⟩
    obtain ⟨v, e, hv⟩ := prime_at hk.1 hk.2
    refine rix_t upd_same e ?_
    walk_at "rd3"
    exact q _ _ (grow hp) (Int.emod_nonneg _ (by omega)) (Int.emod_lt_of_pos _ hn)
theorem f_cell_at (T : Tx w K mg) : Fok P w K mg base CX0 "_law_cell_at" ps__law_cell_at [] 2 spCell := by
  obtain ⟨fd, F⟩ := T.d__law_cell_at
  have G__law_draw := f_draw (P := P) (base := base) T
  refine fok F T.g__law_cell_at (fun _ _ _ _ _ _ us hl => match us, hl with | [_, _], _ => rfl) (F.ok sc__law_cell_at (fun vs H Q E h => ?_) (fun cdv A outer s H vs Q E hr h => ?_))
  · obtain ⟨a, ns, k, rfl, _⟩ := h
    rfl
  · refine ⟨_, PSs.nox (pss_cons (ps_if (pt_cmpR op_lt (pv 1) (pe_callB (call_lenA (K := K) (by rfl)) (by rfl) T.b_len bt_len (pa_cons (pv 0) pa_nil)) (nomark _)) (pss_one (ps_ret (pe_callB call_abs (by rfl) T.b_abs bt_abs (pa_cons (pe_ix (ix_listK (K := K) (by rfl)) (pv 0) (pv 1) (fun _ _ => rfl)) pa_nil)))) pss_nil)
      (pss_one (ps_ret (pe_fn G__law_draw (hr.mono (by decide)) pass0 (pa_cons (pe_op op_add (pe_callB call_abs (by rfl) T.b_abs bt_abs (pa_cons (pe_callB (cr_sumK (K := K) (by rfl) rfl) (by rfl) T.b_sum bt_sum (pa_cons (pv 0) pa_nil)) pa_nil)) (pe_op op_mul pe_int (pv 1))) (pa_cons (pv 1) (pa_cons pe_int pa_nil))))))), ?_⟩
    obtain ⟨a, ns, k, rfl, ha, h1, h2, q⟩ := h
    have hl : (ns.map V.int).length = ns.length := List.length_map _
    walk_at "rd3"
    · rename_i e
      have hk : k.toNat < ns.length := by omega
      have e1 : atI (ns.map V.int) k = some (.int ns[k.toNat]) := by
        have q1 : (ns.map V.int)[k.toNat]? = some (.int ns[k.toNat]) := by rw [List.getElem?_map, List.getElem?_eq_getElem hk]; rfl
        have q2 := atI_nat q1
        have q3 : ((k.toNat : Nat) : Int) = k := Int.toNat_of_nonneg h1
        rw [q3] at q2
        exact q2
      refine rix_l ha e1 ?_
      walk_at "rd3"
      refine q _ _ (Same.refl _) ?_
      split <;> omega
    · refine ⟨a, ns, rfl, SqL.of ha, ?_⟩
      walk_at "rd3"
      exact ⟨_, _, _, rfl, h1, by omega, by decide, fun r H' s g1 g2 => q _ _ s g1⟩
def spDigits : Sp := fun vs H Q _ => ∃ (a : Addr) (ns : List Int) (k : Int), vs = [.ref a, .int k, .int 90, .int 1000003] ∧ H a = some (.lst (ns.map V.int)) ∧ 0 ≤ k ∧ k ≤ 1000 ∧ ∀ (d : Addr) H', Same H H' → H' d = some (DrawsO d) → Q (.ref d) H'
theorem f_digits (T : Tx w K mg) : Fok P w K mg base CX0 "_law_digits" ps__law_digits [] 3 spDigits := by
  obtain ⟨fd, F⟩ := T.d__law_digits
  have G__law_draw := f_draw (P := P) (base := base) T
  have G__law_cell_at := f_cell_at (P := P) (base := base) T
  refine fok F T.g__law_digits (fun _ _ _ _ _ _ us hl => match us, hl with | [_, _, _, _], _ => rfl) (F.ok sc__law_digits (fun vs H Q E h => ?_) (fun cdv A outer s H vs Q E hr h => ?_))
  · obtain ⟨a, ns, k, rfl, _⟩ := h
    rfl
  · refine ⟨_, PSs.nox (pss_cons (ps_par (i := 4) (j := 5) (by rfl) sc__law_digits.nd rfl rfl (by decide) rfl rfl (pa_cons (pe_fn G__law_cell_at (hr.mono (by decide)) pass0 (pa_cons (pv 0) (pa_cons (pv 1) pa_nil))) (pa_cons (pe_lst pa_nil) pa_nil)) (by rfl))
      (pss_cons (ps_set (i := 6) sc__law_digits.nd rfl (Or.inl rfl) (pe_op op_sub (pv 4) (pe_op op_pow pe_int pe_int)))
      (pss_cons (ps_for PassesOwn.never rfl (pi_range1 (by rfl) T.b_range (pa_cons (pv 2) pa_nil)) (pg_name (i := 7) sc__law_digits.nd rfl (Or.inl rfl)) (pss_one (ps_if (pt_cmpR op_ge (pv 4) (pe_op op_pow pe_int pe_int) (nomark _)) (pss_cons (ps_expr (pe_bm PySem.F.plainAttrs_list PySem.F.slot_list_append PySem.F.type_list_append mt_append (pv 5) (pa_cons (pe_op op_mod (pv 6) (pv 3)) pa_nil)))
      (pss_one (ps_set (i := 6) sc__law_digits.nd rfl (Or.inl rfl) (pe_op op_fdiv (pv 6) (pv 3))))) (pss_cons (ps_set (i := 8) sc__law_digits.nd rfl (Or.inl rfl) (pe_fn G__law_draw (hr.mono (by decide)) pass0 (pa_cons (pe_op op_mul (pe_op op_add (pv 4) (pe_op op_mul pe_int (pv 7))) (pe_op op_add (pe_op op_add (pv 4) (pe_op op_mul pe_int (pv 7))) pe_int)) (pa_cons (pe_op op_add (pe_op op_mod (pv 7) pe_int) pe_int) (pa_cons pe_int pa_nil)))))
      (pss_cons (ps_set (i := 9) sc__law_digits.nd rfl (Or.inl rfl) (pe_fn G__law_draw (hr.mono (by decide)) pass0 (pa_cons (pe_op op_add (pe_op op_mul (pe_op op_add (pv 4) (pe_op op_mul pe_int (pv 7))) (pe_op op_add (pv 4) pe_int)) (pe_op op_mul pe_int (pv 7))) (pa_cons (pe_op op_add (pe_op op_mod (pv 7) pe_int) pe_int) (pa_cons pe_int pa_nil)))))
      (pss_one (ps_expr (pe_bm PySem.F.plainAttrs_list PySem.F.slot_list_append PySem.F.type_list_append mt_append (pv 5) (pa_cons (pe_op op_mod (pe_op op_add (pe_op op_mul (pv 8) pe_int) (pv 9)) (pv 3)) pa_nil)))))))))
      (pss_one (ps_ret (pe_close (pv 5))))))), ?_⟩
    obtain ⟨a, ns, k, rfl, ha, h1, h2, q⟩ := h
    walk_at "rd3"
    refine ⟨a, ns, k, rfl, ha, h1, h2, fun cell H1 s1 hc => ?_⟩
    walk_at "rd3"
    rename_i f hf
    have s2 : Same H1 (upd H1 f (.lst [])) := grow hf
    have s3 : Same H (upd H1 f (.lst [])) := s1.trans s2
    have hf0 : H f = none := Same.free s1 hf
    show FrG (Itr 0 90) _ _ _ _ _
    refine fr_it (walk_range (lo := 0) (n := 90)) (fun i σ H2 => Same H H2 ∧ (∃ xs : List Int, xs.length = i ∧ H2 f = some (.lst (xs.map V.int))) ∧ ∃ (left : Int) (b c d : Option V), σ = [some (.ref a), some (.int k), some (.int 90), some (.int 1000003), some (.int cell), some (.ref f), some (.int left), b, c, d])
      ⟨s3, ⟨[], rfl, upd_same⟩, _, none, none, none, rfl⟩ (fun _ _ _ _ _ => trivial) (fun i x σ H2 H3 hi p y => ?_) (fun σ H2 p => ?_)
    · obtain ⟨s4, ⟨xs, hx, hfx⟩, left, b, c, d, rfl⟩ := p
      obtain ⟨rfl, rfl⟩ := y
      have ez : (0 : Int) + (i : Nat) = (i : Int) := by omega
      have hxl : (xs.map V.int).length = i := by rw [List.length_map]; exact hx
      have fin : ∀ (H5 : Hp) (v : Int) (σ' : St), Same H H5 → H5 f = some (.lst (xs.map V.int)) → (∃ (left : Int) (b c d : Option V), σ' = [some (.ref a), some (.int k), some (.int 90), some (.int 1000003), some (.int cell), some (.ref f), some (.int left), b, c, d]) →
          (Same H (upd H5 f (.lst (xs.map V.int ++ [.int v]))) ∧ (∃ ys : List Int, ys.length = i + 1 ∧ upd H5 f (.lst (xs.map V.int ++ [.int v])) f = some (.lst (ys.map V.int))) ∧ ∃ (left : Int) (b c d : Option V), σ' = [some (.ref a), some (.int k), some (.int 90), some (.int 1000003), some (.int cell), some (.ref f), some (.int left), b, c, d]) := fun H5 v σ' s5 h5 hσ =>
        ⟨same_upd s5 hf0, ⟨xs ++ [v], by rw [List.length_append, hx]; rfl, by rw [upd_same, List.map_append]; rfl⟩, hσ⟩
      walk_at "rd3"
      · exact fin _ _ _ s4 hfx ⟨_, _, _, _, rfl⟩
      · refine ⟨_, _, _, rfl, by omega, by omega, by decide, fun r1 H5 s5 g1 g2 => ?_⟩
        have hf5 := s5 _ _ hfx
        walk_at "rd3"
        refine ⟨_, _, _, rfl, by omega, by omega, by decide, fun r2 H6 s6 g3 g4 => ?_⟩
        have hf6 := s6 _ _ hf5
        walk_at "rd3"
        exact fin _ _ _ (s4.trans (s5.trans s6)) hf6 ⟨_, _, _, _, rfl⟩
    · obtain ⟨s4, ⟨xs, hx, hfx⟩, left, b, c, d, rfl⟩ := p
      walk_at "rd3"
      refine ⟨f, xs, rfl, hfx, q _ _ (same_upd s4 hf0) upd_same⟩
end
end Mk
/-! the law's own: _law_follows, _law_can_be -/
namespace Mk
open PySem PySem.Spec L2 He
/-- the display of a dict with text keys -/
def rDispK (p : Addr) (ps : List (V × V)) (H2 : Hp) (Q : VK) : Prop := H2 p = some (.dK []) ∧ ∃ kvs : List (L2.Key × V), ps = kvs.map (fun kv => (kV kv.1, kv.2)) ∧ kvs.length ≤ 15 ∧ Q (.ref p) (upd H2 p (.dK (mergeK [] kvs)))
def tDispKK (trs : List (TE × TE)) : TE := fun σ H Q => ∀ p, H p = none → tPairs trs σ (upd H p (.dK [])) fun ps H2 => rDispK p ps H2 Q
theorem pe_dispKK {X : Cx} {pos : Pos} {keys : List (Option Expr)} {values : List Expr} {trs : List (TE × TE)} (h : PPs X pos keys values trs) (hall : keys.all (·.isSome) = true) (hl : keys.length = values.length) (h0 : keys ≠ [])
    (h15 : keys.length ≤ 15) : PE X (.Dict keys values pos) (tDispKK trs) := pe_disp h hall hl h0 h15
theorem rdispk_made {H : Hp} {Q : VK} {p : Addr} {v1 v2 v3 : V} (h : H p = some (.dK [])) (q : Q (.ref p) (upd H p (.dK [(.inr "made", v1), (.inr "sent", v2), (.inr "came", v3)]))) : rDispK p [(V.str "made", v1), (V.str "sent", v2), (V.str "came", v3)] H Q :=
  ⟨h, [(.inr "made", v1), (.inr "sent", v2), (.inr "came", v3)], rfl, by simp, q⟩
theorem rdput_k {a : Addr} {kvs kvs' : List (L2.Key × V)} {z : Str} {v : V} {H : Hp} {R : Hp → Prop} (h : H a = some (.dK kvs)) (e : putK kvs (.inr z) v = kvs') (hl : kvs.length < 100) (q : R (upd H a (.dK kvs'))) : rDPut v (.str z) (.ref a) H R :=
  ⟨a, _, rfl, DPut.k (k := .inr z) h (by rw [sizeLine_eq]; omega), by rw [e]; exact q⟩
/-- the dict of ways, with k of its later lists in place -/
def Ways (n : Nat) (H : Hp) (d : Addr) : Prop := ∃ p1 p2 p3 p4 : Addr, H d = some (.dK ([(.inr "made", .ref p1), (.inr "sent", .ref p2), (.inr "came", .ref p3)] ++ ([(.inr "complained", .ref p4), (.inr "said", .ref p4)] : List (L2.Key × V)).take n))
  ∧ H p1 = some (.lst [.str "sent", .str "back"]) ∧ H p2 = some (.lst [.str "came", .str "lost"]) ∧ H p3 = some (.lst [.str "complained", .str "sold"])
def Ways5 (H : Hp) (d : Addr) : Prop := ∃ p1 p2 p3 p4 p5 : Addr, H d = some (.dK [(.inr "made", .ref p1), (.inr "sent", .ref p2), (.inr "came", .ref p3), (.inr "complained", .ref p4), (.inr "said", .ref p5)])
  ∧ H p1 = some (.lst [.str "sent", .str "back"]) ∧ H p2 = some (.lst [.str "came", .str "lost"]) ∧ H p3 = some (.lst [.str "complained", .str "sold"]) ∧ H p4 = some (.lst [.str "said", .str "judged"]) ∧ H p5 = some (.lst [.str "said", .str "judged"])
theorem put_two {H : Hp} {d p : Addr} {o u u' : HO} (h : H d = some o) (hp : H p = none) : ∀ a v, H a = some v → a ≠ d → upd (upd H p u) d u' a = some v := fun a v ha n => by
  rw [upd_ne n]
  exact keep ha hp
theorem ways_disp {H : Hp} {Q : VK} (h : ∀ d p1 p2 p3 H', Same H H' → H' d = some (.dK [(.inr "made", .ref p1), (.inr "sent", .ref p2), (.inr "came", .ref p3)]) → H' p1 = some (.lst [.str "sent", .str "back"]) → H' p2 = some (.lst [.str "came", .str "lost"]) →
    H' p3 = some (.lst [.str "complained", .str "sold"]) → d ≠ p1 → d ≠ p2 → d ≠ p3 → H d = none → Q (.ref d) H') :
    ∀ p, H p = none → 2 ≤ sizeLine ∧ ∀ p1, upd H p (.dK []) p1 = none → 2 ≤ sizeLine ∧ ∀ p2, upd (upd H p (.dK [])) p1 (.lst [.str "sent", .str "back"]) p2 = none → 2 ≤ sizeLine ∧ ∀ p3, upd (upd (upd H p (.dK [])) p1 (.lst [.str "sent", .str "back"])) p2 (.lst [.str "came", .str "lost"]) p3 = none →
      rDispK p [(.str "made", .ref p1), (.str "sent", .ref p2), (.str "came", .ref p3)] (upd (upd (upd (upd H p (.dK [])) p1 (.lst [.str "sent", .str "back"])) p2 (.lst [.str "came", .str "lost"])) p3 (.lst [.str "complained", .str "sold"])) Q := by
  intro p hp
  have s2 : 2 ≤ sizeLine := by rw [sizeLine_eq]; omega
  refine ⟨s2, fun p1 h1 => ⟨s2, fun p2 h2 => ⟨s2, fun p3 h3 => ?_⟩⟩⟩
  have hd0 : upd H p (.dK []) p = some (.dK []) := upd_same
  have hS : ∀ a o, H a = some o → upd H p (.dK []) a = some o ∧ a ≠ p := fun a o e => ⟨keep e hp, ne_of_none e hp⟩
  generalize upd H p (.dK []) = H0 at *
  have n1 := ne_of_none hd0 h1
  have n2 : p ≠ p2 := ne_of_none (keep hd0 h1) h2
  have n3 : p ≠ p3 := ne_of_none (keep (keep hd0 h1) h2) h3
  refine rdispk_made (keep (keep (keep hd0 h1) h2) h3) (h p p1 p2 p3 _ (fun a o e => ?_) upd_same ?_ ?_ ?_ n1 n2 n3 hp)
  · rw [upd_ne (hS a o e).2]
    exact keep (keep (keep (hS a o e).1 h1) h2) h3
  · rw [upd_ne (Ne.symm n1)]
    exact keep (keep upd_same h2) h3
  · rw [upd_ne (Ne.symm n2)]
    exact keep upd_same h3
  · rw [upd_ne (Ne.symm n3)]
    exact upd_same
theorem ways_put {H0 H1 : Hp} {R : Hp → Prop} {d p : Addr} {z : Str} {u : HO} {v : V} {kvs kvs' : List (L2.Key × V)} (hs : Same H0 H1) (nd : H0 d = none) (hd : H1 d = some (.dK kvs)) (hp : H1 p = none) (e : putK kvs (.inr z) v = kvs') (hl : kvs.length < 100)
    (q : ∀ H', Same H0 H' → H' d = some (.dK kvs') → (∀ a o, H1 a = some o → a ≠ d → H' a = some o) → H' p = some u → d ≠ p → R H') : rDPut v (.str z) (.ref d) (upd H1 p u) R := by
  have n := ne_of_none hd hp
  have k := put_two (u := u) (u' := .dK kvs') hd hp
  refine rdput_k (keep hd hp) e hl (q _ (fun a o h => k a o (hs a o h) (fun z => ?_)) upd_same k ?_ n)
  · rw [z, nd] at h
    cases h
  · rw [upd_ne (Ne.symm n)]
    exact upd_same
theorem fol_in {b r : Row} {i j : Int} {z : Str} {ss : List Str} (e : b.isEnded = false) (h : decide (z ∈ ss) = true) (hz : z = r.word := by rfl) (hs : ss = b.behind := by rfl) (hi : i = b.day := by rfl) (hj : j = r.day := by rfl) : decide (i ≤ j) = goesB b r := by
  subst hz hs hi hj
  unfold goesB
  rw [e, h, Bool.and_true]
  rfl
theorem fol_out {b r : Row} {z : Str} {ss : List Str} (h : ¬ decide (z ∈ ss) = true) (hz : z = r.word := by rfl) (hs : ss = b.behind := by rfl) : false = goesB b r := by
  subst hz hs
  unfold goesB
  rw [Bool.eq_false_iff.mpr h, Bool.and_false, Bool.and_false]
def spFollows : Sp := fun vs H Q _ => ∃ (x y : Addr) (b r : Row), vs = [.ref x, .ref y] ∧ H x = some (.tup b.vs) ∧ H y = some (.tup r.vs) ∧ ∀ H', Same H H' → Q (.bl (goesB b r)) H'
local macro_rules | `(tactic| walk_at "rdu3") => `(tactic| dsimp only [tSeq, tNext, tRet, tRetN, tAsg, tDrop, tIfS, tOr, tAnd, tNot, tB, tTest, tCB, tCons, tNil, tVar, tC, tOp, tUn, tOrV, tAndV, tNotV, tIf, tChain, tCall, tTup, tLst, gName, L2.start, dl_map, dl_map0, dl_app, dl_app0, List.length_cons, List.length_nil, List.replicate, List.set, Nat.reduceAdd, Nat.reduceSub, tLc_eq, tFor_eq, sck_eq, dct_eq, tPar, gCons, gNil, iList, iTup, iRng1, iStr, wipe, tYes, tSl, tPart, tNoPart, tFld, tMeth, tMake, tFldK, sFldK, tDGetK, tDInK, tDNotInK, iItemsK, tLV, tLockE, tLock, tMakeK,  tDNewK, tPairs, tBM, tDispTK, iItemsTK, sDPutK, sDAugK])
local macro_rules | `(tactic| walk_at "lk3") => `(tactic| first | assumption | (with_reducible exact upd_same) | ((with_reducible apply keep); rotate_left; (focus assumption); walk_at "lk3") | ((with_reducible apply kp); (focus assumption); walk_at "lk3") | ((with_reducible apply keepI); rotate_left; (focus (walk_at "lk3")); (focus (intro _ _ _ e; cases e)); walk_at "lk3"))
local macro_rules | `(tactic| walk_at "lq3") => `(tactic| first | assumption | exact .inl (SqL.of (by walk_at "lk3")) | exact .inr (SqT.of (by walk_at "lk3")) | (refine sq2_same (grow (by assumption)) ?_; walk_at "lq3") | (refine sq2_same (by assumption) ?_; walk_at "lq3"))
local macro_rules | `(tactic| walk_at "sm3") => `(tactic| first | exact Same.refl _ | assumption | (refine same_upd2 ?_ (by assumption); walk_at "sm3") | (refine same_upd ?_ (by assumption); walk_at "sm3") | (refine Same.trans ?_ (by assumption); walk_at "sm3"))
local macro_rules | `(tactic| walk_at "rd13") => `(tactic| first
  | ((with_reducible apply rfld_t); (focus (walk_at "lk3")); (focus assumption); (focus assumption); (focus with_unfolding_all rfl))
  | ((with_reducible apply rsetf_t); (focus (walk_at "lk3")); (focus assumption); (focus assumption); (focus with_unfolding_all rfl); (focus (simp; done)); walk_at "rdu3")
  | ((with_reducible apply rlend_t); (focus (walk_at "lk3")))
  | ((with_reducible apply rlist_l); (focus (walk_at "lk3")); intro _ _)
  | ((with_reducible apply rdict_d); (focus (walk_at "lk3")); intro _ _)
  | ((with_reducible apply rdg_t); (focus (walk_at "lk3")); (focus first | assumption | with_unfolding_all rfl))
  | ((with_reducible apply rdi_some); (focus (walk_at "lk3")); (focus assumption))
  | ((with_reducible apply rdn_some); (focus (walk_at "lk3")); (focus assumption))
  | ((with_reducible apply rdi_t); (focus (walk_at "lk3")))
  | ((with_reducible apply rdn_t); (focus (walk_at "lk3")))
  | ((with_reducible apply rcat_t); (focus (walk_at "lk3")); (focus (walk_at "lk3")); (focus first | (refine line_ge ?_; simp; done) | (refine line_ge ?_; simp; omega)); intro _ _; walk_at "rdu3")
  | ((with_reducible apply rmeth_t); (focus (walk_at "lk3")); (focus with_unfolding_all rfl))
  | ((with_reducible apply rlv_t); (focus (walk_at "lk3")); intro _ _)
  | ((with_reducible apply rpow18))
  | ((with_reducible apply rng_t); (focus omega); (focus omega))
  | ((with_reducible apply tyl); (focus (walk_at "lk3")))
  | ((with_reducible apply rapp_t); (focus (walk_at "lk3")); (focus first | (refine Nat.lt_of_lt_of_le ?_ (line_ge (Nat.le_refl 16777216)); simp; omega) | (rw [sizeLine_eq]; simp; omega) | (rw [sizeLine_eq]; omega)); walk_at "rdu3")
  | ((with_reducible apply req_ss))
  | ((with_reducible apply req_ii))
  | ((with_reducible apply req_bb))
  | ((with_reducible apply rne_ss))
  | ((with_reducible apply rne_ii))
  | ((with_reducible apply cm_l); (focus omega); (focus omega))
  | ((with_reducible apply cm_r); (focus omega); (focus omega))
  | ((with_reducible apply cd_i); (focus omega); (focus omega))
  | ((with_reducible apply md_i); (focus omega))
  | ((with_reducible apply part1))
  | ((with_reducible apply num2))
  | ((with_reducible apply num3))
  | ((with_reducible apply name1); (focus first | assumption | decide +kernel); intro _ _)
  | ((with_reducible apply one_m); (focus (walk_at "lq3")))
  | ((with_reducible apply one_s); (focus (walk_at "lq3")); (focus with_unfolding_all rfl))
  | refine ⟨_, rfl, ?_⟩
  | refine ⟨_, _, rfl, rfl, ?_⟩
  | ((with_reducible apply gcons_t))
  | ((with_reducible apply gpar_t))
  | ((with_reducible apply gpar3_t))
  | refine ⟨rfl, ?_⟩
  | ((with_reducible apply iteT))
  | ((with_reducible apply iteF))
  | ((with_reducible apply ri_ii))
  | ((with_reducible apply ri_ib))
  | ((with_reducible apply ri_ss))
  | ((with_reducible apply ri_bb))
  | ((with_reducible apply ri_tt); (focus (walk_at "lk3")))
  | ((with_reducible apply ri_ll); (focus (walk_at "lk3")))
  | ((with_reducible apply ri_dd); (focus (walk_at "lk3")))
  | ((with_reducible apply rt_l); (focus (walk_at "lk3")); (focus (walk_at "lk3")))
  | ((with_reducible apply rt_t); (focus (walk_at "lk3")); (focus (walk_at "lk3")))
  | ((with_reducible apply rix_t); (focus (walk_at "lk3")); (focus with_unfolding_all rfl))
  | ((with_reducible apply rix_l); (focus (walk_at "lk3")); (focus with_unfolding_all rfl))
  | ((with_reducible apply rlen_t); (focus (walk_at "lk3")); (focus first | (simp only [List.length_cons, List.length_nil]; done) | (simp only [List.length_cons, List.length_nil]; with_unfolding_all rfl) | with_unfolding_all rfl))
  | ((with_reducible apply rlen_l); (focus (walk_at "lk3")); (focus first | (simp only [List.length_cons, List.length_nil]; done) | (simp only [List.length_cons, List.length_nil]; with_unfolding_all rfl) | with_unfolding_all rfl))
  | ((with_reducible apply rin_t); (focus (walk_at "lk3")); (focus with_unfolding_all rfl))
  | ((with_reducible apply rnin_t); (focus (walk_at "lk3")); (focus with_unfolding_all rfl))
  | ((with_reducible apply rsl_t); (focus (walk_at "lk3")); (focus with_unfolding_all rfl); (focus first | (simp [cutV, HT.sIx]; done) | (simp [cutV, HT.sIx]; rfl)); intro _ _)
  | ((with_reducible apply rin_l); (focus (walk_at "lk3")))
  | ((with_reducible apply rnin_l); (focus (walk_at "lk3")))
  | ((with_reducible apply gtup_t); (focus (walk_at "lk3")); (focus with_unfolding_all rfl); walk_at "rdu3")
  | ((with_reducible apply alc); (focus decide); intro _ _)
  | ((with_reducible apply itenT))
  | ((with_reducible apply itenF))
  | ((with_reducible apply ited_sT); (focus first | rfl | assumption))
  | ((with_reducible apply ited_sF); (focus first | assumption | decide +kernel))
  | ((with_reducible apply itedn_sT); (focus first | assumption | decide +kernel))
  | ((with_reducible apply itedn_sF); (focus first | rfl | assumption))
  | ((with_reducible apply ited_mT); (focus first | assumption | decide +kernel))
  | ((with_reducible apply ited_mF); (focus first | assumption | decide +kernel))
  | ((with_reducible apply itedn_mT); (focus first | assumption | decide +kernel))
  | ((with_reducible apply itedn_mF); (focus first | assumption | decide +kernel))
  | ((with_reducible apply ited_s) <;> intro _)
  | ((with_reducible apply itedn_s) <;> intro _)
  | ((with_reducible apply ited_m) <;> intro _)
  | ((with_reducible apply itedn_m) <;> intro _)
  | ((with_reducible apply itedT); (focus first | assumption | omega))
  | ((with_reducible apply itedF); (focus first | assumption | omega))
  | ((with_reducible apply itednF); (focus first | assumption | omega))
  | ((with_reducible apply itednT); (focus first | assumption | omega))
  | ((with_reducible apply ited) <;> intro _)
  | ((with_reducible apply itedn) <;> intro _)
  | ((with_reducible apply itebn) <;> intro _)
  | ((with_reducible apply iteb) <;> intro _)
  | walk_at "rdu3"
  | contradiction)
local macro_rules | `(tactic| walk_at "rd3") => `(tactic| (try walk_at "rdu3"); repeat' walk_at "rd13")
theorem seq_i {a b : TS} {D : Ends} {σ : L2.St} {H : Hp} (h : a { D with nx := fun σ H => b D σ H } σ H) : tSeq a b D σ H := h
theorem word_s {K : PySem.W.Frag} {y : Addr} {r : Row} {H : Hp} {D : Ends} {x0 x2 x3 : Option V} (hy : H y = some (.tup r.vs)) (k : D.nx [x0, some (.ref y), some (.str r.word), x3] H) :
    (tAsg (tIf (tTest (tOp rEq (tOp (rIxT K) (tVar 1) (tC (V.int 0))) (tC (V.str (Str.ofString "ended"))))) (tOp (rIxT K) (tVar 1) (tC (V.int 2))) (tOp (rIxT K) (tVar 1) (tC (V.int 0)))) (gName 2)) D [x0, some (.ref y), x2, x3] H := by
  cases r
  all_goals
    dsimp only [Row.vs] at hy
    walk_at "rd3"
    exact k
section
variable {P : Program} {w : World} {K : PySem.W.Frag} {mg : Str → Option Value} {base : Heap}
theorem f_follows (T : Tx w K mg) : Fok P w K mg base CX0 "_law_follows" ps__law_follows [] 1 spFollows := by
  obtain ⟨fd, F⟩ := T.d__law_follows
  refine fok F T.g__law_follows (fun _ _ _ _ _ _ us hl => match us, hl with | [_, _], _ => rfl) (F.ok sc__law_follows (fun vs H Q E h => ?_) (fun cdv A outer s H vs Q E hr h => ?_))
  · obtain ⟨x, y, b, r, rfl, _⟩ := h
    rfl
  · refine ⟨_, PSs.nox (pss_cons (ps_set (i := 2) sc__law_follows.nd rfl (Or.inl rfl) (pe_ifExp (pt_cmpR op_eq (pe_ix (ix_tupK (K := K) (by rfl)) (pv 1) pe_int (fun _ _ => rfl)) pe_str (nomark _)) (pe_ix (ix_tupK (K := K) (by rfl)) (pv 1) pe_int (fun _ _ => rfl)) (pe_ix (ix_tupK (K := K) (by rfl)) (pv 1) pe_int (fun _ _ => rfl))))
      (pss_cons (ps_set (i := 3) sc__law_follows.nd rfl (Or.inl rfl) (pe_dispKK (pps_cons pe_str (pe_lst (pa_cons pe_str (pa_cons pe_str pa_nil))) (pps_cons pe_str (pe_lst (pa_cons pe_str (pa_cons pe_str pa_nil))) (pps_cons pe_str (pe_lst (pa_cons pe_str (pa_cons pe_str pa_nil))) pps_nil))) (by rfl) (by rfl) (fun z => by cases z) (by decide)))
      (pss_cons (ps_dputK (hu_of hr) (pv 3) pe_str (pe_lst (pa_cons pe_str (pa_cons pe_str pa_nil))) rfl)
      (pss_cons (ps_dputK (hu_of hr) (pv 3) pe_str (pe_lst (pa_cons pe_str (pa_cons pe_str pa_nil))) rfl)
      (pss_one (ps_ret (pe_and (pe_cmp (pc_dinK (hu_of hr) (pe_ix (ix_tupK (K := K) (by rfl)) (pv 0) pe_int (fun _ _ => rfl)) (pv 3))) (pe_and (pe_cmpR (op_inK (K := K) (by rfl)) (pv 2) (pe_dgetK (hu_of hr) (pv 3) (pe_ix (ix_tupK (K := K) (by rfl)) (pv 0) pe_int (fun _ _ => rfl)) (fun _ _ => rfl)) rfl) (pe_one (pe_cmpR op_ge (pe_ix (ix_tupK (K := K) (by rfl)) (pv 1) pe_int (fun _ _ => rfl)) (pe_ix (ix_tupK (K := K) (by rfl)) (pv 0) pe_int (fun _ _ => rfl)) (nomark _))))))))))), ?_⟩
    obtain ⟨x, y, b, r, rfl, hx, hy, q⟩ := h
    have fin : ∀ H', Same H H' → ∀ z : Bool, z = goesB b r → Q (.bl z) H' := fun H' h z e => by
      rw [e]
      exact q H' h
    refine seq_i (word_s hy ?_)
    walk_at "rd3"
    dsimp only [tDispKK, tPairs]
    walk_at "rd3"
    refine ways_disp fun d' p1 p2 p3 H1 hs hd h1 h2 h3 n1 n2 n3 nd => ?_
    walk_at "rd3"
    rename_i p4 hp4
    refine ways_put hs nd hd hp4 rfl (Nat.le_of_ble_eq_true rfl) fun H2 hs2 hd2 hk2 h4 n4 => ?_
    replace h1 := hk2 _ _ h1 (Ne.symm n1)
    replace h2 := hk2 _ _ h2 (Ne.symm n2)
    replace h3 := hk2 _ _ h3 (Ne.symm n3)
    walk_at "rd3"
    rename_i p5 hp5
    refine ways_put hs2 nd hd2 hp5 rfl (Nat.le_of_ble_eq_true rfl) fun H3 hs3 hd3 hk3 h5 n5 => ?_
    replace h1 := hk3 _ _ h1 (Ne.symm n1)
    replace h2 := hk3 _ _ h2 (Ne.symm n2)
    replace h3 := hk3 _ _ h3 (Ne.symm n3)
    replace h4 := hk3 _ _ h4 (Ne.symm n4)
    replace hx := hs3 _ _ hx
    replace hy := hs3 _ _ hy
    clear hk2 hk3 hd2 hd hs2 hp4 hp5
    walk_at "rd3"
    refine rix_kind hx ?_
    cases b with
    | ended d h p b =>
      dsimp only [Row.kind]
      walk_at "rd3"
      exact fin _ hs3 _ (goesB_end rfl).symm
    | made d s b x y z m p t =>
      dsimp only [Row.kind]
      dsimp only [Row.vs] at hx
      walk_at "rd3"
      refine rin_l (ss := ["sent", "back"]) h1 ?_
      refine ⟨_, rfl, ?_⟩
      split
      · next hin =>
        walk_at "rd3"
        refine rix_day hy ?_
        walk_at "rd3"
        exact fin _ hs3 _ (fol_in rfl hin)
      · next hin => exact fin _ hs3 _ (fol_out hin)
    | sent d w a =>
      dsimp only [Row.kind]
      dsimp only [Row.vs] at hx
      walk_at "rd3"
      refine rin_l (ss := ["came", "lost"]) h2 ?_
      refine ⟨_, rfl, ?_⟩
      split
      · next hin =>
        walk_at "rd3"
        refine rix_day hy ?_
        walk_at "rd3"
        exact fin _ hs3 _ (fol_in rfl hin)
      · next hin => exact fin _ hs3 _ (fol_out hin)
    | came d =>
      dsimp only [Row.kind]
      dsimp only [Row.vs] at hx
      walk_at "rd3"
      refine rin_l (ss := ["complained", "sold"]) h3 ?_
      refine ⟨_, rfl, ?_⟩
      split
      · next hin =>
        walk_at "rd3"
        refine rix_day hy ?_
        walk_at "rd3"
        exact fin _ hs3 _ (fol_in rfl hin)
      · next hin => exact fin _ hs3 _ (fol_out hin)
    | comp d w =>
      dsimp only [Row.kind]
      dsimp only [Row.vs] at hx
      walk_at "rd3"
      refine rin_l (ss := ["said", "judged"]) h4 ?_
      refine ⟨_, rfl, ?_⟩
      split
      · next hin =>
        walk_at "rd3"
        refine rix_day hy ?_
        walk_at "rd3"
        exact fin _ hs3 _ (fol_in rfl hin)
      · next hin => exact fin _ hs3 _ (fol_out hin)
    | said d w z =>
      dsimp only [Row.kind]
      dsimp only [Row.vs] at hx
      walk_at "rd3"
      refine rin_l (ss := ["said", "judged"]) h5 ?_
      refine ⟨_, rfl, ?_⟩
      split
      · next hin =>
        walk_at "rd3"
        refine rix_day hy ?_
        walk_at "rd3"
        exact fin _ hs3 _ (fol_in rfl hin)
      · next hin => exact fin _ hs3 _ (fol_out hin)
end
end Mk
/-! the law's own: _law_can_be -/
namespace Mk
open PySem PySem.Spec L2 He
theorem pi_zipK {X : Cx} {K : PySem.W.Frag} {e e2 : Expr} {ta : TA} {p pos tpos : Pos} {elts : List Expr} {kk : Nat} (eK : X.K = K) (hg : Gl X "zip") (hm : X.mg "zip" = none) (ha : PA X [e, e2] ta)
    (hs : starEach [e, e2] X.env = (false, eval e X.env) :: starEach [e2] X.env := by rfl) (hpl : (backTo pos (starEach [e2] X.env)).any (·.1) = false := by rfl) :
    PI X (.Tuple elts kk tpos) (.Call (.Name "zip" p) [e, e2] [] pos) (iZip K ta) := eK ▸ pi_zip hg hm ha hs hpl
theorem izip_t {K : PySem.W.Frag} {H : Hp} {a b : Addr} {xs ys : List V} {R : It → Hp → Prop} (h : H a = some (.lst xs)) (h2 : H b = some (.lst ys)) (q : R (Itz K a b) H) : ∃ a' b' xs ys, [V.ref a, V.ref b] = [.ref a', .ref b'] ∧ SqL K H a' xs ∧ SqL K H b' ys ∧ R (Itz K a' b') H :=
  ⟨a, b, xs, ys, rfl, SqL.of h, SqL.of h2, q⟩
/-- a part of a list -/
def cutA {α : Type} (xs : List α) (lo hi : Option Int) : List α := (xs.drop (HT.sIx xs.length 0 lo)).take (HT.sIx xs.length xs.length hi - HT.sIx xs.length 0 lo)
theorem cutV_map {α : Type} (f : α → V) (xs : List α) (lo hi : Option Int) : cutV (xs.map f) lo hi = (cutA xs lo hi).map f := by
  unfold cutV cutA
  rw [List.length_map, List.map_take, List.map_drop]
theorem cutA_from {α : Type} (xs : List α) (i : Nat) : cutA xs (some (i : Int)) none = xs.drop i := by
  unfold cutA
  rw [HT.sIx_nat, HT.sIx_none]
  by_cases h : i ≤ xs.length
  · rw [Nat.min_eq_left h, List.take_of_length_le (by rw [List.length_drop]; exact Nat.le_refl _)]
  · rw [Nat.min_eq_right (by omega), List.drop_of_length_le (Nat.le_refl _), List.drop_of_length_le (show xs.length ≤ i by omega)]
    simp
theorem cutA_to {α : Type} (xs : List α) (i : Nat) : cutA xs none (some (i : Int)) = xs.take i := by
  unfold cutA
  rw [HT.sIx_nat, HT.sIx_none, List.drop_zero, Nat.sub_zero]
  by_cases h : i ≤ xs.length
  · rw [Nat.min_eq_left h]
  · rw [Nat.min_eq_right (by omega), List.take_of_length_le (Nat.le_refl _), List.take_of_length_le (show xs.length ≤ i by omega)]
theorem cutA_mem {α : Type} {xs : List α} {lo hi : Option Int} {x : α} (h : x ∈ cutA xs lo hi) : x ∈ xs := List.mem_of_mem_drop (List.mem_of_mem_take h)
theorem rsl_rows {K : PySem.W.Frag} {H : Hp} {Q : VK} {l : Addr} {ps : List (Addr × Row)} {lo hi : Option Int} (h : RowsP H l ps) (k : ∀ p H', Same H H' → RowsP H' p (cutA ps lo hi) → Q (.ref p) H') : rSlL K (.ref l) lo hi H Q :=
  ⟨l, _, rfl, SqL.of h.1, fun p hp => k p _ (grow hp) ⟨by rw [cutV_map]; exact upd_same, fun x hx => keep (h.2 x (cutA_mem hx)) hp⟩⟩
theorem req_rows {K : PySem.W.Frag} {H : Hp} {Q : VK} {l q : Addr} {ps : List (Addr × Row)} (h : RowsP H l ps) (g : ∀ p ∈ ps, p.2.good) (hq : H q = some (.lst [])) (k : Q (.bl ps.isEmpty) H) : rEqD K (.ref l) (.ref q) H Q := by
  refine ⟨.list ((ps.map fun p => p.2.vs).map tD), .list [], .lst (SqL.of h.1) (dps_rows h.2 g), .lst (SqL.of hq) .nil, sh_tups fun xs hx => ?_, by decide +kernel, qb k (by rw [eqv_nil, List.isEmpty_map, List.isEmpty_map])⟩
  obtain ⟨p, hp, rfl⟩ := List.mem_map.mp hx
  exact flatOk_row (g p hp)
theorem rany_t {K : PySem.W.Frag} {H : Hp} {Q : VK} {D : Addr} {bs : List Bool} (h : H D = some (.lst (bs.map V.bl))) (q : Q (.bl (bs.any id)) H) : rAny K [.ref D] H Q := ⟨D, bs, rfl, SqL.of h, q⟩
theorem rall_t {K : PySem.W.Frag} {H : Hp} {Q : VK} {D : Addr} {bs : List Bool} (h : H D = some (.lst (bs.map V.bl))) (q : Q (.bl (bs.all id)) H) : rAll K [.ref D] H Q := ⟨D, bs, rfl, SqL.of h, q⟩
theorem isMade_dec (r : Row) : decide (r.kind = "made") = r.isMade := by
  cases r with
  | made a b c d e f g h' i => rfl
  | sent a b c => exact decide_eq_false fun h => absurd (show ("sent" : Str) = "made" from h) (by decide +kernel)
  | came a => exact decide_eq_false fun h => absurd (show ("came" : Str) = "made" from h) (by decide +kernel)
  | comp a b => exact decide_eq_false fun h => absurd (show ("complained" : Str) = "made" from h) (by decide +kernel)
  | said a b c => exact decide_eq_false fun h => absurd (show ("said" : Str) = "made" from h) (by decide +kernel)
  | ended a b c d => exact decide_eq_false fun h => absurd (show ("ended" : Str) = "made" from h) (by decide +kernel)
theorem any_made (r : List (Addr × Row)) : (r.map fun p => decide (p.2.kind = ("made" : Str))).any id = (r.map (·.2)).any Row.isMade := by
  rw [List.any_map, List.any_map]
  congr 1
  funext p
  exact isMade_dec p.2
/-- row by row -/
def zipF (xs ys : List (Addr × Row)) (i : Nat) : Option V := match xs[i]?, ys[i]? with
  | some a, some b => some (.bl (goesB a.2 b.2))
  | _, _ => none
def gos : Addr × Row → List (Addr × Row) → List Bool
  | _, [] => []
  | m, b :: r => goesB m.2 b.2 :: gos b r
theorem zip_bools : ∀ (m : Addr × Row) (r : List (Addr × Row)), (List.range r.length).filterMap (zipF (m :: r) r) = (gos m r).map V.bl
  | _, [] => rfl
  | m, b :: r => by
    rw [List.length_cons, List.range_succ_eq_map, List.filterMap_cons, List.filterMap_map]
    have e : (zipF (m :: b :: r) (b :: r)) ∘ Nat.succ = zipF (b :: r) r := by
      funext i
      simp [zipF]
    rw [e, zip_bools b r]
    rfl
theorem gos_all : ∀ (m : Addr × Row) (r : List (Addr × Row)), chainB (m.2 :: r.map (·.2)) = (gos m r).all id
  | _, [] => rfl
  | m, b :: r => by
    show (goesB m.2 b.2 && chainB (b.2 :: r.map (·.2))) = (goesB m.2 b.2 && (gos b r).all id)
    rw [gos_all b r]
def spCanBe : Sp := fun vs H Q _ => ∃ (l : Addr) (ps : List (Addr × Row)), vs = [.ref l] ∧ RowsP H l ps ∧ (∀ p ∈ ps, p.2.good) ∧ ps.length ≤ 1000 ∧ ∀ H', Same H H' → Q (.bl (canB (ps.map (·.2)))) H'
local macro_rules | `(tactic| walk_at "rdu3") => `(tactic| dsimp only [tSeq, tNext, tRet, tRetN, tAsg, tDrop, tIfS, tOr, tAnd, tNot, tB, tTest, tCB, tCons, tNil, tVar, tC, tOp, tUn, tOrV, tAndV, tNotV, tIf, tChain, tCall, tTup, tLst, gName, L2.start, dl_map, dl_map0, dl_app, dl_app0, List.length_cons, List.length_nil, List.replicate, List.set, Nat.reduceAdd, Nat.reduceSub, tLc_eq, tFor_eq, sck_eq, dct_eq, tPar, gCons, gNil, iList, iTup, iRng1, iStr, wipe, tYes, tSl, tPart, tNoPart, tFld, tMeth, tMake, tFldK, sFldK, tDGetK, tDInK, tDNotInK, iItemsK, tLV, tLockE, tLock, tMakeK,  tDNewK, tPairs, tBM, tDispTK, iItemsTK, sDPutK, sDAugK])
local macro_rules | `(tactic| walk_at "lk3") => `(tactic| first | assumption | (with_reducible exact upd_same) | ((with_reducible apply keep); rotate_left; (focus assumption); walk_at "lk3") | ((with_reducible apply kp); (focus assumption); walk_at "lk3") | ((with_reducible apply keepI); rotate_left; (focus (walk_at "lk3")); (focus (intro _ _ _ e; cases e)); walk_at "lk3"))
local macro_rules | `(tactic| walk_at "lq3") => `(tactic| first | assumption | exact .inl (SqL.of (by walk_at "lk3")) | exact .inr (SqT.of (by walk_at "lk3")) | (refine sq2_same (grow (by assumption)) ?_; walk_at "lq3") | (refine sq2_same (by assumption) ?_; walk_at "lq3"))
local macro_rules | `(tactic| walk_at "sm3") => `(tactic| first | exact Same.refl _ | assumption | (refine same_upd2 ?_ (by assumption); walk_at "sm3") | (refine same_upd ?_ (by assumption); walk_at "sm3") | (refine Same.trans ?_ (by assumption); walk_at "sm3"))
local macro_rules | `(tactic| walk_at "rd13") => `(tactic| first
  | ((with_reducible apply rfld_t); (focus (walk_at "lk3")); (focus assumption); (focus assumption); (focus with_unfolding_all rfl))
  | ((with_reducible apply rsetf_t); (focus (walk_at "lk3")); (focus assumption); (focus assumption); (focus with_unfolding_all rfl); (focus (simp; done)); walk_at "rdu3")
  | ((with_reducible apply rlend_t); (focus (walk_at "lk3")))
  | ((with_reducible apply rlist_l); (focus (walk_at "lk3")); intro _ _)
  | ((with_reducible apply rdict_d); (focus (walk_at "lk3")); intro _ _)
  | ((with_reducible apply rdg_t); (focus (walk_at "lk3")); (focus first | assumption | with_unfolding_all rfl))
  | ((with_reducible apply rdi_some); (focus (walk_at "lk3")); (focus assumption))
  | ((with_reducible apply rdn_some); (focus (walk_at "lk3")); (focus assumption))
  | ((with_reducible apply rdi_t); (focus (walk_at "lk3")))
  | ((with_reducible apply rdn_t); (focus (walk_at "lk3")))
  | ((with_reducible apply rcat_t); (focus (walk_at "lk3")); (focus (walk_at "lk3")); (focus first | (refine line_ge ?_; simp; done) | (refine line_ge ?_; simp; omega)); intro _ _; walk_at "rdu3")
  | ((with_reducible apply rmeth_t); (focus (walk_at "lk3")); (focus with_unfolding_all rfl))
  | ((with_reducible apply rlv_t); (focus (walk_at "lk3")); intro _ _)
  | ((with_reducible apply rpow18))
  | ((with_reducible apply rng_t); (focus omega); (focus omega))
  | ((with_reducible apply tyl); (focus (walk_at "lk3")))
  | ((with_reducible apply rapp_t); (focus (walk_at "lk3")); (focus first | (refine Nat.lt_of_lt_of_le ?_ (line_ge (Nat.le_refl 16777216)); simp; omega) | (rw [sizeLine_eq]; simp; omega) | (rw [sizeLine_eq]; omega)); walk_at "rdu3")
  | ((with_reducible apply req_ss))
  | ((with_reducible apply req_ii))
  | ((with_reducible apply req_bb))
  | ((with_reducible apply rne_ss))
  | ((with_reducible apply rne_ii))
  | ((with_reducible apply cm_l); (focus omega); (focus omega))
  | ((with_reducible apply cm_r); (focus omega); (focus omega))
  | ((with_reducible apply cd_i); (focus omega); (focus omega))
  | ((with_reducible apply md_i); (focus omega))
  | ((with_reducible apply part1))
  | ((with_reducible apply num2))
  | ((with_reducible apply num3))
  | ((with_reducible apply name1); (focus first | assumption | decide +kernel); intro _ _)
  | ((with_reducible apply one_m); (focus (walk_at "lq3")))
  | ((with_reducible apply one_s); (focus (walk_at "lq3")); (focus with_unfolding_all rfl))
  | refine ⟨_, rfl, ?_⟩
  | refine ⟨_, _, rfl, rfl, ?_⟩
  | ((with_reducible apply gcons_t))
  | ((with_reducible apply gpar_t))
  | ((with_reducible apply gpar3_t))
  | refine ⟨rfl, ?_⟩
  | ((with_reducible apply iteT))
  | ((with_reducible apply iteF))
  | ((with_reducible apply ri_ii))
  | ((with_reducible apply ri_ib))
  | ((with_reducible apply ri_ss))
  | ((with_reducible apply ri_bb))
  | ((with_reducible apply ri_tt); (focus (walk_at "lk3")))
  | ((with_reducible apply ri_ll); (focus (walk_at "lk3")))
  | ((with_reducible apply ri_dd); (focus (walk_at "lk3")))
  | ((with_reducible apply rt_l); (focus (walk_at "lk3")); (focus (walk_at "lk3")))
  | ((with_reducible apply rt_t); (focus (walk_at "lk3")); (focus (walk_at "lk3")))
  | ((with_reducible apply rix_t); (focus (walk_at "lk3")); (focus with_unfolding_all rfl))
  | ((with_reducible apply rix_l); (focus (walk_at "lk3")); (focus with_unfolding_all rfl))
  | ((with_reducible apply rlen_t); (focus (walk_at "lk3")); (focus first | (simp only [List.length_cons, List.length_nil]; done) | (simp only [List.length_cons, List.length_nil]; with_unfolding_all rfl) | with_unfolding_all rfl))
  | ((with_reducible apply rlen_l); (focus (walk_at "lk3")); (focus first | (simp only [List.length_cons, List.length_nil]; done) | (simp only [List.length_cons, List.length_nil]; with_unfolding_all rfl) | with_unfolding_all rfl))
  | ((with_reducible apply rin_t); (focus (walk_at "lk3")); (focus with_unfolding_all rfl))
  | ((with_reducible apply rnin_t); (focus (walk_at "lk3")); (focus with_unfolding_all rfl))
  | ((with_reducible apply rsl_t); (focus (walk_at "lk3")); (focus with_unfolding_all rfl); (focus first | (simp [cutV, HT.sIx]; done) | (simp [cutV, HT.sIx]; rfl)); intro _ _)
  | ((with_reducible apply rin_l); (focus (walk_at "lk3")))
  | ((with_reducible apply rnin_l); (focus (walk_at "lk3")))
  | ((with_reducible apply gtup_t); (focus (walk_at "lk3")); (focus with_unfolding_all rfl); walk_at "rdu3")
  | ((with_reducible apply alc); (focus decide); intro _ _)
  | ((with_reducible apply itenT))
  | ((with_reducible apply itenF))
  | ((with_reducible apply ited_sT); (focus first | rfl | assumption))
  | ((with_reducible apply ited_sF); (focus first | assumption | decide +kernel))
  | ((with_reducible apply itedn_sT); (focus first | assumption | decide +kernel))
  | ((with_reducible apply itedn_sF); (focus first | rfl | assumption))
  | ((with_reducible apply ited_mT); (focus first | assumption | decide +kernel))
  | ((with_reducible apply ited_mF); (focus first | assumption | decide +kernel))
  | ((with_reducible apply itedn_mT); (focus first | assumption | decide +kernel))
  | ((with_reducible apply itedn_mF); (focus first | assumption | decide +kernel))
  | ((with_reducible apply ited_s) <;> intro _)
  | ((with_reducible apply itedn_s) <;> intro _)
  | ((with_reducible apply ited_m) <;> intro _)
  | ((with_reducible apply itedn_m) <;> intro _)
  | ((with_reducible apply itedT); (focus first | assumption | omega))
  | ((with_reducible apply itedF); (focus first | assumption | omega))
  | ((with_reducible apply itednF); (focus first | assumption | omega))
  | ((with_reducible apply itednT); (focus first | assumption | omega))
  | ((with_reducible apply ited) <;> intro _)
  | ((with_reducible apply itedn) <;> intro _)
  | ((with_reducible apply itebn) <;> intro _)
  | ((with_reducible apply iteb) <;> intro _)
  | walk_at "rdu3"
  | contradiction)
local macro_rules | `(tactic| walk_at "rd3") => `(tactic| (try walk_at "rdu3"); repeat' walk_at "rd13")
section
variable {P : Program} {w : World} {K : PySem.W.Frag} {mg : Str → Option Value} {base : Heap}
theorem f_can_be (T : Tx w K mg) : Fok P w K mg base CX0 "_law_can_be" ps__law_can_be [] 2 spCanBe := by
  obtain ⟨fd, F⟩ := T.d__law_can_be
  have G__law_follows := f_follows (P := P) (base := base) T
  refine fok F T.g__law_can_be (fun _ _ _ _ _ _ us hl => match us, hl with | [_], _ => rfl) (F.ok sc__law_can_be (fun vs H Q E h => ?_) (fun cdv A outer s H vs Q E hr h => ?_))
  · obtain ⟨l, ps, rfl, _⟩ := h
    rfl
  · refine ⟨_, PSs.nox (pss_cons (ps_if (PW.pt (pw_or (pt_cmpR (op_eqDK (K := K) (by rfl) hr.units) (pv 0) (pe_lst pa_nil) (nomark _)) (pw_or (pt_cmpR op_ne (pe_ix (ix_tupK (K := K) (by rfl)) (pe_ix (ix_listK (K := K) (by rfl)) (pv 0) pe_int (fun _ _ => rfl)) pe_int (fun _ _ => rfl)) pe_str (nomark _)) (pw_or1 (pt_val (pe_callB (cr_anyK (K := K) (by rfl) rfl) (by rfl) T.b_any bt_any (pa_cons (pe_lc (own := [("_law_row", 1)])  (by rfl) sc__law_can_be.nd (by exact (pi_listK (K := K) (by rfl) (pe_slice (sl_listK (K := K) (by rfl)) (pv 0) (po_some pe_int) po_none))) (blkOk_by (own := [("_law_row", 1)]) (N := ns__law_can_be) (sc := defScope s__law_can_be) (by decide +kernel)) (fun _ _ _ _ _ => (pg_name (i := 1) sc__law_can_be.nd rfl (Or.inl rfl))) (fun _ _ _ _ _ => pts_nil) (fun _ _ _ _ _ => (pe_cmpR op_eq (pe_ix (ix_tupK (K := K) (by rfl)) (pv 1) pe_int (fun _ _ => rfl)) pe_str (nomark _)))) pa_nil))))))) (pss_one (ps_ret pe_bl)) pss_nil)
      (pss_one (ps_ret (pe_callB (cr_allK (K := K) (by rfl) rfl) (by rfl) T.b_all bt_all (pa_cons (pe_lc (own := [("_law_one", 2), ("_law_other", 3)])  (by rfl) sc__law_can_be.nd (by exact (pi_zipK (K := K) (by rfl) (by rfl) T.b_zip (pa_cons (pv 0) (pa_cons (pe_slice (sl_listK (K := K) (by rfl)) (pv 0) (po_some pe_int) po_none) pa_nil)))) (blkOk_by (own := [("_law_one", 2), ("_law_other", 3)]) (N := ns__law_can_be) (sc := defScope s__law_can_be) (by decide +kernel)) (fun _ _ _ _ _ => (pg_tupK (K := K) (n := 2) (by rfl) (by rfl) (by rfl) (pgs_cons (pg_name (i := 2) sc__law_can_be.nd rfl (Or.inl rfl)) (pgs_cons (pg_name (i := 3) sc__law_can_be.nd rfl (Or.inl rfl)) pgs_nil)))) (fun _ _ _ _ _ => pts_nil) (fun _ _ _ _ _ => (pe_fn G__law_follows (hr.mono (by decide)) pass0 (pa_cons (pv 2) (pa_cons (pv 3) pa_nil))))) pa_nil))))), ?_⟩
    obtain ⟨l, ps, rfl, hl, hg, h1000, q⟩ := h
    walk_at "rd3"
    rename_i p0 hp0
    refine req_rows (hl.same (grow hp0)) hg upd_same ?_
    have s0 : Same H (upd H p0 (.lst [])) := grow hp0
    generalize upd H p0 (.lst []) = H0 at s0
    cases ps with
    | nil =>
      walk_at "rd3"
      exact q _ s0
    | cons m r =>
      walk_at "rd3"
      refine rix_row (hl.same s0) (atI_nat (j := 0) rfl) ?_
      have hm := hl.2 m List.mem_cons_self
      refine rix_kind (s0 _ _ hm) ?_
      walk_at "rd3"
      · rename_i e
        exact qb (q _ s0) (by
          show (m.2.isMade && _) = false
          rw [← isMade_dec, decide_eq_false e, Bool.false_and])
      · rename_i e
        have em : m.2.isMade = true := by rw [← isMade_dec]; exact decide_eq_true e
        refine rsl_rows (hl.same s0) fun p1 H1 s1 hl1 => ?_
        rw [show cutA (m :: r) (some 1) none = r from cutA_from (m :: r) 1] at hl1
        have n1000 : r.length ≤ 1000000 := by rw [List.length_cons] at h1000; omega
        refine ⟨p1, rfl, ⟨_, SqL.of hl1.1⟩, fun D hD => ?_⟩
        refine lc_rows hD hl1 n1000 (fun p => some (.bl (decide (p.2.kind = ("made" : Str))))) (fun i p H3 R R0 hi s hb h1 h0 => ?_) (fun H3 s3 hD3 => ?_)
        · walk_at "rd3"
          refine rix_kind hb ?_
          walk_at "rd3"
          exact h1 _ _ (Same.refl _) rfl
        · rw [fm_bools] at hD3
          refine rany_t hD3 ?_
          have ea : (r.map fun p => decide (p.2.kind = ("made" : Str))).any id = (r.map (·.2)).any Row.isMade := any_made r
          have s4 : Same H H3 := (s0.trans s1).trans s3
          walk_at "rd3"
          · rename_i e2
            exact qb (q _ s4) (by
              show (m.2.isMade && (!(r.map (·.2)).any Row.isMade && _)) = false
              rw [← ea, e2]
              simp)
          · rename_i e2
            refine rsl_rows (hl.same s4) fun p2 H4 s5 hl2 => ?_
            rw [show cutA (m :: r) (some 1) none = r from cutA_from (m :: r) 1] at hl2
            have s6 := s4.trans s5
            have hl3 := hl.same s6
            refine ⟨l, p2, _, _, rfl, SqL.of hl3.1, SqL.of hl2.1, fun D2 hD2 => ?_⟩
            refine lc_pure (walk_zip (K := K) (n := r.length) (by simp)) hD2 n1000 (zipF (m :: r) r) (fun H s => ⟨SqL.of (s _ _ hl3.1), SqL.of (s _ _ hl2.1)⟩) (fun i x H6 H7 R R0 hi s y h1 h0 => ?_) (fun H6 s7 hD6 => ?_)
            · obtain ⟨T', x1, y1, rfl, hT, rfl, e3, e4⟩ := y
              have hi1 : i < (m :: r).length := by rw [List.length_cons]; omega
              have g1 : (m :: r)[i]? = some (m :: r)[i] := List.getElem?_eq_getElem hi1
              have g2 : r[i]? = some r[i] := List.getElem?_eq_getElem hi
              dsimp only at e3 e4
              rw [List.getElem?_map, g1] at e3
              rw [List.getElem?_map, g2] at e4
              obtain rfl := Option.some.inj e3
              obtain rfl := Option.some.inj e4
              have b1 := s _ _ (hl3.2 _ (List.getElem_mem hi1))
              have b2 := s _ _ (hl2.2 _ (List.getElem_mem hi))
              have ez : zipF (m :: r) r i = some (.bl (goesB (m :: r)[i].2 r[i].2)) := by
                unfold zipF
                rw [g1, g2]
              walk_at "rd3"
              exact ⟨_, _, _, _, rfl, keep b1 hT, keep b2 hT, fun H8 s8 => h1 _ _ ((grow hT).trans s8) ez⟩
            · rw [zip_bools] at hD6
              refine rall_t hD6 ?_
              walk_at "rd3"
              refine qb (q _ (s6.trans s7)) ?_
              show (m.2.isMade && (!(r.map (·.2)).any Row.isMade && chainB (m.2 :: r.map (·.2)))) = _
              rw [em, ← ea, e2, gos_all]
              simp
end
end Mk
/-! the law's own: _law_verdict -/
namespace Mk
open PySem PySem.Spec L2 He
/-- items with the place each stands at -/
theorem paired_zip {H : Hp} {f : SS → List V} : ∀ {as : List Addr} {ds : List SS}, AtT f H as ds → Paired (fun (b : Addr) (d : Addr × SS) => d.1 = b ∧ H b = some (.tup (f d.2))) as (as.zip ds)
  | _, _, .nil => .nil
  | _, _, .cons h p => .cons ⟨rfl, h⟩ (paired_zip p)
theorem zip_snd : ∀ {as : List Addr} {ds : List SS}, as.length = ds.length → (as.zip ds).map (·.2) = ds
  | [], [], _ => rfl
  | [], _ :: _, h => by cases h
  | _ :: _, [], h => by cases h
  | a :: as, d :: ds, h => by
    rw [List.zip_cons_cons, List.map_cons, zip_snd (Nat.succ.inj h)]
def inF (said : List SS) (d : Addr × SS) : Option V := if decide (d.2 ∈ said) = true then some (.ref d.1) else none
theorem inF_len (said : List SS) : ∀ zs : List (Addr × SS), (zs.filterMap (inF said)).length ≤ zs.length ∧ (decide ((zs.filterMap (inF said)).length = zs.length) = (zs.map (·.2)).all fun p => decide (p ∈ said))
  | [] => ⟨Nat.le_refl _, rfl⟩
  | z :: zs => by
    obtain ⟨h1, h2⟩ := inF_len said zs
    rw [List.filterMap_cons, List.map_cons, List.all_cons, ← h2, List.length_cons]
    by_cases e : decide (z.2 ∈ said) = true
    · have e1 : inF said z = some (.ref z.1) := if_pos e
      rw [e1, e, Bool.true_and]
      refine ⟨by simpa using h1, ?_⟩
      simp
    · have e1 : inF said z = none := if_neg e
      rw [e1, Bool.eq_false_iff.mpr e, Bool.false_and]
      refine ⟨by simp only []; omega, decide_eq_false ?_⟩
      simp only []
      omega
local macro_rules | `(tactic| walk_at "rdu3") => `(tactic| dsimp only [tSeq, tNext, tRet, tRetN, tAsg, tDrop, tIfS, tOr, tAnd, tNot, tB, tTest, tCB, tCons, tNil, tVar, tC, tOp, tUn, tOrV, tAndV, tNotV, tIf, tChain, tCall, tTup, tLst, gName, L2.start, dl_map, dl_map0, dl_app, dl_app0, List.length_cons, List.length_nil, List.replicate, List.set, Nat.reduceAdd, Nat.reduceSub, tLc_eq, tFor_eq, sck_eq, dct_eq, tPar, gCons, gNil, iList, iTup, iRng1, iStr, wipe, tYes, tSl, tPart, tNoPart, tFld, tMeth, tMake, tFldK, sFldK, tDGetK, tDInK, tDNotInK, iItemsK, tLV, tLockE, tLock, tMakeK,  tDNewK, tPairs, tBM, tDispTK, iItemsTK, sDPutK, sDAugK])
local macro_rules | `(tactic| walk_at "lk3") => `(tactic| first | assumption | (with_reducible exact upd_same) | ((with_reducible apply keep); rotate_left; (focus assumption); walk_at "lk3") | ((with_reducible apply kp); (focus assumption); walk_at "lk3") | ((with_reducible apply keepI); rotate_left; (focus (walk_at "lk3")); (focus (intro _ _ _ e; cases e)); walk_at "lk3"))
local macro_rules | `(tactic| walk_at "lq3") => `(tactic| first | assumption | exact .inl (SqL.of (by walk_at "lk3")) | exact .inr (SqT.of (by walk_at "lk3")) | (refine sq2_same (grow (by assumption)) ?_; walk_at "lq3") | (refine sq2_same (by assumption) ?_; walk_at "lq3"))
local macro_rules | `(tactic| walk_at "sm3") => `(tactic| first | exact Same.refl _ | assumption | (refine same_upd2 ?_ (by assumption); walk_at "sm3") | (refine same_upd ?_ (by assumption); walk_at "sm3") | (refine Same.trans ?_ (by assumption); walk_at "sm3"))
local macro_rules | `(tactic| walk_at "rd13") => `(tactic| first
  | ((with_reducible apply rfld_t); (focus (walk_at "lk3")); (focus assumption); (focus assumption); (focus with_unfolding_all rfl))
  | ((with_reducible apply rsetf_t); (focus (walk_at "lk3")); (focus assumption); (focus assumption); (focus with_unfolding_all rfl); (focus (simp; done)); walk_at "rdu3")
  | ((with_reducible apply rlend_t); (focus (walk_at "lk3")))
  | ((with_reducible apply rlist_l); (focus (walk_at "lk3")); intro _ _)
  | ((with_reducible apply rdict_d); (focus (walk_at "lk3")); intro _ _)
  | ((with_reducible apply rdg_t); (focus (walk_at "lk3")); (focus first | assumption | with_unfolding_all rfl))
  | ((with_reducible apply rdi_some); (focus (walk_at "lk3")); (focus assumption))
  | ((with_reducible apply rdn_some); (focus (walk_at "lk3")); (focus assumption))
  | ((with_reducible apply rdi_t); (focus (walk_at "lk3")))
  | ((with_reducible apply rdn_t); (focus (walk_at "lk3")))
  | ((with_reducible apply rcat_t); (focus (walk_at "lk3")); (focus (walk_at "lk3")); (focus first | (refine line_ge ?_; simp; done) | (refine line_ge ?_; simp; omega)); intro _ _; walk_at "rdu3")
  | ((with_reducible apply rmeth_t); (focus (walk_at "lk3")); (focus with_unfolding_all rfl))
  | ((with_reducible apply rlv_t); (focus (walk_at "lk3")); intro _ _)
  | ((with_reducible apply rpow18))
  | ((with_reducible apply rng_t); (focus omega); (focus omega))
  | ((with_reducible apply tyl); (focus (walk_at "lk3")))
  | ((with_reducible apply rapp_t); (focus (walk_at "lk3")); (focus first | (refine Nat.lt_of_lt_of_le ?_ (line_ge (Nat.le_refl 16777216)); simp; omega) | (rw [sizeLine_eq]; simp; omega) | (rw [sizeLine_eq]; omega)); walk_at "rdu3")
  | ((with_reducible apply req_ss))
  | ((with_reducible apply req_ii))
  | ((with_reducible apply req_bb))
  | ((with_reducible apply rne_ss))
  | ((with_reducible apply rne_ii))
  | ((with_reducible apply cm_l); (focus omega); (focus omega))
  | ((with_reducible apply cm_r); (focus omega); (focus omega))
  | ((with_reducible apply cd_i); (focus omega); (focus omega))
  | ((with_reducible apply md_i); (focus omega))
  | ((with_reducible apply part1))
  | ((with_reducible apply num2))
  | ((with_reducible apply num3))
  | ((with_reducible apply name1); (focus first | assumption | decide +kernel); intro _ _)
  | ((with_reducible apply one_m); (focus (walk_at "lq3")))
  | ((with_reducible apply one_s); (focus (walk_at "lq3")); (focus with_unfolding_all rfl))
  | refine ⟨_, rfl, ?_⟩
  | refine ⟨_, _, rfl, rfl, ?_⟩
  | ((with_reducible apply gcons_t))
  | ((with_reducible apply gpar_t))
  | ((with_reducible apply gpar3_t))
  | refine ⟨rfl, ?_⟩
  | ((with_reducible apply iteT))
  | ((with_reducible apply iteF))
  | ((with_reducible apply ri_ii))
  | ((with_reducible apply ri_ib))
  | ((with_reducible apply ri_ss))
  | ((with_reducible apply ri_bb))
  | ((with_reducible apply ri_tt); (focus (walk_at "lk3")))
  | ((with_reducible apply ri_ll); (focus (walk_at "lk3")))
  | ((with_reducible apply ri_dd); (focus (walk_at "lk3")))
  | ((with_reducible apply rt_l); (focus (walk_at "lk3")); (focus (walk_at "lk3")))
  | ((with_reducible apply rt_t); (focus (walk_at "lk3")); (focus (walk_at "lk3")))
  | ((with_reducible apply rix_t); (focus (walk_at "lk3")); (focus with_unfolding_all rfl))
  | ((with_reducible apply rix_l); (focus (walk_at "lk3")); (focus with_unfolding_all rfl))
  | ((with_reducible apply rlen_t); (focus (walk_at "lk3")); (focus first | (simp only [List.length_cons, List.length_nil]; done) | (simp only [List.length_cons, List.length_nil]; with_unfolding_all rfl) | with_unfolding_all rfl))
  | ((with_reducible apply rlen_l); (focus (walk_at "lk3")); (focus first | (simp only [List.length_cons, List.length_nil]; done) | (simp only [List.length_cons, List.length_nil]; with_unfolding_all rfl) | with_unfolding_all rfl))
  | ((with_reducible apply rin_t); (focus (walk_at "lk3")); (focus with_unfolding_all rfl))
  | ((with_reducible apply rnin_t); (focus (walk_at "lk3")); (focus with_unfolding_all rfl))
  | ((with_reducible apply rsl_t); (focus (walk_at "lk3")); (focus with_unfolding_all rfl); (focus first | (simp [cutV, HT.sIx]; done) | (simp [cutV, HT.sIx]; rfl)); intro _ _)
  | ((with_reducible apply rin_l); (focus (walk_at "lk3")))
  | ((with_reducible apply rnin_l); (focus (walk_at "lk3")))
  | ((with_reducible apply gtup_t); (focus (walk_at "lk3")); (focus with_unfolding_all rfl); walk_at "rdu3")
  | ((with_reducible apply alc); (focus decide); intro _ _)
  | ((with_reducible apply itenT))
  | ((with_reducible apply itenF))
  | ((with_reducible apply ited_sT); (focus first | rfl | assumption))
  | ((with_reducible apply ited_sF); (focus first | assumption | decide +kernel))
  | ((with_reducible apply itedn_sT); (focus first | assumption | decide +kernel))
  | ((with_reducible apply itedn_sF); (focus first | rfl | assumption))
  | ((with_reducible apply ited_mT); (focus first | assumption | decide +kernel))
  | ((with_reducible apply ited_mF); (focus first | assumption | decide +kernel))
  | ((with_reducible apply itedn_mT); (focus first | assumption | decide +kernel))
  | ((with_reducible apply itedn_mF); (focus first | assumption | decide +kernel))
  | ((with_reducible apply ited_s) <;> intro _)
  | ((with_reducible apply itedn_s) <;> intro _)
  | ((with_reducible apply ited_m) <;> intro _)
  | ((with_reducible apply itedn_m) <;> intro _)
  | ((with_reducible apply itedT); (focus first | assumption | omega))
  | ((with_reducible apply itedF); (focus first | assumption | omega))
  | ((with_reducible apply itednF); (focus first | assumption | omega))
  | ((with_reducible apply itednT); (focus first | assumption | omega))
  | ((with_reducible apply ited) <;> intro _)
  | ((with_reducible apply itedn) <;> intro _)
  | ((with_reducible apply itebn) <;> intro _)
  | ((with_reducible apply iteb) <;> intro _)
  | walk_at "rdu3"
  | contradiction)
local macro_rules | `(tactic| walk_at "rd3") => `(tactic| (try walk_at "rdu3"); repeat' walk_at "rd13")
def spLVerd : Sp := fun vs H Q _ => ∃ (na l : Addr) (as : List Addr) (ps : List (Addr × Row)) (ns : List Norm) (pc pq : Addr × Row) (d d' : Int) (w : Str), vs = [.ref na, .ref l] ∧ RowsP H l ps ∧ (∀ p ∈ ps, p.2.good) ∧ ps.length ≤ 1000 ∧ H na = some (.lst (as.map V.ref)) ∧ Paired (NormAt H) as ns ∧ ns.length ≤ 10 ∧ (∀ n ∈ ns, n.good) ∧
  ps[2]? = some pc ∧ pc.2 = .came d' ∧ ps[3]? = some pq ∧ pq.2 = .comp d w ∧ ∀ (p : Addr) (H' : Hp), Same H H' → H' p = some (.tup [.int (tells (ps.map (·.2)) d w d' ns).1, .bl (tells (ps.map (·.2)) d w d' ns).2]) → Q (.ref p) H'
section
variable {P : Program} {w : World} {K : PySem.W.Frag} {mg : Str → Option Value} {base : Heap}
theorem f_lverdict (T : Tx w K mg) : Fok P w K mg base CX0 "_law_verdict" ps__law_verdict [] 1 spLVerd := by
  obtain ⟨fd, F⟩ := T.d__law_verdict
  refine fok F T.g__law_verdict (fun _ _ _ _ _ _ us hl => match us, hl with | [_, _], _ => rfl) (F.ok sc__law_verdict (fun vs H Q E h => ?_) (fun cdv A outer s H vs Q E hr h => ?_))
  · obtain ⟨na, l, as, ps, ns, pc, pq, d, d', w, rfl, _⟩ := h
    rfl
  · refine ⟨_, PSs.nox (pss_cons (ps_asg (pe_tup (pa_cons (pe_ix (ix_tupK (K := K) (by rfl)) (pe_ix (ix_listK (K := K) (by rfl)) (pv 1) pe_int (fun _ _ => rfl)) pe_int (fun _ _ => rfl)) (pa_cons (pe_slice (sl_tupK (K := K) (by rfl)) (pe_ix (ix_listK (K := K) (by rfl)) (pv 1) pe_int (fun _ _ => rfl)) (po_some pe_int) po_none) pa_nil))) (pg_tupK (K := K) (n := 2) (by rfl) (by rfl) (by rfl) (pgs_cons (pg_name (i := 2) sc__law_verdict.nd rfl (Or.inl rfl)) (pgs_cons (pg_tupK (K := K) (n := 2) (by rfl) (by rfl) (by rfl) (pgs_cons (pg_name (i := 3) sc__law_verdict.nd rfl (Or.inl rfl)) (pgs_cons (pg_name (i := 4) sc__law_verdict.nd rfl (Or.inl rfl)) pgs_nil))) pgs_nil))))
      (pss_cons (ps_set (i := 5) sc__law_verdict.nd rfl (Or.inr rfl) (pe_lc (own := [("_law_row", 6)])  (by rfl) sc__law_verdict.nd (by exact (pi_listK (K := K) (by rfl) (pv 1))) (blkOk_by (own := [("_law_row", 6)]) (N := ns__law_verdict) (sc := defScope s__law_verdict) (by decide +kernel)) (fun _ _ _ _ _ => (pg_name (i := 6) sc__law_verdict.nd rfl (Or.inl rfl))) (fun _ _ _ _ _ => (pts_one (pt_cmpR op_eq (pe_ix (ix_tupK (K := K) (by rfl)) (pv 6) pe_int (fun _ _ => rfl)) pe_str (nomark _)))) (fun _ _ _ _ _ => (pe_slice (sl_tupK (K := K) (by rfl)) (pv 6) (po_some pe_int) po_none))))
      (pss_cons (ps_for PassesOwn.never rfl (pi_listK (K := K) (by rfl) (pv 0)) (pg_tupK (K := K) (n := 5) (by rfl) (by rfl) (by rfl) (pgs_cons (pg_name (i := 7) sc__law_verdict.nd rfl (Or.inl rfl)) (pgs_cons (pg_name (i := 8) sc__law_verdict.nd rfl (Or.inl rfl)) (pgs_cons (pg_name (i := 9) sc__law_verdict.nd rfl (Or.inl rfl)) (pgs_cons (pg_name (i := 10) sc__law_verdict.nd rfl (Or.inl rfl)) (pgs_cons (pg_name (i := 11) sc__law_verdict.nd rfl (Or.inl rfl)) pgs_nil)))))) (pss_one (ps_if (PW.pt (pw_and (pt_cmpR op_eq (pv 7) (pv 4) (nomark _)) (pw_and (pt_cmpR op_le (pe_op op_sub (pv 3) (pv 2)) (pv 9) (nomark _)) (pw_and1 (pt_cmpR op_eq (pe_callB (call_lenA (K := K) (by rfl)) (by rfl) T.b_len bt_len (pa_cons (pe_lc (own := [("_law_pair", 12)])  (by rfl) sc__law_verdict.nd (by exact (pi_tupK (K := K) (by rfl) (pv 8))) (blkOk_by (own := [("_law_pair", 12)]) (N := ns__law_verdict) (sc := defScope s__law_verdict) (by decide +kernel)) (fun _ _ _ _ _ => (pg_name (i := 12) sc__law_verdict.nd rfl (Or.inl rfl))) (fun _ _ _ _ _ => (pts_one (pt_cmpR (op_inDK (K := K) (by rfl) (hu65 hr)) (pv 12) (pv 5) rfl))) (fun _ _ _ _ _ => (pv 12))) pa_nil)) (pe_callB (call_lenA (K := K) (by rfl)) (by rfl) T.b_len bt_len (pa_cons (pv 8) pa_nil)) (nomark _)))))) (pss_one (ps_ret (pe_tup (pa_cons (pv 10) (pa_cons (pv 11) pa_nil))))) pss_nil)))
      (pss_one (ps_ret (pe_tup (pa_cons pe_int (pa_cons pe_bl pa_nil)))))))), ?_⟩
    obtain ⟨na, l, as, ps, ns, pc, pq, d, d', w, rfl, hl, hg, h1000, hna, hn, hn10, hng, i2, e1, i3, e2, q⟩ := h
    have hpc := hl.2 _ (List.mem_of_getElem? i2)
    have hpq := hl.2 _ (List.mem_of_getElem? i3)
    rw [e1] at hpc
    rw [e2] at hpq
    dsimp only [Row.vs] at hpc hpq
    walk_at "rd3"
    refine rix_row hl (atI_nat (j := 2) i2) ?_
    walk_at "rd3"
    refine rix_row hl (atI_nat (j := 3) i3) ?_
    walk_at "rd3"
    rename_i q0 hq0 t0 ht0
    have s3 : Same H (upd (upd H q0 (.tup [.int d, .str w])) t0 (.tup [.int d', .ref q0])) := (grow hq0).trans (grow ht0)
    generalize upd (upd H q0 (.tup [.int d, .str w])) t0 (.tup [.int d', .ref q0]) = H2 at s3
    have hl3 := hl.same s3
    refine ⟨⟨_, SqL.of hl3.1⟩, fun D hD => ?_⟩
    refine lc_at (walk_list (K := K) (a := l) (xs := ps.map fun p => V.ref p.1)) (fun i H4 => Same H2 H4 ∧ ∃ bs, H4 D = some (.lst (bs.map V.ref)) ∧ AtT pairV H4 bs (saids ((ps.take i).map (·.2)))) ⟨grow hD, [], upd_same, .nil⟩ (fun i H4 _ p => SqL.of (p.1 _ _ hl3.1)) (fun i x H4 H5 hi p y => ?_) (fun H4 p => ?_)
    · obtain ⟨s4, bs, hDb, hbs⟩ := p
      obtain ⟨rfl, ex⟩ := y
      rw [List.length_map] at hi
      have hp : ps[i]? = some ps[i] := List.getElem?_eq_getElem hi
      have hb := s4 _ _ (hl3.2 _ (List.getElem_mem hi))
      have hgd := hg _ (List.getElem_mem hi)
      rw [List.getElem?_map, hp] at ex
      have ex' : V.ref ps[i].1 = x := Option.some.inj ex
      subst ex'
      have htk : saids ((ps.take (i + 1)).map (·.2)) = saids ((ps.take i).map (·.2)) ++ (match ps[i].2.pair with | some z => [z] | none => []) := by
        rw [List.take_add_one, hp, List.map_append]
        unfold saids
        rw [List.filterMap_append]
        congr 1
        cases hpp : ps[i].2.pair with
        | none => simp [hpp]
        | some z => simp [hpp]
      have hDne : ∀ (b : Addr) (o : HO), H5 b = some o → (∀ xs, o ≠ .lst xs) → b ≠ D := fun b o e hno z => by
        rw [z, hDb] at e
        exact hno _ (Option.some.inj e).symm
      walk_at "rd3"
      refine rix_kind hb ?_
      walk_at "rd3"
      · rename_i e
        obtain ⟨d0, w0, z0, er⟩ := kind_said e
        rw [er] at hb
        dsimp only [Row.vs] at hb
        walk_at "rd3"
        rename_i q1 hq1
        refine ⟨bs.map V.ref, keep hDb hq1, ?_, fun b o eb => ?_, bs ++ [q1], by rw [upd_same, List.map_append]; rfl, ?_⟩
        · have := paired_len hbs
          have h2 : (saids ((ps.take i).map (·.2))).length ≤ ((ps.take i).map (·.2)).length := List.length_filterMap_le _ _
          rw [List.length_map, List.length_take] at h2
          rw [List.length_map, sizeLine_eq]
          omega
        · have hbD : b ≠ D := fun z => by
            rw [z, hD] at eb
            cases eb
          rw [upd_ne hbD]
          exact keep (s4 _ _ eb) hq1
        · rw [htk, er]
          have up : ∀ b xs, H5 b = some (.tup xs) → upd (upd H5 q1 (.tup [.str w0, .str z0])) D (.lst (bs.map V.ref ++ [V.ref q1])) b = some (.tup xs) := fun b xs eb => by
            rw [upd_ne (hDne b _ eb (fun xs z => nomatch z))]
            exact keep eb hq1
          have ne : q1 ≠ D := fun z => by
            rw [z, hDb] at hq1
            cases hq1
          have p1 : AtT pairV (upd (upd H5 q1 (.tup [.str w0, .str z0])) D (.lst (bs.map V.ref ++ [V.ref q1]))) bs (saids ((ps.take i).map (·.2))) := Paired.mapP hbs fun a c h => up a _ h
          refine Paired.snoc p1 ?_
          rw [upd_ne ne, upd_same]
          rfl
      · rename_i e
        refine ⟨s4, bs, hDb, ?_⟩
        rw [htk, pair_kind e, List.append_nil]
        exact hbs
    · obtain ⟨s4, bs, hDb, hbs⟩ := p
      rw [List.length_map, List.take_length] at hbs
      have s5 := s3.trans s4
      have hgs : ∀ p ∈ saids (ps.map fun p : Addr × Row => p.2), pairGood p := fun p hp => by
        obtain ⟨r, hr, e⟩ := List.mem_filterMap.mp hp
        obtain ⟨p', hp', rfl⟩ := List.mem_map.mp hr
        have gg := hg p' hp'
        cases hpr : p'.2 with
        | said a b c =>
          rw [hpr] at gg e
          cases e
          exact gg.2.2
        | _ => rw [hpr] at e; cases e
      have hna5 := s5 _ _ hna
      have hn5 : Paired (NormAt H4) as ns := Paired.mapP hn fun _ _ x => normAt_same s5 x
      have q5 : ∀ (p : Addr) (H' : Hp), Same H4 H' → H' p = some (.tup [.int (tells (ps.map (·.2)) d w d' ns).1, .bl (tells (ps.map (·.2)) d w d' ns).2]) → Q (.ref p) H' := fun p H' s6 hp => q p H' (s5.trans s6) hp
      unfold tells at q5
      generalize saids (ps.map fun p : Addr × Row => p.2) = said at hbs hgs q5
      clear s5 s4 s3 q hna hn hl3 hl
      have hlen : as.length = ns.length := paired_len hn5
      walk_at "rd3"
      refine ⟨⟨_, SqL.of hna5⟩, ?_⟩
      refine fr_it (walk_list (K := K) (a := na) (xs := as.map V.ref)) (fun i σ H2 => Same H4 H2 ∧ (∀ (j : Nat) (m : Norm), j < i → ns[j]? = some m → meets w said (d - d') m = false) ∧ ∃ a b c e f g, σ = [some (.ref na), some (.ref l), some (.int d'), some (.int d), some (.str w), some (.ref D), none, a, b, c, e, f, g])
        ⟨Same.refl _, fun j m hj => absurd hj (Nat.not_lt_zero _), _, _, _, _, _, _, rfl⟩ (fun i σ H2 _ p => SqL.of (p.1 _ _ hna5)) (fun i x σ H2 H3 hi p y => ?_) (fun σ H2 p => ?_)
      · obtain ⟨s2, hno, a, b, c, e, f, g, rfl⟩ := p
        obtain ⟨rfl, ex⟩ := y
        rw [List.length_map, hlen] at hi
        obtain ⟨t, ht, n1, n2, n3, n4, n5⟩ := paired_get2 hn5 (List.getElem?_eq_getElem hi)
        have hn : ns[i]? = some ns[i] := List.getElem?_eq_getElem hi
        rw [List.getElem?_map, ht] at ex
        have ex' : V.ref t = x := Option.some.inj ex
        subst ex'
        have m1 := s2 _ _ n3
        have m2 := s2 _ _ n4
        have gd := hng _ (List.mem_of_getElem? hn)
        generalize ns[i] = nn at hn m1 m2 n5 gd
        have hl2 : n2.length = nn.pairs.length := paired_len n5
        have next : meets w said (d - d') nn = false → ∀ (j : Nat) (m : Norm), j < i + 1 → ns[j]? = some m → meets w said (d - d') m = false := fun hm j m hj e => by
          rcases Nat.lt_succ_iff_lt_or_eq.mp hj with h | h
          · exact hno j m h e
          · rw [h, hn] at e
            cases e
            exact hm
        walk_at "rd3"
        · rename_i e1 e2
          refine ⟨⟨_, SqT.of m2⟩, fun D hD => ?_⟩
          refine lc_dataT (Rel := fun H (a : Addr) (z : Addr × SS) => z.1 = a ∧ H a = some (.tup (pairV z.2))) (fun _ _ _ _ s h => ⟨h.1, s _ _ h.2⟩) hD (SqT.of m2) (paired_zip (atT_same s2 n5)) (by rw [List.length_zip]; have := gd.2.1; omega) (inF said) (fun i b z H5 R R0 hi s hrel h1' h0 => ?_) (fun H5 s5 e5 => ?_)
          · obtain ⟨rfl, hrel⟩ := hrel
            have hz : z.2 ∈ nn.pairs := by
              have := List.mem_of_getElem? hi
              exact (List.of_mem_zip (a := z.1) (b := z.2) this).2
            walk_at "rd3"
            refine rin_pair hrel (s _ _ (s2 _ _ hDb)) (atT_same (s2.trans s) hbs) (gd.2.2.1 _ hz) hgs ?_
            refine ⟨_, rfl, ?_⟩
            split
            · next hin => 
              walk_at "rd3"
              exact h1' _ _ (Same.refl _) (if_pos hin)
            · next hin => exact h0 _ (Same.refl _) (if_neg hin)
          · have e6 := inF_len said (n2.zip nn.pairs)
            rw [zip_snd hl2] at e6
            have hzl : (n2.zip nn.pairs).length = nn.pairs.length := by rw [List.length_zip, hl2, Nat.min_self]
            have s6 : Same H4 H5 := s2.trans s5
            have m3 := s5 _ _ m2
            generalize (n2.zip nn.pairs).filterMap (inF said) = zs at e5 e6
            refine rlen_l e5 rfl ?_
            refine ⟨_, rfl, ?_⟩
            refine rlen_t (n := nn.pairs.length) m3 (by rw [List.length_map]; exact hl2) ?_
            rw [hzl] at e6
            refine req_ii ?_
            walk_at "rd3"
            · rename_i e8 pt hpt
              have hm : meets w said (d - d') nn = true := by
                unfold meets
                rw [decide_eq_true e1, decide_eq_true e2, ← e6.2]
                exact decide_eq_true (Int.ofNat.inj e8)
              rw [verdM_at hn hno hm] at q5
              exact q5 _ _ (same_upd2 s6 hpt) upd_same
            · rename_i e8
              have hm : meets w said (d - d') nn = false := by
                unfold meets
                rw [decide_eq_true e1, decide_eq_true e2, ← e6.2]
                exact decide_eq_false fun z => e8 (congrArg Int.ofNat z)
              exact ⟨s6, next hm, _, _, _, _, _, _, rfl⟩
        · rename_i e1 e2
          exact ⟨s2, next (by unfold meets; rw [decide_eq_false e2]; simp), _, _, _, _, _, _, rfl⟩
        · rename_i e1
          exact ⟨s2, next (by unfold meets; rw [decide_eq_false e1]; simp), _, _, _, _, _, _, rfl⟩
      · obtain ⟨s2, hno, a, b, c, e, f, g, rfl⟩ := p
        rw [List.length_map, hlen] at hno
        rw [verdM_none fun i n hi => hno i n (List.getElem?_eq_some_iff.mp hi).1 hi] at q5
        walk_at "rd3"
        rename_i pt hpt
        exact q5 _ _ (same_upd2 s2 hpt) upd_same
end
end Mk
/-! the law's own: _law_told, given a lambda */ -/
namespace Mk
open PySem PySem.Spec L2 He LamX
/-- what the lambda answers, or 'record' where it lets out BadRecord -/
def TTm (K : PySem.W.Frag) : (XK → Hp → VK → Prop) → Hp → VK → Prop := fun tl H Q => tl (fun cls d H' => cls = .ref (ga K "BadRecord") ∧ d = none ∧ Q (.str "record") H') H Q
def tErr (K : PySem.W.Frag) (a : Addr) : TS := tRet (tIf (tTest (tCB (rIsE K (ga K "BadRecord") a) (tCons (tVar 1) (tCons (tC (.ref (ga K "BadRecord"))) tNil)))) (tC (.str "record")) (tC (.str "else")))
theorem tErr_ok {K : PySem.W.Frag} {a : Addr} {D : Ends} {σ0 : L2.St} {H : Hp} (hl : σ0.length = 2) (q : D.rt (.str "record") H) : tErr K a D (σ0.set 1 (some (.ref a))) H := by
  match σ0, hl with
  | [x, y], _ => exact ⟨.ref a, rfl, .ref (ga K "BadRecord"), .ref (ga K "BadRecord"), true, rfl, fun u r => r, by unfold PySem.W.kitOne; simp, true, rfl, q⟩
section
variable {P : Program} {w : World} {K : PySem.W.Frag} {mg : Str → Option Value} {base : Heap}
theorem told_m {X : Cx} {g : Addr} {cdg : Value} {q : Str} (T : Tx X.w X.K X.mg) : GivesTo X ns__law_told "_law_told" (defScope s__law_told) g cdg (defBody s__law_told) "_law_ask" q (TTm X.K) := by
  intro f c' s H Q tl act hc h
  refine ⟨_, pss_one (ps_try_as (X := (cxOf C8.CX0 X.prog X.w X.K X.mg X.base ns__law_told "_law_told" (defScope s__law_told) g cdg X.A X.stack s H C8.E0).nox) (c := .ref (ga X.K "MarketError")) (i := 1)
      (ts := fun a cls d D σ H => cls = .ref (ga X.K "BadRecord") ∧ d = none ∧ (∃ σ0 : L2.St, σ = σ0.set 1 (some (.ref a))) ∧ D.rt (.str "record") H)
      (tb := fun W D σ H => ∃ Ech : XK, (∀ cls d σ' H', Ech cls d H' → W cls d σ' H') ∧ σ[0]? = some (some (.ref f)) ∧ H c' = some (CodeO c' q) ∧ tl Ech H D.rt)
      rfl rfl sc__law_told.nd rfl (by rfl) ⟨by rfl, by decide, .inl T.g_MarketError⟩ LamX.takes0 (fun W pn xe tk _ => ?_) (fun a oe cls d pn hz hf => ?_)), ?_⟩
  · refine ⟨fun pins s' σ H' D I h' => ?_⟩
    obtain ⟨Ech, hW, h1, h2, h3⟩ := h'
    exact (pss_one (ps_ret (act W pn xe Ech _ _ tk hW))).run pins s' σ H' D I ⟨h1, h2, h3⟩
  · refine ⟨fun pins s' σ H' D I h' => ?_⟩
    obtain ⟨rfl, rfl, ⟨σ0, rfl⟩, h'⟩ := h'
    have hl : (σ0.set 1 (some (V.ref a))).length = 2 := I.len
    rw [List.length_set] at hl
    exact (pss_one (ps_ret (pe_ifExp (pt_val (pe_callB (call_isE (X := (cxOf C8.CX0 X.prog X.w X.K X.mg X.base ns__law_told "_law_told" (defScope s__law_told) g cdg X.A X.stack s H C8.E0).nox) (pn := pn) (D := ga X.K "BadRecord") T.excC hz hf) (by rfl) T.b_isinstance bt_isinstance (pa_cons (pv 1) (pa_cons (pe_ga T.g_BadRecord) pa_nil)))) pe_str pe_str))).run pins s' _ H' D I (tErr_ok hl h')
  · refine ⟨fun cls d H' => cls = .ref (ga X.K "BadRecord") ∧ d = none ∧ Q (.str "record") H', fun cls d σ' H' h => ?_, rfl, hc, h⟩
    obtain ⟨rfl, rfl, hq⟩ := h
    exact ⟨true, T.exm, fun _ a _ => ⟨rfl, rfl, ⟨_, rfl⟩, hq⟩, fun z => by cases z⟩
/-- _law_told(lambda: body) -/
theorem pe_told {X : Cx} {c Pt : Addr} {k : Nat} {params : Arguments} {body : Expr} {scope : Scope} {t : XK → TE} {p lpos pos : Pos} (T : Tx X.w X.K X.mg) (hg : Gl X "_law_told") (TB : TabB X.base X.mg c Pt) (hcode : X.env.code = .ref c) (hr : Room (k + 2) X.A) (L : LamS X.env.scope scope)
    (hdef : defaultsOf params X.env = ([], [])) (hbind : ∀ (q : Str) (cl : List (Str × Addr)) (pm cv ctv : Value), bindArgs (PySem.W.kla_fn "<lambda>" q params body scope cl pm cv ctv) ⟨[], []⟩ = pure [])
    (hbody : ∀ (A : Around) (outer : List Env) (s : Shared) (H : Hp) (E : XK) (f c' : Addr), Room k (A.deeper (lamEnv X scope s.heap.objs.size f c')) → PE (lamCx X A outer s H E scope f c') body (t E)) :
    PE X (.Call (.Name "_law_told" p) [.Lambda params body scope lpos] [] pos) (tLam [(Pt, X.env.qual ++ "<lambda>")] (TTm X.K) t) := by
  obtain ⟨fd, F⟩ := T.d__law_told
  have hb := F.bindsN (ps := ["_law_ask"]) (fun _ _ _ _ _ _ us hl => match us, hl with | [_], _ => rfl)
  have hk := F.kp
  obtain ⟨oc, od, dV, kV, doc, pm, an, cdv, ct, osl, rfl, lk, hcd, _, _⟩ := F.ex
  exact pe_lamcall hg T.g__law_told hk lk hcd hb sc__law_told rfl (.inl rfl) (told_m T) TB hcode (List.mem_singleton.mpr rfl) (fun q hq _ => by rw [List.mem_singleton.mp hq]) hr L hdef hbind hbody
end
end Mk
/-! Rules for the law's own comparisons. -/
namespace Mk
open PySem PySem.Spec L2 He LamX
def rNeL (K : PySem.W.Frag) : V → V → Hp → VK → Prop := fun x y H Q => rNe x y H Q ∨ (rNeD K x y H Q ∨ rNeT x y H Q)
theorem op_neL {X : Cx} {K : PySem.W.Frag} (e : X.K = K) (hu : X.A.units + 64 < cLine) : OpR X (compareOp .NotEq) (rNeL K) := OpR.or op_ne (OpR.or (op_neDK e hu) (op_neT hu))
def rTupOf (K : PySem.W.Frag) : List V → Hp → VK → Prop := fun xs H Q => ∃ p ys, xs = [.ref p] ∧ ((SqL K H p ys ∧ ∀ l, H l = none → Q (.ref l) (upd H l (.tup ys))) ∨ (SqT K H p ys ∧ Q (.ref p) H))
theorem call_tupleK {X : Cx} {K : PySem.W.Frag} (e : X.K = K) : CallR X (.type "tuple") (rTupOf K) := e ▸ call_tuple_of
def rListT : List V → Hp → VK → Prop := fun xs H Q => ∃ (d : Addr) (kvs : List (List L2.Key × V)), xs = [V.ref d] ∧ Rd H d (.dT kvs) ∧ ∀ p bs, H p = none → IsKeys H kvs bs → Q (.ref p) (upd H p (.lst (bs.map V.ref)))
theorem call_listT {X : Cx} (hc : X.calm = true) : CallR X (.type "list") rListT := call_list_dT hc
def tRevK (K : PySem.W.Frag) (te : TE) : TE := fun σ H Q => te σ H fun x H1 => ∃ a xs, x = .ref a ∧ SqL K H1 a xs ∧ ∀ p, H1 p = none → Q (.ref p) (upd H1 p (.lst xs.reverse))
theorem pe_revK {X : Cx} {K : PySem.W.Frag} (e : X.K = K) {el : Expr} {te : TE} {k : Nat} {p1 p2 p3 pos : Pos} (he : PE X el te) : PE X (.Subscript el (.Slice none none (some (.UnaryOp .USub (.Constant (.int 1) k p1) p2)) p3) pos) (tRevK K te) := e ▸ pe_revL he
end Mk
/-! Rules for the menus: an item by a draw, slices, a dict of pairs. -/
namespace Mk
open PySem PySem.Spec L2 He
def rDictP (K : PySem.W.Frag) : List V → Hp → VK → Prop := fun xs H Q => ∃ (a : Addr) (ps : List Addr) (kvs : List (L2.Key × V)), xs = [.ref a] ∧ SqL K H a (ps.map V.ref) ∧ Paired (fun p kv => SqT K H p [kV kv.1, kv.2]) ps kvs ∧
    ∀ p, H p = none → Q (.ref p) (upd H p (.dK (mergeK [] kvs)))
def rListDK : List V → Hp → VK → Prop := fun xs H Q => ∃ (a : Addr) (kvs : List (L2.Key × V)), xs = [.ref a] ∧ Rd H a (.dK kvs) ∧ ∀ p, H p = none → Q (.ref p) (upd H p (.lst (kvs.map fun kv => kV kv.1)))

theorem call_dictPK {X : Cx} {K : PySem.W.Frag} (e : X.K = K) (hc : X.calm = true) : CallR X (.type "dict") (rDictP K) := e ▸ call_dictP hc
theorem call_listDK {X : Cx} (hc : X.calm = true) : CallR X (.type "list") rListDK := call_listD hc

theorem call_setW {X : Cx} {w : World} (e : X.w = w) (hc : X.calm = true) : CallR X (.type "set") (rSetTx w) := e ▸ call_setTx hc
theorem cr_sortW {X : Cx} {w : World} (e : X.w = w) (hc : X.calm = true) : CallR X (.builtin "sorted") (rSortTx w) := e ▸ cr_sortTx hc
theorem atI_mem {α : Type} {xs : List α} {k : Int} (h0 : 0 ≤ k) (h1 : k < (xs.length : Nat)) : ∃ x, x ∈ xs ∧ atI xs k = some x := by
  have hk : k.toNat < xs.length := by omega
  refine ⟨xs[k.toNat], List.getElem_mem hk, ?_⟩
  have q := atI_nat (List.getElem?_eq_getElem hk)
  rw [Int.toNat_of_nonneg h0] at q
  exact q
section
variable {K : PySem.W.Frag} {H : Hp} {Q : VK} {p : Addr} {k : Int} {xs : List V}
theorem rix_tp (h : H p = some (.tup xs)) (h0 : 0 ≤ k) (h1 : k < (xs.length : Nat)) (q : ∀ v ∈ xs, Q v H) : rIxT K (.ref p) (.int k) H Q := by
  obtain ⟨v, hv, e⟩ := atI_mem h0 h1
  exact rix_t h e (q v hv)
theorem rix_lp (h : H p = some (.lst xs)) (h0 : 0 ≤ k) (h1 : k < (xs.length : Nat)) (q : ∀ v ∈ xs, Q v H) : rIxL K (.ref p) (.int k) H Q := by
  obtain ⟨v, hv, e⟩ := atI_mem h0 h1
  exact rix_l h e (q v hv)
theorem rix_tS {ss : List Str} (h : H p = some (.tup (ss.map V.str))) (h0 : 0 ≤ k) (h1 : k < (ss.length : Nat)) (q : ∀ z ∈ ss, Q (.str z) H) : rIxT K (.ref p) (.int k) H Q :=
  rix_tp h h0 (by rw [List.length_map]; exact h1) fun v hv => by
    obtain ⟨z, hz, rfl⟩ := List.mem_map.mp hv
    exact q z hz
theorem rix_lS {ss : List Str} (h : H p = some (.lst (ss.map V.str))) (h0 : 0 ≤ k) (h1 : k < (ss.length : Nat)) (q : ∀ z ∈ ss, Q (.str z) H) : rIxL K (.ref p) (.int k) H Q :=
  rix_lp h h0 (by rw [List.length_map]; exact h1) fun v hv => by
    obtain ⟨z, hz, rfl⟩ := List.mem_map.mp hv
    exact q z hz
theorem rix_tI {is : List Int} (h : H p = some (.tup (is.map V.int))) (h0 : 0 ≤ k) (h1 : k < (is.length : Nat)) (q : ∀ z ∈ is, Q (.int z) H) : rIxT K (.ref p) (.int k) H Q :=
  rix_tp h h0 (by rw [List.length_map]; exact h1) fun v hv => by
    obtain ⟨z, hz, rfl⟩ := List.mem_map.mp hv
    exact q z hz
theorem rix_t3S {a b c : Str} (h : H p = some (.tup [.str a, .str b, .str c])) (h0 : 0 ≤ k) (h1 : k < 3) (q : ∀ z ∈ [a, b, c], Q (.str z) H) : rIxT K (.ref p) (.int k) H Q := rix_tS (ss := [a, b, c]) h h0 h1 q
theorem rix_t2S {a b : Str} (h : H p = some (.tup [.str a, .str b])) (h0 : 0 ≤ k) (h1 : k < 2) (q : ∀ z ∈ [a, b], Q (.str z) H) : rIxT K (.ref p) (.int k) H Q := rix_tS (ss := [a, b]) h h0 h1 q
theorem rix_t4I {a b c d : Int} (h : H p = some (.tup [.int a, .int b, .int c, .int d])) (h0 : 0 ≤ k) (h1 : k < 4) (q : ∀ z ∈ [a, b, c, d], Q (.int z) H) : rIxT K (.ref p) (.int k) H Q := rix_tI (is := [a, b, c, d]) h h0 h1 q
theorem rix_t5I {a b c d e : Int} (h : H p = some (.tup [.int a, .int b, .int c, .int d, .int e])) (h0 : 0 ≤ k) (h1 : k < 5) (q : ∀ z ∈ [a, b, c, d, e], Q (.int z) H) : rIxT K (.ref p) (.int k) H Q := rix_tI (is := [a, b, c, d, e]) h h0 h1 q
theorem rix_t6I {a b c d e f : Int} (h : H p = some (.tup [.int a, .int b, .int c, .int d, .int e, .int f])) (h0 : 0 ≤ k) (h1 : k < 6) (q : ∀ z ∈ [a, b, c, d, e, f], Q (.int z) H) : rIxT K (.ref p) (.int k) H Q := rix_tI (is := [a, b, c, d, e, f]) h h0 h1 q
theorem rsl_map {α : Type} {f : α → V} {zs : List α} {lo hi : Option Int} (h : H p = some (.lst (zs.map f))) (k : ∀ q, H q = none → Q (.ref q) (upd H q (.lst ((cutA zs lo hi).map f)))) : rSlL K (.ref p) lo hi H Q :=
  ⟨p, _, rfl, SqL.of h, fun q hq => by rw [cutV_map]; exact k q hq⟩
theorem rsl_tmap {α : Type} {f : α → V} {zs : List α} {lo hi : Option Int} (h : H p = some (.tup (zs.map f))) (k : ∀ q H', Same H H' → H' q = some (.tup ((cutA zs lo hi).map f)) → Q (.ref q) H') : rSlA K (.ref p) lo hi H Q := by
  refine ⟨p, _, rfl, SqT.of h, fun e => k p H (Same.refl _) ?_, fun _ q hq => k q _ (grow hq) ?_⟩
  · rw [List.length_map] at e
    have e2 : cutA zs lo hi = zs := by
      unfold cutA
      rw [e.1, e.2, List.drop_zero, Nat.sub_zero, List.take_of_length_le (Nat.le_refl _)]
    rw [e2]
    exact h
  · rw [upd_same, cutV_map]
end
theorem cutA_toI {α : Type} (xs : List α) {j : Int} (h : 0 ≤ j) : cutA xs none (some j) = xs.take j.toNat := by
  have e := cutA_to xs j.toNat
  rw [Int.toNat_of_nonneg h] at e
  exact e
theorem cutA_fromI {α : Type} (xs : List α) {j : Int} (h : 0 ≤ j) : cutA xs (some j) none = xs.drop j.toNat := by
  have e := cutA_from xs j.toNat
  rw [Int.toNat_of_nonneg h] at e
  exact e
theorem cutA_sub {α : Type} (xs : List α) (lo hi : Option Int) : (cutA xs lo hi).Sublist xs := (List.take_sublist _ _).trans (List.drop_sublist _ _)
theorem take_n {H : Hp} {Q : VK} {E : XK} {d : Addr} {n : Int} (hd : H d = some (DrawsO d)) (hn : 0 < n) (q : ∀ (k : Int) H', Same H H' → 0 ≤ k → k < n → Q (.int k) H') : spTake [.ref d, .int n] H Q E := ⟨d, n, rfl, hn, hd, q⟩
theorem rtup_l {K : PySem.W.Frag} {H : Hp} {Q : VK} {p : Addr} {xs : List V} (h : H p = some (.lst xs)) (k : ∀ l, H l = none → Q (.ref l) (upd H l (.tup xs))) : rTupOf K [.ref p] H Q := ⟨p, xs, rfl, .inl ⟨SqL.of h, k⟩⟩
theorem rlistd_t {H : Hp} {Q : VK} {p : Addr} {xs : List SS} (h : H p = some (.dK (dKS xs))) (k : ∀ l, H l = none → Q (.ref l) (upd H l (.lst ((xs.map (·.1)).map V.str)))) : rListDK [.ref p] H Q := by
  refine ⟨p, _, rfl, .inl h, fun l hl => ?_⟩
  have e : ((dKS xs).map fun kv => kV kv.1) = (xs.map (·.1)).map V.str := by
    unfold dKS
    rw [List.map_map, List.map_map]
    rfl
  rw [e]
  exact k l hl
/-! ### dicts of texts: put, made of pairs -/
def putS (xs : List SS) (k v : Str) : List SS := if (xs.any fun p => decide (p.1 = k)) = true then xs.map (fun p => if p.1 = k then (p.1, v) else p) else xs ++ [(k, v)]
theorem dKS_put (xs : List SS) (k v : Str) : putK (dKS xs) (.inr k) (V.str v) = dKS (putS xs k v) := by
  have e : ((dKS xs).any fun kv => decide (kv.1 = Sum.inr k)) = xs.any fun p => decide (p.1 = k) := by
    unfold dKS
    rw [List.any_map]
    congr 1
    funext p
    show decide ((Sum.inr p.1 : L2.Key) = Sum.inr k) = decide (p.1 = k)
    by_cases h : p.1 = k
    · simp [h]
    · have h2 : ¬ (Sum.inr p.1 : L2.Key) = Sum.inr k := fun z => h (by injection z)
      simp [h, h2]
  unfold putK putS
  rw [e]
  by_cases h : (xs.any fun p => decide (p.1 = k)) = true
  · rw [if_pos h, if_pos h]
    unfold dKS
    rw [List.map_map, List.map_map]
    congr 1
    funext p
    show (if (Sum.inr p.1 : L2.Key) = Sum.inr k then ((Sum.inr p.1 : L2.Key), V.str v) else (Sum.inr p.1, V.str p.2)) = (Sum.inr (if p.1 = k then (p.1, v) else p).1, V.str (if p.1 = k then (p.1, v) else p).2)
    by_cases h : p.1 = k
    · rw [if_pos (by rw [h]), if_pos h]
    · rw [if_neg (fun z => h (by injection z)), if_neg h]
  · rw [if_neg h, if_neg h]
    unfold dKS
    rw [List.map_append]
    rfl
theorem putS_new {xs : List SS} {k v : Str} (h : k ∉ xs.map (·.1)) : putS xs k v = xs ++ [(k, v)] := by
  unfold putS
  rw [if_neg]
  intro e
  obtain ⟨p, hp, e⟩ := List.any_eq_true.mp e
  exact h (List.mem_map.mpr ⟨p, hp, of_decide_eq_true e⟩)
theorem mergeS_new : ∀ (ys xs : List SS), ((xs ++ ys).map (·.1)).Nodup → mergeK (dKS xs) (dKS ys) = dKS (xs ++ ys)
  | [], xs, _ => by
    rw [List.append_nil]
    rfl
  | y :: ys, xs, h => by
    have e : xs ++ y :: ys = (xs ++ [y]) ++ ys := by rw [List.append_assoc]; rfl
    rw [e] at h ⊢
    have hn : y.1 ∉ xs.map (·.1) := by
      intro z
      rw [List.map_append, List.map_append, List.nodup_append] at h
      exact (List.nodup_append.mp h.1).2.2 _ z _ (by simp) rfl
    rw [← mergeS_new ys _ h]
    show mergeK (putK (dKS xs) (.inr y.1) (V.str y.2)) (dKS ys) = _
    rw [dKS_put, putS_new hn]
theorem rdict_pairs {K : PySem.W.Frag} {H : Hp} {Q : VK} {l : Addr} {bs : List Addr} {xs : List SS} (h : H l = some (.lst (bs.map V.ref))) (g : AtT pairV H bs xs) (nd : (xs.map (·.1)).Nodup) (k : ∀ p, H p = none → Q (.ref p) (upd H p (.dK (dKS xs)))) : rDictP K [.ref l] H Q := by
  refine ⟨l, bs, dKS xs, rfl, SqL.of h, ?_, fun p hp => ?_⟩
  · clear h nd k
    induction g with
    | nil => exact .nil
    | cons h g ih => exact .cons (SqT.of h) ih
  · have e : mergeK [] (dKS xs) = dKS xs := by
      have := mergeS_new xs [] (by rw [List.nil_append]; exact nd)
      rw [List.nil_append] at this
      exact this
    rw [e]
    exact k p hp
theorem rdput_s {a : Addr} {xs : List SS} {z v : Str} {H : Hp} {R : Hp → Prop} (h : H a = some (.dK (dKS xs))) (hl : xs.length ≤ 100) (hn : z ∉ xs.map (·.1)) (q : R (upd H a (.dK (dKS (xs ++ [(z, v)]))))) : rDPut (.str v) (.str z) (.ref a) H R :=
  ⟨a, _, rfl, DPut.k (k := .inr z) h (by unfold dKS; rw [List.length_map, sizeLine_eq]; omega), by rw [dKS_put, putS_new hn]; exact q⟩
theorem rset_s {w : World} {H : Hp} {Q : VK} {a : Addr} {l : List Str} (h : H a = some (.lst (l.map V.str))) (hl : l.length ≤ 60) (k : ∀ p, H p = none → Q (.ref p) (upd H p (TxO w p l))) : rSetTx w [.ref a] H Q := ⟨a, l, rfl, h, hl, k⟩
theorem rsort_s {w : World} {H : Hp} {Q : VK} {a : Addr} {l : List Str} (h : H a = some (TxO w a l)) (hl : l.length ≤ 60) (k : ∀ (p : Addr) (ss : List Str), H p = none → (∀ z ∈ ss, z ∈ l) → ss.length ≤ l.length → (l ≠ [] → ss ≠ []) → Q (.ref p) (upd H p (.lst (ss.map V.str)))) : rSortTx w [.ref a] H Q := ⟨a, l, rfl, h, hl, k⟩
/-- tuples stay -/
def KeepT (H H' : Hp) : Prop := ∀ b xs, H b = some (.tup xs) → H' b = some (.tup xs)
theorem atT_keep {α : Type} {f : α → List V} {H H' : Hp} (k : KeepT H H') {as : List Addr} {ds : List α} (p : AtT f H as ds) : AtT f H' as ds := Paired.mapP p fun _ _ h => k _ _ h
theorem normAt_keep {H H' : Hp} (k : KeepT H H') {a : Addr} {n : Norm} (p : NormAt H a n) : NormAt H' a n := by
  obtain ⟨q, bs, h1, h2, h3⟩ := p
  exact ⟨q, bs, k _ _ h1, k _ _ h2, atT_keep k h3⟩
theorem keepT_same {H H' : Hp} (s : Same H H') : KeepT H H' := fun b xs e => s _ _ e
theorem keepT_lst {H : Hp} {D : Addr} {ys zs : List V} (hD : H D = some (.lst ys)) : KeepT H (upd H D (.lst zs)) := fun b xs e => by
  rw [upd_ne (fun z => by rw [z, hD] at e; cases e)]
  exact e
theorem KeepT.trans {H H' H'' : Hp} (a : KeepT H H') (b : KeepT H' H'') : KeepT H H'' := fun c xs e => b c xs (a c xs e)
/-- a new tuple's place, behind a list -/
theorem snoc_at {α : Type} {f : α → List V} {H1 H4 : Hp} {D q : Addr} {bs : List Addr} {ds : List α} {x : α} {xs : List V} (hx : xs = f x) (s : Same H1 H4) (hD0 : H1 D = none) (hD : H4 D = some (.lst (bs.map V.ref))) (hds : AtT f H4 bs ds) (hq : H4 q = none) :
    Same H1 (upd (upd H4 q (.tup xs)) D (.lst (bs.map V.ref ++ [V.ref q]))) ∧ upd (upd H4 q (.tup xs)) D (.lst (bs.map V.ref ++ [V.ref q])) D = some (.lst ((bs ++ [q]).map V.ref)) ∧ AtT f (upd (upd H4 q (.tup xs)) D (.lst (bs.map V.ref ++ [V.ref q]))) (bs ++ [q]) (ds ++ [x]) := by
  have k : KeepT (upd H4 q (.tup xs)) (upd (upd H4 q (.tup xs)) D (.lst (bs.map V.ref ++ [V.ref q]))) := keepT_lst (keep hD hq)
  refine ⟨same_upd (same_upd2 s hq) hD0, by rw [upd_same, List.map_append]; rfl, Paired.snoc (atT_keep ((keepT_same (grow hq)).trans k) hds) ?_⟩
  rw [← hx]
  exact k _ _ upd_same
/-- the parts of a world, in one list -/
def PartsL (H : Hp) (a : Addr) (W : Wd) : Prop := ∃ la wa pa ca da na : Addr, H a = some (.lst [.ref la, .ref wa, .ref pa, .ref ca, .ref da, .ref na, .int W.cut, .int W.wait, .int W.comp]) ∧ PartsIn H la wa pa ca da na W
theorem PartsL.same {H H' : Hp} (s : Same H H') {a : Addr} {W : Wd} (h : PartsL H a W) : PartsL H' a W := by
  obtain ⟨la, wa, pa, ca, da, na, h1, h2⟩ := h
  exact ⟨la, wa, pa, ca, da, na, s _ _ h1, h2.same s⟩
end Mk
/-! the law's own: _law_due -/
namespace Mk
open PySem PySem.Spec L2 He
/-- an account's own place, its key's, the key, the amount -/
abbrev DI := Addr × Addr × List Str × Int
def DueAt (H : Hp) (d : DI) : Prop := H d.1 = some (.tup [.ref d.2.1, .int d.2.2.2]) ∧ H d.2.1 = some (.tup (d.2.2.1.map V.str))
theorem DueAt.same {H H' : Hp} (s : Same H H') {d : DI} (h : DueAt H d) : DueAt H' d := ⟨s _ _ h.1, s _ _ h.2⟩
def DueIn (H : Hp) (l : Addr) (ds : List DI) : Prop := H l = some (.lst (ds.map fun d => V.ref d.1)) ∧ ∀ d ∈ ds, DueAt H d
def duesF (ds : List DI) : FI := ds.map fun d => (d.2.2.1, d.2.2.2)
def nzF (d : DI) : Option V := if decide (d.2.2.2 ≠ 0) = true then some (.ref d.1) else none
theorem nzF_map (ds : List DI) : ds.filterMap nzF = (ds.filter fun d => decide (d.2.2.2 ≠ 0)).map fun d => V.ref d.1 := by
  induction ds with
  | nil => rfl
  | cons d ds ih =>
    rw [List.filterMap_cons, List.filter_cons]
    unfold nzF at ih ⊢
    by_cases h : decide (d.2.2.2 ≠ 0) = true
    · rw [if_pos h, if_pos h, List.map_cons]
      simp only []
      rw [ih]
    · rw [if_neg h, if_neg h]
      exact ih
theorem nz_dues (ds : List DI) : nzI (duesF ds) = duesF (ds.filter fun d => decide (d.2.2.2 ≠ 0)) := by
  unfold nzI duesF
  rw [List.filter_map]
  rfl
theorem mergeT_new : ∀ (ds : List DI) (F : FI), ((F ++ duesF ds).map (·.1)).Nodup → mergeT (toT F) (ds.map fun d => (kk d.2.2.1, d.2.1, V.int d.2.2.2)) = toT (F ++ duesF ds)
  | [], F, _ => by
    show toT F = _
    unfold duesF
    rw [List.map_nil, List.append_nil]
  | d :: ds, F, h => by
    have e : F ++ duesF (d :: ds) = (F ++ [(d.2.2.1, d.2.2.2)]) ++ duesF ds := by
      unfold duesF
      rw [List.map_cons, List.append_assoc]
      rfl
    rw [e] at h ⊢
    have hn : d.2.2.1 ∉ F.map (·.1) := by
      intro z
      rw [List.map_append, List.map_append, List.nodup_append] at h
      have h2 := (List.nodup_append.mp h.1).2.2
      exact h2 _ z _ (by simp) rfl
    rw [← mergeT_new ds _ h]
    show mergeT (putK (toT F) (kk d.2.2.1) (V.int d.2.2.2)) _ = _
    rw [toT_put_new hn]
theorem rdict_due {H : Hp} {Q : VK} {l : Addr} {ds : List DI} (h : H l = some (.lst (ds.filterMap nzF))) (g : ∀ d ∈ ds, DueAt H d) (nd : ((duesF ds).map (·.1)).Nodup) (k : ∀ p, H p = none → Q (.ref p) (upd H p (.dT (toT (nzI (duesF ds)))))) : rDictT [.ref l] H Q := by
  have g2 : ∀ d ∈ ds.filter (fun d => decide (d.2.2.2 ≠ 0)), DueAt H d := fun d hd => g d (List.mem_filter.mp hd).1
  have n2 : ((duesF (ds.filter fun d => decide (d.2.2.2 ≠ 0))).map (·.1)).Nodup := by
    rw [← nz_dues]
    unfold nzI
    exact List.Nodup.sublist ((List.filter_sublist).map _) nd
  rw [nzF_map] at h
  rw [nz_dues] at k
  generalize ds.filter (fun d => decide (d.2.2.2 ≠ 0)) = es at *
  have e1 : (es.map fun d => V.ref d.1) = (es.map fun d => d.1).map V.ref := by
    rw [List.map_map]
    rfl
  have e2 := mergeT_new es [] (by rw [List.nil_append]; exact n2)
  rw [List.nil_append] at e2
  refine ⟨l, es.map fun d => d.1, es.map fun d => (kk d.2.2.1, d.2.1, V.int d.2.2.2), rfl, by rw [← e1]; exact h, ?_, fun p hp => ?_⟩
  · clear e1 e2 h n2 k nd g
    induction es with
    | nil => exact .nil
    | cons d es ih =>
      refine .cons ⟨(g2 d List.mem_cons_self).1, ?_⟩ (ih fun x hx => g2 x (List.mem_cons_of_mem _ hx))
      show H d.2.1 = some (.tup ((kk d.2.2.1).map kV))
      rw [kk_kV]
      exact (g2 d List.mem_cons_self).2
  · have e3 : mergeT [] (es.map fun d => (kk d.2.2.1, d.2.1, V.int d.2.2.2)) = toT (duesF es) := e2
    rw [e3]
    exact k p hp
local macro_rules | `(tactic| walk_at "rdu3") => `(tactic| dsimp only [tSeq, tNext, tRet, tRetN, tAsg, tDrop, tIfS, tOr, tAnd, tNot, tB, tTest, tCB, tCons, tNil, tVar, tC, tOp, tUn, tOrV, tAndV, tNotV, tIf, tChain, tCall, tTup, tLst, gName, L2.start, dl_map, dl_map0, dl_app, dl_app0, List.length_cons, List.length_nil, List.replicate, List.set, Nat.reduceAdd, Nat.reduceSub, tLc_eq, tFor_eq, sck_eq, dct_eq, tPar, gCons, gNil, iList, iTup, iRng1, iStr, wipe, tYes, tSl, tPart, tNoPart, tFld, tMeth, tMake, tFldK, sFldK, tDGetK, tDInK, tDNotInK, iItemsK, tLV, tLockE, tLock, tMakeK,  tDNewK, tPairs, tBM, tDispTK, iItemsTK, sDPutK, sDAugK])
local macro_rules | `(tactic| walk_at "lk3") => `(tactic| first | assumption | (with_reducible exact upd_same) | ((with_reducible apply keep); rotate_left; (focus assumption); walk_at "lk3") | ((with_reducible apply kp); (focus assumption); walk_at "lk3") | ((with_reducible apply keepI); rotate_left; (focus (walk_at "lk3")); (focus (intro _ _ _ e; cases e)); walk_at "lk3"))
local macro_rules | `(tactic| walk_at "lq3") => `(tactic| first | assumption | exact .inl (SqL.of (by walk_at "lk3")) | exact .inr (SqT.of (by walk_at "lk3")) | (refine sq2_same (grow (by assumption)) ?_; walk_at "lq3") | (refine sq2_same (by assumption) ?_; walk_at "lq3"))
local macro_rules | `(tactic| walk_at "sm3") => `(tactic| first | exact Same.refl _ | assumption | (refine same_upd2 ?_ (by assumption); walk_at "sm3") | (refine same_upd ?_ (by assumption); walk_at "sm3") | (refine Same.trans ?_ (by assumption); walk_at "sm3"))
local macro_rules | `(tactic| walk_at "rd13") => `(tactic| first
  | ((with_reducible apply rfld_t); (focus (walk_at "lk3")); (focus assumption); (focus assumption); (focus with_unfolding_all rfl))
  | ((with_reducible apply rsetf_t); (focus (walk_at "lk3")); (focus assumption); (focus assumption); (focus with_unfolding_all rfl); (focus (simp; done)); walk_at "rdu3")
  | ((with_reducible apply rlend_t); (focus (walk_at "lk3")))
  | ((with_reducible apply rlist_l); (focus (walk_at "lk3")); intro _ _)
  | ((with_reducible apply rdict_d); (focus (walk_at "lk3")); intro _ _)
  | ((with_reducible apply rdg_t); (focus (walk_at "lk3")); (focus first | assumption | with_unfolding_all rfl))
  | ((with_reducible apply rdi_some); (focus (walk_at "lk3")); (focus assumption))
  | ((with_reducible apply rdn_some); (focus (walk_at "lk3")); (focus assumption))
  | ((with_reducible apply rdi_t); (focus (walk_at "lk3")))
  | ((with_reducible apply rdn_t); (focus (walk_at "lk3")))
  | ((with_reducible apply rcat_t); (focus (walk_at "lk3")); (focus (walk_at "lk3")); (focus first | (refine line_ge ?_; simp; done) | (refine line_ge ?_; simp; omega)); intro _ _; walk_at "rdu3")
  | ((with_reducible apply rmeth_t); (focus (walk_at "lk3")); (focus with_unfolding_all rfl))
  | ((with_reducible apply rlv_t); (focus (walk_at "lk3")); intro _ _)
  | ((with_reducible apply rpow18))
  | ((with_reducible apply rng_t); (focus omega); (focus omega))
  | ((with_reducible apply tyl); (focus (walk_at "lk3")))
  | ((with_reducible apply rapp_t); (focus (walk_at "lk3")); (focus first | (refine Nat.lt_of_lt_of_le ?_ (line_ge (Nat.le_refl 16777216)); simp; omega) | (rw [sizeLine_eq]; simp; omega) | (rw [sizeLine_eq]; omega)); walk_at "rdu3")
  | ((with_reducible apply req_ss))
  | ((with_reducible apply req_ii))
  | ((with_reducible apply req_bb))
  | ((with_reducible apply rne_ss))
  | ((with_reducible apply rne_ii))
  | ((with_reducible apply cm_l); (focus omega); (focus omega))
  | ((with_reducible apply cm_r); (focus omega); (focus omega))
  | ((with_reducible apply cd_i); (focus omega); (focus omega))
  | ((with_reducible apply md_i); (focus omega))
  | ((with_reducible apply part1))
  | ((with_reducible apply num2))
  | ((with_reducible apply num3))
  | ((with_reducible apply name1); (focus first | assumption | decide +kernel); intro _ _)
  | ((with_reducible apply one_m); (focus (walk_at "lq3")))
  | ((with_reducible apply one_s); (focus (walk_at "lq3")); (focus with_unfolding_all rfl))
  | refine ⟨_, rfl, ?_⟩
  | refine ⟨_, _, rfl, rfl, ?_⟩
  | ((with_reducible apply gcons_t))
  | ((with_reducible apply gpar_t))
  | ((with_reducible apply gpar3_t))
  | refine ⟨rfl, ?_⟩
  | ((with_reducible apply iteT))
  | ((with_reducible apply iteF))
  | ((with_reducible apply ri_ii))
  | ((with_reducible apply ri_ib))
  | ((with_reducible apply ri_ss))
  | ((with_reducible apply ri_bb))
  | ((with_reducible apply ri_tt); (focus (walk_at "lk3")))
  | ((with_reducible apply ri_ll); (focus (walk_at "lk3")))
  | ((with_reducible apply ri_dd); (focus (walk_at "lk3")))
  | ((with_reducible apply rt_l); (focus (walk_at "lk3")); (focus (walk_at "lk3")))
  | ((with_reducible apply rt_t); (focus (walk_at "lk3")); (focus (walk_at "lk3")))
  | ((with_reducible apply rix_t); (focus (walk_at "lk3")); (focus with_unfolding_all rfl))
  | ((with_reducible apply rix_l); (focus (walk_at "lk3")); (focus with_unfolding_all rfl))
  | ((with_reducible apply rlen_t); (focus (walk_at "lk3")); (focus first | (simp only [List.length_cons, List.length_nil]; done) | (simp only [List.length_cons, List.length_nil]; with_unfolding_all rfl) | with_unfolding_all rfl))
  | ((with_reducible apply rlen_l); (focus (walk_at "lk3")); (focus first | (simp only [List.length_cons, List.length_nil]; done) | (simp only [List.length_cons, List.length_nil]; with_unfolding_all rfl) | with_unfolding_all rfl))
  | ((with_reducible apply rin_t); (focus (walk_at "lk3")); (focus with_unfolding_all rfl))
  | ((with_reducible apply rnin_t); (focus (walk_at "lk3")); (focus with_unfolding_all rfl))
  | ((with_reducible apply rsl_t); (focus (walk_at "lk3")); (focus with_unfolding_all rfl); (focus first | (simp [cutV, HT.sIx]; done) | (simp [cutV, HT.sIx]; rfl)); intro _ _)
  | ((with_reducible apply rin_l); (focus (walk_at "lk3")))
  | ((with_reducible apply rnin_l); (focus (walk_at "lk3")))
  | ((with_reducible apply gtup_t); (focus (walk_at "lk3")); (focus with_unfolding_all rfl); walk_at "rdu3")
  | ((with_reducible apply alc); (focus decide); intro _ _)
  | ((with_reducible apply itenT))
  | ((with_reducible apply itenF))
  | ((with_reducible apply ited_sT); (focus first | rfl | assumption))
  | ((with_reducible apply ited_sF); (focus first | assumption | decide +kernel))
  | ((with_reducible apply itedn_sT); (focus first | assumption | decide +kernel))
  | ((with_reducible apply itedn_sF); (focus first | rfl | assumption))
  | ((with_reducible apply ited_mT); (focus first | assumption | decide +kernel))
  | ((with_reducible apply ited_mF); (focus first | assumption | decide +kernel))
  | ((with_reducible apply itedn_mT); (focus first | assumption | decide +kernel))
  | ((with_reducible apply itedn_mF); (focus first | assumption | decide +kernel))
  | ((with_reducible apply ited_s) <;> intro _)
  | ((with_reducible apply itedn_s) <;> intro _)
  | ((with_reducible apply ited_m) <;> intro _)
  | ((with_reducible apply itedn_m) <;> intro _)
  | ((with_reducible apply itedT); (focus first | assumption | omega))
  | ((with_reducible apply itedF); (focus first | assumption | omega))
  | ((with_reducible apply itednF); (focus first | assumption | omega))
  | ((with_reducible apply itednT); (focus first | assumption | omega))
  | ((with_reducible apply ited) <;> intro _)
  | ((with_reducible apply itedn) <;> intro _)
  | ((with_reducible apply itebn) <;> intro _)
  | ((with_reducible apply iteb) <;> intro _)
  | walk_at "rdu3"
  | contradiction)
local macro_rules | `(tactic| walk_at "rd3") => `(tactic| (try walk_at "rdu3"); repeat' walk_at "rd13")
theorem lawDue_back {D : Dl} {part : Int} {z : Str} : lawDue D "back" part z = [(kP D.buyer, D.whole + D.tax)] := by
  unfold lawDue
  rw [if_pos rfl]
theorem lawDue_lost {D : Dl} {part : Int} {z : Str} : lawDue D "lost" part z = [(kP D.buyer, D.whole + D.tax), (kP D.seller, D.whole), (kP z, -D.whole)] := by
  unfold lawDue
  rw [if_neg (by decide +kernel), if_pos rfl]
theorem lawDue_else {D : Dl} {how : Str} {part : Int} {z : Str} (h1 : how ≠ "back") (h2 : how ≠ "lost") : lawDue D how part z = [(kP D.buyer, D.whole - lawRest D how part + D.tax - lawRest D how part * D.levy / 10000), (kP D.seller, lawRest D how part - lawRest D how part * D.fee / 10000), (kT D.land, lawRest D how part * D.levy / 10000), (kF, lawRest D how part * D.fee / 10000)] := by
  unfold lawDue
  rw [if_neg h1, if_neg h2]
theorem lawRest_judged {D : Dl} {part : Int} : lawRest D "judged" part = D.whole - D.whole * part / 100 := by
  unfold lawRest
  rw [if_pos rfl]
theorem lawRest_sold {D : Dl} {part : Int} : lawRest D "sold" part = D.whole - 0 := by
  unfold lawRest
  rw [if_neg (by decide +kernel)]
theorem due_tail {K : PySem.W.Frag} {H : Hp} {p : Addr} {ds : List DI} {Q : VK} {x0 x1 x2 x3 x4 x5 x6 x7 x8 x9 x10 x11 x12 x13 x14 x15 x16 x17 : Option V} (h : DueIn H p ds) (n : ds.length ≤ 10) (nd : ((duesF ds).map (·.1)).Nodup) (q : ∀ (a : Addr) H', Same H H' → H' a = some (.dT (toT (nzI (duesF ds)))) → Q (.ref a) H') :
    (∃ xs, SqL K H p xs) ∧ ∀ D : Addr, H D = none → LcG (Itl K p) (gName 18) (tTest (tOp rNe (tOp (rIxT K) (tVar 18) (tC (V.int 1))) (tC (V.int 0)))) (tVar 18) [18] [x0, x1, x2, x3, x4, x5, x6, x7, x8, x9, x10, x11, x12, x13, x14, x15, x16, x17, none] H D fun H => rDictT [V.ref D] H Q := by
  refine ⟨⟨_, SqL.of h.1⟩, fun D hD => ?_⟩
  have e : (ds.map fun d => V.ref d.1) = (ds.map fun d => d.1).map V.ref := by
    rw [List.map_map]
    rfl
  have pr : ∀ {es : List DI}, (∀ d ∈ es, DueAt H d) → Paired (fun (b : Addr) (d : DI) => d.1 = b ∧ DueAt H d) (es.map fun d => d.1) es := by
    intro es
    induction es with
    | nil => intro _; exact .nil
    | cons d es ih => intro g; exact .cons ⟨rfl, g d List.mem_cons_self⟩ (ih fun x hx => g x (List.mem_cons_of_mem _ hx))
  refine lc_dataL (Rel := fun H (b : Addr) (d : DI) => d.1 = b ∧ DueAt H d) (fun _ _ _ _ s h => ⟨h.1, h.2.same s⟩) hD (by rw [← e]; exact SqL.of h.1) (pr h.2) (by omega) nzF (fun i b d H5 R R0 hi s hrel h1' h0 => ?_) (fun H5 s5 e5 => ?_)
  · obtain ⟨rfl, hd1, hd2⟩ := hrel
    walk_at "rd3"
    · rename_i e
      exact h1' _ _ (Same.refl _) (if_pos (decide_eq_true e))
    · rename_i e
      exact h0 _ (Same.refl _) (if_neg (by simpa using e))
  · refine rdict_due e5 (fun d hd => (h.2 d hd).same s5) nd fun a ha => q a _ (same_upd2 s5 ha) upd_same
theorem due_else {K : PySem.W.Frag} {H H1 : Hp} {Q : VK} {p k1 k2 k3 k4 a1 a2 a3 a4 : Addr} {by_ se land : Str} {v1 v2 v3 v4 : Int} {x0 x1 x2 x3 x4 x5 x6 x7 x8 x9 x10 x11 x12 x13 x14 x15 x16 x17 : Option V} (s : Same H H1) (hbs : se ≠ by_) (hp : H1 p = some (.lst [.ref a1, .ref a2, .ref a3, .ref a4]))
    (h1 : H1 a1 = some (.tup [.ref k1, .int v1])) (g1 : H1 k1 = some (.tup [.str "party", .str by_])) (h2 : H1 a2 = some (.tup [.ref k2, .int v2])) (g2 : H1 k2 = some (.tup [.str "party", .str se]))
    (h3 : H1 a3 = some (.tup [.ref k3, .int v3])) (g3 : H1 k3 = some (.tup [.str "tax", .str land])) (h4 : H1 a4 = some (.tup [.ref k4, .int v4])) (g4 : H1 k4 = some (.tup [.str "fee"]))
    (q : ∀ (a : Addr) H', Same H H' → H' a = some (.dT (toT (nzI [(kP by_, v1), (kP se, v2), (kT land, v3), (kF, v4)]))) → Q (.ref a) H') :
    (∃ xs, SqL K H1 p xs) ∧ ∀ D : Addr, H1 D = none → LcG (Itl K p) (gName 18) (tTest (tOp rNe (tOp (rIxT K) (tVar 18) (tC (V.int 1))) (tC (V.int 0)))) (tVar 18) [18] [x0, x1, x2, x3, x4, x5, x6, x7, x8, x9, x10, x11, x12, x13, x14, x15, x16, x17, none] H1 D fun H => rDictT [V.ref D] H Q :=
  due_tail (ds := [(a1, k1, kP by_, v1), (a2, k2, kP se, v2), (a3, k3, kT land, v3), (a4, k4, kF, v4)]) ⟨hp, fun d hd => by
    rcases List.mem_cons.mp hd with rfl | hd
    · exact ⟨h1, g1⟩
    rcases List.mem_cons.mp hd with rfl | hd
    · exact ⟨h2, g2⟩
    rcases List.mem_cons.mp hd with rfl | hd
    · exact ⟨h3, g3⟩
    rw [List.mem_singleton.mp hd]
    exact ⟨h4, g4⟩⟩ (Nat.le_of_ble_eq_true rfl) (by
      show [kP by_, kP se, kT land, kF].Nodup
      have n1 : kP by_ ≠ kP se := kP_ne hbs.symm
      have n2 := kP_kT by_ land
      have n3 := kP_kF by_
      have n4 := kP_kT se land
      have n5 := kP_kF se
      have n6 := kT_kF land
      simp only [List.nodup_cons, List.mem_cons, List.not_mem_nil, or_false, not_or, not_false_eq_true, List.nodup_nil, and_true]
      exact ⟨⟨n1, n2, n3⟩, ⟨n4, n5⟩, n6⟩) fun a H' s' e => q a H' (s.trans s') e
theorem due_back {K : PySem.W.Frag} {H H1 : Hp} {Q : VK} {p k1 a1 : Addr} {by_ : Str} {v1 : Int} {x0 x1 x2 x3 x4 x5 x6 x7 x8 x9 x10 x11 x12 x13 x14 x15 x16 x17 : Option V} (s : Same H H1) (hp : H1 p = some (.lst [.ref a1]))
    (h1 : H1 a1 = some (.tup [.ref k1, .int v1])) (g1 : H1 k1 = some (.tup [.str "party", .str by_])) (q : ∀ (a : Addr) H', Same H H' → H' a = some (.dT (toT (nzI [(kP by_, v1)]))) → Q (.ref a) H') :
    (∃ xs, SqL K H1 p xs) ∧ ∀ D : Addr, H1 D = none → LcG (Itl K p) (gName 18) (tTest (tOp rNe (tOp (rIxT K) (tVar 18) (tC (V.int 1))) (tC (V.int 0)))) (tVar 18) [18] [x0, x1, x2, x3, x4, x5, x6, x7, x8, x9, x10, x11, x12, x13, x14, x15, x16, x17, none] H1 D fun H => rDictT [V.ref D] H Q :=
  due_tail (ds := [(a1, k1, kP by_, v1)]) ⟨hp, fun d hd => by
    rw [List.mem_singleton.mp hd]
    exact ⟨h1, g1⟩⟩ (Nat.le_of_ble_eq_true rfl) (by
      show [kP by_].Nodup
      simp) fun a H' s' e => q a H' (s.trans s') e
theorem due_lost {K : PySem.W.Frag} {H H1 : Hp} {Q : VK} {p k1 k2 k3 a1 a2 a3 : Addr} {by_ se z : Str} {v1 v2 v3 : Int} {x0 x1 x2 x3 x4 x5 x6 x7 x8 x9 x10 x11 x12 x13 x14 x15 x16 x17 : Option V} (s : Same H H1) (hbs : se ≠ by_) (z1 : z ≠ by_) (z2 : z ≠ se) (hp : H1 p = some (.lst [.ref a1, .ref a2, .ref a3]))
    (h1 : H1 a1 = some (.tup [.ref k1, .int v1])) (g1 : H1 k1 = some (.tup [.str "party", .str by_])) (h2 : H1 a2 = some (.tup [.ref k2, .int v2])) (g2 : H1 k2 = some (.tup [.str "party", .str se]))
    (h3 : H1 a3 = some (.tup [.ref k3, .int v3])) (g3 : H1 k3 = some (.tup [.str "party", .str z]))
    (q : ∀ (a : Addr) H', Same H H' → H' a = some (.dT (toT (nzI [(kP by_, v1), (kP se, v2), (kP z, v3)]))) → Q (.ref a) H') :
    (∃ xs, SqL K H1 p xs) ∧ ∀ D : Addr, H1 D = none → LcG (Itl K p) (gName 18) (tTest (tOp rNe (tOp (rIxT K) (tVar 18) (tC (V.int 1))) (tC (V.int 0)))) (tVar 18) [18] [x0, x1, x2, x3, x4, x5, x6, x7, x8, x9, x10, x11, x12, x13, x14, x15, x16, x17, none] H1 D fun H => rDictT [V.ref D] H Q :=
  due_tail (ds := [(a1, k1, kP by_, v1), (a2, k2, kP se, v2), (a3, k3, kP z, v3)]) ⟨hp, fun d hd => by
    rcases List.mem_cons.mp hd with rfl | hd
    · exact ⟨h1, g1⟩
    rcases List.mem_cons.mp hd with rfl | hd
    · exact ⟨h2, g2⟩
    rw [List.mem_singleton.mp hd]
    exact ⟨h3, g3⟩⟩ (Nat.le_of_ble_eq_true rfl) (by
      show [kP by_, kP se, kP z].Nodup
      have n1 : kP by_ ≠ kP se := kP_ne hbs.symm
      have n2 : kP by_ ≠ kP z := kP_ne z1.symm
      have n3 : kP se ≠ kP z := kP_ne z2.symm
      simp only [List.nodup_cons, List.mem_cons, List.not_mem_nil, or_false, not_or, not_false_eq_true, List.nodup_nil, and_true]
      exact ⟨⟨n1, n2⟩, n3⟩) fun a H' s' e => q a H' (s.trans s') e
def spLDue (K : PySem.W.Frag) : Sp := fun vs H Q _ => ∃ (a x l : Addr) (ps : List (Addr × Row)) (W : Wd) (p0 pl : Addr × Row) (d sl bu : Int) (se by_ wr : Str) (m pr t : Int) (land kind : Str) (d' : Int) (how : Str) (part : Int) (back : Bool) (z : Str), vs = [.ref a, .ref x, .ref l] ∧ PartsL H a W ∧ WorldAt K H x W ∧ W.good ∧ RowsP H l ps ∧ (∀ p ∈ ps, p.2.good) ∧ ps.length ≤ 1000 ∧
  ps[0]? = some p0 ∧ p0.2 = .made d sl bu se by_ wr m pr t ∧ 0 ≤ t ∧ t ≤ 10000000 ∧ lookS W.parties by_ = some land ∧ land ∈ W.lands ∧ lookS W.wares wr = some kind ∧ kind ∈ W.wares.map (·.2) ∧ ps.getLast? = some pl ∧ pl.2 = .ended d' how part back ∧ (how = "lost" → (z ≠ by_ ∧ z ≠ se) ∧ ∃ p1 d1 a1, ps[1]? = some p1 ∧ p1.2 = .sent d1 z a1) ∧
  ∀ (p : Addr) (H' : Hp), Same H H' → H' p = some (.dT (toT (nzI (lawDue ⟨se, by_, land, m * pr, t, rateM W.dues land kind d, W.cut⟩ how part z)))) → Q (.ref p) H'
section
variable {P : Program} {w : World} {K : PySem.W.Frag} {mg : Str → Option Value} {base : Heap}
theorem f_ldue (T : Tx w K mg) : Fok P w K mg base CX0 "_law_due" ps__law_due [] 3 (spLDue K) := by
  obtain ⟨fd, F⟩ := T.d__law_due
  have G_World_rate := f_rate (P := P) (base := base) T
  refine fok F T.g__law_due (fun _ _ _ _ _ _ us hl => match us, hl with | [_, _, _], _ => rfl) (F.ok sc__law_due (fun vs H Q E h => ?_) (fun cdv A outer s H vs Q E hr h => ?_))
  · obtain ⟨a, x, l, ps, W, p0, pl, d, sl, bu, se, by_, wr, m, pr, t, land, kind, d', how, part, back, z, rfl, _⟩ := h
    rfl
  · refine ⟨_, PSs.nox (pss_cons (ps_asg (pe_tup (pa_cons (pe_ix (ix_tupK (K := K) (by rfl)) (pe_ix (ix_listK (K := K) (by rfl)) (pv 2) pe_int (fun _ _ => rfl)) pe_int (fun _ _ => rfl)) (pa_cons (pe_slice (sl_tupK (K := K) (by rfl)) (pe_ix (ix_listK (K := K) (by rfl)) (pv 2) pe_int (fun _ _ => rfl)) (po_some pe_int) po_none) pa_nil))) (pg_tupK (K := K) (n := 2) (by rfl) (by rfl) (by rfl) (pgs_cons (pg_name (i := 3) sc__law_due.nd rfl (Or.inl rfl)) (pgs_cons (pg_tupK (K := K) (n := 6) (by rfl) (by rfl) (by rfl) (pgs_cons (pg_name (i := 4) sc__law_due.nd rfl (Or.inl rfl)) (pgs_cons (pg_name (i := 5) sc__law_due.nd rfl (Or.inl rfl)) (pgs_cons (pg_name (i := 6) sc__law_due.nd rfl (Or.inl rfl)) (pgs_cons (pg_name (i := 7) sc__law_due.nd rfl (Or.inl rfl)) (pgs_cons (pg_name (i := 8) sc__law_due.nd rfl (Or.inl rfl)) (pgs_cons (pg_name (i := 9) sc__law_due.nd rfl (Or.inl rfl)) pgs_nil))))))) pgs_nil))))
      (pss_cons (ps_asg (pe_slice (sl_tupK (K := K) (by rfl)) (pe_ix (ix_listK (K := K) (by rfl)) (pv 2) (pe_un un_neg pe_int) (fun _ _ => rfl)) (po_some pe_int) (po_some pe_int)) (pg_tupK (K := K) (n := 2) (by rfl) (by rfl) (by rfl) (pgs_cons (pg_name (i := 10) sc__law_due.nd rfl (Or.inl rfl)) (pgs_cons (pg_name (i := 11) sc__law_due.nd rfl (Or.inl rfl)) pgs_nil))))
      (pss_cons (ps_par (i := 12) (j := 13) (by rfl) sc__law_due.nd rfl rfl (by decide) rfl rfl (pa_cons (pe_op op_mul (pv 7) (pv 8)) (pa_cons (pe_dgetK (hu_of hr) (pe_ix (ix_listK (K := K) (by rfl)) (pv 0) pe_int (fun _ _ => rfl)) (pv 5) (fun _ _ => rfl)) pa_nil)) (by rfl))
      (pss_cons (ps_if (pt_cmpR (op_inK (K := K) (by rfl)) (pv 10) (pe_tup (pa_cons pe_str (pa_cons pe_str pa_nil))) rfl) (pss_cons (ps_set (i := 14) sc__law_due.nd rfl (Or.inl rfl) (pe_lst (pa_cons (pe_tup (pa_cons (pe_tup (pa_cons pe_str (pa_cons (pv 5) pa_nil))) (pa_cons (pe_op op_add (pv 12) (pv 9)) pa_nil))) pa_nil)))
      (pss_one (ps_if (pt_cmpR op_eq (pv 10) pe_str (nomark _)) (pss_one (ps_set (i := 14) sc__law_due.nd rfl (Or.inl rfl) (pe_op op_cat (pv 14) (pe_lst (pa_cons (pe_tup (pa_cons (pe_tup (pa_cons pe_str (pa_cons (pv 4) pa_nil))) (pa_cons (pv 12) pa_nil))) (pa_cons (pe_tup (pa_cons (pe_tup (pa_cons pe_str (pa_cons (pe_ix (ix_tupK (K := K) (by rfl)) (pe_ix (ix_listK (K := K) (by rfl)) (pv 2) pe_int (fun _ _ => rfl)) pe_int (fun _ _ => rfl)) pa_nil))) (pa_cons (pe_un un_neg (pv 12)) pa_nil))) pa_nil)))))) pss_nil))) (pss_cons (ps_set (i := 15) sc__law_due.nd rfl (Or.inl rfl) (pe_op op_sub (pv 12) (pe_ifExp (pt_cmpR op_eq (pv 10) pe_str (nomark _)) (pe_op op_fdiv (pe_op op_mul (pv 12) (pv 11)) pe_int) pe_int)))
      (pss_cons (ps_set (i := 16) sc__law_due.nd rfl (Or.inl rfl) (pe_op op_fdiv (pe_op op_mul (pv 15) (pe_mt G_World_rate (hr.mono (by decide)) pass0 (pv 1) (pa_cons (pv 13) (pa_cons (pe_dgetK (hu_of hr) (pe_ix (ix_listK (K := K) (by rfl)) (pv 0) pe_int (fun _ _ => rfl)) (pv 6) (fun _ _ => rfl)) (pa_cons (pv 3) pa_nil))))) pe_int))
      (pss_cons (ps_set (i := 17) sc__law_due.nd rfl (Or.inl rfl) (pe_op op_fdiv (pe_op op_mul (pv 15) (pe_ix (ix_listK (K := K) (by rfl)) (pv 0) pe_int (fun _ _ => rfl))) pe_int))
      (pss_cons (ps_set (i := 14) sc__law_due.nd rfl (Or.inl rfl) (pe_lst (pa_cons (pe_tup (pa_cons (pe_tup (pa_cons pe_str (pa_cons (pv 5) pa_nil))) (pa_cons (pe_op op_sub (pe_op op_add (pe_op op_sub (pv 12) (pv 15)) (pv 9)) (pv 16)) pa_nil))) (pa_cons (pe_tup (pa_cons (pe_tup (pa_cons pe_str (pa_cons (pv 4) pa_nil))) (pa_cons (pe_op op_sub (pv 15) (pv 17)) pa_nil))) pa_nil))))
      (pss_one (ps_set (i := 14) sc__law_due.nd rfl (Or.inl rfl) (pe_op op_cat (pv 14) (pe_lst (pa_cons (pe_tup (pa_cons (pe_tup (pa_cons pe_str (pa_cons (pv 13) pa_nil))) (pa_cons (pv 16) pa_nil))) (pa_cons (pe_tup (pa_cons (pe_tup (pa_cons pe_str pa_nil)) (pa_cons (pv 17) pa_nil))) pa_nil)))))))))))
      (pss_one (ps_ret (pe_callTy (call_dictT rfl hr.units) (by rfl) T.b_dict bt_dict (pa_cons (pe_lc (own := [("_law_one", 18)])  (by rfl) sc__law_due.nd (by exact (pi_listK (K := K) (by rfl) (pv 14))) (blkOk_by (own := [("_law_one", 18)]) (N := ns__law_due) (sc := defScope s__law_due) (by decide +kernel)) (fun _ _ _ _ _ => (pg_name (i := 18) sc__law_due.nd rfl (Or.inl rfl))) (fun _ _ _ _ _ => (pts_one (pt_cmpR op_ne (pe_ix (ix_tupK (K := K) (by rfl)) (pv 18) pe_int (fun _ _ => rfl)) pe_int (nomark _)))) (fun _ _ _ _ _ => (pv 18))) pa_nil)))))))), ?_⟩
    obtain ⟨a, x, l, ps, W, p0, pl, d, sl, bu, se, by_, wr, m, pr, t, land, kind, d', how, part, back, z, rfl, hpa, hw, gd, hl, hg, h1000, i0, e0, t1, t2, v1, v2, v3, v4, ilast, el, hz, q⟩ := h
    have m0 := List.mem_of_getElem? i0
    have ml := List.mem_of_getLast? ilast
    have h0 := hl.2 _ m0
    have hle := hl.2 _ ml
    have g0 := hg _ m0
    have gl := hg _ ml
    rw [e0] at h0 g0
    rw [el] at hle gl
    dsimp only [Row.vs] at h0 hle
    obtain ⟨c1, c2, _, _, _, _, _, _, _, _, hbs, b1, b2, b3, b4⟩ := g0
    obtain ⟨_, _, b5, b6, he⟩ := gl
    have hm1 : 0 ≤ m * pr := Int.mul_nonneg (by omega) (by omega)
    have hm2 : m * pr ≤ 99 * 9999 := Int.mul_le_mul b2 b4 (by omega) (by omega)
    have hk1 := gd.k1
    have x1 : valV (dKS W.parties) (.inr by_) = some (.str land) := by rw [valV_dKS, v1]; rfl
    have x2 : valV (dKS W.wares) (.inr wr) = some (.str kind) := by rw [valV_dKS, v3]; rfl
    obtain ⟨la, wa, pa, ca, da, na, y1, y2, y3, y4, y5, ⟨as, y6, y7⟩, bs, y8, y9⟩ := hpa
    walk_at "rd3"
    refine rix_row hl (atI_nat (j := 0) i0) ?_
    walk_at "rd3"
    refine rix_row hl (atI_nat (j := 0) i0) ?_
    walk_at "rd3"
    rename_i q1 hq1 q2 hq2
    have s1 : Same H (upd (upd H q1 (.tup [.str se, .str by_, .str wr, .int m, .int pr, .int t])) q2 (.tup [.int d, .ref q1])) := (grow hq1).trans (grow hq2)
    generalize upd (upd H q1 (.tup [.str se, .str by_, .str wr, .int m, .int pr, .int t])) q2 (.tup [.int d, .ref q1]) = H1 at s1
    replace hw := worldAt_same s1 hw
    replace hl := hl.same s1
    replace hle := s1 _ _ hle
    replace y1 := s1 _ _ y1
    replace y3 := s1 _ _ y3
    replace y4 := s1 _ _ y4
    clear y2 y5 y6 y7 y8 y9 h0 hq1 hq2
    refine rix_row hl (atI_last ilast) ?_
    rcases he with rfl | ⟨rfl, rfl, rfl⟩ | ⟨rfl, rfl, rfl⟩ | ⟨rfl, rfl, rfl⟩
    · have hp1 : 0 ≤ m * pr * part := Int.mul_nonneg hm1 b5
      have hp2 : m * pr * part ≤ m * pr * 100 := Int.mul_le_mul_of_nonneg_left b6 hm1
      obtain ⟨dx, al, ak, ah, ac, av, ar, ad, was, w1, w2, w3, w4, w5, w6, w7⟩ := id hw
      walk_at "rd3"
      rename_i q3 hq3 q4 hq4
      refine ⟨x, W, land, kind, d, rfl, worldAt_same ((grow hq3).trans (grow hq4)) hw, gd, v2, v4, c1, fun H2 s2 => ?_⟩
      replace y1 := s2 _ _ (keep (keep y1 hq3) hq4)
      have s3 : Same H H2 := s1.trans (((grow hq3).trans (grow hq4)).trans s2)
      rw [lawDue_else (by decide +kernel) (by decide +kernel), lawRest_judged] at q
      dsimp only at q
      have hr1 : 0 ≤ m * pr - m * pr * part / 100 := by omega
      have hr2 : m * pr - m * pr * part / 100 ≤ 99 * 9999 := by omega
      generalize m * pr - m * pr * part / 100 = rest at q hr1 hr2
      walk_at "rd3"
      rename_i k1 hk1 a1 ha1 k2 hk2 a2 ha2 f1 hf1 k3 hk3 a3 ha3 k4 hk4 a4 ha4 f2 hf2 f3 hf3
      refine due_else (k1 := k1) (k2 := k2) (k3 := k3) (k4 := k4) (a1 := a1) (a2 := a2) (a3 := a3) (a4 := a4) (by walk_at "sm3") hbs upd_same ?_ ?_ ?_ ?_ ?_ ?_ ?_ ?_ q
      all_goals walk_at "lk3"
    · walk_at "rd3"
      rw [lawDue_back] at q
      rename_i q3 hq3 q4 hq4 k1 hk1 a1 ha1 f hf
      refine due_back (k1 := k1) (a1 := a1) (by walk_at "sm3") upd_same ?_ ?_ q
      all_goals walk_at "lk3"
    · walk_at "rd3"
      rw [lawDue_lost] at q
      rename_i q3 hq3 q4 hq4 k1 hk1 a1 ha1 f hf k2 hk2 a2 ha2
      obtain ⟨⟨z1, z2⟩, p1, d1, at1, i1, e1⟩ := hz rfl
      have hb1 := hl.2 _ (List.mem_of_getElem? i1)
      rw [e1] at hb1
      dsimp only [Row.vs] at hb1
      refine rix_row (hl.same (by walk_at "sm3")) (atI_nat (j := 1) i1) ?_
      walk_at "rd3"
      rename_i k3 hk3 a3 ha3 f2 hf2 f3 hf3
      refine due_lost (k1 := k1) (k2 := k2) (k3 := k3) (a1 := a1) (a2 := a2) (a3 := a3) (by walk_at "sm3") hbs z1 z2 upd_same ?_ ?_ ?_ ?_ ?_ ?_ q
      all_goals walk_at "lk3"
    · obtain ⟨dx, al, ak, ah, ac, av, ar, ad, was, w1, w2, w3, w4, w5, w6, w7⟩ := id hw
      walk_at "rd3"
      rename_i q3 hq3 q4 hq4
      refine ⟨x, W, land, kind, d, rfl, worldAt_same ((grow hq3).trans (grow hq4)) hw, gd, v2, v4, c1, fun H2 s2 => ?_⟩
      replace y1 := s2 _ _ (keep (keep y1 hq3) hq4)
      have s3 : Same H H2 := s1.trans (((grow hq3).trans (grow hq4)).trans s2)
      rw [lawDue_else (by decide +kernel) (by decide +kernel), lawRest_sold] at q
      dsimp only at q
      have hr1 : 0 ≤ m * pr - 0 := by omega
      have hr2 : m * pr - 0 ≤ 99 * 9999 := by omega
      generalize m * pr - 0 = rest at q hr1 hr2
      walk_at "rd3"
      rename_i k1 hk1 a1 ha1 k2 hk2 a2 ha2 f1 hf1 k3 hk3 a3 ha3 k4 hk4 a4 ha4 f2 hf2 f3 hf3
      refine due_else (k1 := k1) (k2 := k2) (k3 := k3) (k4 := k4) (a1 := a1) (a2 := a2) (a3 := a3) (a4 := a4) (by walk_at "sm3") hbs upd_same ?_ ?_ ?_ ?_ ?_ ?_ ?_ ?_ q
      all_goals walk_at "lk3"
end
end Mk
/-! the law's own: _law_parts, the first half of it -/
namespace Mk
open PySem PySem.Spec L2 He
theorem nodup_take {α : Type} : ∀ {xs : List α}, xs.Nodup → ∀ {i : Nat} {x : α}, xs[i]? = some x → x ∉ xs.take i
  | [], _, _, _, e => by cases e
  | y :: ys, h, 0, x, _ => by
    rw [List.take_zero]
    exact List.not_mem_nil
  | y :: ys, h, i + 1, x, e => by
    rw [List.getElem?_cons_succ] at e
    rw [List.take_succ_cons]
    intro z
    rcases List.mem_cons.mp z with z | z
    · exact (List.nodup_cons.mp h).1 (z ▸ List.mem_of_getElem? e)
    · exact nodup_take (List.nodup_cons.mp h).2 e z
theorem take_snoc {α : Type} {xs : List α} {i : Nat} {x : α} (e : xs[i]? = some x) : xs.take (i + 1) = xs.take i ++ [x] := by
  rw [List.take_add_one, e]
  rfl
theorem lookS_some {xs : List SS} {z : Str} (h : z ∈ xs.map (·.1)) : (lookS xs z).isSome = true := by
  obtain ⟨p, hp, e⟩ := List.mem_map.mp h
  unfold lookS
  rw [Option.isSome_map, List.find?_isSome]
  exact ⟨p, hp, decide_eq_true e⟩
theorem lookS_mem {xs : List SS} {z v : Str} (h : lookS xs z = some v) : (z, v) ∈ xs := by
  unfold lookS at h
  obtain ⟨p, hp, rfl⟩ := Option.map_eq_some_iff.mp h
  have h0 := List.find?_some hp
  have h1 : p.1 = z := of_decide_eq_true h0
  have h2 := List.mem_of_find?_eq_some hp
  rw [← h1]
  exact h2
theorem foods_ok : ∀ z ∈ (["food", "tool", "food"] : List Str), nameB z = true := by decide +kernel
def LandsOk (ls : List Str) : Prop := (1 ≤ ls.length ∧ ls.length ≤ 4) ∧ (∀ z ∈ ls, nameB z = true) ∧ ls.Nodup
theorem lands1 : LandsOk ["east", "west"] := ⟨by decide, by decide +kernel, by decide +kernel⟩
theorem lands2 : LandsOk ["east"] := ⟨by decide, by decide +kernel, by decide +kernel⟩
theorem lands3 : LandsOk ["sand", "east", "west"] := ⟨by decide, by decide +kernel, by decide +kernel⟩
def six : List Str := ["ann", "bob", "cat", "whole", "out", "fee"]
def goods : List Str := ["corn", "axe", "more"]
theorem six_ok : (∀ z ∈ six, nameB z = true ∧ z ≠ "market") ∧ six.Nodup := ⟨by decide +kernel, by decide +kernel⟩
theorem goods_ok : (∀ z ∈ goods, nameB z = true) ∧ goods.Nodup := ⟨by decide +kernel, by decide +kernel⟩
/-- the drawn names -/
structure Wd.more (W : Wd) : Prop where
  nd : (W.parties.map (·.1)).Nodup
  n3 : 3 ≤ W.parties.length
  p6 : ∀ p ∈ W.parties, p.1 ∈ six
  c6 : ∀ z ∈ W.porters, z ∈ six
local macro_rules | `(tactic| walk_at "rdu3") => `(tactic| dsimp only [tSeq, tNext, tRet, tRetN, tAsg, tDrop, tIfS, tOr, tAnd, tNot, tB, tTest, tCB, tCons, tNil, tVar, tC, tOp, tUn, tOrV, tAndV, tNotV, tIf, tChain, tCall, tTup, tLst, gName, L2.start, dl_map, dl_map0, dl_app, dl_app0, List.length_cons, List.length_nil, List.replicate, List.set, Nat.reduceAdd, Nat.reduceSub, tLc_eq, tFor_eq, sck_eq, dct_eq, tPar, gCons, gNil, iList, iTup, iRng1, iStr, wipe, tYes, tSl, tPart, tNoPart, tFld, tMeth, tMake, tFldK, sFldK, tDGetK, tDInK, tDNotInK, iItemsK, tLV, tLockE, tLock, tMakeK,  tDNewK, tPairs, tBM, tDispTK, iItemsTK, sDPutK, sDAugK])
local macro_rules | `(tactic| walk_at "lk3") => `(tactic| first | assumption | (with_reducible exact upd_same) | ((with_reducible apply keep); rotate_left; (focus assumption); walk_at "lk3") | ((with_reducible apply kp); (focus assumption); walk_at "lk3") | ((with_reducible apply keepI); rotate_left; (focus (walk_at "lk3")); (focus (intro _ _ _ e; cases e)); walk_at "lk3"))
local macro_rules | `(tactic| walk_at "lq3") => `(tactic| first | assumption | exact .inl (SqL.of (by walk_at "lk3")) | exact .inr (SqT.of (by walk_at "lk3")) | (refine sq2_same (grow (by assumption)) ?_; walk_at "lq3") | (refine sq2_same (by assumption) ?_; walk_at "lq3"))
local macro_rules | `(tactic| walk_at "sm3") => `(tactic| first | exact Same.refl _ | assumption | (refine same_upd2 ?_ (by assumption); walk_at "sm3") | (refine same_upd ?_ (by assumption); walk_at "sm3") | (refine Same.trans ?_ (by assumption); walk_at "sm3"))
local macro_rules | `(tactic| walk_at "rd13") => `(tactic| first
  | ((with_reducible apply rfld_t); (focus (walk_at "lk3")); (focus assumption); (focus assumption); (focus with_unfolding_all rfl))
  | ((with_reducible apply rsetf_t); (focus (walk_at "lk3")); (focus assumption); (focus assumption); (focus with_unfolding_all rfl); (focus (simp; done)); walk_at "rdu3")
  | ((with_reducible apply rlend_t); (focus (walk_at "lk3")))
  | ((with_reducible apply rlist_l); (focus (walk_at "lk3")); intro _ _)
  | ((with_reducible apply rdict_d); (focus (walk_at "lk3")); intro _ _)
  | ((with_reducible apply rdg_t); (focus (walk_at "lk3")); (focus first | assumption | with_unfolding_all rfl))
  | ((with_reducible apply rdi_some); (focus (walk_at "lk3")); (focus assumption))
  | ((with_reducible apply rdn_some); (focus (walk_at "lk3")); (focus assumption))
  | ((with_reducible apply rdi_t); (focus (walk_at "lk3")))
  | ((with_reducible apply rdn_t); (focus (walk_at "lk3")))
  | ((with_reducible apply rcat_t); (focus (walk_at "lk3")); (focus (walk_at "lk3")); (focus first | (refine line_ge ?_; simp; done) | (refine line_ge ?_; simp; omega)); intro _ _; walk_at "rdu3")
  | ((with_reducible apply rmeth_t); (focus (walk_at "lk3")); (focus with_unfolding_all rfl))
  | ((with_reducible apply rlv_t); (focus (walk_at "lk3")); intro _ _)
  | ((with_reducible apply rpow18))
  | ((with_reducible apply rng_t); (focus omega); (focus omega))
  | ((with_reducible apply tyl); (focus (walk_at "lk3")))
  | ((with_reducible apply rapp_t); (focus (walk_at "lk3")); (focus first | (refine Nat.lt_of_lt_of_le ?_ (line_ge (Nat.le_refl 16777216)); simp; omega) | (rw [sizeLine_eq]; simp; omega) | (rw [sizeLine_eq]; omega)); walk_at "rdu3")
  | ((with_reducible apply req_ss))
  | ((with_reducible apply req_ii))
  | ((with_reducible apply req_bb))
  | ((with_reducible apply rne_ss))
  | ((with_reducible apply rne_ii))
  | ((with_reducible apply cm_l); (focus omega); (focus omega))
  | ((with_reducible apply cm_r); (focus omega); (focus omega))
  | ((with_reducible apply cd_i); (focus omega); (focus omega))
  | ((with_reducible apply md_i); (focus omega))
  | ((with_reducible apply part1))
  | ((with_reducible apply num2))
  | ((with_reducible apply num3))
  | ((with_reducible apply name1); (focus first | assumption | decide +kernel); intro _ _)
  | ((with_reducible apply one_m); (focus (walk_at "lq3")))
  | ((with_reducible apply one_s); (focus (walk_at "lq3")); (focus with_unfolding_all rfl))
  | refine ⟨_, rfl, ?_⟩
  | refine ⟨_, _, rfl, rfl, ?_⟩
  | ((with_reducible apply gcons_t))
  | ((with_reducible apply gpar_t))
  | ((with_reducible apply gpar3_t))
  | refine ⟨rfl, ?_⟩
  | ((with_reducible apply iteT))
  | ((with_reducible apply iteF))
  | ((with_reducible apply ri_ii))
  | ((with_reducible apply ri_ib))
  | ((with_reducible apply ri_ss))
  | ((with_reducible apply ri_bb))
  | ((with_reducible apply ri_tt); (focus (walk_at "lk3")))
  | ((with_reducible apply ri_ll); (focus (walk_at "lk3")))
  | ((with_reducible apply ri_dd); (focus (walk_at "lk3")))
  | ((with_reducible apply rt_l); (focus (walk_at "lk3")); (focus (walk_at "lk3")))
  | ((with_reducible apply rt_t); (focus (walk_at "lk3")); (focus (walk_at "lk3")))
  | ((with_reducible apply rix_t); (focus (walk_at "lk3")); (focus with_unfolding_all rfl))
  | ((with_reducible apply rix_l); (focus (walk_at "lk3")); (focus with_unfolding_all rfl))
  | ((with_reducible apply rlen_t); (focus (walk_at "lk3")); (focus first | (simp only [List.length_cons, List.length_nil]; done) | (simp only [List.length_cons, List.length_nil]; with_unfolding_all rfl) | with_unfolding_all rfl))
  | ((with_reducible apply rlen_l); (focus (walk_at "lk3")); (focus first | (simp only [List.length_cons, List.length_nil]; done) | (simp only [List.length_cons, List.length_nil]; with_unfolding_all rfl) | with_unfolding_all rfl))
  | ((with_reducible apply rin_t); (focus (walk_at "lk3")); (focus with_unfolding_all rfl))
  | ((with_reducible apply rnin_t); (focus (walk_at "lk3")); (focus with_unfolding_all rfl))
  | ((with_reducible apply rsl_t); (focus (walk_at "lk3")); (focus with_unfolding_all rfl); (focus first | (simp [cutV, HT.sIx]; done) | (simp [cutV, HT.sIx]; rfl)); intro _ _)
  | ((with_reducible apply rin_l); (focus (walk_at "lk3")))
  | ((with_reducible apply rnin_l); (focus (walk_at "lk3")))
  | ((with_reducible apply gtup_t); (focus (walk_at "lk3")); (focus with_unfolding_all rfl); walk_at "rdu3")
  | ((with_reducible apply alc); (focus decide); intro _ _)
  | ((with_reducible apply itenT))
  | ((with_reducible apply itenF))
  | ((with_reducible apply ited_sT); (focus first | rfl | assumption))
  | ((with_reducible apply ited_sF); (focus first | assumption | decide +kernel))
  | ((with_reducible apply itedn_sT); (focus first | assumption | decide +kernel))
  | ((with_reducible apply itedn_sF); (focus first | rfl | assumption))
  | ((with_reducible apply ited_mT); (focus first | assumption | decide +kernel))
  | ((with_reducible apply ited_mF); (focus first | assumption | decide +kernel))
  | ((with_reducible apply itedn_mT); (focus first | assumption | decide +kernel))
  | ((with_reducible apply itedn_mF); (focus first | assumption | decide +kernel))
  | ((with_reducible apply ited_s) <;> intro _)
  | ((with_reducible apply itedn_s) <;> intro _)
  | ((with_reducible apply ited_m) <;> intro _)
  | ((with_reducible apply itedn_m) <;> intro _)
  | ((with_reducible apply itedT); (focus first | assumption | omega))
  | ((with_reducible apply itedF); (focus first | assumption | omega))
  | ((with_reducible apply itednF); (focus first | assumption | omega))
  | ((with_reducible apply itednT); (focus first | assumption | omega))
  | ((with_reducible apply ited) <;> intro _)
  | ((with_reducible apply itedn) <;> intro _)
  | ((with_reducible apply itebn) <;> intro _)
  | ((with_reducible apply iteb) <;> intro _)
  | walk_at "rdu3"
  | contradiction)
local macro_rules | `(tactic| walk_at "rd3") => `(tactic| (try walk_at "rdu3"); repeat' walk_at "rd13")
theorem parts_wares {K : PySem.W.Frag} {d wa nt : Addr} {H1 H3 : Hp} {D : Ends} {wl : List Str} {x1 : Option V} (hd : H1 d = some (DrawsO d)) (hwa1 : H1 wa = none) (s : Same H1 H3) (hwa : H3 wa = some (.dK [])) (hnt : H3 nt = some (.tup (wl.map V.str))) (nd : wl.Nodup) (n3 : wl.length ≤ 3)
    (k : ∀ (H4 : Hp) (xs : List SS) (o : Option V), Same H1 H4 → H4 wa = some (.dK (dKS xs)) → xs.map (·.1) = wl → (∀ p ∈ xs, p.2 ∈ (["food", "tool", "food"] : List Str)) → D.nx [some (.ref d), x1, some (.ref wa), o, none, none, none, none, none, none, none, none, none, none, none, none, none, none, none, none, none] H4) :
    FrG (Itt K nt) (gName 3) (sDPutK (tVar 2) (tVar 3) (tOp (rIxT K) (tTup (tCons (tC (V.str (Str.ofString "food"))) (tCons (tC (V.str (Str.ofString "tool"))) (tCons (tC (V.str (Str.ofString "food"))) tNil)))) (tCall spTake [] E0 (tCons (tVar 0) (tCons (tC (V.int 3)) tNil))))) D
      [some (.ref d), x1, some (.ref wa), none, none, none, none, none, none, none, none, none, none, none, none, none, none, none, none, none, none] H3 := by
  refine fr_it (walk_tup (K := K) (a := nt) (xs := wl.map V.str)) (fun i σ H4 => Same H1 H4 ∧ H4 nt = some (.tup (wl.map V.str)) ∧ (∃ xs : List SS, xs.map (·.1) = wl.take i ∧ (∀ p ∈ xs, p.2 ∈ (["food", "tool", "food"] : List Str)) ∧ H4 wa = some (.dK (dKS xs))) ∧ ∃ o, σ = [some (.ref d), x1, some (.ref wa), o, none, none, none, none, none, none, none, none, none, none, none, none, none, none, none, none, none])
    ⟨s, hnt, ⟨[], rfl, fun p hp => absurd hp List.not_mem_nil, hwa⟩, none, rfl⟩ (fun i σ H4 _ p => SqT.of p.2.1) (fun i x σ H4 H5 hi p y => ?_) (fun σ H4 p => ?_)
  · obtain ⟨s4, h4, ⟨xs, hx1, hx2, hx3⟩, o, rfl⟩ := p
    obtain ⟨rfl, ex⟩ := y
    rw [List.length_map] at hi
    have hz : wl[i]? = some wl[i] := List.getElem?_eq_getElem hi
    rw [List.getElem?_map, hz] at ex
    obtain rfl := Option.some.inj ex
    generalize wl[i] = z at hz
    have hxl : xs.length ≤ 100 := by
      have e := congrArg List.length hx1
      rw [List.length_map, List.length_take] at e
      omega
    have hd4 := s4 _ _ hd
    walk_at "rd3"
    rename_i t ht
    refine take_n (by walk_at "lk3") (by decide) fun k1 H6 s6 k10 k13 => ?_
    refine rix_t3S (by walk_at "lk3") k10 k13 fun v hv => ?_
    walk_at "rd3"
    have s7 : Same H5 H6 := (grow ht).trans s6
    have e6 := s7 _ _ hx3
    refine rdput_s e6 hxl (by rw [hx1]; exact nodup_take nd hz) ?_
    have hnt6 := s7 _ _ h4
    refine ⟨same_upd (s4.trans s7) hwa1, ?_, ⟨xs ++ [(z, v)], ?_, fun p hp => ?_, upd_same⟩, _, rfl⟩
    · rw [upd_ne (fun e => by rw [e, e6] at hnt6; cases hnt6)]
      exact hnt6
    · rw [List.map_append, hx1, take_snoc hz]
      rfl
    · rcases List.mem_append.mp hp with hp | hp
      · exact hx2 p hp
      · rw [List.mem_singleton.mp hp]
        exact hv
  · obtain ⟨s4, h4, ⟨xs, hx1, hx2, hx3⟩, o, rfl⟩ := p
    rw [List.length_map, List.take_length] at hx1
    exact k _ _ _ s4 hx3 hx1 hx2
theorem parts_homes {K : PySem.W.Frag} {d la a D : Addr} {H1 : Hp} {Q : VK} {names ls : List Str} {x2 x3 x4 : Option V} (hd : H1 d = some (DrawsO d)) (hla : H1 la = some (.lst (ls.map V.str))) (hls : 1 ≤ ls.length) (hn : H1 a = some (.lst (names.map V.str))) (nd : names.Nodup) (n6 : names.length ≤ 6) (hD : H1 D = none)
    (k : ∀ (H4 : Hp) (xs : List SS) (p : Addr), Same H1 H4 → H4 p = some (.dK (dKS xs)) → xs.map (·.1) = names → (∀ p ∈ xs, p.2 ∈ ls) → Q (.ref p) H4) :
    LcG (Itl K a) (gName 6) tYes (tTup (tCons (tVar 6) (tCons (tOp (rIxL K) (tVar 1) (tCall spTake [] E0 (tCons (tVar 0) (tCons (tCB (rLenS K) (tCons (tVar 1) tNil)) tNil)))) tNil))) [6]
      [some (.ref d), some (.ref la), x2, x3, x4, none, none, none, none, none, none, none, none, none, none, none, none, none, none, none, none] H1 D fun H_1 => rDictP K [V.ref D] H_1 Q := by
  refine lc_at (walk_list (K := K) (a := a) (xs := names.map V.str)) (fun i H4 => Same H1 H4 ∧ ∃ bs xs, H4 D = some (.lst (bs.map V.ref)) ∧ AtT pairV H4 bs xs ∧ xs.map (·.1) = names.take i ∧ ∀ p ∈ xs, p.2 ∈ ls) ⟨grow hD, [], [], upd_same, .nil, rfl, fun p hp => absurd hp List.not_mem_nil⟩ (fun i H4 _ p => SqL.of (p.1 _ _ hn)) (fun i x H4 H5 hi p y => ?_) (fun H4 p => ?_)
  · obtain ⟨s4, bs, xs, hb, hxs, hx1, hx2⟩ := p
    obtain ⟨rfl, ex⟩ := y
    rw [List.length_map] at hi
    have hz : names[i]? = some names[i] := List.getElem?_eq_getElem hi
    rw [List.getElem?_map, hz] at ex
    obtain rfl := Option.some.inj ex
    generalize names[i] = z at hz
    replace hd := s4 _ _ hd
    replace hla := s4 _ _ hla
    have hbl : bs.length ≤ 6 := by
      have e1 := paired_len hxs
      have e := congrArg List.length hx1
      rw [List.length_map, List.length_take] at e
      omega
    walk_at "rd3"
    refine take_n (by walk_at "lk3") (by rw [List.length_map]; omega) fun k1 H6 s6 k10 k13 => ?_
    rw [List.length_map] at k13
    refine rix_lS (by walk_at "lk3") k10 k13 fun v hv => ?_
    walk_at "rd3"
    rename_i q1 hq1
    have s7 := s4.trans s6
    obtain ⟨g1, g2, g3⟩ := snoc_at (f := pairV) (x := (z, v)) (xs := [.str z, .str v]) rfl s7 hD (s6 _ _ hb) (atT_same s6 hxs) hq1
    refine ⟨bs.map V.ref, keep (s6 _ _ hb) hq1, by rw [List.length_map, sizeLine_eq]; omega, g1, bs ++ [q1], xs ++ [(z, v)], g2, g3, ?_, fun p hp => ?_⟩
    · rw [List.map_append, hx1, take_snoc hz]
      rfl
    · rcases List.mem_append.mp hp with hp | hp
      · exact hx2 p hp
      · rw [List.mem_singleton.mp hp]
        exact hv
  · obtain ⟨s4, bs, xs, hb, hxs, hx1, hx2⟩ := p
    rw [List.length_map, List.take_length] at hx1
    exact rdict_pairs hb hxs (by rw [hx1]; exact nd) fun p hp => k _ xs p (same_upd2 s4 hp) upd_same hx1 hx2
theorem parts_mid {K : PySem.W.Frag} {d a D : Addr} {H1 : Hp} {QD : Hp → Prop} {mid : List Str} {x1 x2 x3 x4 x5 : Option V} (hd : H1 d = some (DrawsO d)) (hn : H1 a = some (.lst (mid.map V.str))) (n6 : mid.length ≤ 6) (hD : H1 D = none)
    (k : ∀ (H4 : Hp) (zs : List Str), Same H1 H4 → H4 D = some (.lst (zs.map V.str)) → zs.Sublist mid → QD H4) :
    LcG (Itl K a) (gName 6) (tTest (tOp rEq (tCall spTake [] E0 (tCons (tVar 0) (tCons (tC (V.int 3)) tNil))) (tC (V.int 0)))) (tVar 6) [6]
      [some (.ref d), x1, x2, x3, x4, x5, none, none, none, none, none, none, none, none, none, none, none, none, none, none, none] H1 D QD := by
  refine lc_at (walk_list (K := K) (a := a) (xs := mid.map V.str)) (fun i H4 => Same H1 H4 ∧ ∃ zs : List Str, H4 D = some (.lst (zs.map V.str)) ∧ zs.Sublist (mid.take i)) ⟨grow hD, [], upd_same, List.nil_sublist _⟩ (fun i H4 _ p => SqL.of (p.1 _ _ hn)) (fun i x H4 H5 hi p y => ?_) (fun H4 p => ?_)
  · obtain ⟨s4, zs, hb, hx1⟩ := p
    obtain ⟨rfl, ex⟩ := y
    rw [List.length_map] at hi
    have hz : mid[i]? = some mid[i] := List.getElem?_eq_getElem hi
    rw [List.getElem?_map, hz] at ex
    obtain rfl := Option.some.inj ex
    generalize mid[i] = z at hz
    replace hd := s4 _ _ hd
    have hbl := hx1.length_le
    rw [List.length_take] at hbl
    walk_at "rd3"
    refine take_n (by walk_at "lk3") (by decide) fun k1 H6 s6 k10 k13 => ?_
    have s7 := s4.trans s6
    have hb6 := s6 _ _ hb
    rw [take_snoc hz]
    walk_at "rd3"
    · exact ⟨zs.map V.str, hb6, by rw [List.length_map, sizeLine_eq]; omega, same_upd s7 hD, zs ++ [z], by rw [upd_same, List.map_append]; rfl, List.Sublist.append hx1 (List.Sublist.refl _)⟩
    · exact ⟨s7, zs, hb6, hx1.trans (List.sublist_append_left _ _)⟩
  · obtain ⟨s4, zs, hb, hx1⟩ := p
    rw [List.length_map, List.take_length] at hx1
    exact k _ zs s4 hb hx1
theorem names_cut {names : List Str} (h : names = six.take 3 ∨ names = six.take 4 ∨ names = six.take 5 ∨ names = six.take 6) : (cutA names (some 1) (some (-1)) ++ cutA names (some (-1)) none) = names.drop 1 ∧ (cutA names (some (-1)) none).length = 1 ∧ names.Nodup ∧ (3 ≤ names.length ∧ names.length ≤ 6) ∧ ∀ z ∈ names, z ∈ six ∧ nameB z = true ∧ z ≠ "market" := by
  rcases h with rfl | rfl | rfl | rfl
  all_goals exact ⟨by decide +kernel, by decide +kernel, by decide +kernel, by decide +kernel, by decide +kernel⟩
theorem parts_dues {K : PySem.W.Frag} {d la ka du : Addr} {H0 H1 : Hp} {D : Ends} {ls ks : List Str} {n : Nat} {x2 x3 x4 x5 x6 x7 : Option V} (hd : H0 d = some (DrawsO d)) (hla : H0 la = some (.lst (ls.map V.str))) (hls : 1 ≤ ls.length) (hka : H0 ka = some (.lst (ks.map V.str))) (hks : 1 ≤ ks.length)
    (s : Same H0 H1) (hdu0 : H0 du = none) (hdu : H1 du = some (.lst [])) (hn : n ≤ 6)
    (k : ∀ (H4 : Hp) (as : List Addr) (ds : List Due) (y1 y2 y3 y4 : Option V), Same H0 H4 → H4 du = some (.lst (as.map V.ref)) → AtT Due.vs H4 as ds → ds.length ≤ 6 → (∀ d ∈ ds, d.good ls ks) → D.nx [some (.ref d), some (.ref la), x2, x3, x4, x5, x6, x7, some (.ref ka), some (.ref du), y1, y2, y3, y4, none, none, none, none, none, none, none] H4) :
    FrG (Itr 0 n) (gName 10) (tSeq (tAsg (tOp (rIxT K) (tTup (tCons (tC (V.int 0)) (tCons (tC (V.int 700)) (tCons (tC (V.int 1900)) (tCons (tC (V.int 5000)) (tCons (tC (V.int 1)) (tCons (tC (V.int 333)) tNil))))))) (tCall spTake [] E0 (tCons (tVar 0) (tCons (tC (V.int 6)) tNil)))) (gName 11))
      (tSeq (tPar 12 13 (tCons (tOp (rIxL K) (tVar 1) (tCall spTake [] E0 (tCons (tVar 0) (tCons (tCB (rLenS K) (tCons (tVar 1) tNil)) tNil)))) (tCons (tOp (rIxL K) (tVar 8) (tCall spTake [] E0 (tCons (tVar 0) (tCons (tCB (rLenS K) (tCons (tVar 8) tNil)) tNil)))) tNil)))
        (tDrop (tBM K "list" rAppend (tVar 9) (tCons (tTup (tCons (tVar 12) (tCons (tVar 13) (tCons (tOp (rI CMul fun i j => V.int (i * j)) (tCall spTake [] E0 (tCons (tVar 0) (tCons (tC (V.int 5)) tNil))) (tC (V.int 2))) (tCons (tVar 11) tNil))))) tNil))))) D
      [some (.ref d), some (.ref la), x2, x3, x4, x5, x6, x7, some (.ref ka), some (.ref du), none, none, none, none, none, none, none, none, none, none, none] H1 := by
  refine fr_it (walk_range (lo := 0) (n := n)) (fun i σ H4 => Same H0 H4 ∧ (∃ (as : List Addr) (ds : List Due), H4 du = some (.lst (as.map V.ref)) ∧ AtT Due.vs H4 as ds ∧ ds.length = i ∧ ∀ d ∈ ds, d.good ls ks) ∧ ∃ y1 y2 y3 y4, σ = [some (.ref d), some (.ref la), x2, x3, x4, x5, x6, x7, some (.ref ka), some (.ref du), y1, y2, y3, y4, none, none, none, none, none, none, none])
    ⟨s, ⟨[], [], hdu, .nil, rfl, fun p hp => absurd hp List.not_mem_nil⟩, none, none, none, none, rfl⟩ (fun _ _ _ _ _ => trivial) (fun i x σ H4 H5 hi p y => ?_) (fun σ H4 p => ?_)
  · obtain ⟨s4, ⟨as, ds, h1, h2, h3, h4⟩, y1, y2, y3, y4, rfl⟩ := p
    obtain ⟨rfl, rfl⟩ := y
    have hal : (as.map V.ref).length ≤ 6 := by
      have e1 := paired_len h2
      rw [List.length_map]
      omega
    replace hd := s4 _ _ hd
    replace hla := s4 _ _ hla
    replace hka := s4 _ _ hka
    have hdu4 := hdu0
    walk_at "rd3"
    rename_i t ht
    refine take_n (by walk_at "lk3") (by decide) fun k1 H6 s6 k10 k11 => ?_
    refine rix_t6I (by walk_at "lk3") k10 k11 fun rate hrate => ?_
    have s7 := (grow ht).trans s6
    clear s6 ht
    walk_at "rd3"
    refine take_n (by walk_at "lk3") (by rw [List.length_map]; omega) fun k2 H7 s8 k20 k21 => ?_
    rw [List.length_map] at k21
    refine rix_lS (by walk_at "lk3") k20 k21 fun land hland => ?_
    walk_at "rd3"
    refine take_n (by walk_at "lk3") (by rw [List.length_map]; omega) fun k3 H8 s9 k30 k31 => ?_
    rw [List.length_map] at k31
    refine rix_lS (by walk_at "lk3") k30 k31 fun kind hkind => ?_
    walk_at "rd3"
    refine take_n (by walk_at "lk3") (by decide) fun k4 H9 s10 k40 k41 => ?_
    walk_at "rd3"
    have s11 := ((s7.trans s8).trans s9).trans s10
    have h1' := s11 _ _ h1
    rename_i q1 hq1
    obtain ⟨g1, g2, g3⟩ := snoc_at (f := Due.vs) (x := ⟨land, kind, k4 * 2, rate⟩) (xs := [.str land, .str kind, .int (k4 * 2), .int rate]) rfl (s4.trans s11) hdu0 h1' (atT_same s11 h2) hq1
    refine ⟨g1, ⟨as ++ [q1], ds ++ [⟨land, kind, k4 * 2, rate⟩], g2, g3, by rw [List.length_append, h3]; rfl, fun p hp => ?_⟩, _, _, _, _, rfl⟩
    rcases List.mem_append.mp hp with hp | hp
    · exact h4 p hp
    · rw [List.mem_singleton.mp hp]
      refine ⟨hland, hkind, by show 0 ≤ k4 * 2; omega, ?_⟩
      show 0 ≤ rate ∧ rate ≤ 5000
      simp at hrate
      omega
  · obtain ⟨s4, ⟨as, ds, h1, h2, h3, h4⟩, y1, y2, y3, y4, rfl⟩ := p
    exact k _ as ds _ _ _ _ s4 h1 h2 (by omega) h4
theorem pairs_at {H : Hp} : ∀ {zs : List (Addr × SS)}, (∀ z ∈ zs, H z.1 = some (.tup (pairV z.2))) → AtT pairV H (zs.map (·.1)) (zs.map (·.2))
  | [], _ => .nil
  | z :: zs, h => .cons (h z List.mem_cons_self) (pairs_at fun x hx => h x (List.mem_cons_of_mem _ hx))
abbrev pBP : SS := ("buyer", "photo")
abbrev pSS : SS := ("seller", "sorry")
abbrev pSP : SS := ("seller", "photo")
theorem pair_bp : pairGood pBP := ⟨.inl rfl, by decide +kernel⟩
theorem pair_ss : pairGood pSS := ⟨.inr rfl, by decide +kernel⟩
theorem pair_sp : pairGood pSP := ⟨.inr rfl, by decide +kernel⟩
theorem words_ok : ∀ z ∈ (["broken", "late"] : List Str), nameB z = true := by decide +kernel
theorem parts_norms {K : PySem.W.Frag} {d na : Addr} {H0 H1 : Hp} {D : Ends} {n : Nat} {x1 x2 x3 x4 x5 x6 x7 x8 x9 x10 x11 x12 x13 : Option V} (hd : H0 d = some (DrawsO d))
    (s : Same H0 H1) (hna0 : H0 na = none) (hna : H1 na = some (.lst [])) (hn : n ≤ 5)
    (k : ∀ (H4 : Hp) (as : List Addr) (ns : List Norm) (y10 y1 y2 y3 y4 : Option V), Same H0 H4 → H4 na = some (.lst (as.map V.ref)) → Paired (NormAt H4) as ns → ns.length ≤ 5 → (∀ n ∈ ns, n.good) → D.nx [some (.ref d), x1, x2, x3, x4, x5, x6, x7, x8, x9, y10, x11, x12, x13, some (.ref na), y1, y2, y3, y4, none, none] H4) :
    FrG (Itr 0 n) (gName 10) (tSeq (tAsg (tSl (rSlL K) (tLst (tCons (tTup (tCons (tC (V.str (Str.ofString "buyer"))) (tCons (tC (V.str (Str.ofString "photo"))) tNil))) (tCons (tTup (tCons (tC (V.str (Str.ofString "seller"))) (tCons (tC (V.str (Str.ofString "sorry"))) tNil))) (tCons (tTup (tCons (tC (V.str (Str.ofString "seller"))) (tCons (tC (V.str (Str.ofString "photo"))) tNil))) tNil)))) tNoPart (tPart (tCall spTake [] E0 (tCons (tVar 0) (tCons (tC (V.int 4)) tNil))))) (gName 15))
      (tSeq (tAsg (tSl (rSlL K) (tVar 15) (tPart (tCall spTake [] E0 (tCons (tVar 0) (tCons (tC (V.int 2)) tNil)))) tNoPart) (gName 15))
        (tSeq (tAsg (tOp (rIxT K) (tTup (tCons (tC (V.int 100)) (tCons (tC (V.int 50)) (tCons (tC (V.int 33)) (tCons (tC (V.int 0)) (tCons (tC (V.int 1)) tNil)))))) (tCall spTake [] E0 (tCons (tVar 0) (tCons (tC (V.int 5)) tNil)))) (gName 16))
          (tSeq (tPar 17 18 (tCons (tOp (rIxT K) (tTup (tCons (tC (V.str (Str.ofString "broken"))) (tCons (tC (V.str (Str.ofString "late"))) tNil))) (tCall spTake [] E0 (tCons (tVar 0) (tCons (tC (V.int 2)) tNil)))) (tCons (tCall spTake [] E0 (tCons (tVar 0) (tCons (tC (V.int 4)) tNil))) tNil)))
            (tDrop (tBM K "list" rAppend (tVar 14) (tCons (tTup (tCons (tVar 17) (tCons (tCB (rTupOf K) (tCons (tVar 15) tNil)) (tCons (tVar 18) (tCons (tVar 16) (tCons (tOp rEq (tCall spTake [] E0 (tCons (tVar 0) (tCons (tC (V.int 2)) tNil))) (tC (V.int 0))) tNil)))))) tNil))))))) D
      [some (.ref d), x1, x2, x3, x4, x5, x6, x7, x8, x9, x10, x11, x12, x13, some (.ref na), none, none, none, none, none, none] H1 := by
  refine fr_it (walk_range (lo := 0) (n := n)) (fun i σ H4 => Same H0 H4 ∧ (∃ (as : List Addr) (ns : List Norm), H4 na = some (.lst (as.map V.ref)) ∧ Paired (NormAt H4) as ns ∧ ns.length = i ∧ ∀ n ∈ ns, n.good) ∧ ∃ y10 y1 y2 y3 y4, σ = [some (.ref d), x1, x2, x3, x4, x5, x6, x7, x8, x9, y10, x11, x12, x13, some (.ref na), y1, y2, y3, y4, none, none])
    ⟨s, ⟨[], [], hna, .nil, rfl, fun p hp => absurd hp List.not_mem_nil⟩, x10, none, none, none, none, rfl⟩ (fun _ _ _ _ _ => trivial) (fun i x σ H4 H5 hi p y => ?_) (fun σ H4 p => ?_)
  · obtain ⟨s4, ⟨as, ns, h1, h2, h3, h4⟩, y10, y1, y2, y3, y4, rfl⟩ := p
    obtain ⟨rfl, rfl⟩ := y
    have hal : (as.map V.ref).length ≤ 5 := by
      have e1 := paired_len h2
      rw [List.length_map]
      omega
    replace hd := s4 _ _ hd
    walk_at "rd3"
    rename_i p1 hp1 p2 hp2 p3 hp3 l1 hl1
    refine take_n (by walk_at "lk3") (by decide) fun k1 H6 s6 k10 k11 => ?_
    have z1 : H6 p1 = some (.tup (pairV pBP)) := s6 _ _ (keep (keep (keep upd_same hp2) hp3) hl1)
    have z2 : H6 p2 = some (.tup (pairV pSS)) := s6 _ _ (keep (keep upd_same hp3) hl1)
    have z3 : H6 p3 = some (.tup (pairV pSP)) := s6 _ _ (keep upd_same hl1)
    obtain ⟨zs, hzs⟩ : ∃ zs : List (Addr × SS), zs = [(p1, pBP), (p2, pSS), (p3, pSP)] := ⟨_, rfl⟩
    have hl6 : H6 l1 = some (.lst (zs.map fun z => V.ref z.1)) := by rw [hzs]; exact s6 _ _ upd_same
    have hz1 : ∀ z ∈ zs, H6 z.1 = some (.tup (pairV z.2)) ∧ pairGood z.2 := fun z hz => by
      rw [hzs] at hz
      rcases List.mem_cons.mp hz with rfl | hz
      · exact ⟨z1, pair_bp⟩
      rcases List.mem_cons.mp hz with rfl | hz
      · exact ⟨z2, pair_ss⟩
      rw [List.mem_singleton.mp hz]
      exact ⟨z3, pair_sp⟩
    have hz3 : zs.length ≤ 3 := by rw [hzs]; exact Nat.le_refl _
    have s7 : Same H5 H6 := ((((grow hp1).trans (grow hp2)).trans (grow hp3)).trans (grow hl1)).trans s6
    clear hzs z1 z2 z3 s6 hl1 hp1 hp2 hp3
    walk_at "rd3"
    refine rsl_map hl6 fun l2 hl2 => ?_
    have hc1 := fun z hz => hz1 z (cutA_mem (lo := none) (hi := some k1) hz)
    have hc3 := (cutA_sub zs none (some k1)).length_le
    have hl2' : upd H6 l2 (.lst ((cutA zs none (some k1)).map fun z => V.ref z.1)) l2 = some (.lst ((cutA zs none (some k1)).map fun z => V.ref z.1)) := upd_same
    have s8 := s7.trans (grow (u := .lst ((cutA zs none (some k1)).map fun z => V.ref z.1)) hl2)
    have hc1' : ∀ z ∈ cutA zs none (some k1), upd H6 l2 (.lst ((cutA zs none (some k1)).map fun z => V.ref z.1)) z.1 = some (.tup (pairV z.2)) ∧ pairGood z.2 := fun z hz => ⟨keep (hc1 z hz).1 hl2, (hc1 z hz).2⟩
    clear hc1 hz1
    generalize cutA zs none (some k1) = zs1 at hc1' hc3 hl2' s8
    generalize upd H6 l2 (.lst (zs1.map fun z => V.ref z.1)) = H7 at hc1' hl2' s8
    clear hl2 s7 hl6
    walk_at "rd3"
    refine take_n (by walk_at "lk3") (by decide) fun k2 H8 s9 k20 k21 => ?_
    walk_at "rd3"
    refine rsl_map (s9 _ _ hl2') fun l3 hl3 => ?_
    have hd1 : ∀ z ∈ cutA zs1 (some k2) none, upd H8 l3 (.lst ((cutA zs1 (some k2) none).map fun z => V.ref z.1)) z.1 = some (.tup (pairV z.2)) ∧ pairGood z.2 := fun z hz => ⟨keep (s9 _ _ (hc1' z (cutA_mem hz)).1) hl3, (hc1' z (cutA_mem hz)).2⟩
    have hd3 := (cutA_sub zs1 (some k2) none).length_le
    have s10 := (s8.trans s9).trans (grow (u := .lst ((cutA zs1 (some k2) none).map fun z => V.ref z.1)) hl3)
    have hl3' : upd H8 l3 (.lst ((cutA zs1 (some k2) none).map fun z => V.ref z.1)) l3 = some (.lst ((cutA zs1 (some k2) none).map fun z => V.ref z.1)) := upd_same
    generalize cutA zs1 (some k2) none = zs2 at hd1 hd3 hl3' s10
    generalize upd H8 l3 (.lst (zs2.map fun z => V.ref z.1)) = H9 at hd1 hl3' s10
    clear hl3 s9 s8 hc1'
    walk_at "rd3"
    rename_i t5 ht5
    refine take_n (by walk_at "lk3") (by decide) fun k3 H10 s11 k30 k31 => ?_
    refine rix_t5I (by walk_at "lk3") k30 k31 fun part hpart => ?_
    have s12 := (grow ht5).trans s11
    clear s11 ht5
    walk_at "rd3"
    rename_i t2 ht2
    refine take_n (by walk_at "lk3") (by decide) fun k4 H11 s13 k40 k41 => ?_
    refine rix_t2S (by walk_at "lk3") k40 k41 fun word hword => ?_
    have s14 := s12.trans ((grow ht2).trans s13)
    clear s12 s13 ht2
    walk_at "rd3"
    refine take_n (by walk_at "lk3") (by decide) fun k5 H12 s15 k50 k51 => ?_
    have s16 := s14.trans s15
    clear s14 s15
    walk_at "rd3"
    refine rtup_l (s16 _ _ hl3') fun tq htq => ?_
    walk_at "rd3"
    refine take_n (by walk_at "lk3") (by decide) fun k6 H13 s17 k60 k61 => ?_
    have s18 : Same H9 H13 := s16.trans ((grow htq).trans s17)
    have htq' : H13 tq = some (.tup (zs2.map fun z => V.ref z.1)) := s17 _ _ upd_same
    clear s16 s17 htq
    walk_at "rd3"
    rename_i q1 hq1
    have s19 := s10.trans s18
    have h1' := s19 _ _ h1
    refine rapp_t (keep h1' hq1) (by rw [sizeLine_eq]; omega) ?_
    have kT := keepT_lst (zs := as.map V.ref ++ [V.ref q1]) (keep (u := .tup [.str word, .ref tq, .int k5, .int part, .bl (decide (k6 = 0))]) h1' hq1)
    have kT2 := (keepT_same (s19.trans (grow (u := .tup [.str word, .ref tq, .int k5, .int part, .bl (decide (k6 = 0))]) hq1))).trans kT
    refine ⟨same_upd (same_upd2 (s4.trans s19) hq1) hna0, ⟨as ++ [q1], ns ++ [⟨word, zs2.map (·.2), k5, part, decide (k6 = 0)⟩], by rw [upd_same, List.map_append]; rfl, Paired.snoc (Paired.mapP h2 fun a n x => normAt_keep kT2 x) ⟨tq, zs2.map (·.1), kT _ _ upd_same, ?_, ?_⟩, by rw [List.length_append, h3]; rfl, fun n hn => ?_⟩, _, _, _, _, _, rfl⟩
    · rw [List.map_map]
      exact kT _ _ (keep htq' hq1)
    · exact atT_keep ((keepT_same (s18.trans (grow hq1))).trans kT) (pairs_at fun z hz => (hd1 z hz).1)
    · rcases List.mem_append.mp hn with hn | hn
      · exact h4 n hn
      · rw [List.mem_singleton.mp hn]
        simp at hpart
        refine ⟨words_ok _ hword, by rw [List.length_map]; omega, fun p hp => ?_, by show 0 ≤ k5; omega, by show k5 ≤ 9; omega, by show 0 ≤ part; omega, by show part ≤ 100; omega⟩
        obtain ⟨z, hz, rfl⟩ := List.mem_map.mp hp
        exact (hd1 z hz).2
  · obtain ⟨s4, ⟨as, ns, h1, h2, h3, h4⟩, y10, y1, y2, y3, y4, rfl⟩ := p
    exact k _ as ns _ _ _ _ _ s4 h1 h2 (by omega) h4
def spParts : Sp := fun vs H Q _ => ∃ d : Addr, vs = [.ref d] ∧ H d = some (DrawsO d) ∧ ∀ (a : Addr) (W : Wd) H', Same H H' → PartsL H' a W → W.good → W.more → Q (.ref a) H'
section
variable {P : Program} {w : World} {K : PySem.W.Frag} {mg : Str → Option Value} {base : Heap}
theorem f_parts (T : Tx w K mg) : Fok P w K mg base CX0 "_law_parts" ps__law_parts [] 3 spParts := by
  obtain ⟨fd, F⟩ := T.d__law_parts
  have G__law_take := f_take (P := P) (base := base) T
  refine fok F T.g__law_parts (fun _ _ _ _ _ _ us hl => match us, hl with | [_], _ => rfl) (F.ok sc__law_parts (fun vs H Q E h => ?_) (fun cdv A outer s H vs Q E hr h => ?_))
  · obtain ⟨d, rfl, _⟩ := h
    rfl
  · refine ⟨_, PSs.nox (pss_cons (ps_set (i := 1) sc__law_parts.nd rfl (Or.inr rfl) (pe_ix (ix_tupK (K := K) (by rfl)) (pe_tup (pa_cons (pe_lst (pa_cons pe_str (pa_cons pe_str pa_nil))) (pa_cons (pe_lst (pa_cons pe_str pa_nil)) (pa_cons (pe_lst (pa_cons pe_str (pa_cons pe_str (pa_cons pe_str pa_nil)))) pa_nil)))) (pe_fn G__law_take (hr.mono (by decide)) pass0 (pa_cons (pv 0) (pa_cons pe_int pa_nil))) (fun _ _ => rfl)))
      (pss_cons (ps_set (i := 2) sc__law_parts.nd rfl (Or.inl rfl) pe_dnewK)
      (pss_cons (ps_for PassesOwn.never rfl (pi_tupK (K := K) (by rfl) (pe_slice (sl_tupK (K := K) (by rfl)) (pe_tup (pa_cons pe_str (pa_cons pe_str (pa_cons pe_str pa_nil)))) po_none (po_some (pe_op op_add pe_int (pe_fn G__law_take (hr.mono (by decide)) pass0 (pa_cons (pv 0) (pa_cons pe_int pa_nil))))))) (pg_name (i := 3) sc__law_parts.nd rfl (Or.inl rfl)) (pss_one (ps_dputK (hu_of hr) (pv 2) (pv 3) (pe_ix (ix_tupK (K := K) (by rfl)) (pe_tup (pa_cons pe_str (pa_cons pe_str (pa_cons pe_str pa_nil)))) (pe_fn G__law_take (hr.mono (by decide)) pass0 (pa_cons (pv 0) (pa_cons pe_int pa_nil))) (fun _ _ => rfl)) rfl)))
      (pss_cons (ps_set (i := 4) sc__law_parts.nd rfl (Or.inl rfl) (pe_slice (sl_listK (K := K) (by rfl)) (pe_lst (pa_cons pe_str (pa_cons pe_str (pa_cons pe_str (pa_cons pe_str (pa_cons pe_str (pa_cons pe_str pa_nil))))))) po_none (po_some (pe_op op_add pe_int (pe_fn G__law_take (hr.mono (by decide)) pass0 (pa_cons (pv 0) (pa_cons pe_int pa_nil)))))))
      (pss_cons (ps_set (i := 5) sc__law_parts.nd rfl (Or.inl rfl) (pe_callTy (call_dictPK (K := K) (by rfl) rfl) (by rfl) T.b_dict bt_dict (pa_cons (pe_lc (own := [("_law_name", 6)])  (by rfl) sc__law_parts.nd (by exact (pi_listK (K := K) (by rfl) (pv 4))) (blkOk_by (own := [("_law_name", 6)]) (N := ns__law_parts) (sc := defScope s__law_parts) (by decide +kernel)) (fun _ _ _ _ _ => (pg_name (i := 6) sc__law_parts.nd rfl (Or.inl rfl))) (fun _ _ _ _ _ => pts_nil) (fun _ _ _ _ _ => (pe_tup (pa_cons (pv 6) (pa_cons (pe_ix (ix_listK (K := K) (by rfl)) (pv 1) (pe_fn G__law_take (hr.mono (by decide)) pass0 (pa_cons (pv 0) (pa_cons (pe_callB (call_lenA (K := K) (by rfl)) (by rfl) T.b_len bt_len (pa_cons (pv 1) pa_nil)) pa_nil))) (fun _ _ => rfl)) pa_nil))))) pa_nil)))
      (pss_cons (ps_set (i := 7) sc__law_parts.nd rfl (Or.inl rfl) (pe_op op_cat (pe_slice (sl_listK (K := K) (by rfl)) (pe_lc (own := [("_law_name", 6)])  (by rfl) sc__law_parts.nd (by exact (pi_listK (K := K) (by rfl) (pe_slice (sl_listK (K := K) (by rfl)) (pv 4) (po_some pe_int) (po_some (pe_un un_neg pe_int))))) (blkOk_by (own := [("_law_name", 6)]) (N := ns__law_parts) (sc := defScope s__law_parts) (by decide +kernel)) (fun _ _ _ _ _ => (pg_name (i := 6) sc__law_parts.nd rfl (Or.inl rfl))) (fun _ _ _ _ _ => (pts_one (pt_cmpR op_eq (pe_fn G__law_take (hr.mono (by decide)) pass0 (pa_cons (pv 0) (pa_cons pe_int pa_nil))) pe_int (nomark _)))) (fun _ _ _ _ _ => (pv 6))) po_none (po_some pe_int)) (pe_slice (sl_listK (K := K) (by rfl)) (pv 4) (po_some (pe_un un_neg pe_int)) po_none)))
      (pss_cons (ps_par (i := 8) (j := 9) (by rfl) sc__law_parts.nd rfl rfl (by decide) rfl rfl (pa_cons (pe_callB (cr_sortW (w := w) (by rfl) rfl) (by rfl) T.b_sorted bt_sorted (pa_cons (pe_callTy (call_setW (w := w) (by rfl) rfl) (by rfl) T.b_set bt_set (pa_cons (pe_lv rfl (pv 2) rfl T.b_list bt_list) pa_nil)) pa_nil)) (pa_cons (pe_lst pa_nil) pa_nil)) (by rfl))
      (pss_cons (ps_for PassesOwn.never rfl (pi_range1 (by rfl) T.b_range (pa_cons (pe_fn G__law_take (hr.mono (by decide)) pass0 (pa_cons (pv 0) (pa_cons pe_int pa_nil))) pa_nil)) (pg_name (i := 10) sc__law_parts.nd rfl (Or.inl rfl)) (pss_cons (ps_set (i := 11) sc__law_parts.nd rfl (Or.inl rfl) (pe_ix (ix_tupK (K := K) (by rfl)) (pe_tup (pa_cons pe_int (pa_cons pe_int (pa_cons pe_int (pa_cons pe_int (pa_cons pe_int (pa_cons pe_int pa_nil))))))) (pe_fn G__law_take (hr.mono (by decide)) pass0 (pa_cons (pv 0) (pa_cons pe_int pa_nil))) (fun _ _ => rfl)))
      (pss_cons (ps_par (i := 12) (j := 13) (by rfl) sc__law_parts.nd rfl rfl (by decide) rfl rfl (pa_cons (pe_ix (ix_listK (K := K) (by rfl)) (pv 1) (pe_fn G__law_take (hr.mono (by decide)) pass0 (pa_cons (pv 0) (pa_cons (pe_callB (call_lenA (K := K) (by rfl)) (by rfl) T.b_len bt_len (pa_cons (pv 1) pa_nil)) pa_nil))) (fun _ _ => rfl)) (pa_cons (pe_ix (ix_listK (K := K) (by rfl)) (pv 8) (pe_fn G__law_take (hr.mono (by decide)) pass0 (pa_cons (pv 0) (pa_cons (pe_callB (call_lenA (K := K) (by rfl)) (by rfl) T.b_len bt_len (pa_cons (pv 8) pa_nil)) pa_nil))) (fun _ _ => rfl)) pa_nil)) (by rfl))
      (pss_one (ps_expr (pe_bm PySem.F.plainAttrs_list PySem.F.slot_list_append PySem.F.type_list_append mt_append (pv 9) (pa_cons (pe_tup (pa_cons (pv 12) (pa_cons (pv 13) (pa_cons (pe_op op_mul (pe_fn G__law_take (hr.mono (by decide)) pass0 (pa_cons (pv 0) (pa_cons pe_int pa_nil))) pe_int) (pa_cons (pv 11) pa_nil))))) pa_nil)))))))
      (pss_cons (ps_set (i := 14) sc__law_parts.nd rfl (Or.inl rfl) (pe_lst pa_nil))
      (pss_cons (ps_for PassesOwn.never rfl (pi_range1 (by rfl) T.b_range (pa_cons (pe_fn G__law_take (hr.mono (by decide)) pass0 (pa_cons (pv 0) (pa_cons pe_int pa_nil))) pa_nil)) (pg_name (i := 10) sc__law_parts.nd rfl (Or.inl rfl)) (pss_cons (ps_set (i := 15) sc__law_parts.nd rfl (Or.inl rfl) (pe_slice (sl_listK (K := K) (by rfl)) (pe_lst (pa_cons (pe_tup (pa_cons pe_str (pa_cons pe_str pa_nil))) (pa_cons (pe_tup (pa_cons pe_str (pa_cons pe_str pa_nil))) (pa_cons (pe_tup (pa_cons pe_str (pa_cons pe_str pa_nil))) pa_nil)))) po_none (po_some (pe_fn G__law_take (hr.mono (by decide)) pass0 (pa_cons (pv 0) (pa_cons pe_int pa_nil))))))
      (pss_cons (ps_set (i := 15) sc__law_parts.nd rfl (Or.inl rfl) (pe_slice (sl_listK (K := K) (by rfl)) (pv 15) (po_some (pe_fn G__law_take (hr.mono (by decide)) pass0 (pa_cons (pv 0) (pa_cons pe_int pa_nil)))) po_none))
      (pss_cons (ps_set (i := 16) sc__law_parts.nd rfl (Or.inl rfl) (pe_ix (ix_tupK (K := K) (by rfl)) (pe_tup (pa_cons pe_int (pa_cons pe_int (pa_cons pe_int (pa_cons pe_int (pa_cons pe_int pa_nil)))))) (pe_fn G__law_take (hr.mono (by decide)) pass0 (pa_cons (pv 0) (pa_cons pe_int pa_nil))) (fun _ _ => rfl)))
      (pss_cons (ps_par (i := 17) (j := 18) (by rfl) sc__law_parts.nd rfl rfl (by decide) rfl rfl (pa_cons (pe_ix (ix_tupK (K := K) (by rfl)) (pe_tup (pa_cons pe_str (pa_cons pe_str pa_nil))) (pe_fn G__law_take (hr.mono (by decide)) pass0 (pa_cons (pv 0) (pa_cons pe_int pa_nil))) (fun _ _ => rfl)) (pa_cons (pe_fn G__law_take (hr.mono (by decide)) pass0 (pa_cons (pv 0) (pa_cons pe_int pa_nil))) pa_nil)) (by rfl))
      (pss_one (ps_expr (pe_bm PySem.F.plainAttrs_list PySem.F.slot_list_append PySem.F.type_list_append mt_append (pv 14) (pa_cons (pe_tup (pa_cons (pv 17) (pa_cons (pe_callTy (call_tupleK (K := K) (by rfl)) (by rfl) T.b_tuple bt_tuple (pa_cons (pv 15) pa_nil)) (pa_cons (pv 18) (pa_cons (pv 16) (pa_cons (pe_cmpR op_eq (pe_fn G__law_take (hr.mono (by decide)) pass0 (pa_cons (pv 0) (pa_cons pe_int pa_nil))) pe_int (nomark _)) pa_nil)))))) pa_nil)))))))))
      (pss_cons (ps_par (i := 19) (j := 20) (by rfl) sc__law_parts.nd rfl rfl (by decide) rfl rfl (pa_cons (pe_ix (ix_tupK (K := K) (by rfl)) (pe_tup (pa_cons pe_int (pa_cons pe_int (pa_cons pe_int (pa_cons pe_int pa_nil))))) (pe_fn G__law_take (hr.mono (by decide)) pass0 (pa_cons (pv 0) (pa_cons pe_int pa_nil))) (fun _ _ => rfl)) (pa_cons (pe_op op_add pe_int (pe_fn G__law_take (hr.mono (by decide)) pass0 (pa_cons (pv 0) (pa_cons pe_int pa_nil)))) pa_nil)) (by rfl))
      (pss_one (ps_ret (pe_lst (pa_cons (pv 1) (pa_cons (pv 2) (pa_cons (pv 5) (pa_cons (pv 7) (pa_cons (pv 9) (pa_cons (pv 14) (pa_cons (pv 19) (pa_cons (pv 20) (pa_cons (pe_op op_add pe_int (pe_fn G__law_take (hr.mono (by decide)) pass0 (pa_cons (pv 0) (pa_cons pe_int pa_nil)))) pa_nil))))))))))))))))))))))), ?_⟩
    obtain ⟨d, rfl, hd, q⟩ := h
    walk_at "rd3"
    rename_i l1 h1 l2 h2 l3 h3 t ht
    refine take_n (by walk_at "lk3") (by decide) fun k1 H1 s1 k10 k13 => ?_
    refine rix_tp (xs := [.ref l1, .ref l2, .ref l3]) (by walk_at "lk3") k10 k13 fun v hv => ?_
    have hla : ∃ (la : Addr) (ls : List Str), v = .ref la ∧ H1 la = some (.lst (ls.map V.str)) ∧ LandsOk ls := by
      rcases List.mem_cons.mp hv with rfl | hv
      · exact ⟨l1, ["east", "west"], rfl, s1 _ _ (keep (keep (keep upd_same h2) h3) ht), lands1⟩
      rcases List.mem_cons.mp hv with rfl | hv
      · exact ⟨l2, ["east"], rfl, s1 _ _ (keep (keep upd_same h3) ht), lands2⟩
      rw [List.mem_singleton.mp hv]
      exact ⟨l3, ["sand", "east", "west"], rfl, s1 _ _ (keep upd_same ht), lands3⟩
    obtain ⟨la, ls, rfl, hla, hls⟩ := hla
    have s01 : Same H H1 := by walk_at "sm3"
    have hd1 := s01 _ _ hd
    clear hv h1 h2 h3 ht s1
    walk_at "rd3"
    intro wa hwa
    walk_at "rd3"
    rename_i t ht
    refine take_n (by walk_at "lk3") (by decide) fun k2 H2 s2 k20 k23 => ?_
    walk_at "rd3"
    refine rsl_tmap (f := V.str) (zs := goods) (by show _ = some (HO.tup [V.str "corn", V.str "axe", V.str "more"]); walk_at "lk3") fun nt H3 s3 hnt => ?_
    rw [cutA_toI _ (by omega)] at hnt
    have hwa3 : H3 wa = some (.dK []) := s3 _ _ (s2 _ _ (keep upd_same ht))
    have s13 : Same H1 H3 := (((grow hwa).trans (grow ht)).trans s2).trans s3
    have hwl : (goods.take (1 + k2).toNat).Nodup ∧ (1 ≤ (goods.take (1 + k2).toNat).length ∧ (goods.take (1 + k2).toNat).length ≤ 3) ∧ ∀ z ∈ goods.take (1 + k2).toNat, nameB z = true := ⟨List.Nodup.sublist (List.take_sublist _ _) goods_ok.2, by rw [List.length_take]; show 1 ≤ min (1 + k2).toNat 3 ∧ min (1 + k2).toNat 3 ≤ 3; omega, fun z hz => goods_ok.1 z (List.mem_of_mem_take hz)⟩
    generalize goods.take (1 + k2).toNat = wl at hnt hwl
    obtain ⟨wl1, ⟨wl2, wl3⟩, wl4⟩ := hwl
    refine ⟨nt, rfl, ⟨_, SqT.of hnt⟩, ?_⟩
    refine parts_wares hd1 hwa s13 hwa3 hnt wl1 wl3 fun H4 ws o s14 hws hws1 hws2 => ?_
    replace hla := s14 _ _ hla
    replace hd1 := s14 _ _ hd1
    have s04 := s01.trans s14
    clear s14 hnt hwa3 s13 s3 s2 hwa ht
    walk_at "rd3"
    rename_i t ht
    refine take_n (by walk_at "lk3") (by decide) fun k3 H5 s5 k30 k34 => ?_
    walk_at "rd3"
    refine rsl_map (f := V.str) (zs := six) (by show _ = some (HO.lst [V.str "ann", V.str "bob", V.str "cat", V.str "whole", V.str "out", V.str "fee"]); walk_at "lk3") fun na hna => ?_
    rw [cutA_toI _ (by omega)] at *
    obtain ⟨names, hnames⟩ : ∃ names, names = six.take (3 + k3).toNat := ⟨_, rfl⟩
    rw [← hnames]
    have hnl : names = six.take 3 ∨ names = six.take 4 ∨ names = six.take 5 ∨ names = six.take 6 := by
      have : (3 + k3).toNat = 3 ∨ (3 + k3).toNat = 4 ∨ (3 + k3).toNat = 5 ∨ (3 + k3).toNat = 6 := by omega
      rcases this with e | e | e | e <;> rw [hnames, e] <;> simp
    have s46 : Same H4 (upd H5 na (.lst (names.map V.str))) := ((grow ht).trans s5).trans (grow hna)
    have hna6 : upd H5 na (.lst (names.map V.str)) na = some (.lst (names.map V.str)) := upd_same
    generalize upd H5 na (.lst (names.map V.str)) = H6 at s46 hna6
    clear hnames hna s5 ht
    walk_at "rd3"
    refine ⟨⟨_, SqL.of hna6⟩, fun D hD => ?_⟩
    refine parts_homes (s46 _ _ hd1) (s46 _ _ hla) hls.1.1 hna6 ?_ ?_ hD fun H7 hs pa s67 hpa hs1 hs2 => ?_
    · exact (names_cut hnl).2.2.1
    · exact (names_cut hnl).2.2.2.1.2
    obtain ⟨nc1, nc2, nc3, nc4, nc5⟩ := names_cut hnl
    have s47 := s46.trans s67
    have hd7 := s47 _ _ hd1
    have hna7 := s67 _ _ hna6
    have hws7 := s47 _ _ hws
    walk_at "rd3"
    refine rsl_map hna7 fun ma hma => ?_
    have hd8 := keep (u := .lst ((cutA names (some 1) (some (-1))).map V.str)) hd7 hma
    refine ⟨ma, rfl, ⟨_, SqL.of upd_same⟩, fun D2 hD2 => ?_⟩
    refine parts_mid hd8 upd_same ?_ hD2 fun H8 zs s8 hzs hsub => ?_
    · have := (cutA_sub names (some 1) (some (-1))).length_le
      omega
    have s78 := (grow hma).trans s8
    have hna8 := s78 _ _ hna7
    have hws8 := s78 _ _ hws7
    have hd9 := s78 _ _ hd7
    clear hd8 hma s8 hD2
    walk_at "rd3"
    refine rsl_map hzs fun za hza => ?_
    walk_at "rd3"
    refine rsl_map (keep hna8 hza) fun ya hya => ?_
    refine rcat_t (xs := (cutA zs none (some 2)).map V.str) (zs := (cutA names (some (-1)) none).map V.str) (keep upd_same hya) upd_same ?_ fun ca hca => ?_
    · rw [List.length_map, List.length_map]
      have h1 := (cutA_sub zs none (some 2)).length_le
      have h2 := hsub.length_le
      have h3 := (cutA_sub names (some 1) (some (-1))).length_le
      exact line_ge (by omega)
    rw [← List.map_append]
    have hpo : (cutA zs none (some 2) ++ cutA names (some (-1)) none).Sublist (names.drop 1) := by
      rw [← nc1]
      exact List.Sublist.append ((cutA_sub _ _ _).trans hsub) (List.Sublist.refl _)
    have hpl : (cutA zs none (some 2) ++ cutA names (some (-1)) none).length ≤ 3 := by
      rw [List.length_append, nc2, show cutA zs none (some 2) = zs.take 2 from cutA_to zs 2, List.length_take]
      omega
    generalize cutA zs none (some 2) ++ cutA names (some (-1)) none = porters at hpo hpl
    have s8 : Same H8 (upd (upd (upd H8 za (.lst ((cutA zs none (some 2)).map V.str))) ya (.lst ((cutA names (some (-1)) none).map V.str))) ca (.lst (porters.map V.str))) := ((grow hza).trans (grow hya)).trans (grow hca)
    have hca9 : upd (upd (upd H8 za (.lst ((cutA zs none (some 2)).map V.str))) ya (.lst ((cutA names (some (-1)) none).map V.str))) ca (.lst (porters.map V.str)) ca = some (.lst (porters.map V.str)) := upd_same
    generalize upd (upd (upd H8 za (.lst ((cutA zs none (some 2)).map V.str))) ya (.lst ((cutA names (some (-1)) none).map V.str))) ca (.lst (porters.map V.str)) = H9 at s8 hca9
    have s79 := s78.trans s8
    have hws9 := s79 _ _ hws7
    have hd10 := s79 _ _ hd7
    clear hca hya hza s8 hd9 hws8 hna8 s78 hzs hsub
    walk_at "rd3"
    rename_i va hva
    have hwl : ws.length ≤ 3 := by
      have e := congrArg List.length hws1
      rw [List.length_map] at e
      omega
    refine rset_s upd_same (by rw [List.length_map]; omega) fun sa hsa => ?_
    refine rsort_s upd_same (by rw [List.length_map]; omega) fun ka ks hka hk1 hk2 hk3 => ?_
    have s9 : Same H9 (upd (upd (upd H9 va (.lst ((ws.map (·.2)).map V.str))) sa (TxO w sa (ws.map (·.2)))) ka (.lst (ks.map V.str))) := ((grow hva).trans (grow hsa)).trans (grow hka)
    have hka1 : upd (upd (upd H9 va (.lst ((ws.map (·.2)).map V.str))) sa (TxO w sa (ws.map (·.2)))) ka (.lst (ks.map V.str)) ka = some (.lst (ks.map V.str)) := upd_same
    generalize upd (upd (upd H9 va (.lst ((ws.map (·.2)).map V.str))) sa (TxO w sa (ws.map (·.2)))) ka (.lst (ks.map V.str)) = H10 at s9 hka1
    have hkl : 1 ≤ ks.length := List.length_pos_iff.mpr (hk3 fun e => by
      have e2 := congrArg List.length e
      have e1 := congrArg List.length hws1
      rw [List.length_map] at e1
      rw [List.length_map, List.length_nil] at e2
      omega)
    have s710 := s79.trans s9
    have hd11 := s9 _ _ hd10
    have hla10 := s710 _ _ (s47 _ _ hla)
    walk_at "rd3"
    rename_i du hdu
    refine take_n (by walk_at "lk3") (by decide) fun k4 H11 s11 k40 k46 => ?_
    walk_at "rd3"
    refine parts_dues (H0 := H10) hd11 hla10 hls.1.1 hka1 hkl ((grow hdu).trans s11) hdu (s11 _ _ upd_same) (by omega) fun H12 das ds y1 y2 y3 y4 s12 hdu12 hds hds6 hdsg => ?_
    have hd12 := s12 _ _ hd11
    have s1012 := s12
    clear s12 s11 hdu
    walk_at "rd3"
    rename_i no hno
    refine take_n (by walk_at "lk3") (by decide) fun k5 H13 s13 k50 k55 => ?_
    walk_at "rd3"
    refine parts_norms (H0 := H12) hd12 ((grow hno).trans s13) hno (s13 _ _ upd_same) (by omega) fun H14 nas ns y10 y5 y6 y7 y8 s14 hno14 hns hns5 hnsg => ?_
    clear s13 hno
    walk_at "rd3"
    rename_i t4 ht4
    refine take_n (by walk_at "lk3") (by decide) fun k6 H15 s15 k60 k64 => ?_
    refine rix_t4I (by walk_at "lk3") k60 k64 fun cut hcut => ?_
    have s1415 := (grow ht4).trans s15
    clear s15 ht4
    walk_at "rd3"
    refine take_n (by walk_at "lk3") (by decide) fun k7 H16 s16 k70 k73 => ?_
    walk_at "rd3"
    refine take_n (by walk_at "lk3") (by decide) fun k8 H17 s17 k80 k83 => ?_
    have s1417 := (s1415.trans s16).trans s17
    clear s1415 s16 s17
    walk_at "rd3"
    rename_i pz hpz
    have sE : Same H14 (upd H17 pz (.lst [.ref la, .ref wa, .ref pa, .ref ca, .ref du, .ref no, .int cut, .int (1 + k7), .int (1 + k8)])) := s1417.trans (grow hpz)
    have sD := s14.trans sE
    have sB := s9.trans (s1012.trans sD)
    have s7 := s79.trans sB
    have s4 := s47.trans s7
    have hnm : ∀ p ∈ hs, p.1 ∈ names := fun p hp => by rw [← hs1]; exact List.mem_map_of_mem hp
    have hwm : ∀ p ∈ ws, p.1 ∈ wl := fun p hp => by rw [← hws1]; exact List.mem_map_of_mem hp
    have hsl : hs.length = names.length := by rw [← hs1, List.length_map]
    have hwl2 : ws.length = wl.length := by rw [← hws1, List.length_map]
    have hpm : ∀ z ∈ porters, z ∈ names := fun z hz => List.mem_of_mem_drop (hpo.mem hz)
    simp at hcut
    refine q pz ⟨ls, ws, hs, porters, ds, ns, cut, 1 + k7, 1 + k8⟩ _ (s04.trans s4) ⟨la, wa, pa, ca, du, no, upd_same, s4 _ _ hla, s4 _ _ hws, s7 _ _ hpa, sB _ _ hca9, ⟨das, sD _ _ hdu12, atT_same sD hds⟩, nas, sE _ _ hno14, Paired.mapP hns fun _ _ x => normAt_same sE x⟩ ?_ ?_
    · refine ⟨hls.1, hls.2, ⟨by show 1 ≤ ws.length; omega, by show ws.length ≤ 6; omega⟩, fun p hp => ⟨wl4 _ (hwm p hp), foods_ok _ (hws2 p hp)⟩, ⟨by show 1 ≤ hs.length; omega, by show hs.length ≤ 8; omega⟩, fun p hp => ⟨(nc5 _ (hnm p hp)).2.1, (nc5 _ (hnm p hp)).2.2, hs2 p hp⟩, hpl, ⟨fun z hz => (nc5 z (hpm z hz)).2.1, List.Nodup.sublist (hpo.trans (List.drop_sublist _ _)) nc3⟩, fun z hz => lookS_some (by show z ∈ hs.map (·.1); rw [hs1]; exact hpm z hz),
        by show ds.length ≤ 20; omega, fun d hd => ⟨(hdsg d hd).1, hk1 _ (hdsg d hd).2.1, (hdsg d hd).2.2⟩, by show ns.length ≤ 10; omega, hnsg, ⟨by show 0 ≤ cut; omega, by show cut ≤ 2000; omega⟩, ⟨by show 1 ≤ 1 + k7; omega, by show 1 + k7 ≤ 9; omega⟩, ⟨by show 1 ≤ 1 + k8; omega, by show 1 + k8 ≤ 9; omega⟩⟩
    · exact ⟨by show (hs.map (·.1)).Nodup; rw [hs1]; exact nc3, by show 3 ≤ hs.length; omega, fun p hp => (nc5 _ (hnm p hp)).1, fun z hz => (nc5 z (hpm z hz)).1⟩
end
end Mk
/-! the law's own: _law_world -/
namespace Mk
open PySem PySem.Spec L2 He
local macro_rules | `(tactic| walk_at "rdu3") => `(tactic| dsimp only [tSeq, tNext, tRet, tRetN, tAsg, tDrop, tIfS, tOr, tAnd, tNot, tB, tTest, tCB, tCons, tNil, tVar, tC, tOp, tUn, tOrV, tAndV, tNotV, tIf, tChain, tCall, tTup, tLst, gName, L2.start, dl_map, dl_map0, dl_app, dl_app0, List.length_cons, List.length_nil, List.replicate, List.set, Nat.reduceAdd, Nat.reduceSub, tLc_eq, tFor_eq, sck_eq, dct_eq, tPar, gCons, gNil, iList, iTup, iRng1, iStr, wipe, tYes, tSl, tPart, tNoPart, tFld, tMeth, tMake, tFldK, sFldK, tDGetK, tDInK, tDNotInK, iItemsK, tLV, tLockE, tLock, tMakeK,  tDNewK, tPairs, tBM, tDispTK, iItemsTK, sDPutK, sDAugK])
local macro_rules | `(tactic| walk_at "lk3") => `(tactic| first | assumption | (with_reducible exact upd_same) | ((with_reducible apply keep); rotate_left; (focus assumption); walk_at "lk3") | ((with_reducible apply kp); (focus assumption); walk_at "lk3") | ((with_reducible apply keepI); rotate_left; (focus (walk_at "lk3")); (focus (intro _ _ _ e; cases e)); walk_at "lk3"))
local macro_rules | `(tactic| walk_at "lq3") => `(tactic| first | assumption | exact .inl (SqL.of (by walk_at "lk3")) | exact .inr (SqT.of (by walk_at "lk3")) | (refine sq2_same (grow (by assumption)) ?_; walk_at "lq3") | (refine sq2_same (by assumption) ?_; walk_at "lq3"))
local macro_rules | `(tactic| walk_at "sm3") => `(tactic| first | exact Same.refl _ | assumption | (refine same_upd2 ?_ (by assumption); walk_at "sm3") | (refine same_upd ?_ (by assumption); walk_at "sm3") | (refine Same.trans ?_ (by assumption); walk_at "sm3"))
local macro_rules | `(tactic| walk_at "rd13") => `(tactic| first
  | ((with_reducible apply rfld_t); (focus (walk_at "lk3")); (focus assumption); (focus assumption); (focus with_unfolding_all rfl))
  | ((with_reducible apply rsetf_t); (focus (walk_at "lk3")); (focus assumption); (focus assumption); (focus with_unfolding_all rfl); (focus (simp; done)); walk_at "rdu3")
  | ((with_reducible apply rlend_t); (focus (walk_at "lk3")))
  | ((with_reducible apply rlist_l); (focus (walk_at "lk3")); intro _ _)
  | ((with_reducible apply rdict_d); (focus (walk_at "lk3")); intro _ _)
  | ((with_reducible apply rdg_t); (focus (walk_at "lk3")); (focus first | assumption | with_unfolding_all rfl))
  | ((with_reducible apply rdi_some); (focus (walk_at "lk3")); (focus assumption))
  | ((with_reducible apply rdn_some); (focus (walk_at "lk3")); (focus assumption))
  | ((with_reducible apply rdi_t); (focus (walk_at "lk3")))
  | ((with_reducible apply rdn_t); (focus (walk_at "lk3")))
  | ((with_reducible apply rcat_t); (focus (walk_at "lk3")); (focus (walk_at "lk3")); (focus first | (refine line_ge ?_; simp; done) | (refine line_ge ?_; simp; omega)); intro _ _; walk_at "rdu3")
  | ((with_reducible apply rmeth_t); (focus (walk_at "lk3")); (focus with_unfolding_all rfl))
  | ((with_reducible apply rlv_t); (focus (walk_at "lk3")); intro _ _)
  | ((with_reducible apply rpow18))
  | ((with_reducible apply rng_t); (focus omega); (focus omega))
  | ((with_reducible apply tyl); (focus (walk_at "lk3")))
  | ((with_reducible apply rapp_t); (focus (walk_at "lk3")); (focus first | (refine Nat.lt_of_lt_of_le ?_ (line_ge (Nat.le_refl 16777216)); simp; omega) | (rw [sizeLine_eq]; simp; omega) | (rw [sizeLine_eq]; omega)); walk_at "rdu3")
  | ((with_reducible apply req_ss))
  | ((with_reducible apply req_ii))
  | ((with_reducible apply req_bb))
  | ((with_reducible apply rne_ss))
  | ((with_reducible apply rne_ii))
  | ((with_reducible apply cm_l); (focus omega); (focus omega))
  | ((with_reducible apply cm_r); (focus omega); (focus omega))
  | ((with_reducible apply cd_i); (focus omega); (focus omega))
  | ((with_reducible apply md_i); (focus omega))
  | ((with_reducible apply part1))
  | ((with_reducible apply num2))
  | ((with_reducible apply num3))
  | ((with_reducible apply name1); (focus first | assumption | decide +kernel); intro _ _)
  | ((with_reducible apply one_m); (focus (walk_at "lq3")))
  | ((with_reducible apply one_s); (focus (walk_at "lq3")); (focus with_unfolding_all rfl))
  | refine ⟨_, rfl, ?_⟩
  | refine ⟨_, _, rfl, rfl, ?_⟩
  | ((with_reducible apply gcons_t))
  | ((with_reducible apply gpar_t))
  | ((with_reducible apply gpar3_t))
  | refine ⟨rfl, ?_⟩
  | ((with_reducible apply iteT))
  | ((with_reducible apply iteF))
  | ((with_reducible apply ri_ii))
  | ((with_reducible apply ri_ib))
  | ((with_reducible apply ri_ss))
  | ((with_reducible apply ri_bb))
  | ((with_reducible apply ri_tt); (focus (walk_at "lk3")))
  | ((with_reducible apply ri_ll); (focus (walk_at "lk3")))
  | ((with_reducible apply ri_dd); (focus (walk_at "lk3")))
  | ((with_reducible apply rt_l); (focus (walk_at "lk3")); (focus (walk_at "lk3")))
  | ((with_reducible apply rt_t); (focus (walk_at "lk3")); (focus (walk_at "lk3")))
  | ((with_reducible apply rix_t); (focus (walk_at "lk3")); (focus with_unfolding_all rfl))
  | ((with_reducible apply rix_l); (focus (walk_at "lk3")); (focus with_unfolding_all rfl))
  | ((with_reducible apply rlen_t); (focus (walk_at "lk3")); (focus first | (simp only [List.length_cons, List.length_nil]; done) | (simp only [List.length_cons, List.length_nil]; with_unfolding_all rfl) | with_unfolding_all rfl))
  | ((with_reducible apply rlen_l); (focus (walk_at "lk3")); (focus first | (simp only [List.length_cons, List.length_nil]; done) | (simp only [List.length_cons, List.length_nil]; with_unfolding_all rfl) | with_unfolding_all rfl))
  | ((with_reducible apply rin_t); (focus (walk_at "lk3")); (focus with_unfolding_all rfl))
  | ((with_reducible apply rnin_t); (focus (walk_at "lk3")); (focus with_unfolding_all rfl))
  | ((with_reducible apply rsl_t); (focus (walk_at "lk3")); (focus with_unfolding_all rfl); (focus first | (simp [cutV, HT.sIx]; done) | (simp [cutV, HT.sIx]; rfl)); intro _ _)
  | ((with_reducible apply rin_l); (focus (walk_at "lk3")))
  | ((with_reducible apply rnin_l); (focus (walk_at "lk3")))
  | ((with_reducible apply gtup_t); (focus (walk_at "lk3")); (focus with_unfolding_all rfl); walk_at "rdu3")
  | ((with_reducible apply alc); (focus decide); intro _ _)
  | ((with_reducible apply itenT))
  | ((with_reducible apply itenF))
  | ((with_reducible apply ited_sT); (focus first | rfl | assumption))
  | ((with_reducible apply ited_sF); (focus first | assumption | decide +kernel))
  | ((with_reducible apply itedn_sT); (focus first | assumption | decide +kernel))
  | ((with_reducible apply itedn_sF); (focus first | rfl | assumption))
  | ((with_reducible apply ited_mT); (focus first | assumption | decide +kernel))
  | ((with_reducible apply ited_mF); (focus first | assumption | decide +kernel))
  | ((with_reducible apply itedn_mT); (focus first | assumption | decide +kernel))
  | ((with_reducible apply itedn_mF); (focus first | assumption | decide +kernel))
  | ((with_reducible apply ited_s) <;> intro _)
  | ((with_reducible apply itedn_s) <;> intro _)
  | ((with_reducible apply ited_m) <;> intro _)
  | ((with_reducible apply itedn_m) <;> intro _)
  | ((with_reducible apply itedT); (focus first | assumption | omega))
  | ((with_reducible apply itedF); (focus first | assumption | omega))
  | ((with_reducible apply itednF); (focus first | assumption | omega))
  | ((with_reducible apply itednT); (focus first | assumption | omega))
  | ((with_reducible apply ited) <;> intro _)
  | ((with_reducible apply itedn) <;> intro _)
  | ((with_reducible apply itebn) <;> intro _)
  | ((with_reducible apply iteb) <;> intro _)
  | walk_at "rdu3"
  | contradiction)
local macro_rules | `(tactic| walk_at "rd3") => `(tactic| (try walk_at "rdu3"); repeat' walk_at "rd13")
def spWorld (K : PySem.W.Frag) : Sp := fun vs H Q _ => ∃ (a : Addr) (W : Wd), vs = [.ref a] ∧ PartsL H a W ∧ W.good ∧ ∀ (x : Addr) H', Same H H' → WorldAt K H' x W → Q (.ref x) H'
section
variable {P : Program} {w : World} {K : PySem.W.Frag} {mg : Str → Option Value} {base : Heap}
theorem f_world (T : Tx w K mg) : Fok P w K mg base CX0 "_law_world" ps__law_world [] 7 (spWorld K) := by
  obtain ⟨fd, F⟩ := T.d__law_world
  obtain ⟨fdI, FI, OI⟩ := ok_init (P := P) (base := base) T
  obtain ⟨mv, KB⟩ := kb_init T FI
  refine fok F T.g__law_world (fun _ _ _ _ _ _ us hl => match us, hl with | [_], _ => rfl) (F.ok sc__law_world (fun vs H Q E h => ?_) (fun cdv A outer s H vs Q E hr h => ?_))
  · obtain ⟨a, W, rfl, _⟩ := h
    rfl
  · refine ⟨_, PSs.nox (pss_one (ps_ret (pe_makeK (n := 3) T.k_World OI (hr.mono (by decide)) (by rfl) T.g_World KB pass0 (pa_cons (pe_ix (ix_listK (K := K) (by rfl)) (pv 0) pe_int (fun _ _ => rfl)) (pa_cons (pe_ix (ix_listK (K := K) (by rfl)) (pv 0) pe_int (fun _ _ => rfl)) (pa_cons (pe_ix (ix_listK (K := K) (by rfl)) (pv 0) pe_int (fun _ _ => rfl)) pa_nil))) (pk_cons (pe_ix (ix_listK (K := K) (by rfl)) (pv 0) pe_int (fun _ _ => rfl)) (pk_cons (pe_ix (ix_listK (K := K) (by rfl)) (pv 0) pe_int (fun _ _ => rfl)) (pk_cons (pe_ix (ix_listK (K := K) (by rfl)) (pv 0) pe_int (fun _ _ => rfl)) (pk_cons (pe_ix (ix_listK (K := K) (by rfl)) (pv 0) pe_int (fun _ _ => rfl)) (pk_cons (pe_ix (ix_listK (K := K) (by rfl)) (pv 0) pe_int (fun _ _ => rfl)) (pk_cons (pe_ix (ix_listK (K := K) (by rfl)) (pv 0) pe_int (fun _ _ => rfl)) pk_nil))))))))), ?_⟩
    obtain ⟨a, W, rfl, ⟨la, wa, pa, ca, da, na, h1, hp⟩, gd, q⟩ := h
    walk_at "rd3"
    intro x dx hx hdx hne
    have hx2 : upd H dx (.own x) x = none := by rw [upd_ne (Ne.symm hne)]; exact hx
    have s1 : Same H (upd (upd H dx (.own x)) x (.ins (ga K "World") dx [])) := (grow hdx).trans (grow hx2)
    refine ⟨x, dx, la, wa, pa, ca, da, na, W, rfl, upd_same, hp.same s1, gd, fun H' hb hw => ⟨rfl, q x H' (fun b o e => hb b o (s1 _ _ e) (fun z => ?_)) hw⟩⟩
    rw [z, hx] at e
    cases e
end
end Mk
/-! What a drawn record is. -/
namespace Mk
open PySem PySem.Spec L2 He
/-- the first row's own -/
structure MD where
  d : Int
  sl : Int
  bu : Int
  se : Str
  by_ : Str
  wr : Str
  m : Int
  pr : Int
  t : Int
  land : Str
  kind : Str
def MD.row (M : MD) : Row := .made M.d M.sl M.bu M.se M.by_ M.wr M.m M.pr M.t
structure MD.ok (M : MD) (W : Wd) : Prop where
  se : (lookS W.parties M.se).isSome = true
  by_ : lookS W.parties M.by_ = some M.land
  land : M.land ∈ W.lands
  wr : lookS W.wares M.wr = some M.kind
  kind : M.kind ∈ W.wares.map (·.2)
  tax : M.t = M.m * M.pr * rateM W.dues M.land M.kind M.d / 10000
  good : M.row.good
/-- rows of one record: each of its own, whatever their turn -/
def RecF (W : Wd) (M : MD) (ps : List (Addr × Row)) : Prop := ∀ p ∈ ps, p.2.good ∧ (p.2.isMade = true → p.2 = M.row) ∧ ∀ d w a, p.2 = .sent d w a → w ∈ W.porters ∧ w ≠ M.se ∧ w ≠ M.by_
theorem RecF.app {W : Wd} {M : MD} {ps qs : List (Addr × Row)} (h1 : RecF W M ps) (h2 : RecF W M qs) : RecF W M (ps ++ qs) := fun p hp => (List.mem_append.mp hp).elim (h1 p) (h2 p)
theorem RecF.one {W : Wd} {M : MD} {a : Addr} {r : Row} (g : r.good) (h : r.isMade = false) (hs : ∀ d w a, r = .sent d w a → w ∈ W.porters ∧ w ≠ M.se ∧ w ≠ M.by_) : RecF W M [(a, r)] := fun p hp => by
  rw [List.mem_singleton.mp hp]
  refine ⟨g, fun z => ?_, hs⟩
  have z' : r.isMade = true := z
  rw [h] at z'
  cases z'
theorem RecF.made {W : Wd} {M : MD} (ok : M.ok W) (a : Addr) : RecF W M [(a, M.row)] := fun p hp => by
  rw [List.mem_singleton.mp hp]
  exact ⟨ok.good, fun _ => rfl, fun d w a e => by unfold MD.row at e; cases e⟩
/-- one more row -/
theorem rows_snoc {H0 H : Hp} {l q : Addr} {ps : List (Addr × Row)} {r : Row} (s : Same H0 H) (hl0 : H0 l = none) (h : RowsP H l ps) (hq : H q = none) : RowsP (upd (upd H q (.tup r.vs)) l (.lst ((ps.map fun p => V.ref p.1) ++ [.ref q]))) l (ps ++ [(q, r)]) ∧ Same H0 (upd (upd H q (.tup r.vs)) l (.lst ((ps.map fun p => V.ref p.1) ++ [.ref q]))) := by
  have ne : ∀ (b : Addr) (xs : List V), upd H q (.tup r.vs) b = some (.tup xs) → b ≠ l := fun b xs e z => by
    rw [z, keep h.1 hq] at e
    cases e
  refine ⟨⟨?_, fun p hp => ?_⟩, same_upd (same_upd2 s hq) hl0⟩
  · rw [upd_same, List.map_append]
    rfl
  · rcases List.mem_append.mp hp with hp | hp
    · have e := keep (u := .tup r.vs) (h.2 p hp) hq
      rw [upd_ne (ne _ _ e)]
      exact e
    · rw [List.mem_singleton.mp hp]
      have e : upd H q (.tup r.vs) q = some (.tup r.vs) := upd_same
      rw [upd_ne (ne _ _ e)]
      exact e
/-- rows, and one more, in a new list -/
theorem rows_cat {H : Hp} {l q z p : Addr} {ps : List (Addr × Row)} {r : Row} (h : RowsP H l ps) (hq : H q = none) (hz : upd H q (.tup r.vs) z = none) (hp : upd (upd H q (.tup r.vs)) z (.lst [.ref q]) p = none) :
    RowsP (upd (upd (upd H q (.tup r.vs)) z (.lst [.ref q])) p (.lst ((ps.map fun p => V.ref p.1) ++ [.ref q]))) p (ps ++ [(q, r)]) ∧ Same H (upd (upd (upd H q (.tup r.vs)) z (.lst [.ref q])) p (.lst ((ps.map fun p => V.ref p.1) ++ [.ref q]))) := by
  refine ⟨⟨?_, fun x hx => ?_⟩, ((grow hq).trans (grow hz)).trans (grow hp)⟩
  · rw [upd_same, List.map_append]
    rfl
  · rcases List.mem_append.mp hx with hx | hx
    · exact keep (keep (keep (h.2 x hx) hq) hz) hp
    · rw [List.mem_singleton.mp hx]
      exact keep (keep upd_same hz) hp
/-- rows of one record in their list, the last one's day at most b -/
def RecI (H0 H : Hp) (l : Addr) (W : Wd) (M : MD) (ps : List (Addr × Row)) (b : Int) : Prop := Same H0 H ∧ RowsP H l ps ∧ RecF W M ps ∧ (∃ p0, ps[0]? = some p0 ∧ p0.2 = M.row) ∧ ∃ pl, ps.getLast? = some pl ∧ 0 ≤ pl.2.day ∧ pl.2.day ≤ b
theorem first_app {α : Type} {ps : List α} {q x : α} (h : ps[0]? = some x) : (ps ++ [q])[0]? = some x := by
  cases ps with
  | nil => cases h
  | cons p ps => exact h
theorem last_app {α : Type} {ps : List α} {q : α} : (ps ++ [q]).getLast? = some q := by simp
theorem RecI.new {H0 H : Hp} {l q : Addr} {W : Wd} {M : MD} {b : Int} {vs : List V} (s : Same H0 H) (ok : M.ok W) (hq : H q = none) (hl : upd H q (.tup vs) l = none) (e : vs = M.row.vs) (d0 : 0 ≤ M.d) (db : M.d ≤ b) : RecI H0 (upd (upd H q (.tup vs)) l (.lst [.ref q])) l W M [(q, M.row)] b := by
  subst e
  exact ⟨(s.trans (grow hq)).trans (grow hl), ⟨upd_same, fun p hp => by rw [List.mem_singleton.mp hp]; exact keep upd_same hl⟩, RecF.made ok q, ⟨_, rfl, rfl⟩, _, rfl, d0, db⟩
theorem RecI.snoc {H0 H : Hp} {l q : Addr} {W : Wd} {M : MD} {ps : List (Addr × Row)} {b b' : Int} {vs : List V} {r : Row} (h : RecI H0 H l W M ps b) (hl0 : H0 l = none) (hq : H q = none) (e : vs = r.vs) (g : r.good) (hm : r.isMade = false) (hs : ∀ d w a, r = .sent d w a → w ∈ W.porters ∧ w ≠ M.se ∧ w ≠ M.by_) (d0 : 0 ≤ r.day) (db : r.day ≤ b') :
    RecI H0 (upd (upd H q (.tup vs)) l (.lst ((ps.map fun p => V.ref p.1) ++ [.ref q]))) l W M (ps ++ [(q, r)]) b' := by
  subst e
  obtain ⟨h1, h2, h3, ⟨p0, h4, h5⟩, _⟩ := h
  obtain ⟨g1, g2⟩ := rows_snoc h1 hl0 h2 hq (r := r)
  exact ⟨g2, g1, h3.app (RecF.one g hm hs), ⟨p0, first_app h4, h5⟩, _, last_app, d0, db⟩
theorem RecI.cat {H0 H : Hp} {l q z p : Addr} {W : Wd} {M : MD} {ps : List (Addr × Row)} {b b' : Int} {vs : List V} {r : Row} (h : RecI H0 H l W M ps b) (hq : H q = none) (hz : upd H q (.tup vs) z = none) (hp : upd (upd H q (.tup vs)) z (.lst [.ref q]) p = none) (e : vs = r.vs) (g : r.good) (hm : r.isMade = false) (hs : ∀ d w a, r = .sent d w a → w ∈ W.porters ∧ w ≠ M.se ∧ w ≠ M.by_) (d0 : 0 ≤ r.day) (db : r.day ≤ b') :
    RecI H0 (upd (upd (upd H q (.tup vs)) z (.lst [.ref q])) p (.lst ((ps.map fun p => V.ref p.1) ++ [.ref q]))) p W M (ps ++ [(q, r)]) b' := by
  subst e
  obtain ⟨h1, h2, h3, ⟨p0, h4, h5⟩, _⟩ := h
  obtain ⟨g1, g2⟩ := rows_cat h2 hq hz hp
  exact ⟨h1.trans g2, g1, h3.app (RecF.one g hm hs), ⟨p0, first_app h4, h5⟩, _, last_app, d0, db⟩
theorem RecI.same {H0 H H' : Hp} {l : Addr} {W : Wd} {M : MD} {ps : List (Addr × Row)} {b : Int} (h : RecI H0 H l W M ps b) (s : Same H H') : RecI H0 H' l W M ps b := ⟨h.1.trans s, h.2.1.same s, h.2.2⟩
def LenLe (ps : List (Addr × Row)) (n : Nat) : Prop := ps.length ≤ n
theorem LenLe.app {ps : List (Addr × Row)} {n : Nat} {q : Addr × Row} (h : LenLe ps n) : LenLe (ps ++ [q]) (n + 1) := by
  unfold LenLe at h ⊢
  rw [List.length_append]
  exact Nat.succ_le_succ h
/-- found.append(row) -/
theorem rapp_row {H0 H : Hp} {R : VK} {l q : Addr} {W : Wd} {M : MD} {ps : List (Addr × Row)} {b b' : Int} {n : Nat} {vs : List V} (r : Row) (h : RecI H0 H l W M ps b) (hn : LenLe ps n) (n20 : n ≤ 20) (hl0 : H0 l = none) (hq : H q = none) (e : vs = r.vs) (g : r.good) (hm : r.isMade = false) (hs : ∀ d w a, r = .sent d w a → w ∈ W.porters ∧ w ≠ M.se ∧ w ≠ M.by_) (d0 : 0 ≤ r.day) (db : r.day ≤ b')
    (k : ∀ H', RecI H0 H' l W M (ps ++ [(q, r)]) b' → LenLe (ps ++ [(q, r)]) (n + 1) → R .non H') : rAppend (.ref l) [.ref q] (upd H q (.tup vs)) R := by
  refine rapp_t (keep h.2.1.1 hq) ?_ (k _ (h.snoc hl0 hq e g hm hs d0 db) hn.app)
  unfold LenLe at hn
  rw [List.length_map, sizeLine_eq]
  omega
/-- found + [row] -/
theorem rcat_row {H0 H : Hp} {Q : VK} {l q z : Addr} {W : Wd} {M : MD} {ps : List (Addr × Row)} {b b' : Int} {n : Nat} {vs : List V} (r : Row) (h : RecI H0 H l W M ps b) (hn : LenLe ps n) (n20 : n ≤ 19) (hq : H q = none) (hz : upd H q (.tup vs) z = none) (e : vs = r.vs) (g : r.good) (hm : r.isMade = false) (hs : ∀ d w a, r = .sent d w a → w ∈ W.porters ∧ w ≠ M.se ∧ w ≠ M.by_) (d0 : 0 ≤ r.day) (db : r.day ≤ b')
    (k : ∀ p H', RecI H0 H' p W M (ps ++ [(q, r)]) b' → LenLe (ps ++ [(q, r)]) 20 → Q (.ref p) H') : rCat (.ref l) (.ref z) (upd (upd H q (.tup vs)) z (.lst [.ref q])) Q := by
  refine rcat_t (keep (keep h.2.1.1 hq) hz) upd_same ?_ fun p hp => k p _ (h.cat hq hz hp e g hm hs d0 db) ?_
  · unfold LenLe at hn
    rw [List.length_map]
    refine line_ge ?_
    show ps.length + 1 ≤ 16777216
    omega
  · have := hn.app (q := (q, r))
    unfold LenLe at this ⊢
    omega
end Mk
/-! the law's own: _law_record -/
namespace Mk
open PySem PySem.Spec L2 He
theorem lc_S {K : PySem.W.Frag} {a : Addr} {ss : List Str} {g : TG} {tt : TT} {te : TE} {vs : List Nat} {σ : St} {H1 : Hp} {D : Addr} {Qd : Hp → Prop} (hD : H1 D = none) (hs : H1 a = some (.lst (ss.map V.str))) (hn : ss.length ≤ 1000) (f : Str → Option V)
    (turn : ∀ (z : Str) (H : Hp) (R : V → Hp → Prop) (R0 : Hp → Prop), z ∈ ss → Same H1 H → (∀ y H4, Same H H4 → f z = some y → R y H4) → (∀ H3, Same H H3 → f z = none → R0 H3) →
      g (.str z) (wipe σ vs) H fun σ2 H2 => wipe σ2 vs = wipe σ vs ∧ tt σ2 H2 fun b H3 => if b = true then te σ2 H3 R else R0 H3)
    (done : ∀ H, Same H1 H → H D = some (.lst (ss.filterMap f)) → Qd H) : LcG (Itl K a) g tt te vs σ H1 D Qd := by
  refine lc_pureL (K := K) (a := a) (xs := ss.map V.str) hD (SqL.of hs) (by rw [List.length_map]; omega) (fun v => match v with | .str z => f z | _ => none) (fun i x H R R0 hi s h1 h0 => ?_) fun H s e => done H s (by rw [List.filterMap_map] at e; exact e)
  rw [List.getElem?_map] at hi
  obtain ⟨z, hz, rfl⟩ := Option.map_eq_some_iff.mp hi
  exact turn z H R R0 (List.mem_of_getElem? hz) s h1 h0
/-- those that are kept -/
def kept (t : Str → Bool) (z : Str) : Option V := if t z = true then some (.str z) else none
theorem kept_map (t : Str → Bool) (ss : List Str) : ss.filterMap (kept t) = (ss.filter t).map V.str := by
  induction ss with
  | nil => rfl
  | cons z ss ih =>
    rw [List.filterMap_cons, List.filter_cons]
    unfold kept at ih ⊢
    by_cases h : t z = true
    · rw [if_pos h, if_pos h, List.map_cons]
      simp only []
      rw [ih]
    · rw [if_neg h, if_neg h]
      exact ih
theorem filt_len (a : Str) : ∀ {xs : List Str}, xs.Nodup → (xs.filter fun z => !decide (z = a)).length + (if a ∈ xs then 1 else 0) = xs.length
  | [], _ => rfl
  | x :: xs, h => by
    have h1 := (List.nodup_cons.mp h).1
    have ih := filt_len a (List.nodup_cons.mp h).2
    rw [List.filter_cons]
    by_cases e : x = a
    · subst e
      rw [if_neg h1] at ih
      rw [if_neg (by simp), if_pos List.mem_cons_self, List.length_cons]
      omega
    · have e' : ¬ a = x := fun z => e z.symm
      rw [if_pos (by simp [e]), List.length_cons, List.length_cons]
      have e2 : (if a ∈ x :: xs then 1 else 0) = if a ∈ xs then 1 else 0 := by simp [e']
      rw [e2]
      omega
local macro_rules | `(tactic| walk_at "rdu3") => `(tactic| dsimp only [tSeq, tNext, tRet, tRetN, tAsg, tDrop, tIfS, tOr, tAnd, tNot, tB, tTest, tCB, tCons, tNil, tVar, tC, tOp, tUn, tOrV, tAndV, tNotV, tIf, tChain, tCall, tTup, tLst, gName, L2.start, dl_map, dl_map0, dl_app, dl_app0, List.length_cons, List.length_nil, List.replicate, List.set, Nat.reduceAdd, Nat.reduceSub, tLc_eq, tFor_eq, sck_eq, dct_eq, tPar, gCons, gNil, iList, iTup, iRng1, iStr, wipe, tYes, tSl, tPart, tNoPart, tFld, tMeth, tMake, tFldK, sFldK, tDGetK, tDInK, tDNotInK, iItemsK, tLV, tLockE, tLock, tMakeK,  tDNewK, tPairs, tBM, tDispTK, iItemsTK, sDPutK, sDAugK])
local macro_rules | `(tactic| walk_at "lk3") => `(tactic| first | assumption | (with_reducible exact upd_same) | ((with_reducible apply keep); rotate_left; (focus assumption); walk_at "lk3") | ((with_reducible apply kp); (focus assumption); walk_at "lk3") | ((with_reducible apply keepI); rotate_left; (focus (walk_at "lk3")); (focus (intro _ _ _ e; cases e)); walk_at "lk3"))
local macro_rules | `(tactic| walk_at "lq3") => `(tactic| first | assumption | exact .inl (SqL.of (by walk_at "lk3")) | exact .inr (SqT.of (by walk_at "lk3")) | (refine sq2_same (grow (by assumption)) ?_; walk_at "lq3") | (refine sq2_same (by assumption) ?_; walk_at "lq3"))
local macro_rules | `(tactic| walk_at "sm3") => `(tactic| first | exact Same.refl _ | assumption | (refine same_upd2 ?_ (by assumption); walk_at "sm3") | (refine same_upd ?_ (by assumption); walk_at "sm3") | (refine Same.trans ?_ (by assumption); walk_at "sm3"))
local macro_rules | `(tactic| walk_at "rd13") => `(tactic| first
  | ((with_reducible apply rfld_t); (focus (walk_at "lk3")); (focus assumption); (focus assumption); (focus with_unfolding_all rfl))
  | ((with_reducible apply rsetf_t); (focus (walk_at "lk3")); (focus assumption); (focus assumption); (focus with_unfolding_all rfl); (focus (simp; done)); walk_at "rdu3")
  | ((with_reducible apply rlend_t); (focus (walk_at "lk3")))
  | ((with_reducible apply rlist_l); (focus (walk_at "lk3")); intro _ _)
  | ((with_reducible apply rdict_d); (focus (walk_at "lk3")); intro _ _)
  | ((with_reducible apply rdg_t); (focus (walk_at "lk3")); (focus first | assumption | with_unfolding_all rfl))
  | ((with_reducible apply rdi_some); (focus (walk_at "lk3")); (focus assumption))
  | ((with_reducible apply rdn_some); (focus (walk_at "lk3")); (focus assumption))
  | ((with_reducible apply rdi_t); (focus (walk_at "lk3")))
  | ((with_reducible apply rdn_t); (focus (walk_at "lk3")))
  | ((with_reducible apply rcat_t); (focus (walk_at "lk3")); (focus (walk_at "lk3")); (focus first | (refine line_ge ?_; simp; done) | (refine line_ge ?_; simp; omega)); intro _ _; walk_at "rdu3")
  | ((with_reducible apply rmeth_t); (focus (walk_at "lk3")); (focus with_unfolding_all rfl))
  | ((with_reducible apply rlv_t); (focus (walk_at "lk3")); intro _ _)
  | ((with_reducible apply rpow18))
  | ((with_reducible apply rng_t); (focus omega); (focus omega))
  | ((with_reducible apply tyl); (focus (walk_at "lk3")))
  | ((with_reducible apply rapp_t); (focus (walk_at "lk3")); (focus first | (refine Nat.lt_of_lt_of_le ?_ (line_ge (Nat.le_refl 16777216)); simp; omega) | (rw [sizeLine_eq]; simp; omega) | (rw [sizeLine_eq]; omega)); walk_at "rdu3")
  | ((with_reducible apply req_ss))
  | ((with_reducible apply req_ii))
  | ((with_reducible apply req_bb))
  | ((with_reducible apply rne_ss))
  | ((with_reducible apply rne_ii))
  | ((with_reducible apply cm_l); (focus omega); (focus omega))
  | ((with_reducible apply cm_r); (focus omega); (focus omega))
  | ((with_reducible apply cd_i); (focus omega); (focus omega))
  | ((with_reducible apply md_i); (focus omega))
  | ((with_reducible apply part1))
  | ((with_reducible apply num2))
  | ((with_reducible apply num3))
  | ((with_reducible apply name1); (focus first | assumption | decide +kernel); intro _ _)
  | ((with_reducible apply one_m); (focus (walk_at "lq3")))
  | ((with_reducible apply one_s); (focus (walk_at "lq3")); (focus with_unfolding_all rfl))
  | refine ⟨_, rfl, ?_⟩
  | refine ⟨_, _, rfl, rfl, ?_⟩
  | ((with_reducible apply gcons_t))
  | ((with_reducible apply gpar_t))
  | ((with_reducible apply gpar3_t))
  | refine ⟨rfl, ?_⟩
  | ((with_reducible apply iteT))
  | ((with_reducible apply iteF))
  | ((with_reducible apply ri_ii))
  | ((with_reducible apply ri_ib))
  | ((with_reducible apply ri_ss))
  | ((with_reducible apply ri_bb))
  | ((with_reducible apply ri_tt); (focus (walk_at "lk3")))
  | ((with_reducible apply ri_ll); (focus (walk_at "lk3")))
  | ((with_reducible apply ri_dd); (focus (walk_at "lk3")))
  | ((with_reducible apply rt_l); (focus (walk_at "lk3")); (focus (walk_at "lk3")))
  | ((with_reducible apply rt_t); (focus (walk_at "lk3")); (focus (walk_at "lk3")))
  | ((with_reducible apply rix_t); (focus (walk_at "lk3")); (focus with_unfolding_all rfl))
  | ((with_reducible apply rix_l); (focus (walk_at "lk3")); (focus with_unfolding_all rfl))
  | ((with_reducible apply rlen_t); (focus (walk_at "lk3")); (focus first | (simp only [List.length_cons, List.length_nil]; done) | (simp only [List.length_cons, List.length_nil]; with_unfolding_all rfl) | with_unfolding_all rfl))
  | ((with_reducible apply rlen_l); (focus (walk_at "lk3")); (focus first | (simp only [List.length_cons, List.length_nil]; done) | (simp only [List.length_cons, List.length_nil]; with_unfolding_all rfl) | with_unfolding_all rfl))
  | ((with_reducible apply rin_t); (focus (walk_at "lk3")); (focus with_unfolding_all rfl))
  | ((with_reducible apply rnin_t); (focus (walk_at "lk3")); (focus with_unfolding_all rfl))
  | ((with_reducible apply rsl_t); (focus (walk_at "lk3")); (focus with_unfolding_all rfl); (focus first | (simp [cutV, HT.sIx]; done) | (simp [cutV, HT.sIx]; rfl)); intro _ _)
  | ((with_reducible apply rin_l); (focus (walk_at "lk3")))
  | ((with_reducible apply rnin_l); (focus (walk_at "lk3")))
  | ((with_reducible apply gtup_t); (focus (walk_at "lk3")); (focus with_unfolding_all rfl); walk_at "rdu3")
  | ((with_reducible apply alc); (focus decide); intro _ _)
  | ((with_reducible apply itenT))
  | ((with_reducible apply itenF))
  | ((with_reducible apply ited_sT); (focus first | rfl | assumption))
  | ((with_reducible apply ited_sF); (focus first | assumption | decide +kernel))
  | ((with_reducible apply itedn_sT); (focus first | assumption | decide +kernel))
  | ((with_reducible apply itedn_sF); (focus first | rfl | assumption))
  | ((with_reducible apply ited_mT); (focus first | assumption | decide +kernel))
  | ((with_reducible apply ited_mF); (focus first | assumption | decide +kernel))
  | ((with_reducible apply itedn_mT); (focus first | assumption | decide +kernel))
  | ((with_reducible apply itedn_mF); (focus first | assumption | decide +kernel))
  | ((with_reducible apply ited_s) <;> intro _)
  | ((with_reducible apply itedn_s) <;> intro _)
  | ((with_reducible apply ited_m) <;> intro _)
  | ((with_reducible apply itedn_m) <;> intro _)
  | ((with_reducible apply itedT); (focus first | assumption | omega))
  | ((with_reducible apply itedF); (focus first | assumption | omega))
  | ((with_reducible apply itednF); (focus first | assumption | omega))
  | ((with_reducible apply itednT); (focus first | assumption | omega))
  | ((with_reducible apply ited) <;> intro _)
  | ((with_reducible apply itedn) <;> intro _)
  | ((with_reducible apply itebn) <;> intro _)
  | ((with_reducible apply iteb) <;> intro _)
  | walk_at "rdu3"
  | contradiction)
local macro_rules | `(tactic| walk_at "rd3") => `(tactic| (try walk_at "rdu3"); repeat' walk_at "rd13")
theorem odd_ok : ∀ z ∈ (["broken", "late", "odd"] : List Str), nameB z = true := by decide +kernel
theorem who_ok {z y : Str} (h : z ∈ (["buyer", "seller"] : List Str)) (h2 : y ∈ (["photo", "sorry"] : List Str)) : pairGood (z, y) := by
  refine ⟨by simpa using h, ?_⟩
  have : ∀ y ∈ (["photo", "sorry"] : List Str), nameB y = true := by decide +kernel
  exact this y h2
theorem rec_said {K : PySem.W.Frag} {d l : Addr} {H0 H1 : Hp} {D : Ends} {W : Wd} {M : MD} {ps : List (Addr × Row)} {n : Nat} {x1 x2 x3 x4 x5 x6 x7 x8 x9 x10 x11 x13 x14 x15 x16 : Option V} (hd : H0 d = some (DrawsO d)) (hl0 : H0 l = none) (hI : RecI H0 H1 l W M ps 20) (hn : LenLe ps 4) (n3 : n ≤ 3)
    (k : ∀ (H4 : Hp) (ps' : List (Addr × Row)) (y1 y2 y3 : Option V), RecI H0 H4 l W M ps' 40 → LenLe ps' 8 → D.nx [some (.ref d), x1, x2, x3, x4, x5, x6, x7, x8, x9, x10, x11, some (.ref l), x13, x14, x15, x16, y1, y2, y3, none, none] H4) :
    FrG (Itr 0 n) (gName 17) (tSeq (tPar 18 19 (tCons (tOp (rIxT K) (tTup (tCons (tC (V.str (Str.ofString "buyer"))) (tCons (tC (V.str (Str.ofString "seller"))) tNil))) (tCall spTake [] E0 (tCons (tVar 0) (tCons (tC (V.int 2)) tNil)))) (tCons (tOp (rIxT K) (tTup (tCons (tC (V.str (Str.ofString "photo"))) (tCons (tC (V.str (Str.ofString "sorry"))) tNil))) (tCall spTake [] E0 (tCons (tVar 0) (tCons (tC (V.int 2)) tNil)))) tNil)))
      (tDrop (tBM K "list" rAppend (tVar 12) (tCons (tTup (tCons (tC (V.str (Str.ofString "said"))) (tCons (tOp (rI0 fun i j => V.int (i + j)) (tOp (rIxT K) (tOp (rIxL K) (tVar 12) (tUn (rU fun i => V.int (-i)) (tC (V.int 1)))) (tC (V.int 1))) (tCall spTake [] E0 (tCons (tVar 0) (tCons (tC (V.int 2)) tNil)))) (tCons (tVar 18) (tCons (tVar 19) tNil))))) tNil)))) D
      [some (.ref d), x1, x2, x3, x4, x5, x6, x7, x8, x9, x10, x11, some (.ref l), x13, x14, x15, x16, none, none, none, none, none] H1 := by
  refine fr_it (walk_range (lo := 0) (n := n)) (fun i σ H4 => (∃ ps', RecI H0 H4 l W M ps' (20 + (i : Nat)) ∧ LenLe ps' (4 + i)) ∧ ∃ y1 y2 y3, σ = [some (.ref d), x1, x2, x3, x4, x5, x6, x7, x8, x9, x10, x11, some (.ref l), x13, x14, x15, x16, y1, y2, y3, none, none])
    ⟨⟨ps, hI, hn⟩, none, none, none, rfl⟩ (fun _ _ _ _ _ => trivial) (fun i x σ H4 H5 hi p y => ?_) (fun σ H4 p => ?_)
  · obtain ⟨⟨ps', hI', hn'⟩, y1, y2, y3, rfl⟩ := p
    obtain ⟨rfl, rfl⟩ := y
    have s4 := hI'.1
    walk_at "rd3"
    rename_i t1 ht1
    refine take_n (by walk_at "lk3") (by decide) fun k1 H6 s6 k10 k11 => ?_
    refine rix_t2S (by walk_at "lk3") k10 k11 fun who hwho => ?_
    have hI2 := (hI'.same (grow ht1)).same s6
    have s5 := hI2.1
    clear hI' s6 ht1 s4
    walk_at "rd3"
    rename_i t2 ht2
    refine take_n (by walk_at "lk3") (by decide) fun k2 H7 s7 k20 k21 => ?_
    refine rix_t2S (by walk_at "lk3") k20 k21 fun word hword => ?_
    have hI3 := (hI2.same (grow ht2)).same s7
    have s8 := hI3.1
    clear hI2 s7 ht2 s5
    walk_at "rd3"
    refine tyl hI3.2.1.1 ?_
    walk_at "rd3"
    obtain ⟨pl, hpl, d0, db⟩ := hI3.2.2.2.2
    refine rix_row hI3.2.1 (atI_last hpl) ?_
    refine rix_day (hI3.2.1.2 _ (List.mem_of_getLast? hpl)) ?_
    walk_at "rd3"
    refine take_n (by walk_at "lk3") (by decide) fun k3 H8 s9 k30 k31 => ?_
    have hI4 := hI3.same s9
    clear hI3 s9 s8 hpl
    walk_at "rd3"
    rename_i q1 hq1
    refine rapp_row (.said (pl.2.day + k3) who word) hI4 hn' (by omega) hl0 hq1 rfl ⟨by omega, by omega, who_ok hwho hword⟩ rfl (fun _ _ _ ez => by cases ez) (b' := 20 + ((i + 1 : Nat) : Int)) (by show 0 ≤ pl.2.day + k3; omega) (by show pl.2.day + k3 ≤ 20 + ((i + 1 : Nat) : Int); omega) fun H9 hI5 hn5 => ?_
    exact ⟨⟨_, hI5, hn5⟩, _, _, _, rfl⟩
  · obtain ⟨⟨ps', hI', hn'⟩, y1, y2, y3, rfl⟩ := p
    refine k _ ps' _ _ _ ⟨hI'.1, hI'.2.1, hI'.2.2.1, hI'.2.2.2.1, ?_⟩ ?_
    · obtain ⟨pl, hpl, d0, db⟩ := hI'.2.2.2.2
      exact ⟨pl, hpl, d0, by omega⟩
    · unfold LenLe at hn' ⊢
      omega
def spLRec (K : PySem.W.Frag) : Sp := fun vs H Q _ => ∃ (d a x : Addr) (W : Wd), vs = [.ref d, .ref a, .ref x] ∧ H d = some (DrawsO d) ∧ PartsL H a W ∧ WorldAt K H x W ∧ W.good ∧ W.more ∧
  ∀ (l : Addr) (ps : List (Addr × Row)) (M : MD) (p0 : Addr × Row) H', Same H H' → RowsP H' l ps → M.ok W → RecF W M ps → ps[0]? = some p0 → p0.2 = M.row → ps.length ≤ 20 → M.se ∈ six → M.by_ ∈ six → Q (.ref l) H'
section
variable {P : Program} {w : World} {K : PySem.W.Frag} {mg : Str → Option Value} {base : Heap}
theorem f_lrecord (T : Tx w K mg) : Fok P w K mg base CX0 "_law_record" ps__law_record [] 3 (spLRec K) := by
  obtain ⟨fd, F⟩ := T.d__law_record
  have G__law_take := f_take (P := P) (base := base) T
  have G_World_rate := f_rate (P := P) (base := base) T
  refine fok F T.g__law_record (fun _ _ _ _ _ _ us hl => match us, hl with | [_, _, _], _ => rfl) (F.ok sc__law_record (fun vs H Q E h => ?_) (fun cdv A outer s H vs Q E hr h => ?_))
  · obtain ⟨d, a, x, W, rfl, _⟩ := h
    rfl
  · refine ⟨_, PSs.nox (pss_cons (ps_par (i := 3) (j := 4) (by rfl) sc__law_record.nd rfl rfl (by decide) rfl rfl (pa_cons (pe_callTy (call_listDK rfl) (by rfl) T.b_list bt_list (pa_cons (pe_ix (ix_listK (K := K) (by rfl)) (pv 1) pe_int (fun _ _ => rfl)) pa_nil)) (pa_cons (pe_ix (ix_listK (K := K) (by rfl)) (pe_callTy (call_listDK rfl) (by rfl) T.b_list bt_list (pa_cons (pe_ix (ix_listK (K := K) (by rfl)) (pv 1) pe_int (fun _ _ => rfl)) pa_nil)) (pe_fn G__law_take (hr.mono (by decide)) pass0 (pa_cons (pv 0) (pa_cons (pe_callB call_lenDK (by rfl) T.b_len bt_len (pa_cons (pe_ix (ix_listK (K := K) (by rfl)) (pv 1) pe_int (fun _ _ => rfl)) pa_nil)) pa_nil))) (fun _ _ => rfl)) pa_nil)) (by rfl))
      (pss_cons (ps_set (i := 5) sc__law_record.nd rfl (Or.inr rfl) (pe_ix (ix_listK (K := K) (by rfl)) (pv 3) (pe_fn G__law_take (hr.mono (by decide)) pass0 (pa_cons (pv 0) (pa_cons (pe_callB (call_lenA (K := K) (by rfl)) (by rfl) T.b_len bt_len (pa_cons (pv 3) pa_nil)) pa_nil))) (fun _ _ => rfl)))
      (pss_cons (ps_set (i := 6) sc__law_record.nd rfl (Or.inr rfl) (pe_ix (ix_listK (K := K) (by rfl)) (pe_lc (own := [("_law_party", 7)])  (by rfl) sc__law_record.nd (by exact (pi_listK (K := K) (by rfl) (pv 3))) (blkOk_by (own := [("_law_party", 7)]) (N := ns__law_record) (sc := defScope s__law_record) (by decide +kernel)) (fun _ _ _ _ _ => (pg_name (i := 7) sc__law_record.nd rfl (Or.inl rfl))) (fun _ _ _ _ _ => (pts_one (pt_cmpR op_ne (pv 7) (pv 5) (nomark _)))) (fun _ _ _ _ _ => (pv 7))) (pe_fn G__law_take (hr.mono (by decide)) pass0 (pa_cons (pv 0) (pa_cons (pe_op op_sub (pe_callB (call_lenA (K := K) (by rfl)) (by rfl) T.b_len bt_len (pa_cons (pv 3) pa_nil)) pe_int) pa_nil))) (fun _ _ => rfl)))
      (pss_cons (ps_par3 (i := 8) (j := 9) (l := 10) (by rfl) sc__law_record.nd rfl rfl rfl (by decide) (by decide) (by decide) rfl rfl rfl (pa_cons (pe_fn G__law_take (hr.mono (by decide)) pass0 (pa_cons (pv 0) (pa_cons pe_int pa_nil))) (pa_cons (pe_op op_add pe_int (pe_fn G__law_take (hr.mono (by decide)) pass0 (pa_cons (pv 0) (pa_cons pe_int pa_nil)))) (pa_cons (pe_op op_add pe_int (pe_fn G__law_take (hr.mono (by decide)) pass0 (pa_cons (pv 0) (pa_cons pe_int pa_nil)))) pa_nil))) (by rfl))
      (pss_cons (ps_set (i := 11) sc__law_record.nd rfl (Or.inl rfl) (pe_op op_fdiv (pe_op op_mul (pe_op op_mul (pv 9) (pv 10)) (pe_mt G_World_rate (hr.mono (by decide)) pass0 (pv 2) (pa_cons (pe_dgetK (hu_of hr) (pe_ix (ix_listK (K := K) (by rfl)) (pv 1) pe_int (fun _ _ => rfl)) (pv 6) (fun _ _ => rfl)) (pa_cons (pe_dgetK (hu_of hr) (pe_ix (ix_listK (K := K) (by rfl)) (pv 1) pe_int (fun _ _ => rfl)) (pv 4) (fun _ _ => rfl)) (pa_cons (pv 8) pa_nil))))) pe_int))
      (pss_cons (ps_set (i := 12) sc__law_record.nd rfl (Or.inl rfl) (pe_lst (pa_cons (pe_tup (pa_cons pe_str (pa_cons (pv 8) (pa_cons pe_int (pa_cons (pe_fn G__law_take (hr.mono (by decide)) pass0 (pa_cons (pv 0) (pa_cons pe_int pa_nil))) (pa_cons (pv 5) (pa_cons (pv 6) (pa_cons (pv 4) (pa_cons (pv 9) (pa_cons (pv 10) (pa_cons (pv 11) pa_nil))))))))))) pa_nil)))
      (pss_cons (ps_setLc (i := 13) (own := [("_law_one", 14)]) (by rfl) sc__law_record.nd rfl rfl (sw_true rfl rfl rfl (by decide +kernel)) (by exact (pi_listK (K := K) (by rfl) (pe_ix (ix_listK (K := K) (by rfl)) (pv 1) pe_int (fun _ _ => rfl)))) (blkOk_by (own := [("_law_one", 14)]) (N := ns__law_record) (sc := defScope s__law_record) (by decide +kernel)) (fun _ _ _ _ _ => (pg_name (i := 14) sc__law_record.nd rfl (Or.inl rfl))) (fun _ _ _ _ _ => (pts_one (pt_cmpR (op_notInK (K := K) (by rfl)) (pv 14) (pe_tup (pa_cons (pv 5) (pa_cons (pv 6) pa_nil))) rfl))) (fun _ _ _ _ _ => (pv 14)))
      (pss_cons (ps_set (i := 15) sc__law_record.nd rfl (Or.inl rfl) (pe_ifExp (pt_cmpR (op_neDK (K := K) (by rfl) hr.units) (pv 13) (pe_lst pa_nil) (nomark _)) (pe_fn G__law_take (hr.mono (by decide)) pass0 (pa_cons (pv 0) (pa_cons pe_int pa_nil))) pe_int))
      (pss_cons (ps_if (pt_cmpR op_eq (pv 15) pe_int (nomark _)) (pss_one (ps_ret (pe_op op_cat (pv 12) (pe_lst (pa_cons (pe_tup (pa_cons pe_str (pa_cons (pe_op op_add (pv 8) pe_int) (pa_cons pe_str (pa_cons pe_int (pa_cons pe_bl pa_nil)))))) pa_nil))))) pss_nil)
      (pss_cons (ps_expr (pe_bm PySem.F.plainAttrs_list PySem.F.slot_list_append PySem.F.type_list_append mt_append (pv 12) (pa_cons (pe_tup (pa_cons pe_str (pa_cons (pe_op op_add (pv 8) (pe_fn G__law_take (hr.mono (by decide)) pass0 (pa_cons (pv 0) (pa_cons pe_int pa_nil)))) (pa_cons (pe_ix (ix_listK (K := K) (by rfl)) (pv 13) pe_int (fun _ _ => rfl)) (pa_cons (pe_fn G__law_take (hr.mono (by decide)) pass0 (pa_cons (pv 0) (pa_cons pe_int pa_nil))) pa_nil))))) pa_nil)))
      (pss_cons (ps_if (pt_cmpR op_eq (pv 15) pe_int (nomark _)) (pss_one (ps_ret (pe_op op_cat (pv 12) (pe_lst (pa_cons (pe_tup (pa_cons pe_str (pa_cons (pe_op op_add (pv 8) pe_int) (pa_cons pe_str (pa_cons pe_int (pa_cons pe_bl pa_nil)))))) pa_nil))))) pss_nil)
      (pss_cons (ps_set (i := 16) sc__law_record.nd rfl (Or.inl rfl) (pe_op op_add (pe_ix (ix_tupK (K := K) (by rfl)) (pe_ix (ix_listK (K := K) (by rfl)) (pv 12) (pe_un un_neg pe_int) (fun _ _ => rfl)) pe_int (fun _ _ => rfl)) (pe_fn G__law_take (hr.mono (by decide)) pass0 (pa_cons (pv 0) (pa_cons pe_int pa_nil)))))
      (pss_cons (ps_expr (pe_bm PySem.F.plainAttrs_list PySem.F.slot_list_append PySem.F.type_list_append mt_append (pv 12) (pa_cons (pe_tup (pa_cons pe_str (pa_cons (pv 16) pa_nil))) pa_nil)))
      (pss_cons (ps_if (pt_cmpR op_eq (pv 15) pe_int (nomark _)) (pss_one (ps_ret (pe_op op_cat (pv 12) (pe_lst (pa_cons (pe_tup (pa_cons pe_str (pa_cons (pe_op op_add (pv 16) pe_int) (pa_cons pe_str (pa_cons pe_int (pa_cons pe_bl pa_nil)))))) pa_nil))))) pss_nil)
      (pss_cons (ps_expr (pe_bm PySem.F.plainAttrs_list PySem.F.slot_list_append PySem.F.type_list_append mt_append (pv 12) (pa_cons (pe_tup (pa_cons pe_str (pa_cons (pe_op op_add (pv 16) (pe_fn G__law_take (hr.mono (by decide)) pass0 (pa_cons (pv 0) (pa_cons pe_int pa_nil)))) (pa_cons (pe_ix (ix_tupK (K := K) (by rfl)) (pe_tup (pa_cons pe_str (pa_cons pe_str (pa_cons pe_str pa_nil)))) (pe_fn G__law_take (hr.mono (by decide)) pass0 (pa_cons (pv 0) (pa_cons pe_int pa_nil))) (fun _ _ => rfl)) pa_nil)))) pa_nil)))
      (pss_cons (ps_for PassesOwn.never rfl (pi_range1 (by rfl) T.b_range (pa_cons (pe_fn G__law_take (hr.mono (by decide)) pass0 (pa_cons (pv 0) (pa_cons pe_int pa_nil))) pa_nil)) (pg_name (i := 17) sc__law_record.nd rfl (Or.inl rfl)) (pss_cons (ps_par (i := 18) (j := 19) (by rfl) sc__law_record.nd rfl rfl (by decide) rfl rfl (pa_cons (pe_ix (ix_tupK (K := K) (by rfl)) (pe_tup (pa_cons pe_str (pa_cons pe_str pa_nil))) (pe_fn G__law_take (hr.mono (by decide)) pass0 (pa_cons (pv 0) (pa_cons pe_int pa_nil))) (fun _ _ => rfl)) (pa_cons (pe_ix (ix_tupK (K := K) (by rfl)) (pe_tup (pa_cons pe_str (pa_cons pe_str pa_nil))) (pe_fn G__law_take (hr.mono (by decide)) pass0 (pa_cons (pv 0) (pa_cons pe_int pa_nil))) (fun _ _ => rfl)) pa_nil)) (by rfl))
      (pss_one (ps_expr (pe_bm PySem.F.plainAttrs_list PySem.F.slot_list_append PySem.F.type_list_append mt_append (pv 12) (pa_cons (pe_tup (pa_cons pe_str (pa_cons (pe_op op_add (pe_ix (ix_tupK (K := K) (by rfl)) (pe_ix (ix_listK (K := K) (by rfl)) (pv 12) (pe_un un_neg pe_int) (fun _ _ => rfl)) pe_int (fun _ _ => rfl)) (pe_fn G__law_take (hr.mono (by decide)) pass0 (pa_cons (pv 0) (pa_cons pe_int pa_nil)))) (pa_cons (pv 18) (pa_cons (pv 19) pa_nil))))) pa_nil))))))
      (pss_cons (ps_if (pt_cmpR op_eq (pv 15) pe_int (nomark _)) (pss_one (ps_ret (pv 12))) pss_nil)
      (pss_cons (ps_par (i := 20) (j := 21) (by rfl) sc__law_record.nd rfl rfl (by decide) rfl rfl (pa_cons (pe_ix (ix_tupK (K := K) (by rfl)) (pe_tup (pa_cons pe_int (pa_cons pe_int (pa_cons pe_int (pa_cons pe_int pa_nil))))) (pe_fn G__law_take (hr.mono (by decide)) pass0 (pa_cons (pv 0) (pa_cons pe_int pa_nil))) (fun _ _ => rfl)) (pa_cons (pe_cmpR op_eq (pe_fn G__law_take (hr.mono (by decide)) pass0 (pa_cons (pv 0) (pa_cons pe_int pa_nil))) pe_int (nomark _)) pa_nil)) (by rfl))
      (pss_one (ps_ret (pe_op op_cat (pv 12) (pe_lst (pa_cons (pe_tup (pa_cons pe_str (pa_cons (pe_op op_add (pe_ix (ix_tupK (K := K) (by rfl)) (pe_ix (ix_listK (K := K) (by rfl)) (pv 12) (pe_un un_neg pe_int) (fun _ _ => rfl)) pe_int (fun _ _ => rfl)) pe_int) (pa_cons pe_str (pa_cons (pv 20) (pa_cons (pv 21) pa_nil)))))) pa_nil))))))))))))))))))))))), ?_⟩
    obtain ⟨d, a, x, W, rfl, hd, ⟨la, wa, pa, ca, da, na, y1, y2, y3, y4, y5, ⟨das, y6, y7⟩, nas, y8, y9⟩, hw, gd, gm, q⟩ := h
    have hpn : W.parties.length ≤ 8 := gd.p1.2
    have hp3 := gm.n3
    have hwn := gd.w1
    have hw' := hw
    obtain ⟨dx, al, ak, ah, ac, av, ar, ad, was, w1, w2, w3, w4, w5, w6, w7⟩ := hw'
    clear y2 y6 y7 y8 y9 w2 w3 w4 w5 w6 w7
    walk_at "rd3"
    refine rlistd_t y4 fun pl hpl => ?_
    walk_at "rd3"
    refine rlistd_t (keep y3 hpl) fun wl hwl => ?_
    walk_at "rd3"
    refine take_n (by walk_at "lk3") (by unfold dKS; rw [List.length_map]; omega) fun k1 H1 s1 k10 k11 => ?_
    unfold dKS at k11
    rw [List.length_map] at k11
    refine rix_lS (ss := W.wares.map (·.1)) (by walk_at "lk3") k10 (by rw [List.length_map]; exact k11) fun wr hwr => ?_
    have hpl1 : H1 pl = some (.lst ((W.parties.map (·.1)).map V.str)) := s1 _ _ (keep upd_same hwl)
    have s2 : Same H H1 := ((grow hpl).trans (grow hwl)).trans s1
    clear s1 hwl hpl
    have hlen : ((W.parties.map (·.1)).map V.str).length = W.parties.length := by rw [List.length_map, List.length_map]
    walk_at "rd3"
    refine take_n (by walk_at "lk3") (by rw [hlen]; omega) fun k2 H2 s3 k20 k21 => ?_
    rw [hlen] at k21
    refine rix_lS (ss := W.parties.map (·.1)) (by walk_at "lk3") k20 (by rw [List.length_map]; exact k21) fun se hse => ?_
    have s4 := s2.trans s3
    have hpl2 := s3 _ _ hpl1
    clear s3 hpl1 s2
    walk_at "rd3"
    refine ⟨⟨_, SqL.of hpl2⟩, fun D hD => ?_⟩
    refine lc_S hD hpl2 (by rw [List.length_map]; omega) (kept fun z => !decide (z = se)) (fun z H3 R R0 hz s h1 h0 => ?_) (fun H3 s5 hD3 => ?_)
    · walk_at "rd3"
      · rename_i e
        exact h1 _ _ (Same.refl _) (if_pos (by simp [e]))
      · rename_i e
        exact h0 _ (Same.refl _) (if_neg (by simp [e]))
    rw [kept_map] at hD3
    have hfl := filt_len se gm.nd
    rw [if_pos hse, List.length_map] at hfl
    have hfm : ∀ z ∈ (W.parties.map (·.1)).filter (fun z => !decide (z = se)), z ∈ W.parties.map (·.1) ∧ se ≠ z := fun z hz => by
      obtain ⟨z1, z2⟩ := List.mem_filter.mp hz
      exact ⟨z1, fun e => by simp [e] at z2⟩
    generalize (W.parties.map (·.1)).filter (fun z => !decide (z = se)) = rest at hD3 hfl hfm
    have s6 := s4.trans s5
    have hpl3 := s5 _ _ hpl2
    clear s4 s5 hpl2 hD
    walk_at "rd3"
    refine take_n (by walk_at "lk3") (by rw [hlen]; omega) fun k3 H4 s7 k30 k31 => ?_
    rw [hlen] at k31
    refine rix_lS (s7 _ _ hD3) k30 (by omega) fun by_ hby => ?_
    obtain ⟨hby, hbs⟩ := hfm by_ hby
    have s8 := s6.trans s7
    clear s6 s7 hD3 hpl3 hfm hfl hlen
    obtain ⟨land, v1⟩ := Option.isSome_iff_exists.mp (lookS_some hby)
    obtain ⟨kind, v3⟩ := Option.isSome_iff_exists.mp (lookS_some hwr)
    have v2 : land ∈ W.lands := (gd.p2 _ (lookS_mem v1)).2.2
    have v4 : kind ∈ W.wares.map (·.2) := List.mem_map_of_mem (lookS_mem v3)
    have vb1 : valV (dKS W.parties) (.inr by_) = some (.str land) := by rw [valV_dKS, v1]; rfl
    have vb2 : valV (dKS W.wares) (.inr wr) = some (.str kind) := by rw [valV_dKS, v3]; rfl
    dsimp only [tPar3]
    walk_at "rd3"
    refine take_n (by walk_at "lk3") (by decide) fun day H5 s9 d0 d9 => ?_
    walk_at "rd3"
    refine take_n (by walk_at "lk3") (by decide) fun m1 H6 s10 m0 m99 => ?_
    walk_at "rd3"
    refine take_n (by walk_at "lk3") (by decide) fun p1 H7 s11 p0 p300 => ?_
    have s12 := ((s8.trans s9).trans s10).trans s11
    clear s8 s9 s10 s11
    walk_at "rd3"
    refine ⟨x, W, land, kind, day, rfl, worldAt_same s12 hw, gd, v2, v4, d0, fun H8 s13 => ?_⟩
    have s14 := s12.trans s13
    clear s12 s13
    obtain ⟨rb1, rb2⟩ := rateM_bound gd.d2 land kind day
    have hmp1 : 0 ≤ (1 + m1) * (1 + p1) := Int.mul_nonneg (by omega) (by omega)
    have hmp2 : (1 + m1) * (1 + p1) ≤ 99 * 300 := Int.mul_le_mul (by omega) (by omega) (by omega) (by omega)
    walk_at "rd3"
    refine take_n (by walk_at "lk3") (by decide) fun bu H9 s15 bu0 bu3 => ?_
    have s16 := s14.trans s15
    clear s14 s15
    walk_at "rd3"
    rename_i q0 hq0 l hl
    have hl0 : H l = none := Same.free (s16.trans (grow hq0)) hl
    obtain ⟨M, hM⟩ : ∃ M : MD, M = ⟨day, 3, bu, se, by_, wr, 1 + m1, 1 + p1, (1 + m1) * (1 + p1) * rateM W.dues land kind day / 10000, land, kind⟩ := ⟨_, rfl⟩
    have hgood : Row.good (.made day 3 bu se by_ wr (1 + m1) (1 + p1) ((1 + m1) * (1 + p1) * rateM W.dues land kind day / 10000)) := by
      obtain ⟨pse, hpse, e1⟩ := List.mem_map.mp hse
      obtain ⟨pby, hpby, e2⟩ := List.mem_map.mp hby
      obtain ⟨pwr, hpwr, e3⟩ := List.mem_map.mp hwr
      exact ⟨by omega, by omega, by omega, by omega, by omega, by omega, by omega, by rw [← e1]; exact (gd.p2 _ hpse).1, by rw [← e2]; exact (gd.p2 _ hpby).1, by rw [← e3]; exact (gd.w2 _ hpwr).1, hbs, by omega, by omega, by omega, by omega⟩
    have hok : M.ok W := by
      subst hM
      exact ⟨lookS_some hse, v1, v2, v3, v4, rfl, hgood⟩
    have hI : RecI H (upd (upd H9 q0 (.tup [.str "made", .int day, .int 3, .int bu, .str se, .str by_, .str wr, .int (1 + m1), .int (1 + p1), .int ((1 + m1) * (1 + p1) * rateM W.dues land kind day / 10000)])) l (.lst [.ref q0])) l W M [(q0, M.row)] 8 := by
      refine RecI.new s16 hok hq0 hl ?_ ?_ ?_
      · subst hM
        rfl
      · subst hM
        exact d0
      · subst hM
        show day ≤ 8
        omega
    have hMse : M.se = se := by rw [hM]
    have hMby : M.by_ = by_ := by rw [hM]
    have h6 : M.se ∈ six ∧ M.by_ ∈ six := by
      rw [hMse, hMby]
      obtain ⟨pse, hpse, e1⟩ := List.mem_map.mp hse
      obtain ⟨pby, hpby, e2⟩ := List.mem_map.mp hby
      exact ⟨by rw [← e1]; exact gm.p6 _ hpse, by rw [← e2]; exact gm.p6 _ hpby⟩
    clear hM
    generalize upd (upd H9 q0 (.tup [.str "made", .int day, .int 3, .int bu, .str se, .str by_, .str wr, .int (1 + m1), .int (1 + p1), .int ((1 + m1) * (1 + p1) * rateM W.dues land kind day / 10000)])) l (.lst [.ref q0]) = H10 at hI
    have hn : LenLe [(q0, M.row)] 1 := Nat.le_refl _
    generalize [(q0, M.row)] = ps at hI hn
    have fin : ∀ (l' : Addr) (ps' : List (Addr × Row)) (b : Int) (H' : Hp), RecI H H' l' W M ps' b → LenLe ps' 20 → Q (.ref l') H' := fun l' ps' b H' hI' n => by
      obtain ⟨g1, g2, g3, ⟨p0, g4, g5⟩, _⟩ := hI'
      exact q l' ps' M p0 H' g1 g2 hok g3 g4 g5 n h6.1 h6.2
    have s10 := hI.1
    clear q s16 hq0 hl hgood
    have hca := s10 _ _ y5
    refine ⟨⟨_, SqL.of hca⟩, fun D hD => ?_⟩
    refine lc_S hD hca (by have := gd.c1; omega) (kept fun z => !decide (z ∈ [se, by_])) (fun z H3 R R0 hz s h1 h0 => ?_) (fun H11 s11 hD11 => ?_)
    · walk_at "rd3"
      · rename_i t ht e
        exact h1 _ _ (grow ht) (if_pos (by have e' : ¬ z ∈ [se, by_] := e; show (!decide (z ∈ [se, by_])) = true; rw [decide_eq_false e']; rfl))
      · rename_i t ht e
        exact h0 _ (grow ht) (if_neg (by have e' : z ∈ [se, by_] := e; show ¬ (!decide (z ∈ [se, by_])) = true; rw [decide_eq_true e']; simp))
    rw [kept_map] at hD11
    have hpf : ∀ z ∈ W.porters.filter (fun z => !decide (z ∈ [se, by_])), z ∈ W.porters ∧ z ≠ M.se ∧ z ≠ M.by_ := fun z hz => by
      obtain ⟨z1, z2⟩ := List.mem_filter.mp hz
      have z3 : ¬ z ∈ [se, by_] := by simpa using z2
      rw [hMse, hMby]
      exact ⟨z1, fun e => z3 (e ▸ List.mem_cons_self), fun e => z3 (e ▸ List.mem_cons_of_mem _ List.mem_cons_self)⟩
    generalize W.porters.filter (fun z => !decide (z ∈ [se, by_])) = pf at hD11 hpf
    replace hI := hI.same s11
    have s12 := hI.1
    clear s11 s10 hca hD
    walk_at "rd3"
    rename_i e hne
    refine rne_nil (keep hD11 hne) (fun v hv => by obtain ⟨i, hi, rfl⟩ := List.mem_map.mp hv; exact okS_name (gd.c2.1 i (hpf i hi).1)) upd_same ?_
    replace hD11 := keep (u := .lst []) hD11 hne
    replace hI := hI.same (grow (u := .lst []) hne)
    have s13 := hI.1
    generalize upd H11 e (.lst []) = H12 at hI hD11 s13
    clear s12 hne
    cases pf with
    | nil =>
      walk_at "rd3"
      rename_i q1 hq1 z1 hz1
      exact rcat_row (.ended (day + 4) "back" 100 true) hI hn (by decide) hq1 hz1 rfl ⟨by omega, by omega, by decide, by decide, .inr (.inl ⟨rfl, rfl, rfl⟩)⟩ rfl (fun _ _ _ z => by cases z) (by show 0 ≤ day + 4; omega) (b' := 20) (by show day + 4 ≤ 20; omega) fun p H' i j => fin p _ _ H' i j
    | cons z zs =>
      obtain ⟨hz1, hz2⟩ := hpf z List.mem_cons_self
      rw [List.map_cons] at hD11
      walk_at "rd3"
      refine take_n (by walk_at "lk3") (by decide) fun k H13 s14 k0 k6 => ?_
      replace hI := hI.same s14
      replace hD11 := s14 _ _ hD11
      have s15 := hI.1
      clear s14 s13
      walk_at "rd3"
      · rename_i e q1 hq1 z1 hz1
        exact rcat_row (.ended (day + 4) "back" 100 true) hI hn (by decide) hq1 hz1 rfl ⟨by omega, by omega, by decide, by decide, .inr (.inl ⟨rfl, rfl, rfl⟩)⟩ rfl (fun _ _ _ z => by cases z) (by show 0 ≤ day + 4; omega) (b' := 20) (by show day + 4 ≤ 20; omega) fun p H' i j => fin p _ _ H' i j
      rename_i e
      refine tyl hI.2.1.1 ?_
      walk_at "rd3"
      refine take_n (by walk_at "lk3") (by decide) fun a1 H14 s16 a10 a12 => ?_
      replace hI := hI.same s16
      replace hD11 := s16 _ _ hD11
      have s17 := hI.1
      clear s15 s16
      walk_at "rd3"
      refine rix_l hD11 (atI_nat (j := 0) rfl) ?_
      walk_at "rd3"
      refine take_n (by walk_at "lk3") (by decide) fun a2 H15 s18 a20 a23 => ?_
      replace hI := hI.same s18
      clear s17 s18 hD11
      walk_at "rd3"
      rename_i q1 hq1
      refine rapp_row (.sent (day + a1) z a2) hI hn (by decide) hl0 hq1 rfl ⟨by omega, by omega, gd.c2.1 _ hz1, by omega, by omega⟩ rfl (fun _ _ _ ez => by cases ez; exact ⟨hz1, hz2⟩) (b' := 20) (by show 0 ≤ day + a1; omega) (by show day + a1 ≤ 20; omega) fun H16 hI2 hn2 => ?_
      have hr2 := last_app (ps := ps) (q := (q1, Row.sent (day + a1) z a2))
      clear hI hn hq1
      generalize ps ++ [(q1, Row.sent (day + a1) z a2)] = ps2 at hI2 hn2 hr2
      have s19 := hI2.1
      walk_at "rd3"
      · rename_i e1 q2 hq2 z2 hz2
        exact rcat_row (.ended (day + 4) "lost" 100 false) hI2 hn2 (by decide) hq2 hz2 rfl ⟨by omega, by omega, by decide, by decide, .inr (.inr (.inl ⟨rfl, rfl, rfl⟩))⟩ rfl (fun _ _ _ z => by cases z) (by show 0 ≤ day + 4; omega) (b' := 20) (by show day + 4 ≤ 20; omega) fun p H' i j => fin p _ _ H' i j
      rename_i e1
      refine rix_row hI2.2.1 (atI_last hr2) ?_
      refine rix_day (hI2.2.1.2 _ (List.mem_of_getLast? hr2)) ?_
      dsimp only [Row.day]
      walk_at "rd3"
      refine take_n (by walk_at "lk3") (by decide) fun a3 H17 s20 a30 a33 => ?_
      replace hI2 := hI2.same s20
      clear s19 s20 hr2
      have s21 := hI2.1
      walk_at "rd3"
      refine tyl hI2.2.1.1 ?_
      walk_at "rd3"
      rename_i q3 hq3
      refine rapp_row (.came (day + a1 + a3)) hI2 hn2 (by decide) hl0 hq3 rfl ⟨by omega, by omega⟩ rfl (fun _ _ _ ez => by cases ez) (b' := 20) (by show 0 ≤ day + a1 + a3; omega) (by show day + a1 + a3 ≤ 20; omega) fun H18 hI3 hn3 => ?_
      clear hI2 hn2 hq3 s21
      generalize ps2 ++ [(q3, Row.came (day + a1 + a3))] = ps3 at hI3 hn3
      have s22 := hI3.1
      walk_at "rd3"
      · rename_i e2 q4 hq4 z4 hz4
        exact rcat_row (.ended (day + a1 + a3 + 3) "sold" 0 false) hI3 hn3 (by decide) hq4 hz4 rfl ⟨by omega, by omega, by decide, by decide, .inr (.inr (.inr ⟨rfl, rfl, rfl⟩))⟩ rfl (fun _ _ _ z => by cases z) (by show 0 ≤ day + a1 + a3 + 3; omega) (b' := 20) (by show day + a1 + a3 + 3 ≤ 20; omega) fun p H' i j => fin p _ _ H' i j
      rename_i e2
      refine tyl hI3.2.1.1 ?_
      walk_at "rd3"
      refine take_n (by walk_at "lk3") (by decide) fun a4 H19 s23 a40 a44 => ?_
      replace hI3 := hI3.same s23
      clear s22 s23
      have s24 := hI3.1
      walk_at "rd3"
      rename_i t5 ht5
      refine take_n (by walk_at "lk3") (by decide) fun a5 H20 s25 a50 a53 => ?_
      refine rix_t3S (by walk_at "lk3") a50 a53 fun word hword => ?_
      replace hI3 := (hI3.same (grow ht5)).same s25
      clear s24 s25 ht5
      walk_at "rd3"
      rename_i q5 hq5
      refine rapp_row (.comp (day + a1 + a3 + a4) word) hI3 hn3 (by decide) hl0 hq5 rfl ⟨by omega, by omega, odd_ok _ hword⟩ rfl (fun _ _ _ ez => by cases ez) (b' := 20) (by show 0 ≤ day + a1 + a3 + a4; omega) (by show day + a1 + a3 + a4 ≤ 20; omega) fun H21 hI4 hn4 => ?_
      clear hI3 hn3 hq5
      generalize ps3 ++ [(q5, Row.comp (day + a1 + a3 + a4) word)] = ps4 at hI4 hn4
      have s26 := hI4.1
      walk_at "rd3"
      refine take_n (by walk_at "lk3") (by decide) fun a6 H22 s27 a60 a64 => ?_
      replace hI4 := hI4.same s27
      clear s26 s27
      walk_at "rd3"
      refine rec_said hd hl0 hI4 hn4 (by omega) fun H23 ps5 y1 y2 y3 hI5 hn5 => ?_
      clear hI4 hn4
      have s28 := hI5.1
      walk_at "rd3"
      · exact fin l ps5 40 H23 hI5 (by unfold LenLe at hn5 ⊢; omega)
      rename_i e3 t7 ht7
      refine take_n (by walk_at "lk3") (by decide) fun a7 H24 s29 a70 a74 => ?_
      refine rix_t4I (by walk_at "lk3") a70 a74 fun part hpart => ?_
      replace hI5 := (hI5.same (grow ht7)).same s29
      clear s28 s29 ht7
      have s30 := hI5.1
      walk_at "rd3"
      refine take_n (by walk_at "lk3") (by decide) fun a8 H25 s31 a80 a82 => ?_
      replace hI5 := hI5.same s31
      clear s30 s31
      walk_at "rd3"
      obtain ⟨plr, hplr, d0, db⟩ := hI5.2.2.2.2
      refine rix_row hI5.2.1 (atI_last hplr) ?_
      refine rix_day (hI5.2.1.2 _ (List.mem_of_getLast? hplr)) ?_
      walk_at "rd3"
      rename_i q6 hq6 z6 hz6
      simp at hpart
      exact rcat_row (.ended (plr.2.day + 3) "judged" part (decide (a8 = 0))) hI5 hn5 (by decide) hq6 hz6 rfl ⟨by omega, by omega, by omega, by omega, .inl rfl⟩ rfl (fun _ _ _ z => by cases z) (by show 0 ≤ plr.2.day + 3; omega) (b' := 50) (by show plr.2.day + 3 ≤ 50; omega) fun p H' i j => fin p _ _ H' i j
end
end Mk
/-! The law's own: comparisons that find nothing; rows of one record, whatever their turn. -/
namespace Mk
open PySem PySem.Spec L2 He LamX
section
variable {K : PySem.W.Frag} {H : Hp} {Q : VK} {a b : Addr}
theorem rnel_ss {y z : Str} (q : Q (.bl (!decide (y = z))) H) : rNeL K (.str y) (.str z) H Q := .inl (rne_ss q)
theorem shaped_refl {d : PyData} (h : SeqAt.shaped d = true) : PyData.eqv d d = true := by
  have h' : (d.canLay0 && decide (d.depth ≤ 64)) = true := h
  exact SeqAt.eqv_refl d (Bool.and_eq_true_iff.mp h').1
theorem rnel_tt {xs : List V} (ha : H a = some (.tup xs)) (hb : H b = some (.tup xs)) (f : ∀ v ∈ xs, flatOk v) (q : Q (.bl false) H) : rNeL K (.ref a) (.ref b) H Q :=
  .inr (.inl ⟨.tuple (xs.map vD), .tuple (xs.map vD), .tup (SqT.of ha) (dps_flat f), .tup (SqT.of hb) (dps_flat f), (sh_tup f).1, (sh_tup f).1, qb q (by rw [shaped_refl (sh_tup f).1]; rfl)⟩)
theorem rnel_dd {F : FI} (ha : H a = some (.dT (toT F))) (hb : H b = some (.dT (toT F))) (q : Q (.bl false) H) : rNeL K (.ref a) (.ref b) H Q := by
  have e : toT F = (F.map fun p => (kk p.1, p.2)).map fun p => (p.1, V.int p.2) := by
    unfold toT
    rw [List.map_map]
    rfl
  rw [e] at ha hb
  exact .inr (.inr ⟨a, b, _, rfl, rfl, ha, hb, q⟩)
/-- the keys' tuples -/
abbrev KeysAt (H : Hp) (bs : List Addr) (ks : List (List Str)) : Prop := AtT (fun k : List Str => k.map V.str) H bs ks
theorem keys_of : ∀ {F : FI} {bs : List Addr}, IsKeys H (toT F) bs → KeysAt H bs (F.map (·.1))
  | [], bs, h => by
    unfold IsKeys at h
    have h' : Paired (fun p b => H b = some (.tup (p.1.map kV))) ([] : List (List L2.Key × V)) bs := h
    cases h'
    exact .nil
  | p :: F, bs, h => by
    unfold IsKeys at h
    have h' : Paired (fun p b => H b = some (.tup (p.1.map kV))) ((kk p.1, V.int p.2) :: toT F) bs := h
    cases h' with
    | cons h1 h2 =>
      refine .cons ?_ (keys_of h2)
      show H _ = some (.tup (p.1.map V.str))
      rw [← kk_kV]
      exact h1
theorem rlistt {F : FI} {d : Addr} (h : H d = some (.dT (toT F))) (k : ∀ (p : Addr) (bs : List Addr) H', Same H H' → H' p = some (.lst (bs.map V.ref)) → KeysAt H' bs (F.map (·.1)) → Q (.ref p) H') : rListT [.ref d] H Q :=
  ⟨d, _, rfl, .inl h, fun p bs hp hk => k p bs _ (grow hp) upd_same (atT_same (grow hp) (keys_of hk))⟩
theorem dps_keys : ∀ {bs : List Addr} {ks : List (List Str)}, KeysAt H bs ks → (∀ k ∈ ks, ∀ z ∈ k, okS z) → DpAll K H (bs.map V.ref) ((ks.map fun k => k.map V.str).map tD)
  | _, _, .nil, _ => .nil
  | _, _, .cons h t, g => by
    refine .cons (.tup (SqT.of h) (dps_flat fun v hv => ?_)) (dps_keys t fun k hk => g k (List.mem_cons_of_mem _ hk))
    obtain ⟨z, hz, rfl⟩ := List.mem_map.mp hv
    exact g _ List.mem_cons_self z hz
theorem rne_keys {bs cs : List Addr} {ks : List (List Str)} (ha : H a = some (.lst (bs.map V.ref))) (hb : H b = some (.lst (cs.map V.ref))) (h1 : KeysAt H bs ks) (h2 : KeysAt H cs ks) (g : ∀ k ∈ ks, ∀ z ∈ k, okS z) (q : Q (.bl false) H) : rNeD K (.ref a) (.ref b) H Q := by
  have sh : SeqAt.shaped (.list ((ks.map fun k => k.map V.str).map tD)) = true := sh_tups fun xs hx v hv => by
    obtain ⟨k, hk, rfl⟩ := List.mem_map.mp hx
    obtain ⟨z, hz, rfl⟩ := List.mem_map.mp hv
    exact g k hk z hz
  exact ⟨_, _, .lst (SqL.of ha) (dps_keys h1 g), .lst (SqL.of hb) (dps_keys h2 g), sh, sh, qb q (by rw [shaped_refl sh]; rfl)⟩
end
/-! ### rows of one record -/
section
variable {W : Wd} {M : MD} {qs : List (Addr × Row)}
theorem recf_good (h : RecF W M qs) : ∀ p ∈ qs, p.2.good := fun p hp => (h p hp).1
theorem recf_snd (h : RecF W M qs) : sndOk (qs.map (·.2)) := fun d s b x y z m p t hm d' w a hs => by
  obtain ⟨p1, h1, e1⟩ := List.mem_map.mp hm
  obtain ⟨p2, h2, e2⟩ := List.mem_map.mp hs
  have g1 := (h p1 h1).2.1 (by rw [e1]; rfl)
  rw [e1] at g1
  unfold MD.row at g1
  obtain ⟨_, g2, g3⟩ := (h p2 h2).2.2 _ _ _ e2
  injection g1 with i1 i2 i3 i4 i5
  rw [i4, i5]
  exact ⟨g2, g3⟩
theorem okMade_M (ok : M.ok W) (gd : W.good) : M.row.okMade = true := by
  obtain ⟨r1, r2⟩ := rateM_bound gd.d2 M.land M.kind M.d
  obtain ⟨_, _, _, _, _, _, _, _, _, _, _, b1, b2, b3, b4⟩ := ok.good
  have hm1 : 0 ≤ M.m * M.pr := Int.mul_nonneg (by omega) (by omega)
  have e := ok.tax
  have p1 : 0 ≤ M.m * M.pr * rateM W.dues M.land M.kind M.d := Int.mul_nonneg hm1 r1
  have p2 : M.m * M.pr * rateM W.dues M.land M.kind M.d ≤ M.m * M.pr * 5000 := Int.mul_le_mul_of_nonneg_left r2 hm1
  show decide (0 ≤ M.t ∧ M.t ≤ M.m * M.pr * 5000 / 10000) = true
  rw [e]
  exact decide_eq_true ⟨by omega, by omega⟩
theorem recf_canB (h : RecF W M qs) (ok : M.ok W) (gd : W.good) : (!qs.isEmpty && recB (qs.map (·.2))) = canB (qs.map (·.2)) := by
  have e : qs.isEmpty = (qs.map (·.2)).isEmpty := by rw [List.isEmpty_map]
  rw [e]
  refine recB_canB fun r hr hm => ?_
  obtain ⟨p, hp, rfl⟩ := List.mem_map.mp hr
  rw [(h p hp).2.1 hm]
  exact okMade_M ok gd
theorem recf_first (h : RecF W M qs) (hc : canB (qs.map (·.2)) = true) : ∃ p0, qs[0]? = some p0 ∧ p0.2 = M.row := by
  obtain ⟨m, h1, h2⟩ := can_made0 hc
  obtain ⟨p, hp, e⟩ := at_fst h1
  exact ⟨p, hp, (h p (List.mem_of_getElem? hp)).2.1 (by rw [e]; exact h2)⟩
theorem recf_sentIn (h : RecF W M qs) : sentIn W qs := fun p hp d w a e => ((h p (findK_mem hp).1).2.2 d w a e).1
theorem recf_carrier (h : RecF W M qs) : ∀ z, carrierOf qs = some z → z ∈ W.porters ∧ z ≠ M.by_ ∧ z ≠ M.se := fun z hz => by
  unfold carrierOf at hz
  obtain ⟨p, hp, e⟩ := Option.bind_eq_some_iff.mp hz
  obtain ⟨d, w, a, er⟩ := kind_sent (findK_mem hp).2
  rw [er] at e
  cases e
  obtain ⟨g1, g2, g3⟩ := (h p (findK_mem hp).1).2.2 _ _ _ er
  exact ⟨g1, g3, g2⟩
/-- a lost record has its carrier in the second row -/
theorem can_lost (hc : canB (qs.map (·.2)) = true) {pl : Addr × Row} {d : Int} {part : Int} {back : Bool} (hl : qs.getLast? = some pl) (e : pl.2 = .ended d "lost" part back) : ∃ p1 d1 z a1, qs[1]? = some p1 ∧ p1.2 = .sent d1 z a1 ∧ carrierOf qs = some z := by
  rw [List.getLast?_eq_getElem?] at hl
  have hl2 := at_snd hl
  rw [e] at hl2
  obtain ⟨j, a, hj, ha, hg⟩ := can_prev hc hl2 rfl
  have hw := goesB_word hg
  have hs : ∃ d1 z a1, a = .sent d1 z a1 := by
    cases a with
    | sent d1 z a1 => exact ⟨d1, z, a1, rfl⟩
    | made a b c d e f g h' i => exact absurd (show ("lost" : Str) ∈ (["sent", "back"] : List Str) from hw) (by decide +kernel)
    | came a => exact absurd (show ("lost" : Str) ∈ (["complained", "sold"] : List Str) from hw) (by decide +kernel)
    | comp a b => exact absurd (show ("lost" : Str) ∈ (["said", "judged"] : List Str) from hw) (by decide +kernel)
    | said a b c => exact absurd (show ("lost" : Str) ∈ (["said", "judged"] : List Str) from hw) (by decide +kernel)
    | ended a b c d => exact absurd (show ("lost" : Str) ∈ ([] : List Str) from hw) (by decide +kernel)
  obtain ⟨d1, z, a1, rfl⟩ := hs
  have h1 := can_sent_at hc ha
  rw [h1] at ha
  obtain ⟨p1, hp1, e1⟩ := at_fst ha
  refine ⟨p1, d1, z, a1, hp1, e1, ?_⟩
  have hf : findK "sent" qs = some p1 := findK_at hp1 (by rw [e1]; rfl) fun j q hj hk => by
    obtain ⟨d2, w2, a2, e2⟩ := kind_sent hk
    have hj2 := at_snd hj
    rw [e2] at hj2
    exact can_sent_at hc hj2
  unfold carrierOf
  rw [hf, Option.bind_some, e1]
  rfl
end
end Mk
/-! the law's parts: a bent list, what is due, what is told -/
namespace Mk
open PySem PySem.Spec PyProof.Rows L2 He LamX
theorem rowsP_ext {H H' : Hp} (e : ExtN H H') {l : Addr} {ps : List (Addr × Row)} (h : RowsP H l ps) : RowsP H' l ps := ⟨e _ _ h.1 (fun _ z => nomatch z), fun p hp => e _ _ (h.2 p hp) (fun _ z => nomatch z)⟩
theorem atT_ext {α : Type} {f : α → List V} {H H' : Hp} (e : ExtN H H') {as : List Addr} {ds : List α} (p : AtT f H as ds) : AtT f H' as ds := Paired.mapP p fun _ _ h => e _ _ h (fun _ z => nomatch z)
theorem normAt_ext {H H' : Hp} (e : ExtN H H') {a : Addr} {n : Norm} (p : NormAt H a n) : NormAt H' a n := by
  obtain ⟨q, bs, h1, h2, h3⟩ := p
  exact ⟨q, bs, e _ _ h1 (fun _ z => nomatch z), e _ _ h2 (fun _ z => nomatch z), atT_ext e h3⟩
theorem partsL_ext {H H' : Hp} (e : ExtN H H') {a : Addr} {W : Wd} (h : PartsL H a W) : PartsL H' a W := by
  obtain ⟨la, wa, pa, ca, da, na, h0, h1, h2, h3, h4, ⟨as, h5, h6⟩, bs, h7, h8⟩ := h
  exact ⟨la, wa, pa, ca, da, na, e _ _ h0 (fun _ z => nomatch z), e _ _ h1 (fun _ z => nomatch z), e _ _ h2 (fun _ z => nomatch z), e _ _ h3 (fun _ z => nomatch z), e _ _ h4 (fun _ z => nomatch z), ⟨as, e _ _ h5 (fun _ z => nomatch z), atT_ext e h6⟩, bs, e _ _ h7 (fun _ z => nomatch z), Paired.mapP h8 fun _ _ x => normAt_ext e x⟩
theorem worldAt_ext {K : PySem.W.Frag} {H H' : Hp} (e : ExtN H H') {a : Addr} {W : Wd} (h : WorldAt K H a W) : WorldAt K H' a W := by
  obtain ⟨dx, l, k, h0, c, v, r, d, as, h1, h2, h3, h4, h5, h6, h7⟩ := h
  exact ⟨dx, l, k, h0, c, v, r, d, as, e _ _ h1 (fun _ z => nomatch z), e _ _ h2 (fun _ z => nomatch z), e _ _ h3 (fun _ z => nomatch z), e _ _ h4 (fun _ z => nomatch z), e _ _ h5 (fun _ z => nomatch z), e _ _ h6 (fun _ z => nomatch z), atT_ext e h7⟩
theorem extN_same {H H' : Hp} (s : Same H H') : ExtN H H' := ExtN.of s
/-- what the law holds due of the verdict -/
def DueV (H : Hp) (W : Wd) (qs : List (Addr × Row)) (v : V) : Prop :=
  (v = .str "record" ∧ (canB (qs.map (·.2)) = false ∨ findK "complained" qs = none)) ∨
  (canB (qs.map (·.2)) = true ∧ ∃ (pt : Addr) (pc pq : Addr × Row) (d d' : Int) (w : Str), v = .ref pt ∧ findK "came" qs = some pc ∧ pc.2 = .came d' ∧ findK "complained" qs = some pq ∧ pq.2 = .comp d w ∧ H pt = some (.tup [.int (tells (qs.map (·.2)) d w d' W.norms).1, .bl (tells (qs.map (·.2)) d w d' W.norms).2]))
theorem kinds_find {k : Str} : ∀ {qs : List (Addr × Row)}, (k ∈ qs.map fun p => p.2.kind) ↔ ∃ p, findK k qs = some p := by
  intro qs
  unfold findK
  rw [List.mem_map]
  constructor
  · rintro ⟨p, hp, e⟩
    have : (qs.find? fun p => decide (p.2.kind = k)).isSome = true := by
      rw [List.find?_isSome]
      exact ⟨p, hp, decide_eq_true e⟩
    exact Option.isSome_iff_exists.mp this
  · rintro ⟨p, hp⟩
    have h0 := List.find?_some hp
    exact ⟨p, List.mem_of_find?_eq_some hp, of_decide_eq_true h0⟩
theorem fm_kind (qs : List (Addr × Row)) : qs.filterMap (fun p => some (V.str p.2.kind)) = (qs.map fun p => p.2.kind).map V.str := by
  rw [List.map_map, ← List.filterMap_eq_map]
  rfl
local macro_rules | `(tactic| walk_at "rdu3") => `(tactic| dsimp only [tSeq, tNext, tRet, tRetN, tAsg, tDrop, tIfS, tOr, tAnd, tNot, tB, tTest, tCB, tCons, tNil, tVar, tC, tOp, tUn, tOrV, tAndV, tNotV, tIf, tChain, tCall, tTup, tLst, gName, L2.start, dl_map, dl_map0, dl_app, dl_app0, List.length_cons, List.length_nil, List.replicate, List.set, Nat.reduceAdd, Nat.reduceSub, tLc_eq, tFor_eq, sck_eq, dct_eq, tPar, gCons, gNil, iList, iTup, iRng1, iStr, wipe, tYes, tSl, tPart, tNoPart, tFld, tMeth, tMake, tFldK, sFldK, tDGetK, tDInK, tDNotInK, iItemsK, tLV, tLockE, tLock, tMakeK,  tDNewK, tPairs, tBM, tDispTK, iItemsTK, sDPutK, sDAugK])
local macro_rules | `(tactic| walk_at "lk3") => `(tactic| first | assumption | (with_reducible exact upd_same) | ((with_reducible apply keep); rotate_left; (focus assumption); walk_at "lk3") | ((with_reducible apply kp); (focus assumption); walk_at "lk3") | ((with_reducible apply keepI); rotate_left; (focus (walk_at "lk3")); (focus (intro _ _ _ e; cases e)); walk_at "lk3"))
local macro_rules | `(tactic| walk_at "lq3") => `(tactic| first | assumption | exact .inl (SqL.of (by walk_at "lk3")) | exact .inr (SqT.of (by walk_at "lk3")) | (refine sq2_same (grow (by assumption)) ?_; walk_at "lq3") | (refine sq2_same (by assumption) ?_; walk_at "lq3"))
local macro_rules | `(tactic| walk_at "sm3") => `(tactic| first | exact Same.refl _ | assumption | (refine same_upd2 ?_ (by assumption); walk_at "sm3") | (refine same_upd ?_ (by assumption); walk_at "sm3") | (refine Same.trans ?_ (by assumption); walk_at "sm3"))
local macro_rules | `(tactic| walk_at "rd13") => `(tactic| first
  | ((with_reducible apply rfld_t); (focus (walk_at "lk3")); (focus assumption); (focus assumption); (focus with_unfolding_all rfl))
  | ((with_reducible apply rsetf_t); (focus (walk_at "lk3")); (focus assumption); (focus assumption); (focus with_unfolding_all rfl); (focus (simp; done)); walk_at "rdu3")
  | ((with_reducible apply rlend_t); (focus (walk_at "lk3")))
  | ((with_reducible apply rlist_l); (focus (walk_at "lk3")); intro _ _)
  | ((with_reducible apply rdict_d); (focus (walk_at "lk3")); intro _ _)
  | ((with_reducible apply rdg_t); (focus (walk_at "lk3")); (focus first | assumption | with_unfolding_all rfl))
  | ((with_reducible apply rdi_some); (focus (walk_at "lk3")); (focus assumption))
  | ((with_reducible apply rdn_some); (focus (walk_at "lk3")); (focus assumption))
  | ((with_reducible apply rdi_t); (focus (walk_at "lk3")))
  | ((with_reducible apply rdn_t); (focus (walk_at "lk3")))
  | ((with_reducible apply rcat_t); (focus (walk_at "lk3")); (focus (walk_at "lk3")); (focus first | (refine line_ge ?_; simp; done) | (refine line_ge ?_; simp; omega)); intro _ _; walk_at "rdu3")
  | ((with_reducible apply rmeth_t); (focus (walk_at "lk3")); (focus with_unfolding_all rfl))
  | ((with_reducible apply rlv_t); (focus (walk_at "lk3")); intro _ _)
  | ((with_reducible apply rpow18))
  | ((with_reducible apply rng_t); (focus omega); (focus omega))
  | ((with_reducible apply tyl); (focus (walk_at "lk3")))
  | ((with_reducible apply rapp_t); (focus (walk_at "lk3")); (focus first | (refine Nat.lt_of_lt_of_le ?_ (line_ge (Nat.le_refl 16777216)); simp; omega) | (rw [sizeLine_eq]; simp; omega) | (rw [sizeLine_eq]; omega)); walk_at "rdu3")
  | ((with_reducible apply req_ss))
  | ((with_reducible apply req_ii))
  | ((with_reducible apply req_bb))
  | ((with_reducible apply rne_ss))
  | ((with_reducible apply rne_ii))
  | ((with_reducible apply cm_l); (focus omega); (focus omega))
  | ((with_reducible apply cm_r); (focus omega); (focus omega))
  | ((with_reducible apply cd_i); (focus omega); (focus omega))
  | ((with_reducible apply md_i); (focus omega))
  | ((with_reducible apply part1))
  | ((with_reducible apply num2))
  | ((with_reducible apply num3))
  | ((with_reducible apply name1); (focus first | assumption | decide +kernel); intro _ _)
  | ((with_reducible apply one_m); (focus (walk_at "lq3")))
  | ((with_reducible apply one_s); (focus (walk_at "lq3")); (focus with_unfolding_all rfl))
  | refine ⟨_, rfl, ?_⟩
  | refine ⟨_, _, rfl, rfl, ?_⟩
  | ((with_reducible apply gcons_t))
  | ((with_reducible apply gpar_t))
  | ((with_reducible apply gpar3_t))
  | refine ⟨rfl, ?_⟩
  | ((with_reducible apply iteT))
  | ((with_reducible apply iteF))
  | ((with_reducible apply ri_ii))
  | ((with_reducible apply ri_ib))
  | ((with_reducible apply ri_ss))
  | ((with_reducible apply ri_bb))
  | ((with_reducible apply ri_tt); (focus (walk_at "lk3")))
  | ((with_reducible apply ri_ll); (focus (walk_at "lk3")))
  | ((with_reducible apply ri_dd); (focus (walk_at "lk3")))
  | ((with_reducible apply rt_l); (focus (walk_at "lk3")); (focus (walk_at "lk3")))
  | ((with_reducible apply rt_t); (focus (walk_at "lk3")); (focus (walk_at "lk3")))
  | ((with_reducible apply rix_t); (focus (walk_at "lk3")); (focus with_unfolding_all rfl))
  | ((with_reducible apply rix_l); (focus (walk_at "lk3")); (focus with_unfolding_all rfl))
  | ((with_reducible apply rlen_t); (focus (walk_at "lk3")); (focus first | (simp only [List.length_cons, List.length_nil]; done) | (simp only [List.length_cons, List.length_nil]; with_unfolding_all rfl) | with_unfolding_all rfl))
  | ((with_reducible apply rlen_l); (focus (walk_at "lk3")); (focus first | (simp only [List.length_cons, List.length_nil]; done) | (simp only [List.length_cons, List.length_nil]; with_unfolding_all rfl) | with_unfolding_all rfl))
  | ((with_reducible apply rin_t); (focus (walk_at "lk3")); (focus with_unfolding_all rfl))
  | ((with_reducible apply rnin_t); (focus (walk_at "lk3")); (focus with_unfolding_all rfl))
  | ((with_reducible apply rsl_t); (focus (walk_at "lk3")); (focus with_unfolding_all rfl); (focus first | (simp [cutV, HT.sIx]; done) | (simp [cutV, HT.sIx]; rfl)); intro _ _)
  | ((with_reducible apply rin_l); (focus (walk_at "lk3")))
  | ((with_reducible apply rnin_l); (focus (walk_at "lk3")))
  | ((with_reducible apply gtup_t); (focus (walk_at "lk3")); (focus with_unfolding_all rfl); walk_at "rdu3")
  | ((with_reducible apply alc); (focus decide); intro _ _)
  | ((with_reducible apply itenT))
  | ((with_reducible apply itenF))
  | ((with_reducible apply ited_sT); (focus first | rfl | assumption))
  | ((with_reducible apply ited_sF); (focus first | assumption | decide +kernel))
  | ((with_reducible apply itedn_sT); (focus first | assumption | decide +kernel))
  | ((with_reducible apply itedn_sF); (focus first | rfl | assumption))
  | ((with_reducible apply ited_mT); (focus first | assumption | decide +kernel))
  | ((with_reducible apply ited_mF); (focus first | assumption | decide +kernel))
  | ((with_reducible apply itedn_mT); (focus first | assumption | decide +kernel))
  | ((with_reducible apply itedn_mF); (focus first | assumption | decide +kernel))
  | ((with_reducible apply ited_s) <;> intro _)
  | ((with_reducible apply itedn_s) <;> intro _)
  | ((with_reducible apply ited_m) <;> intro _)
  | ((with_reducible apply itedn_m) <;> intro _)
  | ((with_reducible apply itedT); (focus first | assumption | omega))
  | ((with_reducible apply itedF); (focus first | assumption | omega))
  | ((with_reducible apply itednF); (focus first | assumption | omega))
  | ((with_reducible apply itednT); (focus first | assumption | omega))
  | ((with_reducible apply ited) <;> intro _)
  | ((with_reducible apply itedn) <;> intro _)
  | ((with_reducible apply itebn) <;> intro _)
  | ((with_reducible apply iteb) <;> intro _)
  | walk_at "rdu3"
  | contradiction)
local macro_rules | `(tactic| walk_at "rd3") => `(tactic| (try walk_at "rdu3"); repeat' walk_at "rd13")
theorem due_v {K : PySem.W.Frag} {a l : Addr} {H : Hp} {D : Ends} {W : Wd} {M : MD} {qs : List (Addr × Row)} {x0 x1 x2 x4 x5 x6 x7 x10 x11 x12 x13 : Option V} (gd : W.good) (hp : PartsL H a W) (hr : RowsP H l qs) (hF : RecF W M qs) (n : qs.length ≤ 1000)
    (k : ∀ (H' : Hp) (v : V), Same H H' → DueV H' W qs v → D.nx [x0, x1, x2, some (.ref a), x4, x5, x6, x7, some (.ref l), some (.bl (canB (qs.map (·.2)))), some v, x11, x12, x13] H') :
    (tAsg (tIf (tAnd (tB (tVar 9)) (tTest (tOp (rIn K false) (tC (V.str (Str.ofString "complained"))) (tLc (iList K (tVar 8)) (gName 11) tYes (tOp (rIxT K) (tVar 11) (tC (V.int 0))) [11])))) (tCall spLVerd [] E0 (tCons (tOp (rIxL K) (tVar 3) (tC (V.int 5))) (tCons (tVar 8) tNil))) (tC (V.str (Str.ofString "record")))) (gName 10)) D
      [x0, x1, x2, some (.ref a), x4, x5, x6, x7, some (.ref l), some (.bl (canB (qs.map (·.2)))), x10, x11, x12, x13] H := by
  cases hc : canB (qs.map (·.2)) with
  | false =>
    rw [hc] at k
    walk_at "rd3"
    exact k H _ (Same.refl _) (.inl ⟨rfl, .inl hc⟩)
  | true =>
    rw [hc] at k
    walk_at "rd3"
    refine ⟨⟨_, SqL.of hr.1⟩, fun D2 hD2 => ?_⟩
    refine lc_rows hD2 hr (by omega) (fun p => some (.str p.2.kind)) (fun i p H3 R R0 hi s hb h1 h0 => ?_) (fun H3 s3 hD3 => ?_)
    · walk_at "rd3"
      refine rix_kind hb ?_
      exact h1 _ _ (Same.refl _) rfl
    rw [fm_kind] at hD3
    refine rin_l hD3 ?_
    refine ⟨_, rfl, ?_⟩
    split
    · next hin =>
      obtain ⟨pq, f2⟩ := kinds_find.mp (of_decide_eq_true hin)
      obtain ⟨pc, d, d', w, i2, e1, i3, e2, f1⟩ := can_complaint hc f2
      obtain ⟨la, wa, pa, ca, da, na, y1, y2, y3, y4, y5, y6, nas, y8, y9⟩ := hp.same s3
      walk_at "rd3"
      exact ⟨na, l, nas, qs, W.norms, pc, pq, d, d', w, rfl, hr.same s3, recf_good hF, n, y8, y9, gd.n1, gd.n2, i2, e1, i3, e2, fun p H' s hp' => k H' (.ref p) (s3.trans s) (.inr ⟨hc, p, pc, pq, d, d', w, rfl, f1, e1, f2, e2, hp'⟩)⟩
    · next hin =>
      walk_at "rd3"
      refine k H3 _ s3 (.inl ⟨rfl, .inr ?_⟩)
      cases hf : findK "complained" qs with
      | none => rfl
      | some pq => exact absurd (decide_eq_true (kinds_find.mpr ⟨pq, hf⟩)) hin
theorem told_v {K : PySem.W.Frag} {tb : List (Addr × Str)} {a l : Addr} {H : Hp} {R : VK} {W : Wd} {M : MD} {qs : List (Addr × Row)} {x0 x1 x2 x4 x5 x6 x7 x9 x10 x11 x12 x13 : Option V} (gd : W.good) (ok : M.ok W) (hp : PartsL H a W) (hr : RowsP H l qs) (hF : RecF W M qs) (n : qs.length ≤ 1000) (hT : Tabs tb H)
    (k : ∀ (H' : Hp) (v : V), ExtN H H' → Tabs tb H' → DueV H' W qs v → R v H') :
    tLam tb (TTm K) (fun E => tCall (spJudged K) [] E (tCons (tVar 8) (tCons (tCB (rTupOf K) (tCons (tOp (rIxL K) (tVar 3) (tC (V.int 5))) tNil)) tNil)))
      [x0, x1, x2, some (.ref a), x4, x5, x6, x7, some (.ref l), x9, x10, x11, x12, x13] H R := by
  refine ⟨hT, fun H1 eN hT1 => ?_⟩
  unfold TTm
  have hr1 := rowsP_ext eN hr
  obtain ⟨la, wa, pa, ca, da, na, y1, y2, y3, y4, y5, y6, nas, y8, y9⟩ := partsL_ext eN hp
  walk_at "rd3"
  refine rtup_l y8 fun ra hra => ?_
  have s2 : Same H1 (upd H1 ra (.tup (nas.map V.ref))) := grow hra
  have hb := recf_canB hF ok gd
  refine ⟨l, ra, qs, W.norms, rfl, hr1.same s2, recf_good hF, recf_snd hF, n, ⟨nas, upd_same, Paired.mapP y9 fun _ _ x => normAt_same s2 x⟩, gd.n1, gd.n2, fun e pq f2 => ?_, fun e H' s => ?_, fun e pc pq d d' w f1 e1 f2 e2 p H' s hp' => ?_⟩
  · rw [hb] at e
    obtain ⟨pc, d, d', w, _, _, _, _, f1⟩ := can_complaint e f2
    exact ⟨pc, f1⟩
  · rw [hb] at e
    exact ⟨rfl, rfl, k H' _ (eN.trans (extN_same (s2.trans s))) (hT1.ext (s2.trans s)) (.inl ⟨rfl, e⟩)⟩
  · rw [hb] at e
    exact k H' _ (eN.trans (extN_same (s2.trans s))) (hT1.ext (s2.trans s)) (.inr ⟨e, p, pc, pq, d, d', w, rfl, f1, e1, f2, e2, hp'⟩)
/-- both look alike -/
theorem ne_v {K : PySem.W.Frag} {H : Hp} {Q : VK} {W : Wd} {qs : List (Addr × Row)} {u v : V} (h1 : DueV H W qs u) (h2 : DueV H W qs v) (q : Q (.bl false) H) : rNeL K u v H Q := by
  rcases h1 with ⟨rfl, c1⟩ | ⟨c1, pt, pc, pq, d, d', w, rfl, f1, e1, f2, e2, t1⟩
  · rcases h2 with ⟨rfl, c2⟩ | ⟨c2, pt, pc, pq, d, d', w, rfl, f1, e1, f2, e2, t1⟩
    · exact rnel_ss (qb q (by simp))
    · rcases c1 with c1 | c1
      · rw [c1] at c2
        cases c2
      · rw [c1] at f2
        cases f2
  · rcases h2 with ⟨rfl, c2⟩ | ⟨c2, pt', pc', pq', d2, d2', w2, rfl, f1', e1', f2', e2', t1'⟩
    · rcases c2 with c2 | c2
      · rw [c1] at c2
        cases c2
      · rw [c2] at f2
        cases f2
    · rw [f1] at f1'
      cases f1'
      rw [f2] at f2'
      cases f2'
      rw [e1] at e1'
      cases e1'
      rw [e2] at e2'
      cases e2'
      refine rnel_tt t1 t1' (fun v hv => ?_) q
      rcases List.mem_cons.mp hv with rfl | hv
      · exact True.intro
      · rw [List.mem_singleton.mp hv]
        exact True.intro
end Mk
/-! the law's parts: what each gets -/
namespace Mk
open PySem PySem.Spec PyProof.Rows L2 He LamX
def MD.deal (M : MD) (W : Wd) : Dl := ⟨M.se, M.by_, M.land, M.m * M.pr, M.t, rateM W.dues M.land M.kind M.d, W.cut⟩
def dueF (W : Wd) (M : MD) (qs : List (Addr × Row)) (how : Str) (part : Int) : FI := nzI (lawDue (M.deal W) how part ((carrierOf qs).getD ""))
def DueS (H : Hp) (W : Wd) (M : MD) (qs : List (Addr × Row)) (v : V) : Prop :=
  (v = .str "record" ∧ (canB (qs.map (·.2)) = false ∨ ∀ p, qs.getLast? = some p → p.2.isEnded = false)) ∨
  (canB (qs.map (·.2)) = true ∧ ∃ (pt : Addr) (pl : Addr × Row) (d' : Int) (how : Str) (part : Int) (back : Bool), v = .ref pt ∧ qs.getLast? = some pl ∧ pl.2 = .ended d' how part back ∧ H pt = some (.dT (toT (dueF W M qs how part))))
theorem DueS.same {H H' : Hp} {W : Wd} {M : MD} {qs : List (Addr × Row)} {v : V} (s : ExtN H H') (h : DueS H W M qs v) : DueS H' W M qs v := by
  rcases h with h | ⟨h1, pt, pl, d', how, part, back, h2, h3, h4, h5⟩
  · exact .inl h
  · exact .inr ⟨h1, pt, pl, d', how, part, back, h2, h3, h4, s _ _ h5 (fun _ z => nomatch z)⟩
theorem DueV.same {H H' : Hp} {W : Wd} {qs : List (Addr × Row)} {v : V} (s : ExtN H H') (h : DueV H W qs v) : DueV H' W qs v := by
  rcases h with h | ⟨h1, pt, pc, pq, d, d', w, h2, h3, h4, h5, h6, h7⟩
  · exact .inl h
  · exact .inr ⟨h1, pt, pc, pq, d, d', w, h2, h3, h4, h5, h6, s _ _ h7 (fun _ z => nomatch z)⟩
theorem rnel_rr {K : PySem.W.Frag} {H : Hp} {Q : VK} {y : Str} (q : Q (.bl false) H) : rNeL K (.str y) (.str y) H Q := rnel_ss (qb q (by rw [decide_eq_true rfl]; rfl))
theorem can_last {qs : List (Addr × Row)} (hc : canB (qs.map (·.2)) = true) : ∃ pl, qs.getLast? = some pl := by
  cases qs with
  | nil => cases hc
  | cons p qs => exact ⟨_, List.getLast?_eq_some_getLast (List.cons_ne_nil p qs)⟩
theorem ended_kind {r : Row} (h : r.isEnded = true) : r.kind = "ended" := by
  cases r with
  | ended a b c d => rfl
  | _ => cases h
theorem okS_tok {z : Str} (h : z = "party" ∨ z = "tax" ∨ z = "fee") : okS z := by
  rcases h with rfl | rfl | rfl
  · exact okS_name (by decide +kernel)
  · exact okS_name (by decide +kernel)
  · exact okS_name (by decide +kernel)
theorem okS_carrier {W : Wd} {M : MD} {qs : List (Addr × Row)} (gd : W.good) (hF : RecF W M qs) : okS ((carrierOf qs).getD "") := by
  cases hc : carrierOf qs with
  | none => exact (show PyData.strOk "" = true by decide +kernel)
  | some z => exact okS_name (gd.c2.1 z (recf_carrier hF z hc).1)
theorem dueF_ok {W : Wd} {M : MD} {qs : List (Addr × Row)} {how : Str} {part : Int} (gd : W.good) (ok : M.ok W) (hF : RecF W M qs) : ∀ k ∈ (dueF W M qs how part).map (·.1), ∀ z ∈ k, okS z := by
  intro k hk z hz
  obtain ⟨p, hp, rfl⟩ := List.mem_map.mp hk
  have hp2 : p ∈ lawDue (M.deal W) how part ((carrierOf qs).getD "") := (List.mem_filter.mp hp).1
  obtain ⟨_, _, _, _, _, _, _, n1, n2, _⟩ := ok.good
  have n3 := gd.l2.1 _ ok.land
  have n4 := okS_carrier gd hF
  have kp : ∀ y : Str, okS y → ∀ z ∈ kP y, okS z := fun y hy z hz => by
    rcases List.mem_cons.mp hz with rfl | hz
    · exact okS_tok (.inl rfl)
    · rw [List.mem_singleton.mp hz]
      exact hy
  unfold lawDue at hp2
  split at hp2
  · rw [List.mem_singleton.mp hp2] at hz
    exact kp _ (okS_name n2) z hz
  · split at hp2
    · rcases List.mem_cons.mp hp2 with rfl | hp2
      · exact kp _ (okS_name n2) z hz
      rcases List.mem_cons.mp hp2 with rfl | hp2
      · exact kp _ (okS_name n1) z hz
      rw [List.mem_singleton.mp hp2] at hz
      exact kp _ n4 z hz
    · rcases List.mem_cons.mp hp2 with rfl | hp2
      · exact kp _ (okS_name n2) z hz
      rcases List.mem_cons.mp hp2 with rfl | hp2
      · exact kp _ (okS_name n1) z hz
      rcases List.mem_cons.mp hp2 with rfl | hp2
      · rcases List.mem_cons.mp hz with rfl | hz
        · exact okS_tok (.inr (.inl rfl))
        · rw [List.mem_singleton.mp hz]
          exact okS_name n3
      rw [List.mem_singleton.mp hp2] at hz
      rw [List.mem_singleton.mp hz]
      exact okS_tok (.inr (.inr rfl))
theorem shares_eq {W : Wd} {M : MD} {qs : List (Addr × Row)} (ok : M.ok W) (hF : RecF W M qs) (hc : canB (qs.map (·.2)) = true) {pl : Addr × Row} {d' : Int} {how : Str} {part : Int} {back : Bool} (hl : qs.getLast? = some pl) (el : pl.2 = .ended d' how part back) :
    sharesM (M.deal W) how part (carrierOf qs) = dueF W M qs how part := by
  obtain ⟨_, _, _, _, _, _, _, _, _, _, hbs, _⟩ := ok.good
  have g := (hF pl (List.mem_of_getLast? hl)).1
  rw [el] at g
  obtain ⟨_, _, _, _, he⟩ := g
  refine shares_due (fun z => hbs z.symm) (fun z hz => (recf_carrier hF z hz).2) ?_ ok.tax
  rcases he with rfl | ⟨rfl, _, _⟩ | ⟨rfl, _, _⟩ | ⟨rfl, h, _⟩
  · exact .inr (.inr (.inr rfl))
  · exact .inl rfl
  · obtain ⟨_, _, z, _, _, _, h⟩ := can_lost hc hl el
    exact .inr (.inl ⟨rfl, by rw [h]; exact fun e => by cases e⟩)
  · exact .inr (.inr (.inl ⟨rfl, h⟩))
local macro_rules | `(tactic| walk_at "rdu3") => `(tactic| dsimp only [tSeq, tNext, tRet, tRetN, tAsg, tDrop, tIfS, tOr, tAnd, tNot, tB, tTest, tCB, tCons, tNil, tVar, tC, tOp, tUn, tOrV, tAndV, tNotV, tIf, tChain, tCall, tTup, tLst, gName, L2.start, dl_map, dl_map0, dl_app, dl_app0, List.length_cons, List.length_nil, List.replicate, List.set, Nat.reduceAdd, Nat.reduceSub, tLc_eq, tFor_eq, sck_eq, dct_eq, tPar, gCons, gNil, iList, iTup, iRng1, iStr, wipe, tYes, tSl, tPart, tNoPart, tFld, tMeth, tMake, tFldK, sFldK, tDGetK, tDInK, tDNotInK, iItemsK, tLV, tLockE, tLock, tMakeK,  tDNewK, tPairs, tBM, tDispTK, iItemsTK, sDPutK, sDAugK])
local macro_rules | `(tactic| walk_at "lk3") => `(tactic| first | assumption | (with_reducible exact upd_same) | ((with_reducible apply keep); rotate_left; (focus assumption); walk_at "lk3") | ((with_reducible apply kp); (focus assumption); walk_at "lk3") | ((with_reducible apply keepI); rotate_left; (focus (walk_at "lk3")); (focus (intro _ _ _ e; cases e)); walk_at "lk3"))
local macro_rules | `(tactic| walk_at "lq3") => `(tactic| first | assumption | exact .inl (SqL.of (by walk_at "lk3")) | exact .inr (SqT.of (by walk_at "lk3")) | (refine sq2_same (grow (by assumption)) ?_; walk_at "lq3") | (refine sq2_same (by assumption) ?_; walk_at "lq3"))
local macro_rules | `(tactic| walk_at "sm3") => `(tactic| first | exact Same.refl _ | assumption | (refine same_upd2 ?_ (by assumption); walk_at "sm3") | (refine same_upd ?_ (by assumption); walk_at "sm3") | (refine Same.trans ?_ (by assumption); walk_at "sm3"))
local macro_rules | `(tactic| walk_at "rd13") => `(tactic| first
  | ((with_reducible apply rfld_t); (focus (walk_at "lk3")); (focus assumption); (focus assumption); (focus with_unfolding_all rfl))
  | ((with_reducible apply rsetf_t); (focus (walk_at "lk3")); (focus assumption); (focus assumption); (focus with_unfolding_all rfl); (focus (simp; done)); walk_at "rdu3")
  | ((with_reducible apply rlend_t); (focus (walk_at "lk3")))
  | ((with_reducible apply rlist_l); (focus (walk_at "lk3")); intro _ _)
  | ((with_reducible apply rdict_d); (focus (walk_at "lk3")); intro _ _)
  | ((with_reducible apply rdg_t); (focus (walk_at "lk3")); (focus first | assumption | with_unfolding_all rfl))
  | ((with_reducible apply rdi_some); (focus (walk_at "lk3")); (focus assumption))
  | ((with_reducible apply rdn_some); (focus (walk_at "lk3")); (focus assumption))
  | ((with_reducible apply rdi_t); (focus (walk_at "lk3")))
  | ((with_reducible apply rdn_t); (focus (walk_at "lk3")))
  | ((with_reducible apply rcat_t); (focus (walk_at "lk3")); (focus (walk_at "lk3")); (focus first | (refine line_ge ?_; simp; done) | (refine line_ge ?_; simp; omega)); intro _ _; walk_at "rdu3")
  | ((with_reducible apply rmeth_t); (focus (walk_at "lk3")); (focus with_unfolding_all rfl))
  | ((with_reducible apply rlv_t); (focus (walk_at "lk3")); intro _ _)
  | ((with_reducible apply rpow18))
  | ((with_reducible apply rng_t); (focus omega); (focus omega))
  | ((with_reducible apply tyl); (focus (walk_at "lk3")))
  | ((with_reducible apply rapp_t); (focus (walk_at "lk3")); (focus first | (refine Nat.lt_of_lt_of_le ?_ (line_ge (Nat.le_refl 16777216)); simp; omega) | (rw [sizeLine_eq]; simp; omega) | (rw [sizeLine_eq]; omega)); walk_at "rdu3")
  | ((with_reducible apply req_ss))
  | ((with_reducible apply req_ii))
  | ((with_reducible apply req_bb))
  | ((with_reducible apply rne_ss))
  | ((with_reducible apply rne_ii))
  | ((with_reducible apply cm_l); (focus omega); (focus omega))
  | ((with_reducible apply cm_r); (focus omega); (focus omega))
  | ((with_reducible apply cd_i); (focus omega); (focus omega))
  | ((with_reducible apply md_i); (focus omega))
  | ((with_reducible apply part1))
  | ((with_reducible apply num2))
  | ((with_reducible apply num3))
  | ((with_reducible apply name1); (focus first | assumption | decide +kernel); intro _ _)
  | ((with_reducible apply one_m); (focus (walk_at "lq3")))
  | ((with_reducible apply one_s); (focus (walk_at "lq3")); (focus with_unfolding_all rfl))
  | refine ⟨_, rfl, ?_⟩
  | refine ⟨_, _, rfl, rfl, ?_⟩
  | ((with_reducible apply gcons_t))
  | ((with_reducible apply gpar_t))
  | ((with_reducible apply gpar3_t))
  | refine ⟨rfl, ?_⟩
  | ((with_reducible apply iteT))
  | ((with_reducible apply iteF))
  | ((with_reducible apply ri_ii))
  | ((with_reducible apply ri_ib))
  | ((with_reducible apply ri_ss))
  | ((with_reducible apply ri_bb))
  | ((with_reducible apply ri_tt); (focus (walk_at "lk3")))
  | ((with_reducible apply ri_ll); (focus (walk_at "lk3")))
  | ((with_reducible apply ri_dd); (focus (walk_at "lk3")))
  | ((with_reducible apply rt_l); (focus (walk_at "lk3")); (focus (walk_at "lk3")))
  | ((with_reducible apply rt_t); (focus (walk_at "lk3")); (focus (walk_at "lk3")))
  | ((with_reducible apply rix_t); (focus (walk_at "lk3")); (focus with_unfolding_all rfl))
  | ((with_reducible apply rix_l); (focus (walk_at "lk3")); (focus with_unfolding_all rfl))
  | ((with_reducible apply rlen_t); (focus (walk_at "lk3")); (focus first | (simp only [List.length_cons, List.length_nil]; done) | (simp only [List.length_cons, List.length_nil]; with_unfolding_all rfl) | with_unfolding_all rfl))
  | ((with_reducible apply rlen_l); (focus (walk_at "lk3")); (focus first | (simp only [List.length_cons, List.length_nil]; done) | (simp only [List.length_cons, List.length_nil]; with_unfolding_all rfl) | with_unfolding_all rfl))
  | ((with_reducible apply rin_t); (focus (walk_at "lk3")); (focus with_unfolding_all rfl))
  | ((with_reducible apply rnin_t); (focus (walk_at "lk3")); (focus with_unfolding_all rfl))
  | ((with_reducible apply rsl_t); (focus (walk_at "lk3")); (focus with_unfolding_all rfl); (focus first | (simp [cutV, HT.sIx]; done) | (simp [cutV, HT.sIx]; rfl)); intro _ _)
  | ((with_reducible apply rin_l); (focus (walk_at "lk3")))
  | ((with_reducible apply rnin_l); (focus (walk_at "lk3")))
  | ((with_reducible apply gtup_t); (focus (walk_at "lk3")); (focus with_unfolding_all rfl); walk_at "rdu3")
  | ((with_reducible apply alc); (focus decide); intro _ _)
  | ((with_reducible apply itenT))
  | ((with_reducible apply itenF))
  | ((with_reducible apply ited_sT); (focus first | rfl | assumption))
  | ((with_reducible apply ited_sF); (focus first | assumption | decide +kernel))
  | ((with_reducible apply itedn_sT); (focus first | assumption | decide +kernel))
  | ((with_reducible apply itedn_sF); (focus first | rfl | assumption))
  | ((with_reducible apply ited_mT); (focus first | assumption | decide +kernel))
  | ((with_reducible apply ited_mF); (focus first | assumption | decide +kernel))
  | ((with_reducible apply itedn_mT); (focus first | assumption | decide +kernel))
  | ((with_reducible apply itedn_mF); (focus first | assumption | decide +kernel))
  | ((with_reducible apply ited_s) <;> intro _)
  | ((with_reducible apply itedn_s) <;> intro _)
  | ((with_reducible apply ited_m) <;> intro _)
  | ((with_reducible apply itedn_m) <;> intro _)
  | ((with_reducible apply itedT); (focus first | assumption | omega))
  | ((with_reducible apply itedF); (focus first | assumption | omega))
  | ((with_reducible apply itednF); (focus first | assumption | omega))
  | ((with_reducible apply itednT); (focus first | assumption | omega))
  | ((with_reducible apply ited) <;> intro _)
  | ((with_reducible apply itedn) <;> intro _)
  | ((with_reducible apply itebn) <;> intro _)
  | ((with_reducible apply iteb) <;> intro _)
  | walk_at "rdu3"
  | contradiction)
local macro_rules | `(tactic| walk_at "rd3") => `(tactic| (try walk_at "rdu3"); repeat' walk_at "rd13")
theorem due_s {K : PySem.W.Frag} {a x l : Addr} {H : Hp} {D : Ends} {W : Wd} {M : MD} {qs : List (Addr × Row)} {x0 x1 x2 x5 x6 x7 x10 x11 x12 x13 : Option V} (gd : W.good) (ok : M.ok W) (hp : PartsL H a W) (hw : WorldAt K H x W) (hr : RowsP H l qs) (hF : RecF W M qs) (n : qs.length ≤ 1000)
    (k : ∀ (H' : Hp) (v : V), Same H H' → DueS H' W M qs v → D.nx [x0, x1, x2, some (.ref a), some (.ref x), x5, x6, x7, some (.ref l), some (.bl (canB (qs.map (·.2)))), some v, x11, x12, x13] H') :
    (tAsg (tIf (tAnd (tB (tVar 9)) (tTest (tOp rEq (tOp (rIxT K) (tOp (rIxL K) (tVar 8) (tUn (rU fun i => V.int (-i)) (tC (V.int 1)))) (tC (V.int 0))) (tC (V.str (Str.ofString "ended")))))) (tCall (spLDue K) [] E0 (tCons (tVar 3) (tCons (tVar 4) (tCons (tVar 8) tNil)))) (tC (V.str (Str.ofString "record")))) (gName 10)) D
      [x0, x1, x2, some (.ref a), some (.ref x), x5, x6, x7, some (.ref l), some (.bl (canB (qs.map (·.2)))), x10, x11, x12, x13] H := by
  cases hc : canB (qs.map (·.2)) with
  | false =>
    rw [hc] at k
    walk_at "rd3"
    exact k H _ (Same.refl _) (.inl ⟨rfl, .inl hc⟩)
  | true =>
    rw [hc] at k
    obtain ⟨pl, hl⟩ := can_last hc
    walk_at "rd3"
    refine rix_row hr (atI_last hl) ?_
    refine rix_kind (hr.2 _ (List.mem_of_getLast? hl)) ?_
    walk_at "rd3"
    · rename_i e
      obtain ⟨d', how, part, back, el⟩ := kind_ended e
      obtain ⟨p0, i0, e0⟩ := recf_first hF hc
      have hb := okMade_M ok gd
      have hb2 : 0 ≤ M.t ∧ M.t ≤ M.m * M.pr * 5000 / 10000 := of_decide_eq_true hb
      obtain ⟨_, _, _, _, _, _, _, _, _, _, _, b1, b2, b3, b4⟩ := ok.good
      have hm2 : M.m * M.pr ≤ 99 * 9999 := Int.mul_le_mul b2 b4 (by omega) (by omega)
      refine ⟨a, x, l, qs, W, p0, pl, M.d, M.sl, M.bu, M.se, M.by_, M.wr, M.m, M.pr, M.t, M.land, M.kind, d', how, part, back, (carrierOf qs).getD "", rfl, hp, hw, gd, hr, recf_good hF, n, i0, e0, hb2.1, by omega, ok.by_, ok.land, ok.wr, ok.kind, hl, el, fun eh => ?_, fun p H' s hp' => k H' _ s (.inr ⟨hc, p, pl, d', how, part, back, rfl, hl, el, hp'⟩)⟩
      rw [eh] at el
      obtain ⟨p1, d1, z, a1, i1, e1, ec⟩ := can_lost hc hl el
      obtain ⟨_, z1, z2⟩ := recf_carrier hF z ec
      rw [ec]
      exact ⟨⟨z1, z2⟩, p1, d1, a1, i1, e1⟩
    · rename_i e
      refine k H _ (Same.refl _) (.inl ⟨rfl, .inr fun p hp' => ?_⟩)
      rw [hl] at hp'
      cases hp'
      cases he : pl.2.isEnded with
      | false => rfl
      | true => exact absurd (ended_kind he) e
theorem recf_hmade {W : Wd} {M : MD} {qs : List (Addr × Row)} (ok : M.ok W) (hF : RecF W M qs) : ∀ p ∈ qs, ∀ d sl bu se by_ wr m pr t, p.2 = .made d sl bu se by_ wr m pr t → (lookS W.parties se).isSome = true ∧ ∃ land kind, lookS W.parties by_ = some land ∧ lookS W.wares wr = some kind := by
  intro p hp d sl bu se by_ wr m pr t e
  have g := (hF p hp).2.1 (by rw [e]; rfl)
  rw [e] at g
  unfold MD.row at g
  injection g with i1 i2 i3 i4 i5 i6 i7 i8 i9
  subst i4 i5 i6
  exact ⟨ok.se, M.land, M.kind, ok.by_, ok.wr⟩
theorem told_s {K : PySem.W.Frag} {tb : List (Addr × Str)} {x l : Addr} {H : Hp} {R : VK} {W : Wd} {M : MD} {qs : List (Addr × Row)} {x0 x1 x2 x3 x5 x6 x7 x9 x10 x11 x12 x13 : Option V} (gd : W.good) (ok : M.ok W) (hw : WorldAt K H x W) (hr : RowsP H l qs) (hF : RecF W M qs) (n : qs.length ≤ 1000) (hT : Tabs tb H)
    (k : ∀ (H' : Hp) (v : V), ExtN H H' → Tabs tb H' → DueS H' W M qs v → R v H') :
    tLam tb (TTm K) (fun E => tCall (spShares K) [] E (tCons (tVar 8) (tCons (tVar 4) tNil)))
      [x0, x1, x2, x3, some (.ref x), x5, x6, x7, some (.ref l), x9, x10, x11, x12, x13] H R := by
  refine ⟨hT, fun H1 eN hT1 => ?_⟩
  unfold TTm
  have hr1 := rowsP_ext eN hr
  have hw1 := worldAt_ext eN hw
  have hb : recOk qs = canB (qs.map (·.2)) := recf_canB hF ok gd
  walk_at "rd3"
  refine ⟨l, x, qs, W, rfl, hr1, recf_good hF, n, recf_snd hF, hw1, gd, recf_hmade ok hF, fun e H' s => ⟨rfl, rfl, k H' _ (eN.trans (extN_same s)) (hT1.ext s) (.inl ⟨rfl, ?_⟩)⟩, fun e p0 pl d sl bu se by_ wr m pr t land kind d' how part back i0 e0 v1 v3 et hl el hs p H' s hp' => ?_⟩
  · rw [hb] at e
    rcases e with e | e | e | ⟨p, i0, e⟩
    · exact .inl e
    · exact .inr e
    · exact absurd (recf_sentIn hF) e
    · cases hc : canB (qs.map (·.2)) with
      | false => exact .inl rfl
      | true =>
        obtain ⟨p0, i0', e0⟩ := recf_first hF hc
        rw [i0] at i0'
        cases i0'
        exact absurd ok.tax (e _ _ _ _ _ _ _ _ _ _ _ e0 ok.by_ ok.wr)
  · rw [hb] at e
    obtain ⟨p0', i0', e0'⟩ := recf_first hF e
    rw [i0] at i0'
    cases i0'
    rw [e0] at e0'
    unfold MD.row at e0'
    injection e0' with i1 i2 i3 i4 i5 i6 i7 i8 i9
    subst i1 i2 i3 i4 i5 i6 i7 i8 i9
    rw [ok.by_] at v1
    cases v1
    rw [ok.wr] at v3
    cases v3
    refine k H' _ (eN.trans (extN_same s)) (hT1.ext s) (.inr ⟨e, p, pl, d', how, part, back, rfl, hl, el, ?_⟩)
    rw [← shares_eq ok hF e hl el]
    exact hp'
theorem cmp_s {K : PySem.W.Frag} {H : Hp} {D : Ends} {W : Wd} {M : MD} {qs : List (Addr × Row)} {u v : V} {x0 x1 x2 x3 x4 x5 x6 x7 x8 x9 x11 x13 : Option V} (gd : W.good) (ok : M.ok W) (hF : RecF W M qs) (hu : DueS H W M qs u) (hv : DueS H W M qs v)
    (k : ∀ H' : Hp, Same H H' → D.nx [x0, x1, x2, x3, x4, x5, x6, x7, x8, x9, some v, x11, some u, x13] H') :
    (tIfS (tOr (tTest (tOp (rNeL K) (tVar 12) (tVar 10))) (tAnd (tB (tCB (rIsi K) (tCons (tVar 12) (tCons (tC (V.ty "dict")) tNil)))) (tTest (tOp (rNeD K) (tCB rListT (tCons (tVar 12) tNil)) (tCB rListT (tCons (tVar 10) tNil)))))) (tRet (tC (V.bl false))) tNext) D
      [x0, x1, x2, x3, x4, x5, x6, x7, x8, x9, some v, x11, some u, x13] H := by
  rcases hu with ⟨rfl, c1⟩ | ⟨c1, pt, pl, d', how, part, back, rfl, hl, el, t1⟩
  · rcases hv with ⟨rfl, c2⟩ | ⟨c2, pt, pl, d', how, part, back, rfl, hl, el, t1⟩
    · walk_at "rd3"
      refine rnel_rr ?_
      walk_at "rd3"
      refine ri_sd ?_
      walk_at "rd3"
      exact k H (Same.refl _)
    · rcases c1 with c1 | c1
      · rw [c1] at c2
        cases c2
      · have := c1 pl hl
        rw [el] at this
        cases this
  · rcases hv with ⟨rfl, c2⟩ | ⟨c2, pt', pl', d2, how', part', back', rfl, hl', el', t1'⟩
    · rcases c2 with c2 | c2
      · rw [c1] at c2
        cases c2
      · have := c2 pl hl
        rw [el] at this
        cases this
    · rw [hl] at hl'
      cases hl'
      rw [el] at el'
      cases el'
      have hk := dueF_ok (how := how) (part := part) gd ok hF
      generalize dueF W M qs how part = F at t1 t1' hk
      walk_at "rd3"
      refine rnel_dd t1 t1' ?_
      walk_at "rd3"
      refine ri_dT t1 ?_
      walk_at "rd3"
      refine rlistt t1 fun p1 bs1 H1 s1 hp1 hb1 => ?_
      walk_at "rd3"
      refine rlistt (s1 _ _ t1') fun p2 bs2 H2 s2 hp2 hb2 => ?_
      refine rne_keys (s2 _ _ hp1) hp2 (atT_same s2 hb1) hb2 hk ?_
      walk_at "rd3"
      exact k H2 (s1.trans s2)
end Mk
/-! the law's parts: one bent list, whole -/
namespace Mk
open PySem PySem.Spec PyProof.Rows L2 He LamX
local macro_rules | `(tactic| walk_at "rdu3") => `(tactic| dsimp only [tSeq, tNext, tRet, tRetN, tAsg, tDrop, tIfS, tOr, tAnd, tNot, tB, tTest, tCB, tCons, tNil, tVar, tC, tOp, tUn, tOrV, tAndV, tNotV, tIf, tChain, tCall, tTup, tLst, gName, L2.start, dl_map, dl_map0, dl_app, dl_app0, List.length_cons, List.length_nil, List.replicate, List.set, Nat.reduceAdd, Nat.reduceSub, tLc_eq, tFor_eq, sck_eq, dct_eq, tPar, gCons, gNil, iList, iTup, iRng1, iStr, wipe, tYes, tSl, tPart, tNoPart, tFld, tMeth, tMake, tFldK, sFldK, tDGetK, tDInK, tDNotInK, iItemsK, tLV, tLockE, tLock, tMakeK,  tDNewK, tPairs, tBM, tDispTK, iItemsTK, sDPutK, sDAugK])
local macro_rules | `(tactic| walk_at "lk3") => `(tactic| first | assumption | (with_reducible exact upd_same) | ((with_reducible apply keep); rotate_left; (focus assumption); walk_at "lk3") | ((with_reducible apply kp); (focus assumption); walk_at "lk3") | ((with_reducible apply keepI); rotate_left; (focus (walk_at "lk3")); (focus (intro _ _ _ e; cases e)); walk_at "lk3"))
local macro_rules | `(tactic| walk_at "lq3") => `(tactic| first | assumption | exact .inl (SqL.of (by walk_at "lk3")) | exact .inr (SqT.of (by walk_at "lk3")) | (refine sq2_same (grow (by assumption)) ?_; walk_at "lq3") | (refine sq2_same (by assumption) ?_; walk_at "lq3"))
local macro_rules | `(tactic| walk_at "sm3") => `(tactic| first | exact Same.refl _ | assumption | (refine same_upd2 ?_ (by assumption); walk_at "sm3") | (refine same_upd ?_ (by assumption); walk_at "sm3") | (refine Same.trans ?_ (by assumption); walk_at "sm3"))
local macro_rules | `(tactic| walk_at "rd13") => `(tactic| first
  | ((with_reducible apply rfld_t); (focus (walk_at "lk3")); (focus assumption); (focus assumption); (focus with_unfolding_all rfl))
  | ((with_reducible apply rsetf_t); (focus (walk_at "lk3")); (focus assumption); (focus assumption); (focus with_unfolding_all rfl); (focus (simp; done)); walk_at "rdu3")
  | ((with_reducible apply rlend_t); (focus (walk_at "lk3")))
  | ((with_reducible apply rlist_l); (focus (walk_at "lk3")); intro _ _)
  | ((with_reducible apply rdict_d); (focus (walk_at "lk3")); intro _ _)
  | ((with_reducible apply rdg_t); (focus (walk_at "lk3")); (focus first | assumption | with_unfolding_all rfl))
  | ((with_reducible apply rdi_some); (focus (walk_at "lk3")); (focus assumption))
  | ((with_reducible apply rdn_some); (focus (walk_at "lk3")); (focus assumption))
  | ((with_reducible apply rdi_t); (focus (walk_at "lk3")))
  | ((with_reducible apply rdn_t); (focus (walk_at "lk3")))
  | ((with_reducible apply rcat_t); (focus (walk_at "lk3")); (focus (walk_at "lk3")); (focus first | (refine line_ge ?_; simp; done) | (refine line_ge ?_; simp; omega)); intro _ _; walk_at "rdu3")
  | ((with_reducible apply rmeth_t); (focus (walk_at "lk3")); (focus with_unfolding_all rfl))
  | ((with_reducible apply rlv_t); (focus (walk_at "lk3")); intro _ _)
  | ((with_reducible apply rpow18))
  | ((with_reducible apply rng_t); (focus omega); (focus omega))
  | ((with_reducible apply tyl); (focus (walk_at "lk3")))
  | ((with_reducible apply rapp_t); (focus (walk_at "lk3")); (focus first | (refine Nat.lt_of_lt_of_le ?_ (line_ge (Nat.le_refl 16777216)); simp; omega) | (rw [sizeLine_eq]; simp; omega) | (rw [sizeLine_eq]; omega)); walk_at "rdu3")
  | ((with_reducible apply req_ss))
  | ((with_reducible apply req_ii))
  | ((with_reducible apply req_bb))
  | ((with_reducible apply rne_ss))
  | ((with_reducible apply rne_ii))
  | ((with_reducible apply cm_l); (focus omega); (focus omega))
  | ((with_reducible apply cm_r); (focus omega); (focus omega))
  | ((with_reducible apply cd_i); (focus omega); (focus omega))
  | ((with_reducible apply md_i); (focus omega))
  | ((with_reducible apply part1))
  | ((with_reducible apply num2))
  | ((with_reducible apply num3))
  | ((with_reducible apply name1); (focus first | assumption | decide +kernel); intro _ _)
  | ((with_reducible apply one_m); (focus (walk_at "lq3")))
  | ((with_reducible apply one_s); (focus (walk_at "lq3")); (focus with_unfolding_all rfl))
  | refine ⟨_, rfl, ?_⟩
  | refine ⟨_, _, rfl, rfl, ?_⟩
  | ((with_reducible apply gcons_t))
  | ((with_reducible apply gpar_t))
  | ((with_reducible apply gpar3_t))
  | refine ⟨rfl, ?_⟩
  | ((with_reducible apply iteT))
  | ((with_reducible apply iteF))
  | ((with_reducible apply ri_ii))
  | ((with_reducible apply ri_ib))
  | ((with_reducible apply ri_ss))
  | ((with_reducible apply ri_bb))
  | ((with_reducible apply ri_tt); (focus (walk_at "lk3")))
  | ((with_reducible apply ri_ll); (focus (walk_at "lk3")))
  | ((with_reducible apply ri_dd); (focus (walk_at "lk3")))
  | ((with_reducible apply rt_l); (focus (walk_at "lk3")); (focus (walk_at "lk3")))
  | ((with_reducible apply rt_t); (focus (walk_at "lk3")); (focus (walk_at "lk3")))
  | ((with_reducible apply rix_t); (focus (walk_at "lk3")); (focus with_unfolding_all rfl))
  | ((with_reducible apply rix_l); (focus (walk_at "lk3")); (focus with_unfolding_all rfl))
  | ((with_reducible apply rlen_t); (focus (walk_at "lk3")); (focus first | (simp only [List.length_cons, List.length_nil]; done) | (simp only [List.length_cons, List.length_nil]; with_unfolding_all rfl) | with_unfolding_all rfl))
  | ((with_reducible apply rlen_l); (focus (walk_at "lk3")); (focus first | (simp only [List.length_cons, List.length_nil]; done) | (simp only [List.length_cons, List.length_nil]; with_unfolding_all rfl) | with_unfolding_all rfl))
  | ((with_reducible apply rin_t); (focus (walk_at "lk3")); (focus with_unfolding_all rfl))
  | ((with_reducible apply rnin_t); (focus (walk_at "lk3")); (focus with_unfolding_all rfl))
  | ((with_reducible apply rsl_t); (focus (walk_at "lk3")); (focus with_unfolding_all rfl); (focus first | (simp [cutV, HT.sIx]; done) | (simp [cutV, HT.sIx]; rfl)); intro _ _)
  | ((with_reducible apply rin_l); (focus (walk_at "lk3")))
  | ((with_reducible apply rnin_l); (focus (walk_at "lk3")))
  | ((with_reducible apply gtup_t); (focus (walk_at "lk3")); (focus with_unfolding_all rfl); walk_at "rdu3")
  | ((with_reducible apply alc); (focus decide); intro _ _)
  | ((with_reducible apply itenT))
  | ((with_reducible apply itenF))
  | ((with_reducible apply ited_sT); (focus first | rfl | assumption))
  | ((with_reducible apply ited_sF); (focus first | assumption | decide +kernel))
  | ((with_reducible apply itedn_sT); (focus first | assumption | decide +kernel))
  | ((with_reducible apply itedn_sF); (focus first | rfl | assumption))
  | ((with_reducible apply ited_mT); (focus first | assumption | decide +kernel))
  | ((with_reducible apply ited_mF); (focus first | assumption | decide +kernel))
  | ((with_reducible apply itedn_mT); (focus first | assumption | decide +kernel))
  | ((with_reducible apply itedn_mF); (focus first | assumption | decide +kernel))
  | ((with_reducible apply ited_s) <;> intro _)
  | ((with_reducible apply itedn_s) <;> intro _)
  | ((with_reducible apply ited_m) <;> intro _)
  | ((with_reducible apply itedn_m) <;> intro _)
  | ((with_reducible apply itedT); (focus first | assumption | omega))
  | ((with_reducible apply itedF); (focus first | assumption | omega))
  | ((with_reducible apply itednF); (focus first | assumption | omega))
  | ((with_reducible apply itednT); (focus first | assumption | omega))
  | ((with_reducible apply ited) <;> intro _)
  | ((with_reducible apply itedn) <;> intro _)
  | ((with_reducible apply itebn) <;> intro _)
  | ((with_reducible apply iteb) <;> intro _)
  | walk_at "rdu3"
  | contradiction)
local macro_rules | `(tactic| walk_at "rd3") => `(tactic| (try walk_at "rdu3"); repeat' walk_at "rd13")
theorem can_s {l : Addr} {H : Hp} {D : Ends} {W : Wd} {M : MD} {qs : List (Addr × Row)} {x0 x1 x2 x3 x4 x5 x6 x7 x9 x10 x11 x12 x13 : Option V} (hr : RowsP H l qs) (hF : RecF W M qs) (n : qs.length ≤ 1000)
    (k : ∀ H' : Hp, Same H H' → D.nx [x0, x1, x2, x3, x4, x5, x6, x7, some (.ref l), some (.bl (canB (qs.map (·.2)))), x10, x11, x12, x13] H') :
    (tAsg (tCall spCanBe [] E0 (tCons (tVar 8) tNil)) (gName 9)) D [x0, x1, x2, x3, x4, x5, x6, x7, some (.ref l), x9, x10, x11, x12, x13] H := by
  walk_at "rd3"
  exact ⟨l, qs, rfl, hr, recf_good hF, n, fun H1 s1 => k H1 s1⟩
theorem told_if {K : PySem.W.Frag} {tb : List (Addr × Str)} {a l : Addr} {H : Hp} {D : Ends} {W : Wd} {M : MD} {qs : List (Addr × Row)} {v : V} {x0 x1 x2 x4 x5 x6 x7 x9 x11 x12 x13 : Option V} (gd : W.good) (ok : M.ok W) (hp : PartsL H a W) (hr : RowsP H l qs) (hF : RecF W M qs) (n : qs.length ≤ 1000) (hT : Tabs tb H) (hv : DueV H W qs v)
    (k : ∀ H' : Hp, ExtN H H' → Tabs tb H' → D.nx [x0, x1, x2, some (.ref a), x4, x5, x6, x7, some (.ref l), x9, some v, x11, x12, x13] H') :
    (tIfS (tTest (tOp (rNeL K) (tLam tb (TTm K) (fun E => tCall (spJudged K) [] E (tCons (tVar 8) (tCons (tCB (rTupOf K) (tCons (tOp (rIxL K) (tVar 3) (tC (V.int 5))) tNil)) tNil)))) (tVar 10))) (tRet (tC (V.bl false))) tNext) D
      [x0, x1, x2, some (.ref a), x4, x5, x6, x7, some (.ref l), x9, some v, x11, x12, x13] H := by
  refine told_v gd ok hp hr hF n hT fun H' u eN hT' hu => ?_
  refine ⟨v, rfl, ne_v hu (hv.same eN) ⟨false, rfl, ?_⟩⟩
  exact k H' eN hT'
theorem told_a {K : PySem.W.Frag} {tb : List (Addr × Str)} {x l : Addr} {H : Hp} {D : Ends} {W : Wd} {M : MD} {qs : List (Addr × Row)} {x0 x1 x2 x3 x5 x6 x7 x9 x10 x11 x12 x13 : Option V} (gd : W.good) (ok : M.ok W) (hw : WorldAt K H x W) (hr : RowsP H l qs) (hF : RecF W M qs) (n : qs.length ≤ 1000) (hT : Tabs tb H)
    (k : ∀ (H' : Hp) (u : V), ExtN H H' → Tabs tb H' → DueS H' W M qs u → D.nx [x0, x1, x2, x3, some (.ref x), x5, x6, x7, some (.ref l), x9, x10, x11, some u, x13] H') :
    (tAsg (tLam tb (TTm K) (fun E => tCall (spShares K) [] E (tCons (tVar 8) (tCons (tVar 4) tNil)))) (gName 12)) D
      [x0, x1, x2, x3, some (.ref x), x5, x6, x7, some (.ref l), x9, x10, x11, x12, x13] H :=
  told_s gd ok hw hr hF n hT fun H' u eN hT' hu => k H' u eN hT' hu
theorem bent_ok {K : PySem.W.Frag} {tb : List (Addr × Str)} {a x l : Addr} {H : Hp} {D : Ends} {W : Wd} {M : MD} {qs : List (Addr × Row)} {x0 x1 x2 x5 x6 x7 x9 x10 x11 x12 x13 : Option V} (gd : W.good) (ok : M.ok W) (hp : PartsL H a W) (hw : WorldAt K H x W) (hr : RowsP H l qs) (hF : RecF W M qs) (n : qs.length ≤ 1000) (hT : Tabs tb H)
    (k : ∀ (H' : Hp) (z9 z10 z11 z12 : Option V), ExtN H H' → Tabs tb H' → D.nx [x0, x1, x2, some (.ref a), some (.ref x), x5, x6, x7, some (.ref l), z9, z10, z11, z12, x13] H') :
    (tSeq (tAsg (tCall spCanBe [] E0 (tCons (tVar 8) tNil)) (gName 9))
      (tSeq (tAsg (tIf (tAnd (tB (tVar 9)) (tTest (tOp (rIn K false) (tC (V.str (Str.ofString "complained"))) (tLc (iList K (tVar 8)) (gName 11) tYes (tOp (rIxT K) (tVar 11) (tC (V.int 0))) [11])))) (tCall spLVerd [] E0 (tCons (tOp (rIxL K) (tVar 3) (tC (V.int 5))) (tCons (tVar 8) tNil))) (tC (V.str (Str.ofString "record")))) (gName 10))
        (tSeq (tIfS (tTest (tOp (rNeL K) (tLam tb (TTm K) (fun E => tCall (spJudged K) [] E (tCons (tVar 8) (tCons (tCB (rTupOf K) (tCons (tOp (rIxL K) (tVar 3) (tC (V.int 5))) tNil)) tNil)))) (tVar 10))) (tRet (tC (V.bl false))) tNext)
          (tSeq (tAsg (tIf (tAnd (tB (tVar 9)) (tTest (tOp rEq (tOp (rIxT K) (tOp (rIxL K) (tVar 8) (tUn (rU fun i => V.int (-i)) (tC (V.int 1)))) (tC (V.int 0))) (tC (V.str (Str.ofString "ended")))))) (tCall (spLDue K) [] E0 (tCons (tVar 3) (tCons (tVar 4) (tCons (tVar 8) tNil)))) (tC (V.str (Str.ofString "record")))) (gName 10))
            (tSeq (tAsg (tLam tb (TTm K) (fun E => tCall (spShares K) [] E (tCons (tVar 8) (tCons (tVar 4) tNil)))) (gName 12))
              (tIfS (tOr (tTest (tOp (rNeL K) (tVar 12) (tVar 10))) (tAnd (tB (tCB (rIsi K) (tCons (tVar 12) (tCons (tC (V.ty "dict")) tNil)))) (tTest (tOp (rNeD K) (tCB rListT (tCons (tVar 12) tNil)) (tCB rListT (tCons (tVar 10) tNil)))))) (tRet (tC (V.bl false))) tNext)))))) D
      [x0, x1, x2, some (.ref a), some (.ref x), x5, x6, x7, some (.ref l), x9, x10, x11, x12, x13] H := by
  refine seq_i (can_s hr hF n fun H1 s1 => ?_)
  have hT1 := hT.ext s1
  have e1 := extN_same s1
  refine seq_i (due_v gd (hp.same s1) (hr.same s1) hF n fun H2 v s2 hv => ?_)
  have hT2 := hT1.ext s2
  have e2 := e1.trans (extN_same s2)
  refine seq_i (told_if gd ok (partsL_ext e2 hp) (rowsP_ext e2 hr) hF n hT2 hv fun H3 e3 hT3 => ?_)
  have e4 := e2.trans e3
  refine seq_i (due_s gd ok (partsL_ext e4 hp) (worldAt_ext e4 hw) (rowsP_ext e4 hr) hF n fun H4 v2 s4 hv2 => ?_)
  have hT4 := hT3.ext s4
  have e5 := e4.trans (extN_same s4)
  refine seq_i (told_a gd ok (worldAt_ext e5 hw) (rowsP_ext e5 hr) hF n hT4 fun H5 u e6 hT5 hu => ?_)
  refine cmp_s gd ok hF hu (hv2.same e6) fun H6 s6 => ?_
  exact k H6 _ _ _ _ ((e5.trans e6).trans (extN_same s6)) (hT5.ext s6)
end Mk
/-! the law's parts: the bent lists, the two that are no records of this world -/
namespace Mk
open PySem PySem.Spec PyProof.Rows L2 He LamX
theorem RecF.sub {W : Wd} {M : MD} {ps qs : List (Addr × Row)} (h : RecF W M ps) (s : ∀ p ∈ qs, p ∈ ps) : RecF W M qs := fun p hp => h p (s p hp)
/-- a slice of rows, in a new list -/
theorem rsl_rowsN {K : PySem.W.Frag} {H : Hp} {Q : VK} {l : Addr} {ps : List (Addr × Row)} {lo hi : Option Int} (h : RowsP H l ps) (k : ∀ p H', Same H H' → H p = none → RowsP H' p (cutA ps lo hi) → Q (.ref p) H') : rSlL K (.ref l) lo hi H Q :=
  ⟨l, _, rfl, SqL.of h.1, fun p hp => k p _ (grow hp) hp ⟨by rw [cutV_map]; exact upd_same, fun x hx => keep (h.2 x (cutA_mem hx)) hp⟩⟩
theorem rcat_rows {H : Hp} {Q : VK} {l1 l2 : Addr} {ps1 ps2 : List (Addr × Row)} (h1 : RowsP H l1 ps1) (h2 : RowsP H l2 ps2) (n1 : ps1.length ≤ 1000) (n2 : ps2.length ≤ 1000) (k : ∀ p H', Same H H' → H p = none → RowsP H' p (ps1 ++ ps2) → Q (.ref p) H') : rCat (.ref l1) (.ref l2) H Q := by
  refine rcat_t h1.1 h2.1 (line_ge (by rw [List.length_map, List.length_map]; omega)) fun p hp => k p _ (grow hp) hp ⟨?_, fun x hx => ?_⟩
  · rw [upd_same, List.map_append]
  · rcases List.mem_append.mp hx with hx | hx
    · exact keep (h1.2 x hx) hp
    · exact keep (h2.2 x hx) hp
theorem rrev_rows {K : PySem.W.Frag} {H : Hp} {Q : VK} {l : Addr} {ps : List (Addr × Row)} (h : RowsP H l ps) (k : ∀ p H', Same H H' → H p = none → RowsP H' p ps.reverse → Q (.ref p) H') : ∃ a xs, V.ref l = .ref a ∧ SqL K H a xs ∧ ∀ p, H p = none → Q (.ref p) (upd H p (.lst xs.reverse)) :=
  ⟨l, _, rfl, SqL.of h.1, fun p hp => k p _ (grow hp) hp ⟨by rw [upd_same, List.map_reverse], fun x hx => keep (h.2 x (List.mem_reverse.mp hx)) hp⟩⟩
/-- a list of rows of one record -/
def Bent (H : Hp) (W : Wd) (M : MD) (l : Addr) : Prop := ∃ qs : List (Addr × Row), RowsP H l qs ∧ RecF W M qs ∧ qs.length ≤ 1000
theorem Bent.ext {H H' : Hp} {W : Wd} {M : MD} {l : Addr} (e : ExtN H H') (h : Bent H W M l) : Bent H' W M l := by
  obtain ⟨qs, h1, h2, h3⟩ := h
  exact ⟨qs, rowsP_ext e h1, h2, h3⟩
theorem Bent.but {H : Hp} {W : Wd} {M : MD} {l b : Addr} {xs ys : List V} (h : Bent H W M l) (hb : H b = some (.lst xs)) (n : l ≠ b) : Bent (upd H b (.lst ys)) W M l := by
  obtain ⟨qs, h1, h2, h3⟩ := h
  refine ⟨qs, ⟨by rw [upd_ne n]; exact h1.1, fun p hp => ?_⟩, h2, h3⟩
  have e := h1.2 p hp
  rw [upd_ne (fun z => by rw [z, hb] at e; cases e)]
  exact e
local macro_rules | `(tactic| walk_at "rdu3") => `(tactic| dsimp only [tSeq, tNext, tRet, tRetN, tAsg, tDrop, tIfS, tOr, tAnd, tNot, tB, tTest, tCB, tCons, tNil, tVar, tC, tOp, tUn, tOrV, tAndV, tNotV, tIf, tChain, tCall, tTup, tLst, gName, L2.start, dl_map, dl_map0, dl_app, dl_app0, List.length_cons, List.length_nil, List.replicate, List.set, Nat.reduceAdd, Nat.reduceSub, tLc_eq, tFor_eq, sck_eq, dct_eq, tPar, gCons, gNil, iList, iTup, iRng1, iStr, wipe, tYes, tSl, tPart, tNoPart, tFld, tMeth, tMake, tFldK, sFldK, tDGetK, tDInK, tDNotInK, iItemsK, tLV, tLockE, tLock, tMakeK,  tDNewK, tPairs, tBM, tDispTK, iItemsTK, sDPutK, sDAugK])
local macro_rules | `(tactic| walk_at "lk3") => `(tactic| first | assumption | (with_reducible exact upd_same) | ((with_reducible apply keep); rotate_left; (focus assumption); walk_at "lk3") | ((with_reducible apply kp); (focus assumption); walk_at "lk3") | ((with_reducible apply keepI); rotate_left; (focus (walk_at "lk3")); (focus (intro _ _ _ e; cases e)); walk_at "lk3"))
local macro_rules | `(tactic| walk_at "lq3") => `(tactic| first | assumption | exact .inl (SqL.of (by walk_at "lk3")) | exact .inr (SqT.of (by walk_at "lk3")) | (refine sq2_same (grow (by assumption)) ?_; walk_at "lq3") | (refine sq2_same (by assumption) ?_; walk_at "lq3"))
local macro_rules | `(tactic| walk_at "sm3") => `(tactic| first | exact Same.refl _ | assumption | (refine same_upd2 ?_ (by assumption); walk_at "sm3") | (refine same_upd ?_ (by assumption); walk_at "sm3") | (refine Same.trans ?_ (by assumption); walk_at "sm3"))
local macro_rules | `(tactic| walk_at "rd13") => `(tactic| first
  | ((with_reducible apply rfld_t); (focus (walk_at "lk3")); (focus assumption); (focus assumption); (focus with_unfolding_all rfl))
  | ((with_reducible apply rsetf_t); (focus (walk_at "lk3")); (focus assumption); (focus assumption); (focus with_unfolding_all rfl); (focus (simp; done)); walk_at "rdu3")
  | ((with_reducible apply rlend_t); (focus (walk_at "lk3")))
  | ((with_reducible apply rlist_l); (focus (walk_at "lk3")); intro _ _)
  | ((with_reducible apply rdict_d); (focus (walk_at "lk3")); intro _ _)
  | ((with_reducible apply rdg_t); (focus (walk_at "lk3")); (focus first | assumption | with_unfolding_all rfl))
  | ((with_reducible apply rdi_some); (focus (walk_at "lk3")); (focus assumption))
  | ((with_reducible apply rdn_some); (focus (walk_at "lk3")); (focus assumption))
  | ((with_reducible apply rdi_t); (focus (walk_at "lk3")))
  | ((with_reducible apply rdn_t); (focus (walk_at "lk3")))
  | ((with_reducible apply rcat_t); (focus (walk_at "lk3")); (focus (walk_at "lk3")); (focus first | (refine line_ge ?_; simp; done) | (refine line_ge ?_; simp; omega)); intro _ _; walk_at "rdu3")
  | ((with_reducible apply rmeth_t); (focus (walk_at "lk3")); (focus with_unfolding_all rfl))
  | ((with_reducible apply rlv_t); (focus (walk_at "lk3")); intro _ _)
  | ((with_reducible apply rpow18))
  | ((with_reducible apply rng_t); (focus omega); (focus omega))
  | ((with_reducible apply tyl); (focus (walk_at "lk3")))
  | ((with_reducible apply rapp_t); (focus (walk_at "lk3")); (focus first | (refine Nat.lt_of_lt_of_le ?_ (line_ge (Nat.le_refl 16777216)); simp; omega) | (rw [sizeLine_eq]; simp; omega) | (rw [sizeLine_eq]; omega)); walk_at "rdu3")
  | ((with_reducible apply req_ss))
  | ((with_reducible apply req_ii))
  | ((with_reducible apply req_bb))
  | ((with_reducible apply rne_ss))
  | ((with_reducible apply rne_ii))
  | ((with_reducible apply cm_l); (focus omega); (focus omega))
  | ((with_reducible apply cm_r); (focus omega); (focus omega))
  | ((with_reducible apply cd_i); (focus omega); (focus omega))
  | ((with_reducible apply md_i); (focus omega))
  | ((with_reducible apply part1))
  | ((with_reducible apply num2))
  | ((with_reducible apply num3))
  | ((with_reducible apply name1); (focus first | assumption | decide +kernel); intro _ _)
  | ((with_reducible apply one_m); (focus (walk_at "lq3")))
  | ((with_reducible apply one_s); (focus (walk_at "lq3")); (focus with_unfolding_all rfl))
  | refine ⟨_, rfl, ?_⟩
  | refine ⟨_, _, rfl, rfl, ?_⟩
  | ((with_reducible apply gcons_t))
  | ((with_reducible apply gpar_t))
  | ((with_reducible apply gpar3_t))
  | refine ⟨rfl, ?_⟩
  | ((with_reducible apply iteT))
  | ((with_reducible apply iteF))
  | ((with_reducible apply ri_ii))
  | ((with_reducible apply ri_ib))
  | ((with_reducible apply ri_ss))
  | ((with_reducible apply ri_bb))
  | ((with_reducible apply ri_tt); (focus (walk_at "lk3")))
  | ((with_reducible apply ri_ll); (focus (walk_at "lk3")))
  | ((with_reducible apply ri_dd); (focus (walk_at "lk3")))
  | ((with_reducible apply rt_l); (focus (walk_at "lk3")); (focus (walk_at "lk3")))
  | ((with_reducible apply rt_t); (focus (walk_at "lk3")); (focus (walk_at "lk3")))
  | ((with_reducible apply rix_t); (focus (walk_at "lk3")); (focus with_unfolding_all rfl))
  | ((with_reducible apply rix_l); (focus (walk_at "lk3")); (focus with_unfolding_all rfl))
  | ((with_reducible apply rlen_t); (focus (walk_at "lk3")); (focus first | (simp only [List.length_cons, List.length_nil]; done) | (simp only [List.length_cons, List.length_nil]; with_unfolding_all rfl) | with_unfolding_all rfl))
  | ((with_reducible apply rlen_l); (focus (walk_at "lk3")); (focus first | (simp only [List.length_cons, List.length_nil]; done) | (simp only [List.length_cons, List.length_nil]; with_unfolding_all rfl) | with_unfolding_all rfl))
  | ((with_reducible apply rin_t); (focus (walk_at "lk3")); (focus with_unfolding_all rfl))
  | ((with_reducible apply rnin_t); (focus (walk_at "lk3")); (focus with_unfolding_all rfl))
  | ((with_reducible apply rsl_t); (focus (walk_at "lk3")); (focus with_unfolding_all rfl); (focus first | (simp [cutV, HT.sIx]; done) | (simp [cutV, HT.sIx]; rfl)); intro _ _)
  | ((with_reducible apply rin_l); (focus (walk_at "lk3")))
  | ((with_reducible apply rnin_l); (focus (walk_at "lk3")))
  | ((with_reducible apply gtup_t); (focus (walk_at "lk3")); (focus with_unfolding_all rfl); walk_at "rdu3")
  | ((with_reducible apply alc); (focus decide); intro _ _)
  | ((with_reducible apply itenT))
  | ((with_reducible apply itenF))
  | ((with_reducible apply ited_sT); (focus first | rfl | assumption))
  | ((with_reducible apply ited_sF); (focus first | assumption | decide +kernel))
  | ((with_reducible apply itedn_sT); (focus first | assumption | decide +kernel))
  | ((with_reducible apply itedn_sF); (focus first | rfl | assumption))
  | ((with_reducible apply ited_mT); (focus first | assumption | decide +kernel))
  | ((with_reducible apply ited_mF); (focus first | assumption | decide +kernel))
  | ((with_reducible apply itedn_mT); (focus first | assumption | decide +kernel))
  | ((with_reducible apply itedn_mF); (focus first | assumption | decide +kernel))
  | ((with_reducible apply ited_s) <;> intro _)
  | ((with_reducible apply itedn_s) <;> intro _)
  | ((with_reducible apply ited_m) <;> intro _)
  | ((with_reducible apply itedn_m) <;> intro _)
  | ((with_reducible apply itedT); (focus first | assumption | omega))
  | ((with_reducible apply itedF); (focus first | assumption | omega))
  | ((with_reducible apply itednF); (focus first | assumption | omega))
  | ((with_reducible apply itednT); (focus first | assumption | omega))
  | ((with_reducible apply ited) <;> intro _)
  | ((with_reducible apply itedn) <;> intro _)
  | ((with_reducible apply itebn) <;> intro _)
  | ((with_reducible apply iteb) <;> intro _)
  | walk_at "rdu3"
  | contradiction)
local macro_rules | `(tactic| walk_at "rd3") => `(tactic| (try walk_at "rdu3"); repeat' walk_at "rd13")
theorem st_bent {K : PySem.W.Frag} {l : Addr} {H : Hp} {D : Ends} {W : Wd} {M : MD} {ps : List (Addr × Row)} {at_ : Int} {x0 x1 x2 x3 x4 x7 x8 x9 x10 x11 x12 x13 : Option V} (hr : RowsP H l ps) (hF : RecF W M ps) (n : ps.length ≤ 20)
    (k : ∀ (H' : Hp) (bl l1 l2 : Addr), Same H H' → H' bl = some (.lst [.ref l, .ref l1, .ref l2]) → H bl = none → l1 ≠ bl → l2 ≠ bl → Bent H' W M l1 → Bent H' W M l2 → D.nx [x0, x1, x2, x3, x4, some (.ref l), some (.int at_), some (.ref bl), x8, x9, x10, x11, x12, x13] H') :
    (tAsg (tLst (tCons (tVar 5) (tCons (tOp rCat (tSl (rSlL K) (tVar 5) tNoPart (tPart (tVar 6))) (tSl (rSlL K) (tVar 5) (tPart (tOp (rI0 fun i j => V.int (i + j)) (tVar 6) (tC (V.int 1)))) tNoPart))
      (tCons (tOp rCat (tSl (rSlL K) (tVar 5) tNoPart (tPart (tOp (rI0 fun i j => V.int (i + j)) (tVar 6) (tC (V.int 1))))) (tSl (rSlL K) (tVar 5) (tPart (tVar 6)) tNoPart)) tNil)))) (gName 7)) D
      [x0, x1, x2, x3, x4, some (.ref l), some (.int at_), x7, x8, x9, x10, x11, x12, x13] H := by
  have cut : ∀ lo hi, (cutA ps lo hi).length ≤ 20 := fun lo hi => Nat.le_trans (cutA_sub ps lo hi).length_le n
  have mem : ∀ lo hi lo' hi', ∀ p ∈ cutA ps lo hi ++ cutA ps lo' hi', p ∈ ps := fun lo hi lo' hi' p hp => (List.mem_append.mp hp).elim cutA_mem cutA_mem
  walk_at "rd3"
  refine rsl_rowsN hr fun a1 H1 s1 _ r1 => ?_
  walk_at "rd3"
  refine rsl_rowsN (hr.same s1) fun a2 H2 s2 _ r2 => ?_
  refine rcat_rows (r1.same s2) r2 (by have := cut none (some at_); omega) (by have := cut (some (at_ + 1)) none; omega) fun l1 H3 s3 hl1 r3 => ?_
  have s4 := (s1.trans s2).trans s3
  walk_at "rd3"
  refine rsl_rowsN (hr.same s4) fun a3 H4 s5 _ r4 => ?_
  walk_at "rd3"
  refine rsl_rowsN ((hr.same s4).same s5) fun a4 H5 s6 _ r5 => ?_
  refine rcat_rows (r4.same s6) r5 (by have := cut none (some (at_ + 1)); omega) (by have := cut (some at_) none; omega) fun l2 H6 s7 hl2 r6 => ?_
  have s8 := (s5.trans s6).trans s7
  walk_at "rd3"
  rename_i bl hbl
  have s9 := (s4.trans s8).trans (grow (u := .lst [.ref l, .ref l1, .ref l2]) hbl)
  have n1 : l1 ≠ bl := ne_of_none (s8 _ _ r3.1) hbl
  have n2 : l2 ≠ bl := ne_of_none r6.1 hbl
  refine k _ bl l1 l2 s9 upd_same (Same.free (s4.trans s8) hbl) n1 n2 ⟨_, (r3.same s8).same (grow hbl), hF.sub (mem _ _ _ _), ?_⟩ ⟨_, r6.same (grow hbl), hF.sub (mem _ _ _ _), ?_⟩
  · rw [List.length_append]
    have e1 := cut none (some at_)
    have e2 := cut (some (at_ + 1)) none
    omega
  · rw [List.length_append]
    have e1 := cut none (some (at_ + 1))
    have e2 := cut (some at_) none
    omega
theorem st_app {K : PySem.W.Frag} {l bl : Addr} {H : Hp} {D : Ends} {W : Wd} {M : MD} {ps : List (Addr × Row)} {at_ : Int} {xs : List V} {x0 x1 x2 x3 x4 x8 x9 x10 x11 x12 x13 : Option V} (hr : RowsP H l ps) (hF : RecF W M ps) (n : ps.length ≤ 20) (hb : H bl = some (.lst xs)) (hx : xs.length ≤ 10)
    (k : ∀ (H' : Hp) (l3 : Addr), Same H H' → l3 ≠ bl → Bent H' W M l3 → D.nx [x0, x1, x2, x3, x4, some (.ref l), some (.int at_), some (.ref bl), x8, x9, x10, x11, x12, x13] (upd H' bl (.lst (xs ++ [.ref l3])))) :
    (tDrop (tBM K "list" rAppend (tVar 7) (tCons (tOp rCat (tOp rCat (tSl (rSlL K) (tVar 5) tNoPart (tPart (tVar 6))) (tRevK K (tSl (rSlL K) (tVar 5) (tPart (tVar 6)) (tPart (tOp (rI0 fun i j => V.int (i + j)) (tVar 6) (tC (V.int 2)))))))
      (tSl (rSlL K) (tVar 5) (tPart (tOp (rI0 fun i j => V.int (i + j)) (tVar 6) (tC (V.int 2)))) tNoPart)) tNil))) D
      [x0, x1, x2, x3, x4, some (.ref l), some (.int at_), some (.ref bl), x8, x9, x10, x11, x12, x13] H := by
  have cut : ∀ lo hi, (cutA ps lo hi).length ≤ 20 := fun lo hi => Nat.le_trans (cutA_sub ps lo hi).length_le n
  walk_at "rd3"
  refine rsl_rowsN hr fun a1 H1 s1 _ r1 => ?_
  dsimp only [tRevK]
  walk_at "rd3"
  refine rsl_rowsN (hr.same s1) fun a2 H2 s2 _ r2 => ?_
  refine rrev_rows (Q := fun v H' => rCat (.ref a1) v H' _) r2 fun a3 H3 s3 _ r3 => ?_
  refine rcat_rows (r1.same (s2.trans s3)) r3 (by have := cut none (some at_); omega) (by rw [List.length_reverse]; have := cut (some at_) (some (at_ + 2)); omega) fun a4 H4 s4 _ r4 => ?_
  have s5 := ((s1.trans s2).trans s3).trans s4
  walk_at "rd3"
  refine rsl_rowsN (hr.same s5) fun a5 H5 s6 _ r5 => ?_
  have e1 := cut none (some at_)
  have e2 := cut (some at_) (some (at_ + 2))
  have e3 := cut (some (at_ + 2)) none
  refine rcat_rows (r4.same s6) r5 (by rw [List.length_append, List.length_reverse]; omega) (by omega) fun l3 H6 s7 hl3 r6 => ?_
  have s8 := (s5.trans s6).trans s7
  have hb5 := (s5.trans s6) _ _ hb
  refine rapp_t (s8 _ _ hb) (by rw [sizeLine_eq]; omega) ?_
  refine k H6 l3 s8 (fun z => by rw [z, hb5] at hl3; cases hl3) ⟨_, r6, hF.sub fun p hp => ?_, by rw [List.length_append, List.length_append, List.length_reverse]; omega⟩
  rcases List.mem_append.mp hp with hp | hp
  · rcases List.mem_append.mp hp with hp | hp
    · exact cutA_mem hp
    · exact cutA_mem (List.mem_reverse.mp hp)
  · exact cutA_mem hp
end Mk
/-! the law's parts: the loop over the bent lists, the two that are no records of this world -/
namespace Mk
open PySem PySem.Spec PyProof.Rows L2 He LamX
theorem st_loop {K : PySem.W.Frag} {tb : List (Addr × Str)} {a x bl : Addr} {H : Hp} {D : Ends} {W : Wd} {M : MD} {ls : List Addr} {x0 x1 x2 x5 x6 x8 x9 x10 x11 x12 x13 : Option V} (gd : W.good) (ok : M.ok W) (hp : PartsL H a W) (hw : WorldAt K H x W) (hb : H bl = some (.lst (ls.map V.ref))) (hl : ∀ l ∈ ls, Bent H W M l) (hT : Tabs tb H)
    (k : ∀ (H' : Hp) (z8 z9 z10 z11 z12 : Option V), ExtN H H' → Tabs tb H' → D.nx [x0, x1, x2, some (.ref a), some (.ref x), x5, x6, some (.ref bl), z8, z9, z10, z11, z12, x13] H') :
    (tFor (iList K (tVar 7)) (gName 8) (tSeq (tAsg (tCall spCanBe [] E0 (tCons (tVar 8) tNil)) (gName 9))
      (tSeq (tAsg (tIf (tAnd (tB (tVar 9)) (tTest (tOp (rIn K false) (tC (V.str (Str.ofString "complained"))) (tLc (iList K (tVar 8)) (gName 11) tYes (tOp (rIxT K) (tVar 11) (tC (V.int 0))) [11])))) (tCall spLVerd [] E0 (tCons (tOp (rIxL K) (tVar 3) (tC (V.int 5))) (tCons (tVar 8) tNil))) (tC (V.str (Str.ofString "record")))) (gName 10))
        (tSeq (tIfS (tTest (tOp (rNeL K) (tLam tb (TTm K) (fun E => tCall (spJudged K) [] E (tCons (tVar 8) (tCons (tCB (rTupOf K) (tCons (tOp (rIxL K) (tVar 3) (tC (V.int 5))) tNil)) tNil)))) (tVar 10))) (tRet (tC (V.bl false))) tNext)
          (tSeq (tAsg (tIf (tAnd (tB (tVar 9)) (tTest (tOp rEq (tOp (rIxT K) (tOp (rIxL K) (tVar 8) (tUn (rU fun i => V.int (-i)) (tC (V.int 1)))) (tC (V.int 0))) (tC (V.str (Str.ofString "ended")))))) (tCall (spLDue K) [] E0 (tCons (tVar 3) (tCons (tVar 4) (tCons (tVar 8) tNil)))) (tC (V.str (Str.ofString "record")))) (gName 10))
            (tSeq (tAsg (tLam tb (TTm K) (fun E => tCall (spShares K) [] E (tCons (tVar 8) (tCons (tVar 4) tNil)))) (gName 12))
              (tIfS (tOr (tTest (tOp (rNeL K) (tVar 12) (tVar 10))) (tAnd (tB (tCB (rIsi K) (tCons (tVar 12) (tCons (tC (V.ty "dict")) tNil)))) (tTest (tOp (rNeD K) (tCB rListT (tCons (tVar 12) tNil)) (tCB rListT (tCons (tVar 10) tNil)))))) (tRet (tC (V.bl false))) tNext))))))) D
      [x0, x1, x2, some (.ref a), some (.ref x), x5, x6, some (.ref bl), x8, x9, x10, x11, x12, x13] H := by
  rw [tFor_eq]
  refine ⟨.ref bl, rfl, bl, rfl, ⟨_, SqL.of hb⟩, ?_⟩
  refine fr_it (walk_list (K := K) (a := bl) (xs := ls.map V.ref)) (fun i σ H' => ExtN H H' ∧ Tabs tb H' ∧ ∃ z8 z9 z10 z11 z12, σ = [x0, x1, x2, some (.ref a), some (.ref x), x5, x6, some (.ref bl), z8, z9, z10, z11, z12, x13])
    ⟨ExtN.refl H, hT, x8, x9, x10, x11, x12, rfl⟩ (fun i σ H' _ p => SqL.of (p.1 _ _ hb (fun _ z => nomatch z))) (fun i y σ H' H5 hi p yy => ?_) (fun σ H' p => ?_)
  · obtain ⟨e, hT', z8, z9, z10, z11, z12, rfl⟩ := p
    obtain ⟨rfl, ex⟩ := yy
    rw [List.length_map] at hi
    rw [List.getElem?_map, List.getElem?_eq_getElem hi] at ex
    obtain rfl := Option.some.inj ex
    obtain ⟨qs, h1, h2, h3⟩ := (hl _ (List.getElem_mem hi)).ext e
    exact bent_ok gd ok (partsL_ext e hp) (worldAt_ext e hw) h1 h2 h3 hT' fun H6 w9 w10 w11 w12 e6 hT6 => ⟨e.trans e6, hT6, _, _, _, _, _, rfl⟩
  · obtain ⟨e, hT', z8, z9, z10, z11, z12, rfl⟩ := p
    exact k _ _ _ _ _ _ e hT'
/-- rows that no record of this world has -/
def RecG (M : MD) (qs : List (Addr × Row)) : Prop := ∀ p ∈ qs, p.2.good ∧ (∀ d s b x y z m pr t, p.2 = .made d s b x y z m pr t → x = M.se ∧ y = M.by_ ∧ z = M.wr) ∧ ∀ d w a, p.2 = .sent d w a → w ≠ M.se ∧ w ≠ M.by_
theorem RecF.toG {W : Wd} {M : MD} {qs : List (Addr × Row)} (h : RecF W M qs) : RecG M qs := fun p hp => ⟨(h p hp).1, fun d s b x y z m pr t e => by
  have g := (h p hp).2.1 (by rw [e]; rfl)
  rw [e] at g
  unfold MD.row at g
  injection g with i1 i2 i3 i4 i5 i6
  exact ⟨i4, i5, i6⟩, fun d w a e => ((h p hp).2.2 d w a e).2⟩
theorem RecG.app {M : MD} {ps qs : List (Addr × Row)} (h1 : RecG M ps) (h2 : RecG M qs) : RecG M (ps ++ qs) := fun p hp => (List.mem_append.mp hp).elim (h1 p) (h2 p)
theorem recg_snd {M : MD} {qs : List (Addr × Row)} (h : RecG M qs) : sndOk (qs.map (·.2)) := fun d s b x y z m p t hm d' w a hs => by
  obtain ⟨p1, h1, e1⟩ := List.mem_map.mp hm
  obtain ⟨p2, h2, e2⟩ := List.mem_map.mp hs
  obtain ⟨g1, g2, _⟩ := (h p1 h1).2.1 _ _ _ _ _ _ _ _ _ e1
  rw [g1, g2]
  exact (h p2 h2).2.2 _ _ _ e2
theorem rcata_t {K : PySem.W.Frag} {H : Hp} {Q : VK} {a b : Addr} {xs ys zs : List V} (ha : H a = some (.tup xs)) (hb : H b = some (.tup ys)) (hx : xs ≠ []) (hy : ys ≠ []) (n : xs.length + ys.length ≤ 100) (e : xs ++ ys = zs) (k : ∀ p, H p = none → Q (.ref p) (upd H p (.tup zs))) : rCatA K (.ref a) (.ref b) H Q := by
  subst e
  exact ⟨a, b, xs, ys, rfl, rfl, SqT.of ha, SqT.of hb, by rw [sizeLine_eq]; omega, fun z => absurd z hx, fun _ z => absurd z hy, fun _ _ => k⟩
theorem rne_rr {H : Hp} {Q : VK} {y : Str} (q : Q (.bl false) H) : rNe (.str y) (.str y) H Q := rne_ss (qb q (by rw [decide_eq_true rfl]; rfl))
local macro_rules | `(tactic| walk_at "rdu3") => `(tactic| dsimp only [tSeq, tNext, tRet, tRetN, tAsg, tDrop, tIfS, tOr, tAnd, tNot, tB, tTest, tCB, tCons, tNil, tVar, tC, tOp, tUn, tOrV, tAndV, tNotV, tIf, tChain, tCall, tTup, tLst, gName, L2.start, dl_map, dl_map0, dl_app, dl_app0, List.length_cons, List.length_nil, List.replicate, List.set, Nat.reduceAdd, Nat.reduceSub, tLc_eq, tFor_eq, sck_eq, dct_eq, tPar, gCons, gNil, iList, iTup, iRng1, iStr, wipe, tYes, tSl, tPart, tNoPart, tFld, tMeth, tMake, tFldK, sFldK, tDGetK, tDInK, tDNotInK, iItemsK, tLV, tLockE, tLock, tMakeK,  tDNewK, tPairs, tBM, tDispTK, iItemsTK, sDPutK, sDAugK])
local macro_rules | `(tactic| walk_at "lk3") => `(tactic| first | assumption | (with_reducible exact upd_same) | ((with_reducible apply keep); rotate_left; (focus assumption); walk_at "lk3") | ((with_reducible apply kp); (focus assumption); walk_at "lk3") | ((with_reducible apply keepI); rotate_left; (focus (walk_at "lk3")); (focus (intro _ _ _ e; cases e)); walk_at "lk3"))
local macro_rules | `(tactic| walk_at "lq3") => `(tactic| first | assumption | exact .inl (SqL.of (by walk_at "lk3")) | exact .inr (SqT.of (by walk_at "lk3")) | (refine sq2_same (grow (by assumption)) ?_; walk_at "lq3") | (refine sq2_same (by assumption) ?_; walk_at "lq3"))
local macro_rules | `(tactic| walk_at "sm3") => `(tactic| first | exact Same.refl _ | assumption | (refine same_upd2 ?_ (by assumption); walk_at "sm3") | (refine same_upd ?_ (by assumption); walk_at "sm3") | (refine Same.trans ?_ (by assumption); walk_at "sm3"))
local macro_rules | `(tactic| walk_at "rd13") => `(tactic| first
  | ((with_reducible apply rfld_t); (focus (walk_at "lk3")); (focus assumption); (focus assumption); (focus with_unfolding_all rfl))
  | ((with_reducible apply rsetf_t); (focus (walk_at "lk3")); (focus assumption); (focus assumption); (focus with_unfolding_all rfl); (focus (simp; done)); walk_at "rdu3")
  | ((with_reducible apply rlend_t); (focus (walk_at "lk3")))
  | ((with_reducible apply rlist_l); (focus (walk_at "lk3")); intro _ _)
  | ((with_reducible apply rdict_d); (focus (walk_at "lk3")); intro _ _)
  | ((with_reducible apply rdg_t); (focus (walk_at "lk3")); (focus first | assumption | with_unfolding_all rfl))
  | ((with_reducible apply rdi_some); (focus (walk_at "lk3")); (focus assumption))
  | ((with_reducible apply rdn_some); (focus (walk_at "lk3")); (focus assumption))
  | ((with_reducible apply rdi_t); (focus (walk_at "lk3")))
  | ((with_reducible apply rdn_t); (focus (walk_at "lk3")))
  | ((with_reducible apply rcat_t); (focus (walk_at "lk3")); (focus (walk_at "lk3")); (focus first | (refine line_ge ?_; simp; done) | (refine line_ge ?_; simp; omega)); intro _ _; walk_at "rdu3")
  | ((with_reducible apply rmeth_t); (focus (walk_at "lk3")); (focus with_unfolding_all rfl))
  | ((with_reducible apply rlv_t); (focus (walk_at "lk3")); intro _ _)
  | ((with_reducible apply rpow18))
  | ((with_reducible apply rng_t); (focus omega); (focus omega))
  | ((with_reducible apply tyl); (focus (walk_at "lk3")))
  | ((with_reducible apply rapp_t); (focus (walk_at "lk3")); (focus first | (refine Nat.lt_of_lt_of_le ?_ (line_ge (Nat.le_refl 16777216)); simp; omega) | (rw [sizeLine_eq]; simp; omega) | (rw [sizeLine_eq]; omega)); walk_at "rdu3")
  | ((with_reducible apply req_ss))
  | ((with_reducible apply req_ii))
  | ((with_reducible apply req_bb))
  | ((with_reducible apply rne_ss))
  | ((with_reducible apply rne_ii))
  | ((with_reducible apply cm_l); (focus omega); (focus omega))
  | ((with_reducible apply cm_r); (focus omega); (focus omega))
  | ((with_reducible apply cd_i); (focus omega); (focus omega))
  | ((with_reducible apply md_i); (focus omega))
  | ((with_reducible apply part1))
  | ((with_reducible apply num2))
  | ((with_reducible apply num3))
  | ((with_reducible apply name1); (focus first | assumption | decide +kernel); intro _ _)
  | ((with_reducible apply one_m); (focus (walk_at "lq3")))
  | ((with_reducible apply one_s); (focus (walk_at "lq3")); (focus with_unfolding_all rfl))
  | refine ⟨_, rfl, ?_⟩
  | refine ⟨_, _, rfl, rfl, ?_⟩
  | ((with_reducible apply gcons_t))
  | ((with_reducible apply gpar_t))
  | ((with_reducible apply gpar3_t))
  | refine ⟨rfl, ?_⟩
  | ((with_reducible apply iteT))
  | ((with_reducible apply iteF))
  | ((with_reducible apply ri_ii))
  | ((with_reducible apply ri_ib))
  | ((with_reducible apply ri_ss))
  | ((with_reducible apply ri_bb))
  | ((with_reducible apply ri_tt); (focus (walk_at "lk3")))
  | ((with_reducible apply ri_ll); (focus (walk_at "lk3")))
  | ((with_reducible apply ri_dd); (focus (walk_at "lk3")))
  | ((with_reducible apply rt_l); (focus (walk_at "lk3")); (focus (walk_at "lk3")))
  | ((with_reducible apply rt_t); (focus (walk_at "lk3")); (focus (walk_at "lk3")))
  | ((with_reducible apply rix_t); (focus (walk_at "lk3")); (focus with_unfolding_all rfl))
  | ((with_reducible apply rix_l); (focus (walk_at "lk3")); (focus with_unfolding_all rfl))
  | ((with_reducible apply rlen_t); (focus (walk_at "lk3")); (focus first | (simp only [List.length_cons, List.length_nil]; done) | (simp only [List.length_cons, List.length_nil]; with_unfolding_all rfl) | with_unfolding_all rfl))
  | ((with_reducible apply rlen_l); (focus (walk_at "lk3")); (focus first | (simp only [List.length_cons, List.length_nil]; done) | (simp only [List.length_cons, List.length_nil]; with_unfolding_all rfl) | with_unfolding_all rfl))
  | ((with_reducible apply rin_t); (focus (walk_at "lk3")); (focus with_unfolding_all rfl))
  | ((with_reducible apply rnin_t); (focus (walk_at "lk3")); (focus with_unfolding_all rfl))
  | ((with_reducible apply rsl_t); (focus (walk_at "lk3")); (focus with_unfolding_all rfl); (focus first | (simp [cutV, HT.sIx]; done) | (simp [cutV, HT.sIx]; rfl)); intro _ _)
  | ((with_reducible apply rin_l); (focus (walk_at "lk3")))
  | ((with_reducible apply rnin_l); (focus (walk_at "lk3")))
  | ((with_reducible apply gtup_t); (focus (walk_at "lk3")); (focus with_unfolding_all rfl); walk_at "rdu3")
  | ((with_reducible apply alc); (focus decide); intro _ _)
  | ((with_reducible apply itenT))
  | ((with_reducible apply itenF))
  | ((with_reducible apply ited_sT); (focus first | rfl | assumption))
  | ((with_reducible apply ited_sF); (focus first | assumption | decide +kernel))
  | ((with_reducible apply itedn_sT); (focus first | assumption | decide +kernel))
  | ((with_reducible apply itedn_sF); (focus first | rfl | assumption))
  | ((with_reducible apply ited_mT); (focus first | assumption | decide +kernel))
  | ((with_reducible apply ited_mF); (focus first | assumption | decide +kernel))
  | ((with_reducible apply itedn_mT); (focus first | assumption | decide +kernel))
  | ((with_reducible apply itedn_mF); (focus first | assumption | decide +kernel))
  | ((with_reducible apply ited_s) <;> intro _)
  | ((with_reducible apply itedn_s) <;> intro _)
  | ((with_reducible apply ited_m) <;> intro _)
  | ((with_reducible apply itedn_m) <;> intro _)
  | ((with_reducible apply itedT); (focus first | assumption | omega))
  | ((with_reducible apply itedF); (focus first | assumption | omega))
  | ((with_reducible apply itednF); (focus first | assumption | omega))
  | ((with_reducible apply itednT); (focus first | assumption | omega))
  | ((with_reducible apply ited) <;> intro _)
  | ((with_reducible apply itedn) <;> intro _)
  | ((with_reducible apply itebn) <;> intro _)
  | ((with_reducible apply iteb) <;> intro _)
  | walk_at "rdu3"
  | contradiction)
local macro_rules | `(tactic| walk_at "rd3") => `(tactic| (try walk_at "rdu3"); repeat' walk_at "rd13")
theorem told_bad {K : PySem.W.Frag} {tb : List (Addr × Str)} {x l : Addr} {H : Hp} {R : VK} {W : Wd} {M : MD} {qs : List (Addr × Row)} {x0 x1 x2 x3 x5 x6 x7 x8 x9 x10 x11 x12 : Option V} (gd : W.good) (ok : M.ok W) (hw : WorldAt K H x W) (hr : RowsP H l qs) (hG : RecG M qs) (n : qs.length ≤ 1000) (hT : Tabs tb H)
    (bad : ¬ sentIn W qs ∨ ∃ p, qs[0]? = some p ∧ ∀ d sl bu se by_ wr m pr t land kind, p.2 = .made d sl bu se by_ wr m pr t → lookS W.parties by_ = some land → lookS W.wares wr = some kind → t ≠ m * pr * rateM W.dues land kind d / 10000)
    (k : ∀ H' : Hp, ExtN H H' → Tabs tb H' → R (.str "record") H') :
    tLam tb (TTm K) (fun E => tCall (spShares K) [] E (tCons (tVar 13) (tCons (tVar 4) tNil)))
      [x0, x1, x2, x3, some (.ref x), x5, x6, x7, x8, x9, x10, x11, x12, some (.ref l)] H R := by
  refine ⟨hT, fun H1 eN hT1 => ?_⟩
  unfold TTm
  have hr1 := rowsP_ext eN hr
  have hw1 := worldAt_ext eN hw
  walk_at "rd3"
  refine ⟨l, x, qs, W, rfl, hr1, fun p hp => (hG p hp).1, n, recg_snd hG, hw1, gd, fun p hp d sl bu se by_ wr m pr t e => ?_, fun e H' s => ⟨rfl, rfl, k H' (eN.trans (extN_same s)) (hT1.ext s)⟩, fun e p0 pl d sl bu se by_ wr m pr t land kind d' how part back i0 e0 v1 v3 et hl el hs p H' s hp' => ?_⟩
  · obtain ⟨g1, g2, g3⟩ := (hG p hp).2.1 _ _ _ _ _ _ _ _ _ e
    rw [g1, g2, g3]
    exact ⟨ok.se, M.land, M.kind, ok.by_, ok.wr⟩
  · rcases bad with bad | ⟨p1, i1, bad⟩
    · exact absurd hs bad
    · rw [i0] at i1
      cases i1
      exact absurd et (bad _ _ _ _ _ _ _ _ _ _ _ e0 v1 v3)
theorem bad_if {K : PySem.W.Frag} {tb : List (Addr × Str)} {x l : Addr} {H : Hp} {D : Ends} {W : Wd} {M : MD} {qs : List (Addr × Row)} {x0 x1 x2 x3 x5 x6 x7 x8 x9 x10 x11 x12 : Option V} (gd : W.good) (ok : M.ok W) (hw : WorldAt K H x W) (hr : RowsP H l qs) (hG : RecG M qs) (n : qs.length ≤ 1000) (hT : Tabs tb H)
    (bad : ¬ sentIn W qs ∨ ∃ p, qs[0]? = some p ∧ ∀ d sl bu se by_ wr m pr t land kind, p.2 = .made d sl bu se by_ wr m pr t → lookS W.parties by_ = some land → lookS W.wares wr = some kind → t ≠ m * pr * rateM W.dues land kind d / 10000)
    (k : ∀ H' : Hp, ExtN H H' → Tabs tb H' → D.nx [x0, x1, x2, x3, some (.ref x), x5, x6, x7, x8, x9, x10, x11, x12, some (.ref l)] H') :
    (tIfS (tTest (tOp rNe (tLam tb (TTm K) (fun E => tCall (spShares K) [] E (tCons (tVar 13) (tCons (tVar 4) tNil)))) (tC (V.str (Str.ofString "record"))))) (tRet (tC (V.bl false))) tNext) D
      [x0, x1, x2, x3, some (.ref x), x5, x6, x7, x8, x9, x10, x11, x12, some (.ref l)] H := by
  refine told_bad gd ok hw hr hG n hT bad fun H' eN hT' => ?_
  dsimp only [tC]
  refine rne_rr ?_
  exact ⟨false, rfl, k H' eN hT'⟩
end Mk
/-! the law's parts: another carrier, another tax -/
namespace Mk
open PySem PySem.Spec PyProof.Rows L2 He LamX
theorem find_zz {p0 q : Addr × Row} {r : List (Addr × Row)} (h0 : p0.2.kind ≠ "sent") (h1 : q.2.kind = "sent") : findK "sent" ([p0, q] ++ r) = some q := by
  unfold findK
  show (p0 :: q :: r).find? _ = _
  rw [List.find?_cons, decide_eq_false h0]
  show (q :: r).find? _ = _
  rw [List.find?_cons, decide_eq_true h1]
theorem zz_six : ∀ z ∈ six, z ≠ "zz" := by decide +kernel
theorem M_kind {M : MD} : M.row.kind ≠ "sent" := fun h => absurd (show ("made" : Str) = "sent" from h) (by decide +kernel)
local macro_rules | `(tactic| walk_at "rdu3") => `(tactic| dsimp only [tSeq, tNext, tRet, tRetN, tAsg, tDrop, tIfS, tOr, tAnd, tNot, tB, tTest, tCB, tCons, tNil, tVar, tC, tOp, tUn, tOrV, tAndV, tNotV, tIf, tChain, tCall, tTup, tLst, gName, L2.start, dl_map, dl_map0, dl_app, dl_app0, List.length_cons, List.length_nil, List.replicate, List.set, Nat.reduceAdd, Nat.reduceSub, tLc_eq, tFor_eq, sck_eq, dct_eq, tPar, gCons, gNil, iList, iTup, iRng1, iStr, wipe, tYes, tSl, tPart, tNoPart, tFld, tMeth, tMake, tFldK, sFldK, tDGetK, tDInK, tDNotInK, iItemsK, tLV, tLockE, tLock, tMakeK,  tDNewK, tPairs, tBM, tDispTK, iItemsTK, sDPutK, sDAugK])
local macro_rules | `(tactic| walk_at "lk3") => `(tactic| first | assumption | (with_reducible exact upd_same) | ((with_reducible apply keep); rotate_left; (focus assumption); walk_at "lk3") | ((with_reducible apply kp); (focus assumption); walk_at "lk3") | ((with_reducible apply keepI); rotate_left; (focus (walk_at "lk3")); (focus (intro _ _ _ e; cases e)); walk_at "lk3"))
local macro_rules | `(tactic| walk_at "lq3") => `(tactic| first | assumption | exact .inl (SqL.of (by walk_at "lk3")) | exact .inr (SqT.of (by walk_at "lk3")) | (refine sq2_same (grow (by assumption)) ?_; walk_at "lq3") | (refine sq2_same (by assumption) ?_; walk_at "lq3"))
local macro_rules | `(tactic| walk_at "sm3") => `(tactic| first | exact Same.refl _ | assumption | (refine same_upd2 ?_ (by assumption); walk_at "sm3") | (refine same_upd ?_ (by assumption); walk_at "sm3") | (refine Same.trans ?_ (by assumption); walk_at "sm3"))
local macro_rules | `(tactic| walk_at "rd13") => `(tactic| first
  | ((with_reducible apply rfld_t); (focus (walk_at "lk3")); (focus assumption); (focus assumption); (focus with_unfolding_all rfl))
  | ((with_reducible apply rsetf_t); (focus (walk_at "lk3")); (focus assumption); (focus assumption); (focus with_unfolding_all rfl); (focus (simp; done)); walk_at "rdu3")
  | ((with_reducible apply rlend_t); (focus (walk_at "lk3")))
  | ((with_reducible apply rlist_l); (focus (walk_at "lk3")); intro _ _)
  | ((with_reducible apply rdict_d); (focus (walk_at "lk3")); intro _ _)
  | ((with_reducible apply rdg_t); (focus (walk_at "lk3")); (focus first | assumption | with_unfolding_all rfl))
  | ((with_reducible apply rdi_some); (focus (walk_at "lk3")); (focus assumption))
  | ((with_reducible apply rdn_some); (focus (walk_at "lk3")); (focus assumption))
  | ((with_reducible apply rdi_t); (focus (walk_at "lk3")))
  | ((with_reducible apply rdn_t); (focus (walk_at "lk3")))
  | ((with_reducible apply rcat_t); (focus (walk_at "lk3")); (focus (walk_at "lk3")); (focus first | (refine line_ge ?_; simp; done) | (refine line_ge ?_; simp; omega)); intro _ _; walk_at "rdu3")
  | ((with_reducible apply rmeth_t); (focus (walk_at "lk3")); (focus with_unfolding_all rfl))
  | ((with_reducible apply rlv_t); (focus (walk_at "lk3")); intro _ _)
  | ((with_reducible apply rpow18))
  | ((with_reducible apply rng_t); (focus omega); (focus omega))
  | ((with_reducible apply tyl); (focus (walk_at "lk3")))
  | ((with_reducible apply rapp_t); (focus (walk_at "lk3")); (focus first | (refine Nat.lt_of_lt_of_le ?_ (line_ge (Nat.le_refl 16777216)); simp; omega) | (rw [sizeLine_eq]; simp; omega) | (rw [sizeLine_eq]; omega)); walk_at "rdu3")
  | ((with_reducible apply req_ss))
  | ((with_reducible apply req_ii))
  | ((with_reducible apply req_bb))
  | ((with_reducible apply rne_ss))
  | ((with_reducible apply rne_ii))
  | ((with_reducible apply cm_l); (focus omega); (focus omega))
  | ((with_reducible apply cm_r); (focus omega); (focus omega))
  | ((with_reducible apply cd_i); (focus omega); (focus omega))
  | ((with_reducible apply md_i); (focus omega))
  | ((with_reducible apply part1))
  | ((with_reducible apply num2))
  | ((with_reducible apply num3))
  | ((with_reducible apply name1); (focus first | assumption | decide +kernel); intro _ _)
  | ((with_reducible apply one_m); (focus (walk_at "lq3")))
  | ((with_reducible apply one_s); (focus (walk_at "lq3")); (focus with_unfolding_all rfl))
  | refine ⟨_, rfl, ?_⟩
  | refine ⟨_, _, rfl, rfl, ?_⟩
  | ((with_reducible apply gcons_t))
  | ((with_reducible apply gpar_t))
  | ((with_reducible apply gpar3_t))
  | refine ⟨rfl, ?_⟩
  | ((with_reducible apply iteT))
  | ((with_reducible apply iteF))
  | ((with_reducible apply ri_ii))
  | ((with_reducible apply ri_ib))
  | ((with_reducible apply ri_ss))
  | ((with_reducible apply ri_bb))
  | ((with_reducible apply ri_tt); (focus (walk_at "lk3")))
  | ((with_reducible apply ri_ll); (focus (walk_at "lk3")))
  | ((with_reducible apply ri_dd); (focus (walk_at "lk3")))
  | ((with_reducible apply rt_l); (focus (walk_at "lk3")); (focus (walk_at "lk3")))
  | ((with_reducible apply rt_t); (focus (walk_at "lk3")); (focus (walk_at "lk3")))
  | ((with_reducible apply rix_t); (focus (walk_at "lk3")); (focus with_unfolding_all rfl))
  | ((with_reducible apply rix_l); (focus (walk_at "lk3")); (focus with_unfolding_all rfl))
  | ((with_reducible apply rlen_t); (focus (walk_at "lk3")); (focus first | (simp only [List.length_cons, List.length_nil]; done) | (simp only [List.length_cons, List.length_nil]; with_unfolding_all rfl) | with_unfolding_all rfl))
  | ((with_reducible apply rlen_l); (focus (walk_at "lk3")); (focus first | (simp only [List.length_cons, List.length_nil]; done) | (simp only [List.length_cons, List.length_nil]; with_unfolding_all rfl) | with_unfolding_all rfl))
  | ((with_reducible apply rin_t); (focus (walk_at "lk3")); (focus with_unfolding_all rfl))
  | ((with_reducible apply rnin_t); (focus (walk_at "lk3")); (focus with_unfolding_all rfl))
  | ((with_reducible apply rsl_t); (focus (walk_at "lk3")); (focus with_unfolding_all rfl); (focus first | (simp [cutV, HT.sIx]; done) | (simp [cutV, HT.sIx]; rfl)); intro _ _)
  | ((with_reducible apply rin_l); (focus (walk_at "lk3")))
  | ((with_reducible apply rnin_l); (focus (walk_at "lk3")))
  | ((with_reducible apply gtup_t); (focus (walk_at "lk3")); (focus with_unfolding_all rfl); walk_at "rdu3")
  | ((with_reducible apply alc); (focus decide); intro _ _)
  | ((with_reducible apply itenT))
  | ((with_reducible apply itenF))
  | ((with_reducible apply ited_sT); (focus first | rfl | assumption))
  | ((with_reducible apply ited_sF); (focus first | assumption | decide +kernel))
  | ((with_reducible apply itedn_sT); (focus first | assumption | decide +kernel))
  | ((with_reducible apply itedn_sF); (focus first | rfl | assumption))
  | ((with_reducible apply ited_mT); (focus first | assumption | decide +kernel))
  | ((with_reducible apply ited_mF); (focus first | assumption | decide +kernel))
  | ((with_reducible apply itedn_mT); (focus first | assumption | decide +kernel))
  | ((with_reducible apply itedn_mF); (focus first | assumption | decide +kernel))
  | ((with_reducible apply ited_s) <;> intro _)
  | ((with_reducible apply itedn_s) <;> intro _)
  | ((with_reducible apply ited_m) <;> intro _)
  | ((with_reducible apply itedn_m) <;> intro _)
  | ((with_reducible apply itedT); (focus first | assumption | omega))
  | ((with_reducible apply itedF); (focus first | assumption | omega))
  | ((with_reducible apply itednF); (focus first | assumption | omega))
  | ((with_reducible apply itednT); (focus first | assumption | omega))
  | ((with_reducible apply ited) <;> intro _)
  | ((with_reducible apply itedn) <;> intro _)
  | ((with_reducible apply itebn) <;> intro _)
  | ((with_reducible apply iteb) <;> intro _)
  | walk_at "rdu3"
  | contradiction)
local macro_rules | `(tactic| walk_at "rd3") => `(tactic| (try walk_at "rdu3"); repeat' walk_at "rd13")
theorem st_zz {K : PySem.W.Frag} {tb : List (Addr × Str)} {x l : Addr} {H : Hp} {D : Ends} {W : Wd} {M : MD} {ps : List (Addr × Row)} {p0 : Addr × Row} {x0 x1 x2 x3 x6 x7 x8 x9 x10 x11 x12 x13 : Option V} (gd : W.good) (gm : W.more) (ok : M.ok W) (hw : WorldAt K H x W) (hr : RowsP H l ps) (hF : RecF W M ps) (n : ps.length ≤ 20) (i0 : ps[0]? = some p0) (e0 : p0.2 = M.row) (h6 : M.se ∈ six ∧ M.by_ ∈ six) (hT : Tabs tb H)
    (k : ∀ (H' : Hp) (z13 : Option V), ExtN H H' → Tabs tb H' → D.nx [x0, x1, x2, x3, some (.ref x), some (.ref l), x6, x7, x8, x9, x10, x11, x12, z13] H') :
    (tIfS (tAnd (tTest (tOp (rI0 fun i j => V.bl (decide (j < i))) (tCB (rLenS K) (tCons (tVar 5) tNil)) (tC (V.int 1)))) (tTest (tOp rEq (tOp (rIxT K) (tOp (rIxL K) (tVar 5) (tC (V.int 1))) (tC (V.int 0))) (tC (V.str (Str.ofString "sent"))))))
      (tSeq (tAsg (tOp rCat (tLst (tCons (tOp (rIxL K) (tVar 5) (tC (V.int 0))) (tCons (tOp (rCatA K) (tSl (rSlA K) (tOp (rIxL K) (tVar 5) (tC (V.int 1))) tNoPart (tPart (tC (V.int 2)))) (tTup (tCons (tC (V.str (Str.ofString "zz"))) (tCons (tC (V.int 0)) tNil)))) tNil))) (tSl (rSlL K) (tVar 5) (tPart (tC (V.int 2))) tNoPart)) (gName 13))
        (tIfS (tTest (tOp rNe (tLam tb (TTm K) (fun E => tCall (spShares K) [] E (tCons (tVar 13) (tCons (tVar 4) tNil)))) (tC (V.str (Str.ofString "record"))))) (tRet (tC (V.bl false))) tNext)) tNext) D
      [x0, x1, x2, x3, some (.ref x), some (.ref l), x6, x7, x8, x9, x10, x11, x12, x13] H := by
  walk_at "rd3"
  refine rlen_row hr ?_
  walk_at "rd3"
  · rename_i e
    have h1 : 1 < ps.length := by omega
    have i1 : ps[1]? = some ps[1] := List.getElem?_eq_getElem h1
    generalize ps[1] = p1 at i1
    have m1 := List.mem_of_getElem? i1
    refine rix_row hr (atI_nat (j := 1) i1) ?_
    have hb1 := hr.2 _ m1
    refine rix_kind hb1 ?_
    walk_at "rd3"
    · rename_i e1
      obtain ⟨d, w, at_, er⟩ := kind_sent e1
      have g1 := (hF p1 m1).1
      rw [er] at hb1 g1
      dsimp only [Row.vs] at hb1
      refine rix_row hr (atI_nat (j := 0) i0) ?_
      walk_at "rd3"
      refine rix_row hr (atI_nat (j := 1) i1) ?_
      walk_at "rd3"
      rename_i s1 hs1 t2 ht2
      refine rcata_t (keep upd_same ht2) upd_same (by simp) (by simp) (by simp) rfl fun t ht => ?_
      have hx : Same H (upd (upd (upd H s1 (.tup [.str "sent", .int d])) t2 (.tup [.str "zz", .int 0])) t (.tup ([.str "sent", .int d] ++ [.str "zz", .int 0]))) := ((grow hs1).trans (grow ht2)).trans (grow ht)
      have ht3 : upd (upd (upd H s1 (.tup [.str "sent", .int d])) t2 (.tup [.str "zz", .int 0])) t (.tup ([.str "sent", .int d] ++ [.str "zz", .int 0])) t = some (.tup (Row.sent d "zz" 0).vs) := upd_same
      generalize upd (upd (upd H s1 (.tup [.str "sent", .int d])) t2 (.tup [.str "zz", .int 0])) t (.tup ([.str "sent", .int d] ++ [.str "zz", .int 0])) = H1 at hx ht3
      walk_at "rd3"
      rename_i z hz
      have hx2 := hx.trans (grow (u := .lst [.ref p0.1, .ref t]) hz)
      have hr2 : RowsP (upd H1 z (.lst [.ref p0.1, .ref t])) z [p0, (t, Row.sent d "zz" 0)] := by
        refine ⟨upd_same, fun p hp => ?_⟩
        rcases List.mem_cons.mp hp with rfl | hp
        · exact hx2 _ _ (hr.2 _ (List.mem_of_getElem? i0))
        · rw [List.mem_singleton.mp hp]
          exact keep ht3 hz
      generalize upd H1 z (.lst [.ref p0.1, .ref t]) = H2 at hx2 hr2
      refine rsl_rowsN (hr.same hx2) fun l2 H3 s3 _ r3 => ?_
      have n3 := (cutA_sub ps (some 2) none).length_le
      refine rcat_rows (hr2.same s3) r3 (by simp) (by omega) fun l3 H4 s4 _ r4 => ?_
      have hx4 := (hx2.trans s3).trans s4
      walk_at "rd3"
      refine told_bad gd ok (worldAt_same hx4 hw) r4 ?_ (by rw [List.length_append]; simp only [List.length_cons, List.length_nil]; omega) (hT.ext hx4) (.inl fun hs => ?_) fun H5 e5 hT5 => ?_
      · refine RecG.app (fun p hp => ?_) (hF.sub fun p hp => cutA_mem hp).toG
        rcases List.mem_cons.mp hp with rfl | hp
        · exact hF.toG _ (List.mem_of_getElem? i0)
        · rw [List.mem_singleton.mp hp]
          obtain ⟨g2, g3, _⟩ := g1
          refine ⟨⟨g2, g3, by decide +kernel, by decide, by decide⟩, ?_, ?_⟩
          · intro _ _ _ _ _ _ _ _ _ ez
            cases ez
          intro _ _ _ ez
          cases ez
          exact ⟨fun z => zz_six _ h6.1 z.symm, fun z => zz_six _ h6.2 z.symm⟩
      · have hf := find_zz (p0 := p0) (q := (t, Row.sent d "zz" 0)) (r := cutA ps (some 2) none) (by rw [e0]; exact M_kind) rfl
        exact zz_six _ (gm.c6 _ (hs _ hf _ _ _ rfl)) rfl
      · refine rne_rr ?_
        walk_at "rd3"
        exact k H5 _ ((extN_same hx4).trans e5) hT5
    · exact k H _ (ExtN.refl H) hT
  · exact k H _ (ExtN.refl H) hT
theorem st_tax {K : PySem.W.Frag} {tb : List (Addr × Str)} {x l : Addr} {H : Hp} {D : Ends} {W : Wd} {M : MD} {ps : List (Addr × Row)} {p0 : Addr × Row} {x0 x1 x2 x3 x6 x7 x8 x9 x10 x11 x12 x13 : Option V} (gd : W.good) (ok : M.ok W) (hw : WorldAt K H x W) (hr : RowsP H l ps) (hF : RecF W M ps) (n : ps.length ≤ 20) (i0 : ps[0]? = some p0) (e0 : p0.2 = M.row) (hT : Tabs tb H)
    (k : ∀ (H' : Hp) (z13 : Option V), ExtN H H' → Tabs tb H' → D.nx [x0, x1, x2, x3, some (.ref x), some (.ref l), x6, x7, x8, x9, x10, x11, x12, z13] H') :
    (tSeq (tAsg (tOp rCat (tLst (tCons (tOp (rCatA K) (tSl (rSlA K) (tOp (rIxL K) (tVar 5) (tC (V.int 0))) tNoPart (tPart (tC (V.int 9)))) (tTup (tCons (tOp (rI0 fun i j => V.int (i + j)) (tOp (rIxT K) (tOp (rIxL K) (tVar 5) (tC (V.int 0))) (tC (V.int 9))) (tC (V.int 1))) tNil))) tNil)) (tSl (rSlL K) (tVar 5) (tPart (tC (V.int 1))) tNoPart)) (gName 13))
        (tIfS (tTest (tOp rNe (tLam tb (TTm K) (fun E => tCall (spShares K) [] E (tCons (tVar 13) (tCons (tVar 4) tNil)))) (tC (V.str (Str.ofString "record"))))) (tRet (tC (V.bl false))) tNext)) D
      [x0, x1, x2, x3, some (.ref x), some (.ref l), x6, x7, x8, x9, x10, x11, x12, x13] H := by
  have m0 := List.mem_of_getElem? i0
  have hb0 := hr.2 _ m0
  have g0 := ok.good
  rw [e0] at hb0
  unfold MD.row at hb0 g0
  dsimp only [Row.vs] at hb0
  walk_at "rd3"
  refine rix_row hr (atI_nat (j := 0) i0) ?_
  walk_at "rd3"
  rename_i s1 hs1
  refine rix_row (hr.same (grow hs1)) (atI_nat (j := 0) i0) ?_
  walk_at "rd3"
  rename_i t2 ht2
  refine rcata_t (keep upd_same ht2) upd_same (by simp) (by simp) (by simp) rfl fun t ht => ?_
  have hx : Same H (upd (upd (upd H s1 (.tup [.str "made", .int M.d, .int M.sl, .int M.bu, .str M.se, .str M.by_, .str M.wr, .int M.m, .int M.pr])) t2 (.tup [.int (M.t + 1)])) t (.tup ([.str "made", .int M.d, .int M.sl, .int M.bu, .str M.se, .str M.by_, .str M.wr, .int M.m, .int M.pr] ++ [.int (M.t + 1)]))) := ((grow hs1).trans (grow ht2)).trans (grow ht)
  have ht3 : upd (upd (upd H s1 (.tup [.str "made", .int M.d, .int M.sl, .int M.bu, .str M.se, .str M.by_, .str M.wr, .int M.m, .int M.pr])) t2 (.tup [.int (M.t + 1)])) t (.tup ([.str "made", .int M.d, .int M.sl, .int M.bu, .str M.se, .str M.by_, .str M.wr, .int M.m, .int M.pr] ++ [.int (M.t + 1)])) t = some (.tup (Row.made M.d M.sl M.bu M.se M.by_ M.wr M.m M.pr (M.t + 1)).vs) := upd_same
  generalize upd (upd (upd H s1 (.tup [.str "made", .int M.d, .int M.sl, .int M.bu, .str M.se, .str M.by_, .str M.wr, .int M.m, .int M.pr])) t2 (.tup [.int (M.t + 1)])) t (.tup ([.str "made", .int M.d, .int M.sl, .int M.bu, .str M.se, .str M.by_, .str M.wr, .int M.m, .int M.pr] ++ [.int (M.t + 1)])) = H1 at hx ht3
  walk_at "rd3"
  rename_i z hz
  have hx2 := hx.trans (grow (u := .lst [.ref t]) hz)
  have hr2 : RowsP (upd H1 z (.lst [.ref t])) z [(t, Row.made M.d M.sl M.bu M.se M.by_ M.wr M.m M.pr (M.t + 1))] := by
    refine ⟨upd_same, fun p hp => ?_⟩
    rw [List.mem_singleton.mp hp]
    exact keep ht3 hz
  generalize upd H1 z (.lst [.ref t]) = H2 at hx2 hr2
  refine rsl_rowsN (hr.same hx2) fun l2 H3 s3 _ r3 => ?_
  have n3 := (cutA_sub ps (some 1) none).length_le
  refine rcat_rows (hr2.same s3) r3 (by simp) (by omega) fun l3 H4 s4 _ r4 => ?_
  have hx4 := (hx2.trans s3).trans s4
  walk_at "rd3"
  refine told_bad gd ok (worldAt_same hx4 hw) r4 ?_ (by rw [List.length_append]; simp only [List.length_cons, List.length_nil]; omega) (hT.ext hx4) (.inr ⟨_, rfl, fun d sl bu se by_ wr m pr t' land kind e v1 v3 et => ?_⟩) fun H5 e5 hT5 => ?_
  · refine RecG.app (fun p hp => ?_) (hF.sub fun p hp => cutA_mem hp).toG
    rw [List.mem_singleton.mp hp]
    refine ⟨g0, ?_, ?_⟩
    · intro _ _ _ _ _ _ _ _ _ ez
      cases ez
      exact ⟨rfl, rfl, rfl⟩
    · intro _ _ _ ez
      cases ez
  · injection e with j1 j2 j3 j4 j5 j6 j7 j8 j9
    subst j1 j2 j3 j4 j5 j6 j7 j8 j9
    rw [ok.by_] at v1
    cases v1
    rw [ok.wr] at v3
    cases v3
    have := ok.tax
    omega
  · refine rne_rr ?_
    walk_at "rd3"
    exact k H5 _ ((extN_same hx4).trans e5) hT5
end Mk
/-! the law -/
namespace Mk
open PySem PySem.Spec PyProof.Rows L2 He LamX
local macro_rules | `(tactic| walk_at "rdu3") => `(tactic| dsimp only [tSeq, tNext, tRet, tRetN, tAsg, tDrop, tIfS, tOr, tAnd, tNot, tB, tTest, tCB, tCons, tNil, tVar, tC, tOp, tUn, tOrV, tAndV, tNotV, tIf, tChain, tCall, tTup, tLst, gName, L2.start, dl_map, dl_map0, dl_app, dl_app0, List.length_cons, List.length_nil, List.replicate, List.set, Nat.reduceAdd, Nat.reduceSub, tLc_eq, tFor_eq, sck_eq, dct_eq, tPar, gCons, gNil, iList, iTup, iRng1, iStr, wipe, tYes, tSl, tPart, tNoPart, tFld, tMeth, tMake, tFldK, sFldK, tDGetK, tDInK, tDNotInK, iItemsK, tLV, tLockE, tLock, tMakeK,  tDNewK, tPairs, tBM, tDispTK, iItemsTK, sDPutK, sDAugK])
local macro_rules | `(tactic| walk_at "lk3") => `(tactic| first | assumption | (with_reducible exact upd_same) | ((with_reducible apply keep); rotate_left; (focus assumption); walk_at "lk3") | ((with_reducible apply kp); (focus assumption); walk_at "lk3") | ((with_reducible apply keepI); rotate_left; (focus (walk_at "lk3")); (focus (intro _ _ _ e; cases e)); walk_at "lk3"))
local macro_rules | `(tactic| walk_at "lq3") => `(tactic| first | assumption | exact .inl (SqL.of (by walk_at "lk3")) | exact .inr (SqT.of (by walk_at "lk3")) | (refine sq2_same (grow (by assumption)) ?_; walk_at "lq3") | (refine sq2_same (by assumption) ?_; walk_at "lq3"))
local macro_rules | `(tactic| walk_at "sm3") => `(tactic| first | exact Same.refl _ | assumption | (refine same_upd2 ?_ (by assumption); walk_at "sm3") | (refine same_upd ?_ (by assumption); walk_at "sm3") | (refine Same.trans ?_ (by assumption); walk_at "sm3"))
local macro_rules | `(tactic| walk_at "rd13") => `(tactic| first
  | ((with_reducible apply rfld_t); (focus (walk_at "lk3")); (focus assumption); (focus assumption); (focus with_unfolding_all rfl))
  | ((with_reducible apply rsetf_t); (focus (walk_at "lk3")); (focus assumption); (focus assumption); (focus with_unfolding_all rfl); (focus (simp; done)); walk_at "rdu3")
  | ((with_reducible apply rlend_t); (focus (walk_at "lk3")))
  | ((with_reducible apply rlist_l); (focus (walk_at "lk3")); intro _ _)
  | ((with_reducible apply rdict_d); (focus (walk_at "lk3")); intro _ _)
  | ((with_reducible apply rdg_t); (focus (walk_at "lk3")); (focus first | assumption | with_unfolding_all rfl))
  | ((with_reducible apply rdi_some); (focus (walk_at "lk3")); (focus assumption))
  | ((with_reducible apply rdn_some); (focus (walk_at "lk3")); (focus assumption))
  | ((with_reducible apply rdi_t); (focus (walk_at "lk3")))
  | ((with_reducible apply rdn_t); (focus (walk_at "lk3")))
  | ((with_reducible apply rcat_t); (focus (walk_at "lk3")); (focus (walk_at "lk3")); (focus first | (refine line_ge ?_; simp; done) | (refine line_ge ?_; simp; omega)); intro _ _; walk_at "rdu3")
  | ((with_reducible apply rmeth_t); (focus (walk_at "lk3")); (focus with_unfolding_all rfl))
  | ((with_reducible apply rlv_t); (focus (walk_at "lk3")); intro _ _)
  | ((with_reducible apply rpow18))
  | ((with_reducible apply rng_t); (focus omega); (focus omega))
  | ((with_reducible apply tyl); (focus (walk_at "lk3")))
  | ((with_reducible apply rapp_t); (focus (walk_at "lk3")); (focus first | (refine Nat.lt_of_lt_of_le ?_ (line_ge (Nat.le_refl 16777216)); simp; omega) | (rw [sizeLine_eq]; simp; omega) | (rw [sizeLine_eq]; omega)); walk_at "rdu3")
  | ((with_reducible apply req_ss))
  | ((with_reducible apply req_ii))
  | ((with_reducible apply req_bb))
  | ((with_reducible apply rne_ss))
  | ((with_reducible apply rne_ii))
  | ((with_reducible apply cm_l); (focus omega); (focus omega))
  | ((with_reducible apply cm_r); (focus omega); (focus omega))
  | ((with_reducible apply cd_i); (focus omega); (focus omega))
  | ((with_reducible apply md_i); (focus omega))
  | ((with_reducible apply part1))
  | ((with_reducible apply num2))
  | ((with_reducible apply num3))
  | ((with_reducible apply name1); (focus first | assumption | decide +kernel); intro _ _)
  | ((with_reducible apply one_m); (focus (walk_at "lq3")))
  | ((with_reducible apply one_s); (focus (walk_at "lq3")); (focus with_unfolding_all rfl))
  | refine ⟨_, rfl, ?_⟩
  | refine ⟨_, _, rfl, rfl, ?_⟩
  | ((with_reducible apply gcons_t))
  | ((with_reducible apply gpar_t))
  | ((with_reducible apply gpar3_t))
  | refine ⟨rfl, ?_⟩
  | ((with_reducible apply iteT))
  | ((with_reducible apply iteF))
  | ((with_reducible apply ri_ii))
  | ((with_reducible apply ri_ib))
  | ((with_reducible apply ri_ss))
  | ((with_reducible apply ri_bb))
  | ((with_reducible apply ri_tt); (focus (walk_at "lk3")))
  | ((with_reducible apply ri_ll); (focus (walk_at "lk3")))
  | ((with_reducible apply ri_dd); (focus (walk_at "lk3")))
  | ((with_reducible apply rt_l); (focus (walk_at "lk3")); (focus (walk_at "lk3")))
  | ((with_reducible apply rt_t); (focus (walk_at "lk3")); (focus (walk_at "lk3")))
  | ((with_reducible apply rix_t); (focus (walk_at "lk3")); (focus with_unfolding_all rfl))
  | ((with_reducible apply rix_l); (focus (walk_at "lk3")); (focus with_unfolding_all rfl))
  | ((with_reducible apply rlen_t); (focus (walk_at "lk3")); (focus first | (simp only [List.length_cons, List.length_nil]; done) | (simp only [List.length_cons, List.length_nil]; with_unfolding_all rfl) | with_unfolding_all rfl))
  | ((with_reducible apply rlen_l); (focus (walk_at "lk3")); (focus first | (simp only [List.length_cons, List.length_nil]; done) | (simp only [List.length_cons, List.length_nil]; with_unfolding_all rfl) | with_unfolding_all rfl))
  | ((with_reducible apply rin_t); (focus (walk_at "lk3")); (focus with_unfolding_all rfl))
  | ((with_reducible apply rnin_t); (focus (walk_at "lk3")); (focus with_unfolding_all rfl))
  | ((with_reducible apply rsl_t); (focus (walk_at "lk3")); (focus with_unfolding_all rfl); (focus first | (simp [cutV, HT.sIx]; done) | (simp [cutV, HT.sIx]; rfl)); intro _ _)
  | ((with_reducible apply rin_l); (focus (walk_at "lk3")))
  | ((with_reducible apply rnin_l); (focus (walk_at "lk3")))
  | ((with_reducible apply gtup_t); (focus (walk_at "lk3")); (focus with_unfolding_all rfl); walk_at "rdu3")
  | ((with_reducible apply alc); (focus decide); intro _ _)
  | ((with_reducible apply itenT))
  | ((with_reducible apply itenF))
  | ((with_reducible apply ited_sT); (focus first | rfl | assumption))
  | ((with_reducible apply ited_sF); (focus first | assumption | decide +kernel))
  | ((with_reducible apply itedn_sT); (focus first | assumption | decide +kernel))
  | ((with_reducible apply itedn_sF); (focus first | rfl | assumption))
  | ((with_reducible apply ited_mT); (focus first | assumption | decide +kernel))
  | ((with_reducible apply ited_mF); (focus first | assumption | decide +kernel))
  | ((with_reducible apply itedn_mT); (focus first | assumption | decide +kernel))
  | ((with_reducible apply itedn_mF); (focus first | assumption | decide +kernel))
  | ((with_reducible apply ited_s) <;> intro _)
  | ((with_reducible apply itedn_s) <;> intro _)
  | ((with_reducible apply ited_m) <;> intro _)
  | ((with_reducible apply itedn_m) <;> intro _)
  | ((with_reducible apply itedT); (focus first | assumption | omega))
  | ((with_reducible apply itedF); (focus first | assumption | omega))
  | ((with_reducible apply itednF); (focus first | assumption | omega))
  | ((with_reducible apply itednT); (focus first | assumption | omega))
  | ((with_reducible apply ited) <;> intro _)
  | ((with_reducible apply itedn) <;> intro _)
  | ((with_reducible apply itebn) <;> intro _)
  | ((with_reducible apply iteb) <;> intro _)
  | walk_at "rdu3"
  | contradiction)
local macro_rules | `(tactic| walk_at "rd3") => `(tactic| (try walk_at "rdu3"); repeat' walk_at "rd13")
theorem dig_s {sa : Addr} {b : Int} {ns : List Int} {H : Hp} {D : Ends} {x2 x3 x4 x5 x6 x7 x8 x9 x10 x11 x12 x13 : Option V} (hs : H sa = some (.lst (ns.map V.int))) (h0 : 0 ≤ b) (h1 : b ≤ 1000) (k : ∀ (d : Addr) (H' : Hp), Same H H' → H' d = some (DrawsO d) → D.nx [some (.ref sa), some (.int b), some (.ref d), x3, x4, x5, x6, x7, x8, x9, x10, x11, x12, x13] H') :
    (tAsg (tCall spDigits [] E0 (tCons (tVar 0) (tCons (tVar 1) (tCons (tC (V.int 90)) (tCons (tC (V.int 1000003)) tNil))))) (gName 2)) D [some (.ref sa), some (.int b), x2, x3, x4, x5, x6, x7, x8, x9, x10, x11, x12, x13] H := by
  walk_at "rd3"
  exact ⟨sa, ns, b, rfl, hs, h0, h1, fun d H' s hd => k d H' s hd⟩
theorem parts_s {d : Addr} {H : Hp} {D : Ends} {x0 x1 x3 x4 x5 x6 x7 x8 x9 x10 x11 x12 x13 : Option V} (hd : H d = some (DrawsO d)) (k : ∀ (a : Addr) (W : Wd) (H' : Hp), Same H H' → PartsL H' a W → W.good → W.more → D.nx [x0, x1, some (.ref d), some (.ref a), x4, x5, x6, x7, x8, x9, x10, x11, x12, x13] H') :
    (tAsg (tCall spParts [] E0 (tCons (tVar 2) tNil)) (gName 3)) D [x0, x1, some (.ref d), x3, x4, x5, x6, x7, x8, x9, x10, x11, x12, x13] H := by
  walk_at "rd3"
  exact ⟨hd, fun a W H' s h1 h2 h3 => k a W H' s h1 h2 h3⟩
theorem world_s {K : PySem.W.Frag} {a : Addr} {W : Wd} {H : Hp} {D : Ends} {x0 x1 x2 x4 x5 x6 x7 x8 x9 x10 x11 x12 x13 : Option V} (hp : PartsL H a W) (gd : W.good) (k : ∀ (x : Addr) (H' : Hp), Same H H' → WorldAt K H' x W → D.nx [x0, x1, x2, some (.ref a), some (.ref x), x5, x6, x7, x8, x9, x10, x11, x12, x13] H') :
    (tAsg (tCall (spWorld K) [] E0 (tCons (tVar 3) tNil)) (gName 4)) D [x0, x1, x2, some (.ref a), x4, x5, x6, x7, x8, x9, x10, x11, x12, x13] H := by
  walk_at "rd3"
  exact ⟨a, W, rfl, hp, gd, fun x H' s h1 => k x H' s h1⟩
theorem rec_s {K : PySem.W.Frag} {d a x : Addr} {W : Wd} {H : Hp} {D : Ends} {x0 x1 x5 x6 x7 x8 x9 x10 x11 x12 x13 : Option V} (hd : H d = some (DrawsO d)) (hp : PartsL H a W) (hw : WorldAt K H x W) (gd : W.good) (gm : W.more)
    (k : ∀ (l : Addr) (ps : List (Addr × Row)) (M : MD) (p0 : Addr × Row) (H' : Hp), Same H H' → RowsP H' l ps → M.ok W → RecF W M ps → ps[0]? = some p0 → p0.2 = M.row → ps.length ≤ 20 → M.se ∈ six → M.by_ ∈ six → D.nx [x0, x1, some (.ref d), some (.ref a), some (.ref x), some (.ref l), x6, x7, x8, x9, x10, x11, x12, x13] H') :
    (tAsg (tCall (spLRec K) [] E0 (tCons (tVar 2) (tCons (tVar 3) (tCons (tVar 4) tNil)))) (gName 5)) D [x0, x1, some (.ref d), some (.ref a), some (.ref x), x5, x6, x7, x8, x9, x10, x11, x12, x13] H := by
  walk_at "rd3"
  exact ⟨d, a, x, W, rfl, hd, hp, hw, gd, gm, fun l ps M p0 H' s h1 h2 h3 h4 h5 h6 h7 h8 => k l ps M p0 H' s h1 h2 h3 h4 h5 h6 h7 h8⟩
theorem take_s {K : PySem.W.Frag} {d l : Addr} {H : Hp} {D : Ends} {ps : List (Addr × Row)} {x0 x1 x3 x4 x6 x7 x8 x9 x10 x11 x12 x13 : Option V} (hd : H d = some (DrawsO d)) (hr : RowsP H l ps) (n : 1 ≤ ps.length)
    (k : ∀ (i : Int) (H' : Hp), Same H H' → D.nx [x0, x1, some (.ref d), x3, x4, some (.ref l), some (.int i), x7, x8, x9, x10, x11, x12, x13] H') :
    (tAsg (tCall spTake [] E0 (tCons (tVar 2) (tCons (tCB (rLenS K) (tCons (tVar 5) tNil)) tNil))) (gName 6)) D [x0, x1, some (.ref d), x3, x4, some (.ref l), x6, x7, x8, x9, x10, x11, x12, x13] H := by
  walk_at "rd3"
  refine rlen_row hr ?_
  exact take_n hd (by omega) fun i H' s _ _ => k i H' s
def spLaw (K : PySem.W.Frag) (P : Addr) : Sp := fun vs H Q _ => ∃ (a : Addr) (ns : List Int), vs = [.ref a] ∧ SqL K H a (ns.map V.int) ∧ ns.length ≤ 63 ∧ (∀ z ∈ ns, Builtin.Int.intBits z ≤ 1048576) ∧ H P = some (.tbl #[]) ∧ ∀ H', Q (.bl true) H'
theorem ok_law {P : Program} {w : World} {K : PySem.W.Frag} {mg : Str → Option Value} {base : Heap} {fd : FuncData} {p : Addr × Addr} (T : Tx w K mg) (F : FunD K "law" "law" (defArgs s_law) (defBody s_law) (defScope s_law) [] [] (ga K "law") fd)
    (TB : TabB base mg p.1 p.2) (hp : p = cT K ("law", none)) : FnOk P w K mg base CX0 40 (ga K "law") fd ["_law_script"] (spLaw K p.2) := by
  have G__law_digits := f_digits (P := P) (base := base) T
  have G__law_take := f_take (P := P) (base := base) T
  have G__law_parts := f_parts (P := P) (base := base) T
  have G__law_world := f_world (P := P) (base := base) T
  have G__law_record := f_lrecord (P := P) (base := base) T
  have G__law_can_be := f_can_be (P := P) (base := base) T
  have G__law_verdict := f_lverdict (P := P) (base := base) T
  have G__law_due := f_ldue (P := P) (base := base) T
  have G_judged := f_judged (P := P) (base := base) T
  have G_shares := f_shares (P := P) (base := base) T
  obtain ⟨oc, od, dV, kV, doc, pm, an, cdv, ct, osl, rfl, lk, hcd, _, _⟩ := F.ex
  have hcv : cdv = .ref p.1 := by
    obtain ⟨c, hc⟩ := codeIn_ref hcd
    have e : codeOf K ("law", none) = c := codeOf_eq lk hc
    rw [hp]
    show cdv = .ref (codeOf K ("law", none))
    rw [e]
    exact hc
  refine fn_of lk hcd sc_law (fun vs H Q E h => ?_) (fun A outer s H vs Q E hr h => ?_)
  · obtain ⟨a, ns, rfl, _⟩ := h
    rfl
  · have hcode : (cxOf CX0 P w K mg base ns_law "law" (defScope s_law) (ga K "law") cdv A outer s H E).env.code = .ref p.1 := hcv
    refine ⟨_, PSs.nox (pss_cons (ps_set (i := 0) sc_law.nd rfl (Or.inl rfl) (pe_slice (sl_listK (K := K) (by rfl)) (pv 0) po_none (po_some pe_int)))
      (pss_cons (ps_for PassesOwn.never rfl (pi_range1 (by rfl) T.b_range (pa_cons (pe_callB (call_max2 rfl) (by rfl) T.b_max bt_max (pa_cons pe_int (pa_cons (pe_callB (call_min2 rfl) (by rfl) T.b_min bt_min (pa_cons pe_int (pa_cons (pe_callB (call_lenA (K := K) (by rfl)) (by rfl) T.b_len bt_len (pa_cons (pv 0) pa_nil)) pa_nil))) pa_nil))) pa_nil)) (pg_name (i := 1) sc_law.nd rfl (Or.inl rfl)) (pss_cons (ps_set (i := 2) sc_law.nd rfl (Or.inl rfl) (pe_fn G__law_digits (hr.mono (by decide)) pass0 (pa_cons (pv 0) (pa_cons (pv 1) (pa_cons pe_int (pa_cons pe_int pa_nil))))))
      (pss_cons (ps_set (i := 3) sc_law.nd rfl (Or.inr rfl) (pe_fn G__law_parts (hr.mono (by decide)) pass0 (pa_cons (pv 2) pa_nil)))
      (pss_cons (ps_set (i := 4) sc_law.nd rfl (Or.inr rfl) (pe_fn G__law_world (hr.mono (by decide)) pass0 (pa_cons (pv 3) pa_nil)))
      (pss_cons (ps_set (i := 5) sc_law.nd rfl (Or.inl rfl) (pe_fn G__law_record (hr.mono (by decide)) pass0 (pa_cons (pv 2) (pa_cons (pv 3) (pa_cons (pv 4) pa_nil)))))
      (pss_cons (ps_set (i := 6) sc_law.nd rfl (Or.inl rfl) (pe_fn G__law_take (hr.mono (by decide)) pass0 (pa_cons (pv 2) (pa_cons (pe_callB (call_lenA (K := K) (by rfl)) (by rfl) T.b_len bt_len (pa_cons (pv 5) pa_nil)) pa_nil))))
      (pss_cons (ps_set (i := 7) sc_law.nd rfl (Or.inl rfl) (pe_lst (pa_cons (pv 5) (pa_cons (pe_op op_cat (pe_slice (sl_listK (K := K) (by rfl)) (pv 5) po_none (po_some (pv 6))) (pe_slice (sl_listK (K := K) (by rfl)) (pv 5) (po_some (pe_op op_add (pv 6) pe_int)) po_none)) (pa_cons (pe_op op_cat (pe_slice (sl_listK (K := K) (by rfl)) (pv 5) po_none (po_some (pe_op op_add (pv 6) pe_int))) (pe_slice (sl_listK (K := K) (by rfl)) (pv 5) (po_some (pv 6)) po_none)) pa_nil)))))
      (pss_cons (ps_expr (pe_bm PySem.F.plainAttrs_list PySem.F.slot_list_append PySem.F.type_list_append mt_append (pv 7) (pa_cons (pe_op op_cat (pe_op op_cat (pe_slice (sl_listK (K := K) (by rfl)) (pv 5) po_none (po_some (pv 6))) (pe_revK (K := K) (by rfl) (pe_slice (sl_listK (K := K) (by rfl)) (pv 5) (po_some (pv 6)) (po_some (pe_op op_add (pv 6) pe_int))))) (pe_slice (sl_listK (K := K) (by rfl)) (pv 5) (po_some (pe_op op_add (pv 6) pe_int)) po_none)) pa_nil)))
      (pss_cons (ps_for PassesOwn.never rfl (pi_listK (K := K) (by rfl) (pv 7)) (pg_name (i := 8) sc_law.nd rfl (Or.inr rfl)) (pss_cons (ps_set (i := 9) sc_law.nd rfl (Or.inl rfl) (pe_fn G__law_can_be (hr.mono (by decide)) pass0 (pa_cons (pv 8) pa_nil)))
      (pss_cons (ps_set (i := 10) sc_law.nd rfl (Or.inl rfl) (pe_ifExp (PW.pt (pw_and (pt_val (pv 9)) (pw_and1 (pt_cmpR (op_inK (K := K) (by rfl)) pe_str (pe_lc (own := [("_law_row", 11)])  (by rfl) sc_law.nd (by exact (pi_listK (K := K) (by rfl) (pv 8))) (blkOk_by (own := [("_law_row", 11)]) (N := ns_law) (sc := defScope s_law) (by decide +kernel)) (fun _ _ _ _ _ => (pg_name (i := 11) sc_law.nd rfl (Or.inl rfl))) (fun _ _ _ _ _ => pts_nil) (fun _ _ _ _ _ => (pe_ix (ix_tupK (K := K) (by rfl)) (pv 11) pe_int (fun _ _ => rfl)))) rfl)))) (pe_fn G__law_verdict (hr.mono (by decide)) pass0 (pa_cons (pe_ix (ix_listK (K := K) (by rfl)) (pv 3) pe_int (fun _ _ => rfl)) (pa_cons (pv 8) pa_nil))) pe_str))
      (pss_cons (ps_if (pt_cmpR (op_neL (K := K) (by rfl) hr.units) (pe_told (k := 20) T (by rfl) TB hcode (hr.mono (by decide)) (lamS_by (sc := defScope s_law) (by decide +kernel)) (by rfl) (fun _ _ _ _ _ => rfl) (fun A outer s H E f c' hr => (pe_fn G_judged (hr.mono (by decide)) (passes_call (takes_of rfl rfl rfl rfl) (fun _ _ _ _ h => h)) (pa_cons (pv 8) (pa_cons (pe_callTy (call_tupleK (K := K) (by rfl)) (by rfl) T.b_tuple bt_tuple (pa_cons (pe_ix (ix_listK (K := K) (by rfl)) (pv 3) pe_int (fun _ _ => rfl)) pa_nil)) pa_nil))))) (pv 10) (nomark _)) (pss_one (ps_ret pe_bl)) pss_nil)
      (pss_cons (ps_set (i := 10) sc_law.nd rfl (Or.inl rfl) (pe_ifExp (PW.pt (pw_and (pt_val (pv 9)) (pw_and1 (pt_cmpR op_eq (pe_ix (ix_tupK (K := K) (by rfl)) (pe_ix (ix_listK (K := K) (by rfl)) (pv 8) (pe_un un_neg pe_int) (fun _ _ => rfl)) pe_int (fun _ _ => rfl)) pe_str (nomark _))))) (pe_fn G__law_due (hr.mono (by decide)) pass0 (pa_cons (pv 3) (pa_cons (pv 4) (pa_cons (pv 8) pa_nil)))) pe_str))
      (pss_cons (ps_set (i := 12) sc_law.nd rfl (Or.inl rfl) (pe_told (k := 20) T (by rfl) TB hcode (hr.mono (by decide)) (lamS_by (sc := defScope s_law) (by decide +kernel)) (by rfl) (fun _ _ _ _ _ => rfl) (fun A outer s H E f c' hr => (pe_fn G_shares (hr.mono (by decide)) (passes_call (takes_of rfl rfl rfl rfl) (fun _ _ _ _ h => h)) (pa_cons (pv 8) (pa_cons (pv 4) pa_nil))))))
      (pss_one (ps_if (PW.pt (pw_or (pt_cmpR (op_neL (K := K) (by rfl) hr.units) (pv 12) (pv 10) (nomark _)) (pw_or1 (PW.pt (pw_and (pt_val (pe_callB (call_isiA (K := K) (by rfl)) (by rfl) T.b_isinstance bt_isinstance (pa_cons (pv 12) (pa_cons (pe_ty T.b_dict bt_dict) pa_nil)))) (pw_and1 (pt_cmpR (op_neDK (K := K) (by rfl) hr.units) (pe_callTy (call_listT rfl) (by rfl) T.b_list bt_list (pa_cons (pv 12) pa_nil)) (pe_callTy (call_listT rfl) (by rfl) T.b_list bt_list (pa_cons (pv 10) pa_nil)) (nomark _)))))))) (pss_one (ps_ret pe_bl)) pss_nil))))))))
      (pss_cons (ps_if (PW.pt (pw_and (pt_cmpR op_gt (pe_callB (call_lenA (K := K) (by rfl)) (by rfl) T.b_len bt_len (pa_cons (pv 5) pa_nil)) pe_int (nomark _)) (pw_and1 (pt_cmpR op_eq (pe_ix (ix_tupK (K := K) (by rfl)) (pe_ix (ix_listK (K := K) (by rfl)) (pv 5) pe_int (fun _ _ => rfl)) pe_int (fun _ _ => rfl)) pe_str (nomark _))))) (pss_cons (ps_set (i := 13) sc_law.nd rfl (Or.inr rfl) (pe_op op_cat (pe_lst (pa_cons (pe_ix (ix_listK (K := K) (by rfl)) (pv 5) pe_int (fun _ _ => rfl)) (pa_cons (pe_op (op_catK (K := K) (by rfl)) (pe_slice (sl_tupK (K := K) (by rfl)) (pe_ix (ix_listK (K := K) (by rfl)) (pv 5) pe_int (fun _ _ => rfl)) po_none (po_some pe_int)) (pe_tup (pa_cons pe_str (pa_cons pe_int pa_nil)))) pa_nil))) (pe_slice (sl_listK (K := K) (by rfl)) (pv 5) (po_some pe_int) po_none)))
      (pss_one (ps_if (pt_cmpR op_ne (pe_told (k := 20) T (by rfl) TB hcode (hr.mono (by decide)) (lamS_by (sc := defScope s_law) (by decide +kernel)) (by rfl) (fun _ _ _ _ _ => rfl) (fun A outer s H E f c' hr => (pe_fn G_shares (hr.mono (by decide)) (passes_call (takes_of rfl rfl rfl rfl) (fun _ _ _ _ h => h)) (pa_cons (pv 13) (pa_cons (pv 4) pa_nil))))) pe_str (nomark _)) (pss_one (ps_ret pe_bl)) pss_nil))) pss_nil)
      (pss_cons (ps_set (i := 13) sc_law.nd rfl (Or.inr rfl) (pe_op op_cat (pe_lst (pa_cons (pe_op (op_catK (K := K) (by rfl)) (pe_slice (sl_tupK (K := K) (by rfl)) (pe_ix (ix_listK (K := K) (by rfl)) (pv 5) pe_int (fun _ _ => rfl)) po_none (po_some pe_int)) (pe_tup (pa_cons (pe_op op_add (pe_ix (ix_tupK (K := K) (by rfl)) (pe_ix (ix_listK (K := K) (by rfl)) (pv 5) pe_int (fun _ _ => rfl)) pe_int (fun _ _ => rfl)) pe_int) pa_nil))) pa_nil)) (pe_slice (sl_listK (K := K) (by rfl)) (pv 5) (po_some pe_int) po_none)))
      (pss_one (ps_if (pt_cmpR op_ne (pe_told (k := 20) T (by rfl) TB hcode (hr.mono (by decide)) (lamS_by (sc := defScope s_law) (by decide +kernel)) (by rfl) (fun _ _ _ _ _ => rfl) (fun A outer s H E f c' hr => (pe_fn G_shares (hr.mono (by decide)) (passes_call (takes_of rfl rfl rfl rfl) (fun _ _ _ _ h => h)) (pa_cons (pv 13) (pa_cons (pv 4) pa_nil))))) pe_str (nomark _)) (pss_one (ps_ret pe_bl)) pss_nil)))))))))))))
      (pss_one (ps_ret pe_bl)))), ?_⟩
    obtain ⟨a, ns, rfl, ha, h63, hbits, hP, q⟩ := h
    walk_at "rd3"
    refine ⟨a, _, rfl, ha, fun sa hsa => ?_⟩
    rw [cutV_map]
    have hn63 : (cutA ns none (some 63)).length ≤ 63 := Nat.le_trans (cutA_sub ns none (some 63)).length_le h63
    have hs1 : upd H sa (.lst ((cutA ns none (some 63)).map V.int)) sa = some (.lst ((cutA ns none (some 63)).map V.int)) := upd_same
    have hP1 := keep (u := .lst ((cutA ns none (some 63)).map V.int)) hP hsa
    generalize upd H sa (.lst ((cutA ns none (some 63)).map V.int)) = H1 at hs1 hP1
    generalize cutA ns none (some 63) = ns1 at hn63 hs1
    walk_at "rd3"
    have hj : ∀ L : Nat, 0 ≤ (if (if (L : Int) < 4 then (L : Int) else 4) > 1 then (if (L : Int) < 4 then (L : Int) else 4) else 1) ∧ (if (if (L : Int) < 4 then (L : Int) else 4) > 1 then (if (L : Int) < 4 then (L : Int) else 4) else 1) ≤ 4 := fun L => by
      split <;> split <;> omega
    obtain ⟨j0, j4⟩ := hj (ns1.map V.int).length
    refine ⟨4, _, rfl, 1, _, rfl, _, rfl, by omega, by omega, ?_⟩
    generalize (if (if (((ns1.map V.int).length : Nat) : Int) < 4 then (((ns1.map V.int).length : Nat) : Int) else 4) > 1 then (if (((ns1.map V.int).length : Nat) : Int) < 4 then (((ns1.map V.int).length : Nat) : Int) else 4) else 1) = j at j0 j4
    have hn4 : j.toNat ≤ 4 := by omega
    generalize j.toNat = nn at hn4
    generalize hq : (cxOf CX0 P w K mg base ns_law (Str.ofString "law") (defScope s_law) (ga K (Str.ofString "law")) cdv A outer s H E).env.qual ++ Str.ofString "<lambda>" = qn
    obtain ⟨tb, htb⟩ : ∃ tb : List (Addr × Str), tb = [(p.2, qn)] := ⟨_, rfl⟩
    have hT1 : Tabs tb H1 := fun q hq => by
      rw [htb] at hq
      rw [List.mem_singleton.mp hq]
      exact TabS.nil hP1
    rw [← htb]
    clear hq htb hP1 hP
    refine fr_it (walk_range (lo := 0) (n := nn)) (fun i σ H' => ExtN H1 H' ∧ Tabs tb H' ∧ ∃ y1 y2 y3 y4 y5 y6 y7 y8 y9 y10 y11 y12 y13, σ = [some (.ref sa), y1, y2, y3, y4, y5, y6, y7, y8, y9, y10, y11, y12, y13])
      ⟨ExtN.refl H1, hT1, _, _, _, _, _, _, _, _, _, _, _, _, _, rfl⟩ (fun _ _ _ _ _ => trivial) (fun i y σ H2 H3 hi pr yy => ?_) (fun σ H2 pr => ?_)
    · obtain ⟨e1, hT2, y1, y2, y3, y4, y5, y6, y7, y8, y9, y10, y11, y12, y13, rfl⟩ := pr
      obtain ⟨rfl, rfl⟩ := yy
      have hs2 := e1 _ _ hs1 (fun _ z => nomatch z)
      refine seq_i (dig_s hs2 (by omega) (by omega) fun d H4 s4 hd => ?_)
      refine seq_i (parts_s hd fun pa W H5 s5 hp gd gm => ?_)
      refine seq_i (world_s hp gd fun x H6 s6 hw => ?_)
      have hd6 := s6 _ _ (s5 _ _ hd)
      refine seq_i (rec_s hd6 (hp.same s6) hw gd gm fun l ps M p0 H7 s7 hr ok hF i0 e0 n20 h61 h62 => ?_)
      have h1 : 1 ≤ ps.length := by
        have := (List.getElem?_eq_some_iff.mp i0).1
        omega
      refine seq_i (take_s (K := K) (s7 _ _ hd6) hr h1 fun at_ H8 s8 => ?_)
      have hr8 := hr.same s8
      have hp8 := (hp.same s6).same (s7.trans s8)
      have hw8 := worldAt_same (s7.trans s8) hw
      have s48 : Same H3 H8 := ((((s4.trans s5).trans s6).trans s7).trans s8)
      refine seq_i (st_bent hr8 hF n20 fun H9 bl l1 l2 s9 hbl hb0 n1 n2 b1 b2 => ?_)
      refine seq_i (st_app (hr8.same s9) hF n20 hbl (by simp) fun H10 l3 s10 n3 b3 => ?_)
      have hb10 := s10 _ _ hbl
      have s811 : Same H8 (upd H10 bl (.lst ([.ref l, .ref l1, .ref l2] ++ [.ref l3]))) := same_upd (s9.trans s10) hb0
      have n0 : l ≠ bl := ne_of_none hr8.1 hb0
      have B0 : Bent (upd H10 bl (.lst ([.ref l, .ref l1, .ref l2] ++ [.ref l3]))) W M l := ⟨ps, hr8.same s811, hF, by omega⟩
      have B1 : Bent (upd H10 bl (.lst ([.ref l, .ref l1, .ref l2] ++ [.ref l3]))) W M l1 := (b1.ext (extN_same s10)).but hb10 n1
      have B2 : Bent (upd H10 bl (.lst ([.ref l, .ref l1, .ref l2] ++ [.ref l3]))) W M l2 := (b2.ext (extN_same s10)).but hb10 n2
      have B3 : Bent (upd H10 bl (.lst ([.ref l, .ref l1, .ref l2] ++ [.ref l3]))) W M l3 := b3.but hb10 n3
      have hb11 : upd H10 bl (.lst ([.ref l, .ref l1, .ref l2] ++ [.ref l3])) bl = some (.lst ([l, l1, l2, l3].map V.ref)) := upd_same
      have hT11 := hT2.ext (s48.trans s811)
      generalize upd H10 bl (.lst ([.ref l, .ref l1, .ref l2] ++ [.ref l3])) = H11 at s811 B0 B1 B2 B3 hb11 hT11
      refine seq_i (st_loop gd ok (hp8.same s811) (worldAt_same s811 hw8) hb11 (fun l' hl' => ?_) hT11 fun H12 z8 z9 z10 z11 z12 e12 hT12 => ?_)
      · rcases List.mem_cons.mp hl' with rfl | hl'
        · exact B0
        rcases List.mem_cons.mp hl' with rfl | hl'
        · exact B1
        rcases List.mem_cons.mp hl' with rfl | hl'
        · exact B2
        rw [List.mem_singleton.mp hl']
        exact B3
      have e := (extN_same s811).trans e12
      refine seq_i (st_zz gd gm ok (worldAt_ext e hw8) (rowsP_ext e hr8) hF n20 i0 e0 ⟨h61, h62⟩ hT12 fun H13 z13 e13 hT13 => ?_)
      have e' := e.trans e13
      refine st_tax gd ok (worldAt_ext e' hw8) (rowsP_ext e' hr8) hF n20 i0 e0 hT13 fun H14 z e14 hT14 => ?_
      exact ⟨e1.trans ((extN_same s48).trans (e'.trans e14)), hT14, _, _, _, _, _, _, _, _, _, _, _, _, _, rfl⟩
    · obtain ⟨e1, hT2, y1, y2, y3, y4, y5, y6, y7, y8, y9, y10, y11, y12, y13, rfl⟩ := pr
      exact q H2
end Mk
/-! The end. -/
namespace Mk
open PySem PySem.Spec L2 He LamX
theorem law_at {w : World} {K : PySem.W.Frag} {mg : Str → Option Value} {h : Heap} {f : Addr} (X : K.In h) (G : h.Ns mainGlobals mg) (hf : mg ("law" : Str) = some (.ref f)) (c : SaysX fa fn ts tf ex w h K) :
    LawAtS PySem.Challenge.rw_marketden_k06_whole_verdicts w K CX0 40 63 "_law_script" mg f h := by
  have T : Tx w K mg := tx_of X G c
  have e := hf.symm.trans T.g_law
  cases e
  obtain ⟨fd, F⟩ := T.d_law
  have hp : (("law", none) : Defn) ∈ tf := List.mem_cons_self
  refine ⟨fd, [cT K ("law", none)], spLaw K (cT K ("law", none)).2, ?_, ?_, ?_, ?_, ?_, ?_⟩
  · intro p hm
    rw [List.mem_singleton.mp hm]
    exact c.empty _ hp
  · intro p hm
    rw [List.mem_singleton.mp hm]
    exact c.out _ hp
  · intro p hm
    rw [List.mem_singleton.mp hm]
    exact PySem.W.codeHd_of_K X (c.hd _ hp)
  · exact fun s v => FunD.bindsA (ps := ["_law_script"]) F (fun _ _ _ _ _ _ us hl => match us, hl with | [_], _ => rfl) s [v] rfl
  · intro H a ns hl hb hT hS
    exact ⟨a, ns, rfl, hS, hl, hb, hT _ (List.mem_singleton.mpr rfl), fun _ => rfl⟩
  · intro base KB GB hTB
    exact ok_law T F (hTB _ (List.mem_singleton.mpr rfl)) rfl
end Mk
open PySem PySem.W PySem.Calls PyProof.Rows
set_option maxHeartbeats 0 in
theorem PySem.Challenge.cw_marketden_k06_whole_verdicts_holds : PySem.Challenge.rw_marketden_k06_whole_verdicts.Holds := by
  w_on; o_law
  refine HandSHeadRun.head_any (r := OpenLaw.row PySem.Challenge.rw_marketden_k06_whole_verdicts) (q := Hd.qv) (H := Hd.hk) (ob := Hd.ob) (M := 6000) (loose := Hd.names) (d := HandSHeadRun.topDef (OpenLaw.row PySem.Challenge.rw_marketden_k06_whole_verdicts).prog 75) (kwd := []) Hd.ob_eq
    (by kernel_rfl) (fun s => by kernel_rfl) Hd.run (by kernel_rfl) (by kernel_rfl) (by kernel_rfl) (by rfl) (by first | assumption | decide +kernel) (by decide +kernel) ⟨rfl, rfl, rfl, rfl, rfl, by decide +kernel⟩ ?hw ?hc
  case hw => w_witness2
  case hc =>
    refine LamX.walk_ofTsE (l := PySem.Challenge.rw_marketden_k06_whole_verdicts) (n := 63) (k := 40) (x := "_law_script") (CX := fun _ => L2.CX0) rfl (by decide) (by kernel_rfl) ⟨rfl, by decide, by decide⟩ ?F (fun _ _ _ _ _ z => z)
    intro w mg fa h Y G hmg0
    obtain ⟨K, KX, c⟩ := Y
    have hmg : mg ("law" : PySem.Str) = some (.ref fa) := by
      have e : (HandSHeadRun.topDef (OpenLaw.row PySem.Challenge.rw_marketden_k06_whole_verdicts).prog 75).name = ("law" : PySem.Str) := by kernel_rfl
      rw [← e]
      exact hmg0
    exact ⟨K, KX, Mk.law_at KX G hmg c⟩
