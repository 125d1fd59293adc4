import PyProof.Rows.All
import Wide.All
import OpenK.AllK
import Wide.FinOn
import HandS.ForMost
import HandS.Walk
import HandS.Exc
import HandS.WordsExc
import HandS.ExcInit
import HandS.HeadHook1
import HandS.IsInst
import HandS.TupAny
import KE.GoesMore
import KE.GoesEnum
import HandS.Zip
import HandS.Iter
import HandS.Defaults
import HandS.MakeKwOnly
import HandS.CallLocal
import HandS.Dict
import HandS.HeadHook2
import HandS.Deep
import HandS.Text
import KE.DataCmp
import KE.SortData
import KE.DataMinMax
import HandS.Style
import HandS.Strs
import HandS.TupMul
import PyProof.StrBlock2
import KE.KDictZip
import HandS.Zip0
import KE.KDictPairs
import HandS.DictComp
import HandS.TupLen
import KE.KStateDown
import HandS.Ends
import HandS.More
import HandS.Head0
import HandS.Head1
import PyProof.SeqIndex
import KE.KDictKeyed
import PyProof.DictUpdate
import HandS.TupSets
import KE.KeyNested
import HandS.Conv
import HandS.Gcd
import HandS.Head2
import HandS.HeadEnd
import PySem.Challenge.RW_takenorleft_k62_whole_labels_by_all_page
import KE.DatumOrd
import PyProof.ListStr
set_option Elab.async false
set_option linter.all false
set_option maxRecDepth 100000
set_option maxHeartbeats 0
namespace Lk62
open PySem PySem.Spec PyProof.Rows L2
def top (i : Nat) : Stmt := PySem.Challenge.pw_takenorleft_k62_whole_labels_by_all_page.main.body.getD i (.Pass ⟨0, 0, 0, 0⟩)
def kids : Stmt → List Stmt
  | .ClassDef _ _ _ b _ _ _ _ _ _ _ => b
  | _ => []
abbrev s__wall : Stmt := top 0
abbrev s_is_whole : Stmt := top 6
abbrev N_is_whole : List Str := ["value"]
abbrev s_is_tuple_of : Stmt := top 8
abbrev N_is_tuple_of : List Str := ["value", "many"]
abbrev s_back_of : Stmt := top 16
abbrev N_back_of : List Str := ["side"]
abbrev s_all_sides : Stmt := top 17
abbrev N_all_sides : List Str := ["things", "name", "taken"]
abbrev s_rule_of : Stmt := top 18
abbrev N_rule_of : List Str := ["side", "other"]
abbrev s_with_rules : Stmt := top 19
abbrev N_with_rules : List Str := ["things", "rules"]
abbrev s_Leads_come_from : Stmt := (kids (top 21)).getD 1 (.Pass ⟨0, 0, 0, 0⟩)
abbrev N_Leads_come_from : List Str := ["self", "side", "found", "waiting", "at", "index", "there"]
abbrev s_choosing_of : Stmt := top 23
abbrev N_choosing_of : List Str := ["things", "told", "name"]
abbrev s_strip_by : Stmt := top 34
abbrev N_strip_by : List Str := ["place", "page", "across", "low", "wide", "tall", "left"]
abbrev s_do_overlap : Stmt := top 35
abbrev N_do_overlap : List Str := ["strip", "other"]
abbrev s_letters_of : Stmt := top 37
abbrev N_letters_of : List Str := ["many"]
abbrev s__law_pool : Stmt := top 45
abbrev N__law_pool : List Str := ["script", "lap", "cell", "stirred", "each"]
abbrev s__law_below : Stmt := top 46
abbrev N__law_below : List Str := ["pool", "many", "figure", "stirred"]
abbrev s__law_is_number : Stmt := top 47
abbrev N__law_is_number : List Str := ["thing", "low", "high"]
abbrev s__law_choices : Stmt := top 48
abbrev N__law_choices : List Str := ["many", "found", "spot", "row"]
abbrev s__law_strip : Stmt := top 50
abbrev N__law_strip : List Str := ["place", "page", "x", "y", "wide", "tall"]
abbrev s__law_do_clash : Stmt := top 51
abbrev N__law_do_clash : List Str := ["one", "two"]
abbrev s__law_same : Stmt := top 53
abbrev s_is_between : Stmt := top 7
abbrev N_is_between : List Str := ["value", "low", "high"]
abbrev s_Leads___init__ : Stmt := (kids (top 21)).getD 0 (.Pass ⟨0, 0, 0, 0⟩)
abbrev N_Leads___init__ : List Str := ["self", "book", "index", "side", "other"]
abbrev s_Leads_does_lead : Stmt := (kids (top 21)).getD 3 (.Pass ⟨0, 0, 0, 0⟩)
abbrev N_Leads_does_lead : List Str := ["self", "side", "other"]
abbrev s_do_clash_by : Stmt := top 36
abbrev N_do_clash_by : List Str := ["places", "index", "page", "second_index", "second_page"]
abbrev s__law_places : Stmt := top 49
abbrev N__law_places : List Str := ["pool", "many", "found", "lap", "wide"]
abbrev s__law_fits : Stmt := top 52
abbrev N__law_fits : List Str := ["places", "pages", "strips", "i", "one", "place", "page", "two"]
abbrev s_are_between : Stmt := top 9
abbrev N_are_between : List Str := ["value", "many", "low", "high", "each"]
abbrev s_Leads_does_lead_to_back : Stmt := (kids (top 21)).getD 6 (.Pass ⟨0, 0, 0, 0⟩)
abbrev N_Leads_does_lead_to_back : List Str := ["self", "side"]
abbrev s_rules_at : Stmt := top 38
abbrev N_rules_at : List Str := ["places", "index", "second_index", "found", "page", "second_page"]
abbrev s__law_is_told : Stmt := top 54
abbrev N__law_is_told : List Str := ["places", "told", "due", "page"]
abbrev s_fitting_side : Stmt := top 24
abbrev N_fitting_side : List Str := ["leads", "name", "side"]
abbrev s_is_place : Stmt := top 32
abbrev N_is_place : List Str := ["value", "across", "_", "wide", "tall"]
abbrev s_label_book_by : Stmt := top 39
abbrev N_label_book_by : List Str := ["places", "many", "rules", "index", "second_index"]
abbrev s_first_wrong : Stmt := top 10
abbrev N_first_wrong : List Str := ["value", "low", "high", "is_one", "is_rising", "index", "each"]
abbrev s_carried_by : Stmt := top 25
abbrev N_carried_by : List Str := ["leads", "told", "name", "sides"]
abbrev s_choosing_by : Stmt := top 26
abbrev N_choosing_by : List Str := ["book"]
abbrev s_wrong_in_places : Stmt := top 33
abbrev N_wrong_in_places : List Str := ["value"]
abbrev s_labels_by : Stmt := top 40
abbrev N_labels_by : List Str := ["places"]
abbrev s_check_places : Stmt := top 42
abbrev N_check_places : List Str := ["value", "index"]
abbrev s_labels : Stmt := top 43
abbrev N_labels : List Str := ["places"]
abbrev s__law_right : Stmt := top 55
abbrev N__law_right : List Str := ["pool", "lap", "many", "places", "due", "row", "pages", "spot"]
abbrev s_law : Stmt := top 56
abbrev N_law : List Str := ["script", "lap"]
def hd__wall : He.DefD := ⟨("_wall", none), "_wall", "_wall", defArgs s__wall, defBody s__wall, defScope s__wall, [], []⟩
def hd_is_whole : He.DefD := ⟨("is_whole", none), "is_whole", "is_whole", defArgs s_is_whole, defBody s_is_whole, defScope s_is_whole, [], []⟩
def hd_is_tuple_of : He.DefD := ⟨("is_tuple_of", none), "is_tuple_of", "is_tuple_of", defArgs s_is_tuple_of, defBody s_is_tuple_of, defScope s_is_tuple_of, [], []⟩
def hd_back_of : He.DefD := ⟨("back_of", none), "back_of", "back_of", defArgs s_back_of, defBody s_back_of, defScope s_back_of, [], []⟩
def hd_all_sides : He.DefD := ⟨("all_sides", none), "all_sides", "all_sides", defArgs s_all_sides, defBody s_all_sides, defScope s_all_sides, [], []⟩
def hd_rule_of : He.DefD := ⟨("rule_of", none), "rule_of", "rule_of", defArgs s_rule_of, defBody s_rule_of, defScope s_rule_of, [], []⟩
def hd_with_rules : He.DefD := ⟨("with_rules", none), "with_rules", "with_rules", defArgs s_with_rules, defBody s_with_rules, defScope s_with_rules, [], []⟩
def hd_Leads_come_from : He.DefD := ⟨("Leads", some "come_from"), "come_from", "Leads.come_from", defArgs s_Leads_come_from, defBody s_Leads_come_from, defScope s_Leads_come_from, [], []⟩
def hd_choosing_of : He.DefD := ⟨("choosing_of", none), "choosing_of", "choosing_of", defArgs s_choosing_of, defBody s_choosing_of, defScope s_choosing_of, [], []⟩
def hd_strip_by : He.DefD := ⟨("strip_by", none), "strip_by", "strip_by", defArgs s_strip_by, defBody s_strip_by, defScope s_strip_by, [], []⟩
def hd_do_overlap : He.DefD := ⟨("do_overlap", none), "do_overlap", "do_overlap", defArgs s_do_overlap, defBody s_do_overlap, defScope s_do_overlap, [], []⟩
def hd_letters_of : He.DefD := ⟨("letters_of", none), "letters_of", "letters_of", defArgs s_letters_of, defBody s_letters_of, defScope s_letters_of, [], []⟩
def hd__law_pool : He.DefD := ⟨("_law_pool", none), "_law_pool", "_law_pool", defArgs s__law_pool, defBody s__law_pool, defScope s__law_pool, [], []⟩
def hd__law_below : He.DefD := ⟨("_law_below", none), "_law_below", "_law_below", defArgs s__law_below, defBody s__law_below, defScope s__law_below, [], []⟩
def hd__law_is_number : He.DefD := ⟨("_law_is_number", none), "_law_is_number", "_law_is_number", defArgs s__law_is_number, defBody s__law_is_number, defScope s__law_is_number, [], []⟩
def hd__law_choices : He.DefD := ⟨("_law_choices", none), "_law_choices", "_law_choices", defArgs s__law_choices, defBody s__law_choices, defScope s__law_choices, [], []⟩
def hd__law_strip : He.DefD := ⟨("_law_strip", none), "_law_strip", "_law_strip", defArgs s__law_strip, defBody s__law_strip, defScope s__law_strip, [], []⟩
def hd__law_do_clash : He.DefD := ⟨("_law_do_clash", none), "_law_do_clash", "_law_do_clash", defArgs s__law_do_clash, defBody s__law_do_clash, defScope s__law_do_clash, [], []⟩
def hd__law_same : He.DefD := ⟨("_law_same", none), "_law_same", "_law_same", defArgs s__law_same, defBody s__law_same, defScope s__law_same, [], []⟩
def hd_is_between : He.DefD := ⟨("is_between", none), "is_between", "is_between", defArgs s_is_between, defBody s_is_between, defScope s_is_between, [], []⟩
def hd_Leads___init__ : He.DefD := ⟨("Leads", some "__init__"), "__init__", "Leads.__init__", defArgs s_Leads___init__, defBody s_Leads___init__, defScope s_Leads___init__, [], []⟩
def hd_Leads_does_lead : He.DefD := ⟨("Leads", some "does_lead"), "does_lead", "Leads.does_lead", defArgs s_Leads_does_lead, defBody s_Leads_does_lead, defScope s_Leads_does_lead, [], []⟩
def hd_do_clash_by : He.DefD := ⟨("do_clash_by", none), "do_clash_by", "do_clash_by", defArgs s_do_clash_by, defBody s_do_clash_by, defScope s_do_clash_by, [], []⟩
def hd__law_places : He.DefD := ⟨("_law_places", none), "_law_places", "_law_places", defArgs s__law_places, defBody s__law_places, defScope s__law_places, [], []⟩
def hd__law_fits : He.DefD := ⟨("_law_fits", none), "_law_fits", "_law_fits", defArgs s__law_fits, defBody s__law_fits, defScope s__law_fits, [], []⟩
def hd_are_between : He.DefD := ⟨("are_between", none), "are_between", "are_between", defArgs s_are_between, defBody s_are_between, defScope s_are_between, [], []⟩
def hd_Leads_does_lead_to_back : He.DefD := ⟨("Leads", some "does_lead_to_back"), "does_lead_to_back", "Leads.does_lead_to_back", defArgs s_Leads_does_lead_to_back, defBody s_Leads_does_lead_to_back, defScope s_Leads_does_lead_to_back, [], []⟩
def hd_rules_at : He.DefD := ⟨("rules_at", none), "rules_at", "rules_at", defArgs s_rules_at, defBody s_rules_at, defScope s_rules_at, [], []⟩
def hd__law_is_told : He.DefD := ⟨("_law_is_told", none), "_law_is_told", "_law_is_told", defArgs s__law_is_told, defBody s__law_is_told, defScope s__law_is_told, [], []⟩
def hd_fitting_side : He.DefD := ⟨("fitting_side", none), "fitting_side", "fitting_side", defArgs s_fitting_side, defBody s_fitting_side, defScope s_fitting_side, [], []⟩
def hd_is_place : He.DefD := ⟨("is_place", none), "is_place", "is_place", defArgs s_is_place, defBody s_is_place, defScope s_is_place, [], []⟩
def hd_label_book_by : He.DefD := ⟨("label_book_by", none), "label_book_by", "label_book_by", defArgs s_label_book_by, defBody s_label_book_by, defScope s_label_book_by, [], []⟩
def hd_first_wrong : He.DefD := ⟨("first_wrong", none), "first_wrong", "first_wrong", defArgs s_first_wrong, defBody s_first_wrong, defScope s_first_wrong, [], []⟩
def hd_carried_by : He.DefD := ⟨("carried_by", none), "carried_by", "carried_by", defArgs s_carried_by, defBody s_carried_by, defScope s_carried_by, [], []⟩
def hd_choosing_by : He.DefD := ⟨("choosing_by", none), "choosing_by", "choosing_by", defArgs s_choosing_by, defBody s_choosing_by, defScope s_choosing_by, [], []⟩
def hd_wrong_in_places : He.DefD := ⟨("wrong_in_places", none), "wrong_in_places", "wrong_in_places", defArgs s_wrong_in_places, defBody s_wrong_in_places, defScope s_wrong_in_places, [], []⟩
def hd_labels_by : He.DefD := ⟨("labels_by", none), "labels_by", "labels_by", defArgs s_labels_by, defBody s_labels_by, defScope s_labels_by, [], []⟩
def hd_check_places : He.DefD := ⟨("check_places", none), "check_places", "check_places", defArgs s_check_places, defBody s_check_places, defScope s_check_places, [], []⟩
def hd_labels : He.DefD := ⟨("labels", none), "labels", "labels", defArgs s_labels, defBody s_labels, defScope s_labels, [], []⟩
def hd__law_right : He.DefD := ⟨("_law_right", none), "_law_right", "_law_right", defArgs s__law_right, defBody s__law_right, defScope s__law_right, [], []⟩
def hd_law : He.DefD := ⟨("law", none), "law", "law", defArgs s_law, defBody s_law, defScope s_law, [], []⟩
def hdFn : List He.DefD := [hd__wall, hd_is_whole, hd_is_tuple_of, hd_back_of, hd_all_sides, hd_rule_of, hd_with_rules, hd_Leads_come_from, hd_choosing_of, hd_strip_by, hd_do_overlap, hd_letters_of, hd__law_pool, hd__law_below, hd__law_is_number, hd__law_choices, hd__law_strip, hd__law_do_clash, hd__law_same, hd_is_between, hd_Leads___init__, hd_Leads_does_lead, hd_do_clash_by, hd__law_places, hd__law_fits, hd_are_between, hd_Leads_does_lead_to_back, hd_rules_at, hd__law_is_told, hd_fitting_side, hd_is_place, hd_label_book_by, hd_first_wrong, hd_carried_by, hd_choosing_by, hd_wrong_in_places, hd_labels_by, hd_check_places, hd_labels, hd__law_right, hd_law]
def hdFa : List He.Fa := [.glo "_wall", .glo "is_whole", .glo "is_tuple_of", .glo "back_of", .glo "all_sides", .glo "rule_of", .glo "with_rules", .glo "choosing_of", .glo "strip_by", .glo "do_overlap", .glo "letters_of", .glo "_law_pool", .glo "_law_below", .glo "_law_is_number", .glo "_law_choices", .glo "_law_strip", .glo "_law_do_clash", .glo "_law_same", .glo "is_between", .glo "do_clash_by", .glo "_law_places", .glo "_law_fits", .glo "are_between", .glo "rules_at", .glo "_law_is_told", .glo "fitting_side", .glo "is_place", .glo "label_book_by", .glo "first_wrong", .glo "carried_by", .glo "choosing_by", .glo "wrong_in_places", .glo "labels_by", .glo "check_places", .glo "labels", .glo "_law_right", .glo "law", .cls "Leads", .noat "Leads" "steps", .noat "Leads" "things", .meth "Leads" "come_from", .meth "Leads" "does_lead", .meth "Leads" "does_lead_to_back", .mkr "Leads", .glo "Leads", .free "abs", .free "all", .free "any", .free "bool", .free "dict", .free "divmod", .free "enumerate", .free "int", .free "isinstance", .free "len", .free "list", .free "max", .free "min", .free "range", .free "set", .free "sorted", .free "str", .free "tuple", .free "zip", .int "IS_TAKEN" 1, .str "LETTERS" "abcdefghijklmnopqrstuvwxyz", .int "MOST_NUMBER" 999, .int "MOST_PLACES" 14, .int "NAME" 0, .int "RULES" 1, .int "SIZE" 4, .int "THINGS" 0]
abbrev hdR : PySem.W.OpenRow := PySem.W.OpenLaw.row PySem.Challenge.rw_takenorleft_k62_whole_labels_by_all_page
def hdB : List (PySem.Str × String) := []
def hdT : List (PySem.Str × List Int) := [("PAGES", [0, 1])]
def hdGt (K : PySem.W.Frag) (x : PySem.Str) (l : List Int) : Bool := match PySem.W.nsIn K mainGlobals x with
  | some (some (.ref a)) => (match K.lookup a with
    | some ⟨c, _, .seq its _, _⟩ => decide (c = .type "tuple") && (Nat.ble its.size 1000 && He.relAll (l.map V.int) its.toList)
    | _ => false)
  | _ => false
def hdBok (K : PySem.W.Frag) : Bool := (hdB.all fun p => He.eqO (PySem.W.nsIn K mainGlobals p.1) (some (some (.builtin p.2)))) && hdT.all fun p => hdGt K p.1 p.2
def hdK : PySem.W.Hook where
  α := He.AlD × Bool
  obs := fun s => (He.obsDG 4 hdFa hdFn s.heap.get?, hdBok (He.frG s.heap.get? (He.asD s.heap.get? 4)))
  val := fun _ => (He.valD hdFn, true)
  says := fun _ h => ∃ K : PySem.W.Frag, K.In h ∧ He.SaysD hdFa hdFn K ∧ hdBok K = true
  of := fun _ _ e => ⟨_, He.frG_in, congrArg Prod.fst e, congrArg Prod.snd e⟩
  keeps := fun _ _ _ ⟨K, hK, c⟩ k => ⟨K, PySem.W.Frag.In.keeps hK k, c⟩
def hdOb (s : PySem.W.SharedT) : He.AlD × Bool := (He.obsDG 4 hdFa hdFn (HandSHeadRun.getT s), hdBok (He.frG (HandSHeadRun.getT s) (He.asD (HandSHeadRun.getT s) 4)))
theorem hdOb_eq (s : PySem.W.SharedT) : hdOb s = hdK.obs s.abs := by
  have e : HandSHeadRun.getT s = s.abs.heap.get? := funext (HandSHeadRun.getT_eq s)
  unfold hdOb
  rw [e]
  rfl
def hdL0 : List PySem.Str := ["_wall", "RuleError", "InvalidPlaces", "LETTERS", "is_whole", "is_between", "is_tuple_of", "are_between", "first_wrong", "THINGS", "RULES", "NAME", "IS_TAKEN", "back_of", "all_sides", "rule_of", "with_rules", "Leads", "choosing_of", "fitting_side", "carried_by", "choosing_by", "MOST_PLACES", "MOST_NUMBER", "SIZE", "PAGES", "is_place", "wrong_in_places", "strip_by", "do_overlap"]
def hdL1 : List PySem.Str := ["do_clash_by", "letters_of", "rules_at", "label_book_by", "labels_by", "check_places", "labels", "_law_pool", "_law_below", "_law_is_number", "_law_choices", "_law_places", "_law_strip", "_law_do_clash", "_law_fits", "_law_same", "_law_is_told", "_law_right"]
abbrev hdLoose : List PySem.Str := hdL0 ++ hdL1
theorem hdRun (w : World) : HandSHeadRun.RunEq hdR (PySem.W.view hdR.prog [56]) hdK hdOb 6000 hdLoose w := by
  intro os
  kernel_rfl
end Lk62
namespace PL
open PySem PySem.Spec PyProof.Rows L2

/-- data, without the heap -/
inductive D where
  | non | bl (b : Bool) | int (i : Int) | str (x : Str) | fn (x : Str) | ty (n : String)
  | scr (l : List Int) | tup (l : List D) | ntp (l : List D) | lst (l : List D) | dic (t : Bool) (ks vs : List D) | obj (C : Str) (ns : List Str) (vs : List D)

def keyD : Key → D
  | .inl i => .int i
  | .inr x => .str x

mutual
/-- v stands for d, by what is frozen in G -/
inductive Rep (K : PySem.W.Frag) (G : Hp) : D → V → Prop
  | non : Rep K G .non .non
  | bl (b : Bool) : Rep K G (.bl b) (.bl b)
  | int (i : Int) : Rep K G (.int i) (.int i)
  | str (x : Str) : Rep K G (.str x) (.str x)
  | fn (x : Str) : Rep K G (.fn x) (.ref (He.ga K x))
  | ty (n : String) : Rep K G (.ty n) (.ty n)
  | tup {a : Addr} {l : List D} {vs : List V} : G a = some (.tup vs) → Reps K G l vs → Rep K G (.tup l) (.ref a)
  | ntp {a : Addr} {o : Obj} {l : List D} {vs : List V} : G a = some (.frz o (.tup vs)) → o.dict = none → Reps K G l vs → Rep K G (.ntp l) (.ref a)
  | scr {a : Addr} {l : List Int} : SqL K G a (l.map V.int) → Rep K G (.scr l) (.ref a)
  | lst {a : Addr} {l : List D} {vs : List V} : G a = some (.lst vs) → Reps K G l vs → Rep K G (.lst l) (.ref a)
  | dicK {a : Addr} {kvs : List (Key × V)} {ks vs : List D} : Rd G a (.dK kvs) → ks = kvs.map (fun p => keyD p.1) → Reps K G vs (kvs.map Prod.snd) → Rep K G (.dic false ks vs) (.ref a)
  | dicT {a : Addr} {kvs : List (List Key × V)} {ks vs : List D} : Rd G a (.dT kvs) → ks = kvs.map (fun p => .tup (p.1.map keyD)) → Reps K G vs (kvs.map Prod.snd) → Rep K G (.dic true ks vs) (.ref a)
  | obj {a dx : Addr} {C : Str} {fs : List (Str × V)} {ns : List Str} {vs : List D} : G a = some (.ins (He.ga K C) dx fs) → ns = fs.map Prod.fst → Reps K G vs (fs.map Prod.snd) → Rep K G (.obj C ns vs) (.ref a)
inductive Reps (K : PySem.W.Frag) (G : Hp) : List D → List V → Prop
  | nil : Reps K G [] []
  | cons {d : D} {v : V} {ds : List D} {vs : List V} : Rep K G d v → Reps K G ds vs → Reps K G (d :: ds) (v :: vs)
end

/-- all of G is in H -/
def Le (G H : Hp) : Prop := ∀ a o, G a = some o → H a = some o
theorem Le.refl (G : Hp) : Le G G := fun _ _ h => h
theorem Le.trans {G H J : Hp} (a : Le G H) (b : Le H J) : Le G J := fun x o h => b x o (a x o h)
theorem Le.rd {G H : Hp} {a : Addr} {u : HO} (e : Le G H) (h : Rd G a u) : Rd H a u := by
  rcases h with h | ⟨o, h⟩
  · exact .inl (e _ _ h)
  · exact .inr ⟨o, e _ _ h⟩
theorem Le.sqL {K : PySem.W.Frag} {G H : Hp} {a : Addr} {xs : List V} (e : Le G H) (h : SqL K G a xs) : SqL K H a xs := Same.seq e h
theorem Le.sqT {K : PySem.W.Frag} {G H : Hp} {a : Addr} {xs : List V} (e : Le G H) (h : SqT K G a xs) : SqT K H a xs := by
  rcases h with (h | ⟨o, h⟩) | h
  · exact .inl (.inl (e _ _ h))
  · exact .inl (.inr ⟨o, e _ _ h⟩)
  · exact .inr h
def isDic : HO → Bool
  | .dK _ => true
  | .dT _ => true
  | _ => false
/-- all of G is in H, but that dicts may have been locked -/
def LeZ (G H : Hp) : Prop := ∀ a o, G a = some o → H a = some o ∨ (isDic o = true ∧ ∃ ob, H a = some (.frz ob o))
theorem Le.z {G H : Hp} (e : Le G H) : LeZ G H := fun a o h => .inl (e a o h)
theorem LeZ.refl (G : Hp) : LeZ G G := fun _ _ h => .inl h
theorem LeZ.trans {G H J : Hp} (a : LeZ G H) (b : LeZ H J) : LeZ G J := fun x o h => by
  rcases a x o h with q | ⟨z, ob, q⟩
  · exact b x o q
  · rcases b x _ q with q | ⟨z2, _⟩
    · exact .inr ⟨z, ob, q⟩
    · cases z2
theorem LeZ.same {G H : Hp} {a : Addr} {o : HO} (e : LeZ G H) (h : G a = some o) (n : isDic o = false) : H a = some o := by
  rcases e a o h with q | ⟨z, _⟩
  · exact q
  · rw [n] at z; cases z
theorem LeZ.rd {G H : Hp} {a : Addr} {u : HO} (e : LeZ G H) (h : Rd G a u) : Rd H a u := by
  rcases h with h | ⟨o, h⟩
  · rcases e a u h with q | ⟨_, ob, q⟩
    · exact .inl q
    · exact .inr ⟨ob, q⟩
  · exact .inr ⟨o, e.same h rfl⟩
theorem LeZ.sqL {K : PySem.W.Frag} {G H : Hp} {a : Addr} {xs : List V} (e : LeZ G H) (h : SqL K G a xs) : SqL K H a xs := by
  rcases h with h | h
  · exact .inl (e.rd h)
  · exact .inr h
theorem LeZ.sqT {K : PySem.W.Frag} {G H : Hp} {a : Addr} {xs : List V} (e : LeZ G H) (h : SqT K G a xs) : SqT K H a xs := by
  rcases h with h | h
  · exact .inl (e.rd h)
  · exact .inr h
mutual
theorem Rep.mono {K : PySem.W.Frag} {G H : Hp} (e : LeZ G H) : ∀ {d : D} {v : V}, Rep K G d v → Rep K H d v
  | _, _, .non => .non
  | _, _, .bl b => .bl b
  | _, _, .int i => .int i
  | _, _, .str x => .str x
  | _, _, .fn a => .fn a
  | _, _, .ty a => .ty a
  | _, _, .tup h hs => .tup (e.same h rfl) (Reps.mono e hs)
  | _, _, .ntp h n hs => .ntp (e.same h rfl) n (Reps.mono e hs)
  | _, _, .scr h => .scr (e.sqL h)
  | _, _, .lst h hs => .lst (e.same h rfl) (Reps.mono e hs)
  | _, _, .dicK h k hs => .dicK (e.rd h) k (Reps.mono e hs)
  | _, _, .dicT h k hs => .dicT (e.rd h) k (Reps.mono e hs)
  | _, _, .obj h k hs => .obj (e.same h rfl) k (Reps.mono e hs)
theorem Reps.mono {K : PySem.W.Frag} {G H : Hp} (e : LeZ G H) : ∀ {ds : List D} {vs : List V}, Reps K G ds vs → Reps K H ds vs
  | _, _, .nil => .nil
  | _, _, .cons h hs => .cons (Rep.mono e h) (Reps.mono e hs)
end
section
variable {K : PySem.W.Frag} {G : Hp}
theorem Reps.length : ∀ {ds : List D} {vs : List V}, Reps K G ds vs → ds.length = vs.length
  | _, _, .nil => rfl
  | _, _, .cons _ hs => congrArg (· + 1) (Reps.length hs)
theorem Reps.get : ∀ {ds : List D} {vs : List V} {i : Nat} {v : V}, Reps K G ds vs → vs[i]? = some v → ∃ d, ds[i]? = some d ∧ Rep K G d v
  | _, _, _, _, .nil, e => by simp at e
  | _, _, 0, _, .cons r _, e => by simp at e; subst e; exact ⟨_, rfl, r⟩
  | _, _, i + 1, v, .cons _ t, e => by
    obtain ⟨u, h1, h2⟩ := Reps.get (i := i) (v := v) t (by simpa using e)
    exact ⟨u, by simpa using h1, h2⟩
theorem Reps.at : ∀ {ds : List D} {vs : List V} {i : Nat} {d : D}, Reps K G ds vs → ds[i]? = some d → ∃ v, vs[i]? = some v ∧ Rep K G d v
  | _, _, _, _, .nil, e => by simp at e
  | _, _, 0, _, .cons r _, e => by simp at e; subst e; exact ⟨_, rfl, r⟩
  | _, _, i + 1, d, .cons _ t, e => by
    obtain ⟨u, h1, h2⟩ := Reps.at (i := i) (d := d) t (by simpa using e)
    exact ⟨u, by simpa using h1, h2⟩
theorem Reps.app : ∀ {ds es : List D} {vs us : List V}, Reps K G ds vs → Reps K G es us → Reps K G (ds ++ es) (vs ++ us)
  | _, _, _, _, .nil, t => t
  | _, _, _, _, .cons r s, t => .cons r (Reps.app s t)
theorem Reps.set {d : D} {v : V} (r : Rep K G d v) : ∀ {ds : List D} {vs : List V} (i : Nat), Reps K G ds vs → Reps K G (ds.set i d) (vs.set i v)
  | _, _, _, .nil => .nil
  | _, _, 0, .cons _ t => .cons r t
  | _, _, i + 1, .cons q t => .cons q (Reps.set r i t)
theorem Reps.take : ∀ {ds : List D} {vs : List V} (n : Nat), Reps K G ds vs → Reps K G (ds.take n) (vs.take n)
  | _, _, 0, _ => .nil
  | _, _, _ + 1, .nil => .nil
  | _, _, n + 1, .cons r t => .cons r (Reps.take n t)
theorem Reps.drop : ∀ {ds : List D} {vs : List V} (n : Nat), Reps K G ds vs → Reps K G (ds.drop n) (vs.drop n)
  | _, _, 0, r => r
  | _, _, _ + 1, .nil => .nil
  | _, _, n + 1, .cons _ t => Reps.drop n t
theorem Reps.rev : ∀ {ds : List D} {vs : List V}, Reps K G ds vs → Reps K G ds.reverse vs.reverse
  | _, _, .nil => .nil
  | _, _, .cons r t => by
    rw [List.reverse_cons, List.reverse_cons]
    exact (Reps.rev t).app (.cons r .nil)
end

/-- a value at the level of slots -/
inductive SV where
  | d (x : D)
  | c (k : Nat)
  | un
/-- a value at a slot, by the cells' addresses -/
def RepS (K : PySem.W.Frag) (A : List Addr) (G : Hp) : SV → V → Prop
  | .d x, v => Rep K G x v
  | .c k, v => ∃ a, A[k]? = some a ∧ v = .ref a
  | .un, _ => True
inductive RepsS (K : PySem.W.Frag) (A : List Addr) (G : Hp) : List SV → List V → Prop
  | nil : RepsS K A G [] []
  | cons {d : SV} {v : V} {ds : List SV} {vs : List V} : RepS K A G d v → RepsS K A G ds vs → RepsS K A G (d :: ds) (v :: vs)
theorem RepsS.length {K : PySem.W.Frag} {A : List Addr} {G : Hp} : ∀ {ds : List SV} {vs : List V}, RepsS K A G ds vs → ds.length = vs.length
  | _, _, .nil => rfl
  | _, _, .cons _ hs => congrArg (· + 1) (RepsS.length hs)

inductive Cell where
  | lst (l : List D)
  | dK (ks vs : List D)
  | dT (ks vs : List D)
  | ins (C : Str) (ns : List Str) (vs : List D)
  /-- a dict, its keys tuples, its values cells -/
  | dC (ks : List D) (vs : List SV)
  /-- an instance whose attributes may be cells -/
  | inC (C : Str) (ns : List Str) (vs : List SV)
  /-- a list whose members may be cells -/
  | lsC (vs : List SV)
  /-- another thing of one's own, told of by mk: data and where it stands -/
  | dN (mk : Addr → List (D × Addr) → Heap → Prop) (ks : List D)
abbrev Mem := List Cell
structure Env' where
  n : Nat
  f : Nat → SV
def Env'.set (ρ : Env') (i : Nat) (s : SV) : Env' := ⟨ρ.n, fun j => if j = i then s else ρ.f j⟩

theorem RepS.mono {K : PySem.W.Frag} {A A' : List Addr} {G G' : Hp} (p : A <+: A') (g : LeZ G G') {s : SV} {v : V} (h : RepS K A G s v) : RepS K A' G' s v := by
  cases s with
  | d x => exact Rep.mono g h
  | c k =>
    obtain ⟨a, e, r⟩ := h
    obtain ⟨B, rfl⟩ := p
    refine ⟨a, ?_, r⟩
    rw [List.getElem?_append_left (List.getElem?_eq_some_iff.mp e).1]; exact e
  | un => trivial
theorem RepsS.mono {K : PySem.W.Frag} {A A' : List Addr} {G G' : Hp} (p : A <+: A') (g : LeZ G G') : ∀ {ss : List SV} {vs : List V}, RepsS K A G ss vs → RepsS K A' G' ss vs
  | _, _, .nil => .nil
  | _, _, .cons h t => .cons (h.mono p g) (RepsS.mono p g t)
def CellOk (K : PySem.W.Frag) (A : List Addr) (G H : Hp) (a : Addr) : Cell → Prop
  | .lst l => ∃ vs, H a = some (.lst vs) ∧ Reps K G l vs
  | .dK ks vs => ∃ kvs : List (Key × V), H a = some (.dK kvs) ∧ ks = kvs.map (fun p => keyD p.1) ∧ Reps K G vs (kvs.map Prod.snd)
  | .dT ks vs => ∃ kvs : List (List Key × V), H a = some (.dT kvs) ∧ ks = kvs.map (fun p => .tup (p.1.map keyD)) ∧ Reps K G vs (kvs.map Prod.snd)
  | .ins C ns vs => ∃ dx fs, H a = some (.ins (He.ga K C) dx fs) ∧ ns = fs.map Prod.fst ∧ Reps K G vs (fs.map Prod.snd)
  | .dC ks vs => ∃ kvs : List (List Key × V), H a = some (.dT kvs) ∧ ks = kvs.map (fun p => .tup (p.1.map keyD)) ∧ RepsS K A G vs (kvs.map Prod.snd)
  | .inC C ns vs => ∃ dx fs, H a = some (.ins (He.ga K C) dx fs) ∧ ns = fs.map Prod.fst ∧ RepsS K A G vs (fs.map Prod.snd)
  | .lsC vs => ∃ ws, H a = some (.lst ws) ∧ RepsS K A G vs ws
  | .dN mk ks => ∃ M : List (D × Addr), H a = some (.ext (mk a M)) ∧ ks = M.map Prod.fst ∧ ∀ b ∈ M, Rep K G b.1 (.ref b.2)
theorem CellOk.some {K : PySem.W.Frag} {A : List Addr} {G H : Hp} {a : Addr} {c : Cell} (h : CellOk K A G H a c) : ∃ o, H a = some o := by
  cases c with
  | lst l => obtain ⟨_, e, _⟩ := h; exact ⟨_, e⟩
  | dK k v => obtain ⟨_, e, _⟩ := h; exact ⟨_, e⟩
  | dT k v => obtain ⟨_, e, _⟩ := h; exact ⟨_, e⟩
  | ins C n v => obtain ⟨_, _, e, _⟩ := h; exact ⟨_, e⟩
  | dC k v => obtain ⟨_, e, _⟩ := h; exact ⟨_, e⟩
  | inC C n v => obtain ⟨_, _, e, _⟩ := h; exact ⟨_, e⟩
  | lsC v => obtain ⟨_, e, _⟩ := h; exact ⟨_, e⟩
  | dN m k => obtain ⟨_, e, _⟩ := h; exact ⟨_, e⟩
theorem CellOk.mono {K : PySem.W.Frag} {A A' : List Addr} {G H G' H' : Hp} {a : Addr} {c : Cell} (p : A <+: A') (g : LeZ G G') (e : H' a = H a) (h : CellOk K A G H a c) : CellOk K A' G' H' a c := by
  cases c with
  | lst l => obtain ⟨vs, q, r⟩ := h; exact ⟨vs, e.trans q, r.mono g⟩
  | dK k v => obtain ⟨kvs, q, z, r⟩ := h; exact ⟨kvs, e.trans q, z, r.mono g⟩
  | dT k v => obtain ⟨kvs, q, z, r⟩ := h; exact ⟨kvs, e.trans q, z, r.mono g⟩
  | ins C n v => obtain ⟨dx, fs, q, z, r⟩ := h; exact ⟨dx, fs, e.trans q, z, r.mono g⟩
  | dC k v => obtain ⟨kvs, q, z, r⟩ := h; exact ⟨kvs, e.trans q, z, r.mono p g⟩
  | inC C n v => obtain ⟨dx, fs, q, z, r⟩ := h; exact ⟨dx, fs, e.trans q, z, r.mono p g⟩
  | lsC v => obtain ⟨ws, q, r⟩ := h; exact ⟨ws, e.trans q, r.mono p g⟩
  | dN m k => obtain ⟨M, q, z, r⟩ := h; exact ⟨M, e.trans q, z, fun b hb => (r b hb).mono g⟩
theorem CellOk.notup {K : PySem.W.Frag} {A : List Addr} {G H : Hp} {a : Addr} {c : Cell} (h : CellOk K A G H a c) {xs : List V} : H a ≠ Option.some (HO.tup xs) := by
  intro z
  cases c with
  | lst l => obtain ⟨_, e, _⟩ := h; rw [e] at z; cases z
  | dK k v => obtain ⟨_, e, _⟩ := h; rw [e] at z; cases z
  | dT k v => obtain ⟨_, e, _⟩ := h; rw [e] at z; cases z
  | ins C n v => obtain ⟨_, _, e, _⟩ := h; rw [e] at z; cases z
  | dC k v => obtain ⟨_, e, _⟩ := h; rw [e] at z; cases z
  | inC C n v => obtain ⟨_, _, e, _⟩ := h; rw [e] at z; cases z
  | lsC v => obtain ⟨_, e, _⟩ := h; rw [e] at z; cases z
  | dN m k => obtain ⟨_, e, _⟩ := h; rw [e] at z; cases z
/-- its values are no cells -/
def flat1 : Cell → Bool
  | .dC _ _ => false
  | .inC _ _ _ => false
  | .lsC _ => false
  | .dN _ _ => false
  | _ => true
theorem CellOk.flat {K : PySem.W.Frag} {A A' : List Addr} {G H : Hp} {a : Addr} {c : Cell} (f : flat1 c = true) (h : CellOk K A G H a c) : CellOk K A' G H a c := by
  cases c <;> first | exact h | cases f
/-- the cells stand -/
structure Cells (K : PySem.W.Frag) (A : List Addr) (μ : Mem) (G H : Hp) : Prop where
  le : Le G H
  len : A.length = μ.length
  nd : A.Nodup
  free : ∀ a ∈ A, G a = none
  ok : ∀ (k : Nat) (a : Addr) (c : Cell), A[k]? = some a → μ[k]? = some c → CellOk K A G H a c
/-- a slot -/
def SlotOk (K : PySem.W.Frag) (A : List Addr) (G : Hp) (s : SV) (o : Option V) : Prop :=
  match s with
  | .un => True
  | s => ∃ v, o = some v ∧ RepS K A G s v
structure Sim (K : PySem.W.Frag) (A : List Addr) (σ : L2.St) (ρ : Env') (μ : Mem) (G H : Hp) : Prop extends Cells K A μ G H where
  sl : ρ.n = σ.length
  at_ : ∀ (i : Nat), i < ρ.n → ∃ o, σ[i]? = some o ∧ SlotOk K A G (ρ.f i) o
/-- a step: what is no cell stays, cells stay, new things are new -/
structure Step (A : List Addr) (G H : Hp) (A' : List Addr) (G' H' : Hp) : Prop where
  pre : A <+: A'
  le : LeZ G G'
  keep : ∀ a o, H a = some o → a ∉ A → H' a = some o ∨ (G a = some o ∧ isDic o = true ∧ ∃ ob, H' a = some (.frz ob o))
  new : ∀ a, G' a ≠ none → G a ≠ none ∨ H a = none ∨ ∃ xs, H a = some (.tup xs)
  tups : ∀ a xs, H' a = some (.tup xs) → H a = none ∨ H a = some (.tup xs)
  cells : ∀ a ∈ A', a ∈ A ∨ H a = none
  there : ∀ a, H a ≠ none → H' a ≠ none
theorem Step.refl {A : List Addr} {G H : Hp} : Step A G H A G H :=
  ⟨List.prefix_refl _, LeZ.refl _, fun _ _ h _ => .inl h, fun _ h => .inl h, fun _ _ h => .inr h, fun _ h => .inl h, fun _ h => h⟩
theorem Step.trans {A A1 A2 : List Addr} {G G1 G2 H H1 H2 : Hp} (x : Step A G H A1 G1 H1) (y : Step A1 G1 H1 A2 G2 H2) : Step A G H A2 G2 H2 where
  pre := x.pre.trans y.pre
  le := x.le.trans y.le
  keep := fun a o h n => by
    have n1 : a ∉ A1 := fun z => (x.cells a z).elim n fun q => by rw [h] at q; cases q
    rcases x.keep a o h n with q | ⟨g, z, ob, q⟩
    · rcases y.keep a o q n1 with r | ⟨g1, z, ob, r⟩
      · exact .inl r
      · refine .inr ⟨?_, z, ob, r⟩
        rcases x.new a (by rw [g1]; simp) with w | w
        · cases e : G a with
          | none => exact absurd e w
          | some u =>
            rcases x.le a u e with e2 | ⟨_, _, e2⟩
            · rw [g1] at e2; exact e2.symm ▸ rfl
            · rw [g1] at e2
              have e3 : o = _ := Option.some.inj e2
              rw [e3] at z; cases z
        · rw [h] at w
          rcases w with w | ⟨xs, w⟩
          · cases w
          · cases w; cases z
    · rcases y.keep a _ q n1 with r | ⟨_, z2, _⟩
      · exact .inr ⟨g, z, ob, r⟩
      · cases z2
  new := fun a h => by
    rcases y.new a h with q | q | ⟨xs, q⟩
    · exact x.new a q
    · exact .inr (.inl (Classical.byContradiction fun z => x.there a z q))
    · rcases x.tups a xs q with w | w
      · exact .inr (.inl w)
      · exact .inr (.inr ⟨xs, w⟩)
  tups := fun a xs h => by
    rcases y.tups a xs h with q | q
    · exact .inl (Classical.byContradiction fun z => x.there a z q)
    · exact x.tups a xs q
  cells := fun a h => by
    rcases y.cells a h with q | q
    · exact x.cells a q
    · exact .inr (Classical.byContradiction fun z => x.there a z q)
  there := fun a h => y.there a (x.there a h)
theorem SlotOk.mono {K : PySem.W.Frag} {A A' : List Addr} {G G' : Hp} (p : A <+: A') (g : LeZ G G') {s : SV} {o : Option V} (h : SlotOk K A G s o) : SlotOk K A' G' s o := by
  cases s with
  | un => trivial
  | d x => obtain ⟨v, e, r⟩ := h; exact ⟨v, e, RepS.mono p g (s := .d x) r⟩
  | c k => obtain ⟨v, e, r⟩ := h; exact ⟨v, e, RepS.mono p g (s := .c k) r⟩
/-- the cells of a later state, the slots as they were -/
theorem Sim.after {K : PySem.W.Frag} {A A' : List Addr} {σ : L2.St} {ρ : Env'} {μ μ' : Mem} {G G' H H' : Hp} (S : Sim K A σ ρ μ G H) (st : Step A G H A' G' H') (c : Cells K A' μ' G' H') : Sim K A' σ ρ μ' G' H' where
  toCells := c
  sl := S.sl
  at_ := fun i h => let ⟨o, e, q⟩ := S.at_ i h; ⟨o, e, q.mono st.pre st.le⟩

/-- what is wanted of an exception: its class, its one attribute -/
abbrev XP := Str → List (Str × D) → Mem → Prop
abbrev VP := SV → Mem → Prop
abbrev TX := XP → Env' → Mem → VP → Prop
abbrev TXT := XP → Env' → Mem → (Bool → Mem → Prop) → Prop
abbrev TXA := XP → Env' → Mem → (List SV → Mem → Prop) → Prop
abbrev TXI := XP → Env' → Mem → (List D → Mem → Prop) → Prop
structure EndsP where
  nx : Env' → Mem → Prop
  rt : VP
  ex : XP
  bk : Env' → Mem → Prop := fun _ _ => False
  ct : Env' → Mem → Prop := fun _ _ => False
abbrev TXS := EndsP → Env' → Mem → Prop

/-- an exception in the heap: its class at C, its attributes -/
def ExOk (K : PySem.W.Frag) (G H : Hp) (fs : List (Str × D)) (d : Option Addr) : Prop :=
  (fs = [] ∧ d = none) ∨ ∃ (p : Addr) (ws : List (Str × V)), d = some p ∧ H p = some (.xd ws) ∧ fs.map Prod.fst = ws.map Prod.fst ∧ Reps K G (fs.map Prod.snd) (ws.map Prod.snd)
/-- the outer wish W takes what x wants -/
def ExTo (K : PySem.W.Frag) (W : WX) (A : List Addr) (G H : Hp) (x : XP) : Prop :=
  ∀ (C : Str) (fs : List (Str × D)) (μ' : Mem) (A' : List Addr) (G' H' : Hp) (d : Option Addr) (σ : L2.St), x C fs μ' → Cells K A' μ' G' H' → Step A G H A' G' H' → ExOk K G' H' fs d → W (.ref (He.ga K C)) d σ H'
theorem ExTo.after {K : PySem.W.Frag} {W : WX} {A A' : List Addr} {G G' H H' : Hp} {x : XP} (h : ExTo K W A G H x) (st : Step A G H A' G' H') : ExTo K W A' G' H' x :=
  fun C fs μ' A2 G2 H2 d σ q c s2 e => h C fs μ' A2 G2 H2 d σ q c (st.trans s2) e

def lift (K : PySem.W.Frag) (W : WX) (t : TX) : TE := fun σ H Q => ∃ A ρ μ G Qp x, Sim K A σ ρ μ G H ∧ t x ρ μ Qp ∧ ExTo K W A G H x ∧
  ∀ r μ' A' G' H' v, Qp r μ' → Cells K A' μ' G' H' → Step A G H A' G' H' → RepS K A' G' r v → Q v H'
def liftT (K : PySem.W.Frag) (W : WX) (t : TXT) : TT := fun σ H Q => ∃ A ρ μ G Qp x, Sim K A σ ρ μ G H ∧ t x ρ μ Qp ∧ ExTo K W A G H x ∧
  ∀ b μ' A' G' H', Qp b μ' → Cells K A' μ' G' H' → Step A G H A' G' H' → Q b H'
def liftA (K : PySem.W.Frag) (W : WX) (t : TXA) : TA := fun σ H Q => ∃ A ρ μ G Qp x, Sim K A σ ρ μ G H ∧ t x ρ μ Qp ∧ ExTo K W A G H x ∧
  ∀ rs μ' A' G' H' vs, Qp rs μ' → Cells K A' μ' G' H' → Step A G H A' G' H' → RepsS K A' G' rs vs → Q vs H'
/-- a statement's ends -/
structure EndsOk (K : PySem.W.Frag) (W : WX) (A : List Addr) (G H : Hp) (E : EndsP) (D : Ends) : Prop where
  nx : ∀ ρ' μ' A' σ' G' H', E.nx ρ' μ' → Sim K A' σ' ρ' μ' G' H' → Step A G H A' G' H' → D.nx σ' H'
  bk : ∀ ρ' μ' A' σ' G' H', E.bk ρ' μ' → Sim K A' σ' ρ' μ' G' H' → Step A G H A' G' H' → D.bk σ' H'
  ct : ∀ ρ' μ' A' σ' G' H', E.ct ρ' μ' → Sim K A' σ' ρ' μ' G' H' → Step A G H A' G' H' → D.ct σ' H'
  rt : ∀ r μ' A' G' H' v, E.rt r μ' → Cells K A' μ' G' H' → Step A G H A' G' H' → RepS K A' G' r v → D.rt v H'
  ex : ExTo K W A G H E.ex
theorem EndsOk.after {K : PySem.W.Frag} {W : WX} {A A' : List Addr} {G G' H H' : Hp} {E : EndsP} {D : Ends} (e : EndsOk K W A G H E D) (st : Step A G H A' G' H') : EndsOk K W A' G' H' E D :=
  ⟨fun ρ' μ' A2 σ' G2 H2 q s s2 => e.nx ρ' μ' A2 σ' G2 H2 q s (st.trans s2), fun ρ' μ' A2 σ' G2 H2 q s s2 => e.bk ρ' μ' A2 σ' G2 H2 q s (st.trans s2),
    fun ρ' μ' A2 σ' G2 H2 q s s2 => e.ct ρ' μ' A2 σ' G2 H2 q s (st.trans s2), fun r μ' A2 G2 H2 v q s s2 => e.rt r μ' A2 G2 H2 v q s (st.trans s2), e.ex.after st⟩
def liftS (K : PySem.W.Frag) (W : WX) (t : TXS) : TS := fun D σ H => ∃ A ρ μ G E, Sim K A σ ρ μ G H ∧ t E ρ μ ∧ EndsOk K W A G H E D

structure PX (X : Cx) (W : WX) (e : Expr) (t : TX) : Prop where
  pe : PE X e (lift X.K W t)
structure PXT (X : Cx) (W : WX) (e : Expr) (t : TXT) : Prop where
  pt : PT X e (liftT X.K W t)
structure PXA (X : Cx) (W : WX) (es : List Expr) (t : TXA) : Prop where
  pa : PA X es (liftA X.K W t)
structure PXS (X : Cx) (W : WX) (st : Stmt) (t : TXS) : Prop where
  ps : PS X st (liftS X.K W t)
structure PXSs (X : Cx) (W : WX) (st : List Stmt) (t : TXS) : Prop where
  ps : PSs X st (liftS X.K W t)
theorem _root_.L2.PE.imp {X : Cx} {e : Expr} {t t' : TE} (h : PE X e t) (i : ∀ σ H Q, t' σ H Q → t σ H Q) : PE X e t' := ⟨fun pins s σ H Q I q => h.run pins s σ H Q I (i _ _ _ q)⟩
theorem _root_.L2.PT.imp {X : Cx} {e : Expr} {t t' : TT} (h : PT X e t) (i : ∀ σ H Q, t' σ H Q → t σ H Q) : PT X e t' := ⟨fun pins s σ H Q I q => h.run pins s σ H Q I (i _ _ _ q)⟩
theorem _root_.L2.PA.imp {X : Cx} {e : List Expr} {t t' : TA} (h : PA X e t) (i : ∀ σ H Q, t' σ H Q → t σ H Q) : PA X e t' := ⟨fun pos pins s σ H Q I q => h.run pos pins s σ H Q I (i _ _ _ q)⟩
theorem _root_.L2.PS.imp {X : Cx} {e : Stmt} {t t' : TS} (h : PS X e t) (i : ∀ D σ H, t' D σ H → t D σ H) : PS X e t' := ⟨fun pins s σ H D I q => h.run pins s σ H D I (i _ _ _ q)⟩
theorem _root_.L2.PSs.imp {X : Cx} {e : List Stmt} {t t' : TS} (h : PSs X e t) (i : ∀ D σ H, t' D σ H → t D σ H) : PSs X e t' := ⟨fun pins s σ H D I q => h.run pins s σ H D I (i _ _ _ q)⟩

section
variable {K : PySem.W.Frag} {A : List Addr} {μ : Mem} {G H : Hp}
theorem Cells.ne_of_lt (c : Cells K A μ G H) {a p : Addr} (ha : a ∈ A) (hp : H p = none) : a ≠ p := fun z => by
  subst z
  obtain ⟨k, hk⟩ := List.mem_iff_getElem?.mp ha
  have h1 : k < μ.length := by rw [← c.len]; exact (List.getElem?_eq_some_iff.mp hk).1
  obtain ⟨o, e⟩ := (c.ok k a _ hk (List.getElem?_eq_getElem h1)).some
  rw [hp] at e; cases e
theorem Cells.gnone (c : Cells K A μ G H) {p : Addr} (hp : H p = none) : G p = none := by
  cases e : G p with
  | none => rfl
  | some o => rw [c.le p o e] at hp; cases hp
/-- a new frozen thing at p -/
theorem Cells.laid (c : Cells K A μ G H) {p : Addr} {o : HO} (hp : H p = none) : Cells K A μ (upd G p o) (upd H p o) ∧ Step A G H A (upd G p o) (upd H p o) := by
  have gp := c.gnone hp
  have lg : Le G (upd G p o) := fun a u e => by rw [upd_ne (ne_of_none e gp)]; exact e
  refine ⟨⟨fun a u e => ?_, c.len, c.nd, fun a ha => ?_, fun k a cl h1 h2 => ?_⟩, ⟨List.prefix_refl _, lg.z, fun a u e _ => .inl ?_, fun a e => ?_, fun a xs e => ?_, fun a ha => .inl ha, fun a e => ?_⟩⟩
  · by_cases z : a = p
    · subst z; rw [upd_same] at e ⊢; exact e
    · rw [upd_ne z] at e ⊢; exact c.le a u e
  · rw [upd_ne (c.ne_of_lt ha hp)]; exact c.free a ha
  · exact (c.ok k a cl h1 h2).mono (List.prefix_refl _) lg.z (upd_ne (c.ne_of_lt (List.mem_of_getElem? h1) hp))
  · rw [upd_ne (ne_of_none e hp)]; exact e
  · by_cases z : a = p
    · subst z; exact .inr (.inl hp)
    · rw [upd_ne z] at e; exact .inl e
  · by_cases z : a = p
    · subst z; exact .inl hp
    · rw [upd_ne z] at e; exact .inr e
  · by_cases z : a = p
    · subst z; rw [upd_same]; simp
    · rw [upd_ne z]; exact e
theorem getElem?_append_one {α : Type} {l : List α} {x y : α} {k : Nat} (h : (l ++ [x])[k]? = some y) : (l[k]? = some y) ∨ (k = l.length ∧ y = x) := by
  by_cases hk : k < l.length
  · rw [List.getElem?_append_left hk] at h; exact .inl h
  · rw [List.getElem?_append_right (by omega)] at h
    have : k - l.length = 0 := by
      cases e : k - l.length with
      | zero => rfl
      | succ n => rw [e] at h; simp at h
    rw [this] at h
    simp at h
    exact .inr ⟨by omega, h.symm⟩
/-- a new cell at p -/
theorem Cells.cell (c : Cells K A μ G H) {p : Addr} {o : HO} {cl : Cell} (hp : H p = none) (ok : CellOk K (A ++ [p]) G (upd H p o) p cl) : Cells K (A ++ [p]) (μ ++ [cl]) G (upd H p o) ∧ Step A G H (A ++ [p]) G (upd H p o) := by
  have gp := c.gnone hp
  have np : p ∉ A := fun z => c.ne_of_lt z hp rfl
  refine ⟨⟨fun a u e => ?_, by simp [c.len], ?_, fun a ha => ?_, fun k a cl' h1 h2 => ?_⟩, ⟨List.prefix_append _ _, LeZ.refl _, fun a u e _ => .inl ?_, fun a e => .inl e, fun a xs e => ?_, fun a ha => ?_, fun a e => ?_⟩⟩
  · rw [upd_ne (ne_of_none e gp)]; exact c.le a u e
  · refine List.nodup_append.mpr ⟨c.nd, by simp, fun a ha b hb => ?_⟩
    simp at hb; subst hb
    exact c.ne_of_lt ha hp
  · rcases List.mem_append.mp ha with h | h
    · exact c.free a h
    · simp at h; subst h; exact gp
  · rcases getElem?_append_one h1 with h1 | ⟨e1, e2⟩
    · have hk : k < μ.length := by rw [← c.len]; exact (List.getElem?_eq_some_iff.mp h1).1
      rw [List.getElem?_append_left hk] at h2
      exact (c.ok k a cl' h1 h2).mono (List.prefix_append _ _) (LeZ.refl _) (upd_ne (c.ne_of_lt (List.mem_of_getElem? h1) hp))
    · subst e2
      rw [e1, c.len, List.getElem?_append_right (Nat.le_refl _)] at h2
      simp at h2; subst h2; exact ok
  · rw [upd_ne (ne_of_none e hp)]; exact e
  · by_cases z : a = p
    · subst z; exact .inl hp
    · rw [upd_ne z] at e; exact .inr e
  · rcases List.mem_append.mp ha with h | h
    · exact .inl h
    · simp at h; subst h; exact .inr hp
  · by_cases z : a = p
    · subst z; rw [upd_same]; simp
    · rw [upd_ne z]; exact e
/-- a cell is changed -/
theorem Cells.write (c : Cells K A μ G H) {k : Nat} {p : Addr} {o : HO} {cl : Cell} (hk : A[k]? = some p) (ok : CellOk K A G (upd H p o) p cl) : Cells K A (μ.set k cl) G (upd H p o) ∧ Step A G H A G (upd H p o) := by
  have hm : p ∈ A := List.mem_of_getElem? hk
  have gp := c.free p hm
  have hkl : k < A.length := (List.getElem?_eq_some_iff.mp hk).1
  refine ⟨⟨fun a u e => ?_, by simp [c.len], c.nd, c.free, fun j a cl' h1 h2 => ?_⟩, ⟨List.prefix_refl _, LeZ.refl _, fun a u e n => .inl ?_, fun a e => .inl e, fun a xs e => ?_, fun a ha => .inl ha, fun a e => ?_⟩⟩
  · rw [upd_ne (ne_of_none e gp)]; exact c.le a u e
  · by_cases z : j = k
    · subst z
      rw [hk] at h1; cases h1
      rw [List.getElem?_set_self (by rw [← c.len]; exact hkl)] at h2
      cases h2; exact ok
    · rw [List.getElem?_set_ne (Ne.symm z)] at h2
      refine (c.ok j a cl' h1 h2).mono (List.prefix_refl _) (LeZ.refl _) (upd_ne fun q => z ?_)
      subst q
      obtain ⟨l1, e1⟩ := List.getElem?_eq_some_iff.mp h1
      obtain ⟨l2, e2⟩ := List.getElem?_eq_some_iff.mp hk
      exact (List.getElem_inj c.nd).mp (e1.trans e2.symm)
  · rw [upd_ne (fun z : a = p => n (by rw [z]; exact hm))]; exact e
  · by_cases z : a = p
    · subst z; exact absurd e ok.notup
    · rw [upd_ne z] at e; exact .inr e
  · by_cases z : a = p
    · subst z; rw [upd_same]; simp
    · rw [upd_ne z]; exact e
end
end PL
namespace PL
open PySem PySem.Spec PyProof.Rows L2
theorem Reps.sq {K : PySem.W.Frag} {G : Hp} {l : List D} {v : V} (h : Rep K G (.tup l) v) : ∃ a vs, v = .ref a ∧ SqT K G a vs ∧ Reps K G l vs := by
  cases h with
  | tup h hs => exact ⟨_, _, rfl, SqT.of h, hs⟩
theorem Reps.sqn {K : PySem.W.Frag} {G : Hp} {l : List D} {v : V} (h : Rep K G (.ntp l) v) : ∃ a vs, v = .ref a ∧ SqT K G a vs ∧ Reps K G l vs := by
  cases h with
  | ntp h _ hs => exact ⟨_, _, rfl, .inl (.inr ⟨_, h⟩), hs⟩
theorem Reps.sql {K : PySem.W.Frag} {G : Hp} {l : List D} {v : V} (h : Rep K G (.lst l) v) : ∃ a vs, v = .ref a ∧ G a = some (.lst vs) ∧ Reps K G l vs := by
  cases h with
  | lst h hs => exact ⟨_, _, rfl, h, hs⟩
section
variable {X : Cx} {W : WX} {a b c e : Expr} {es : List Expr} {ta tb tc : TX} {pos : Pos}

/-- the one or the other, by a truth -/
def Br (b : Bool) (A B : Prop) : Prop := match b with
  | true => A
  | false => B
def xVar (i : Nat) : TX := fun _ ρ μ Q => i < ρ.n ∧ match ρ.f i with
  | .d a => Q (.d a) μ
  | .c k => Q (.c k) μ
  | .un => False
theorem px_name (i : Nat) {x : Str} {pos : Pos} (hN : X.N[i]? = some x := by rfl) (hv : Vis X.env.scope x := by first | exact Or.inl rfl | exact Or.inr (Or.inl rfl) | exact Or.inr (Or.inr rfl)) (hd : (x == ("__debug__" : Str)) = false := by decide)
    (hcd : (x == ("__classdict__" : Str)) = false := by decide) : PX X W (.Name x pos) (xVar i) := by
  refine ⟨(pe_var hN hv hd hcd).imp fun σ H Q h => ?_⟩
  obtain ⟨A, ρ, μ, G, Qp, xp, S, ht, _, k⟩ := h
  obtain ⟨hn, ht⟩ := ht
  obtain ⟨o, e1, so⟩ := S.at_ i hn
  split at ht
  · rename_i a e
    rw [e] at so
    obtain ⟨v, rfl, r⟩ := so
    exact ⟨v, e1, k _ _ A G H v ht S.toCells .refl r⟩
  · rename_i a e
    rw [e] at so
    obtain ⟨v, rfl, r⟩ := so
    exact ⟨v, e1, k _ _ A G H v ht S.toCells .refl r⟩
  · exact ht.elim
def xC (d : D) : TX := fun _ _ μ Q => Q (.d d) μ
theorem px_const {v : V} {d : D} (h : PE X e (tC v)) (r : ∀ G, Rep X.K G d v) : PX X W e (xC d) := by
  refine ⟨h.imp fun σ H Q h => ?_⟩
  obtain ⟨A, ρ, μ, G, Qp, xp, S, ht, _, k⟩ := h
  exact k _ _ A G H v ht S.toCells .refl (r G)
theorem px_int {i : Int} {j pos} : PX X W (.Constant (.int i) j pos) (xC (.int i)) := px_const pe_int fun _ => .int i
theorem px_bl {b : Bool} {j pos} : PX X W (.Constant (.bool b) j pos) (xC (.bl b)) := px_const pe_bl fun _ => .bl b
theorem px_non {j pos} : PX X W (.Constant .none j pos) (xC .non) := px_const pe_non fun _ => .non
/-- a constant of the module: an int -/
theorem px_gint {x : Str} {i : Int} {t : Tok} {pos : Pos} (hg : Gl X x) (hm : X.mg x = some (.int i t)) (hd : (x == ("__debug__" : Str)) = false := by decide) : PX X W (.Name x pos) (xC (.int i)) :=
  px_const (pe_glob hg hm (v := .int i) ⟨t, rfl⟩ hd) fun _ => .int i
theorem px_gstr {x : Str} {i : Str} {t : Tok} {pos : Pos} (hg : Gl X x) (hm : X.mg x = some (.str i t)) (hd : (x == ("__debug__" : Str)) = false := by decide) : PX X W (.Name x pos) (xC (.str i)) :=
  px_const (pe_glob hg hm (v := .str i) ⟨t, rfl⟩ hd) fun _ => .str i
theorem px_gref {x : Str} {pos : Pos} (hg : Gl X x) (hm : X.mg x = some (.ref (He.ga X.K x))) (hd : (x == ("__debug__" : Str)) = false := by decide) : PX X W (.Name x pos) (xC (.fn x)) :=
  px_const (pe_glob hg hm (v := .ref (He.ga X.K x)) rfl hd) fun _ => .fn x
theorem px_bty {x : Str} {T : String} {pos : Pos} (hg : Gl X x) (hm : X.mg x = none) (hv : bootBuiltins x = some (.type T)) (hn : x ≠ "__name__" := by decide) (hd : (x == ("__debug__" : Str)) = false := by decide) : PX X W (.Name x pos) (xC (.ty T)) :=
  px_const (pe_bltn hg hm hv (v := .ty T) rfl hn hd) fun _ => .ty T

/-- how an operation on the heap does what P says -/
def POp (K : PySem.W.Frag) (r : R2) (P : SV → SV → Mem → VP → Prop) : Prop := ∀ (sa sb : SV) (μ : Mem) (A : List Addr) (G H : Hp) (va vb : V) (Qp : VP) (Q : VK), P sa sb μ Qp → Cells K A μ G H → RepS K A G sa va → RepS K A G sb vb →
  (∀ r μ' A' G' H' v, Qp r μ' → Cells K A' μ' G' H' → Step A G H A' G' H' → RepS K A' G' r v → Q v H') → r va vb H Q
def xOp (P : SV → SV → Mem → VP → Prop) (ta tb : TX) : TX := fun x ρ μ Q => ta x ρ μ fun sa μ1 => tb x ρ μ1 fun sb μ2 => P sa sb μ2 Q
theorem lift_op {K : PySem.W.Frag} {r : R2} {P : SV → SV → Mem → VP → Prop} (hp : POp K r P) {σ : L2.St} {H : Hp} {Q : VK} (h : lift K W (xOp P ta tb) σ H Q) : tOp r (lift K W ta) (lift K W tb) σ H Q := by
  obtain ⟨A, ρ, μ, G, Qp, xp, S, ht, hx, k⟩ := h
  refine ⟨A, ρ, μ, G, _, xp, S, ht, hx, fun sa μ1 A1 G1 H1 va q c1 s1 r1 => ?_⟩
  refine ⟨A1, ρ, μ1, G1, _, xp, S.after s1 c1, q, hx.after s1, fun sb μ2 A2 G2 H2 vb q2 c2 s2 r2 => ?_⟩
  exact hp sa sb μ2 A2 G2 H2 va vb Qp Q q2 c2 (r1.mono s2.pre s2.le) r2 fun r μ' A' G' H' v q3 c3 s3 r3 => k r μ' A' G' H' v q3 c3 ((s1.trans s2).trans s3) r3
theorem px_op {op : Operator} {r : R2} {P : SV → SV → Mem → VP → Prop} (ho : OpR X (binaryOp op) r) (hp : POp X.K r P) (ha : PX X W a ta) (hb : PX X W b tb) : PX X W (.BinOp a op b pos) (xOp P ta tb) :=
  ⟨(pe_op ho ha.pe hb.pe).imp fun _ _ _ h => lift_op hp h⟩
theorem px_cmp {op : CmpOp} {r : R2} {P : SV → SV → Mem → VP → Prop} (ho : OpR X (compareOp op) r) (hp : POp X.K r P) (ha : PX X W a ta) (hb : PX X W b tb) (hm : behindInMarks op b = false := by first | exact nomark _ | rfl) : PX X W (.Compare a [op] [b] pos) (xOp P ta tb) :=
  ⟨(pe_cmpR ho ha.pe hb.pe hm).imp fun _ _ _ h => lift_op hp h⟩
/-- a reading as a test: a bool comes -/
def xTest (t : TX) : TXT := fun x ρ μ Q => t x ρ μ fun s μ1 => match s with
  | .d (.bl k) => Q k μ1
  | _ => False
theorem lift_test {K : PySem.W.Frag} {t : TX} {t0 : TE} (h0 : ∀ σ H Q, lift K W t σ H Q → t0 σ H Q) {σ : L2.St} {H : Hp} {Q : Bool → Hp → Prop} (h : liftT K W (xTest t) σ H Q) : tTest t0 σ H Q := by
  obtain ⟨A, ρ, μ, G, Qp, xp, S, ht, hx, k⟩ := h
  refine h0 _ _ _ ⟨A, ρ, μ, G, _, xp, S, ht, hx, fun r μ' A' G' H' v q c s rr => ?_⟩
  match r, q, rr with
  | .d (.bl b), q, rr => cases rr; exact ⟨b, rfl, k _ _ _ _ _ q c s⟩
theorem pxt_cmp {op : CmpOp} {r : R2} {P : SV → SV → Mem → VP → Prop} (ho : OpR X (compareOp op) r) (hp : POp X.K r P) (ha : PX X W a ta) (hb : PX X W b tb) (hm : behindInMarks op b = false := by first | exact nomark _ | rfl) : PXT X W (.Compare a [op] [b] pos) (xTest (xOp P ta tb)) :=
  ⟨(pt_cmpR ho ha.pe hb.pe hm).imp fun _ _ _ h => lift_test (fun _ _ _ z => lift_op hp z) h⟩
/-- an expression that gives True or False, as a test -/
theorem pxt_val {t : TX} (h : PX X W e t) (he : ∀ whole, isTrue e X.env whole = (do let v ← whole; standAt e.pos; holding [v] (truthy v)) := by intro _; rfl) : PXT X W e (xTest t) :=
  ⟨(pt_val h.pe he).imp fun _ _ _ h => by
    obtain ⟨A, ρ, μ, G, Qp, xp, S, ht, hx, k⟩ := h
    refine ⟨A, ρ, μ, G, _, xp, S, ht, hx, fun r μ' A' G' H' v q c s rr => ?_⟩
    match r, q, rr with
    | .d (.bl b), q, rr => cases rr; exact ⟨b, rfl, k _ _ _ _ _ q c s⟩⟩
/-- a < b < c -/
def xChain (P P' : SV → SV → Mem → VP → Prop) (ta tb tc : TX) : TX := fun x ρ μ Q => ta x ρ μ fun sa μ1 => tb x ρ μ1 fun sb μ2 => P sa sb μ2 fun z μ3 => match z with
  | .d (.bl b) => Br b (tc x ρ μ3 fun sc μ4 => P' sb sc μ4 Q) (Q (.d (.bl false)) μ3)
  | _ => False
theorem lift_chain {K : PySem.W.Frag} {r r' : R2} {P P' : SV → SV → Mem → VP → Prop} (hp : POp K r P) (hp' : POp K r' P') {σ : L2.St} {H : Hp} {Q : VK} (h : lift K W (xChain P P' ta tb tc) σ H Q) : tChain r r' (lift K W ta) (lift K W tb) (lift K W tc) σ H Q := by
  obtain ⟨A, ρ, μ, G, Qp, xp, S, ht, hx, k⟩ := h
  refine ⟨A, ρ, μ, G, _, xp, S, ht, hx, fun sa μ1 A1 G1 H1 va q c1 s1 r1 => ?_⟩
  refine ⟨A1, ρ, μ1, G1, _, xp, S.after s1 c1, q, hx.after s1, fun sb μ2 A2 G2 H2 vb q2 c2 s2 r2 => ?_⟩
  refine hp sa sb μ2 A2 G2 H2 va vb _ _ q2 c2 (r1.mono s2.pre s2.le) r2 fun z μ3 A3 G3 H3 v3 q3 c3 s3 r3 => ?_
  have s13 := (s1.trans s2).trans s3
  match z, q3, r3 with
  | .d (.bl true), q3, r3 =>
    cases r3
    refine ⟨true, rfl, ite_tt ?_⟩
    refine ⟨A3, ρ, μ3, G3, _, xp, S.after s13 c3, q3, hx.after s13, fun sc μ4 A4 G4 H4 vc q4 c4 s4 r4 => ?_⟩
    have s24 := s3.trans s4
    exact hp' sb sc μ4 A4 G4 H4 vb vc Qp Q q4 c4 (r2.mono s24.pre s24.le) r4 fun r μ' A' G' H' v q5 c5 s5 r5 => k r μ' A' G' H' v q5 c5 ((s13.trans s4).trans s5) r5
  | .d (.bl false), q3, r3 =>
    cases r3
    exact ⟨false, rfl, ite_ff (k _ _ _ _ _ _ q3 c3 s13 (.bl false))⟩
theorem px_chain {op op' : CmpOp} {r r' : R2} {P P' : SV → SV → Mem → VP → Prop} (ho : OpR X (compareOp op) r) (hp : POp X.K r P) (ho' : OpR X (compareOp op') r') (hp' : POp X.K r' P') (ha : PX X W a ta) (hb : PX X W b tb) (hc : PX X W c tc)
    (hm : lastMarks [op, op'] [b, c] = false := by with_unfolding_all rfl) : PX X W (.Compare a [op, op'] [b, c] pos) (xChain P P' ta tb tc) := ⟨(pe_chain ho ho' ha.pe hb.pe hc.pe hm).imp fun _ _ _ h => lift_chain hp hp' h⟩
theorem pxt_chain {op op' : CmpOp} {r r' : R2} {P P' : SV → SV → Mem → VP → Prop} (ho : OpR X (compareOp op) r) (hp : POp X.K r P) (ho' : OpR X (compareOp op') r') (hp' : POp X.K r' P') (ha : PX X W a ta) (hb : PX X W b tb) (hc : PX X W c tc)
    (hm : lastMarks [op, op'] [b, c] = false := by with_unfolding_all rfl) : PXT X W (.Compare a [op, op'] [b, c] pos) (xTest (xChain P P' ta tb tc)) := ⟨(pt_chain ho ho' ha.pe hb.pe hc.pe hm).imp fun _ _ _ h => lift_test (fun _ _ _ z => lift_chain hp hp' z) h⟩

def pI0 (f : Int → Int → D) : SV → SV → Mem → VP → Prop := fun sa sb μ Q => match sa, sb with
  | .d (.int i), .d (.int j) => Q (.d (f i j)) μ
  | _, _ => False
def pII (f : Int → Int → D) (C : Int → Int → Prop) : SV → SV → Mem → VP → Prop := fun sa sb μ Q => match sa, sb with
  | .d (.int i), .d (.int j) => C i j ∧ Q (.d (f i j)) μ
  | _, _ => False
theorem pop_I {K : PySem.W.Frag} {f : Int → Int → D} {g : Int → Int → V} {C : Int → Int → Prop} (hf : ∀ G i j, Rep K G (f i j) (g i j)) : POp K (rI C g) (pII f C) := by
  intro sa sb μ A G H va vb Qp Q h c ra rb k
  match sa, sb, h, ra, rb with
  | .d (.int i), .d (.int j), ⟨hc, h⟩, ra, rb =>
    cases ra; cases rb
    exact ⟨i, j, rfl, rfl, hc, k _ _ _ _ _ _ h c .refl (hf _ _ _)⟩
theorem pop_I0 {K : PySem.W.Frag} {f : Int → Int → D} {g : Int → Int → V} (hf : ∀ G i j, Rep K G (f i j) (g i j)) : POp K (rI0 g) (pI0 f) := by
  intro sa sb μ A G H va vb Qp Q h c ra rb k
  match sa, sb, h, ra, rb with
  | .d (.int i), .d (.int j), h, ra, rb =>
    cases ra; cases rb
    exact ⟨i, j, rfl, rfl, k _ _ _ _ _ _ h c .refl (hf _ _ _)⟩
abbrev pDiv := pII (fun i j => .int (i / j)) CDiv
abbrev pPow := pII (fun i j => .int (i ^ j.toNat)) CPow
abbrev pLe := pI0 (fun i j => .bl (decide (i ≤ j)))
theorem px_divI (ha : PX X W a ta) (hb : PX X W b tb) : PX X W (.BinOp a .FloorDiv b pos) (xOp pDiv ta tb) := px_op op_fdiv (pop_I fun _ _ _ => .int _) ha hb
theorem px_powI (ha : PX X W a ta) (hb : PX X W b tb) : PX X W (.BinOp a .Pow b pos) (xOp pPow ta tb) := px_op op_pow (pop_I fun _ _ _ => .int _) ha hb
theorem px_leleI (ha : PX X W a ta) (hb : PX X W b tb) (hc : PX X W c tc) (hm : lastMarks [.LtE, .LtE] [b, c] = false := by with_unfolding_all rfl) : PX X W (.Compare a [.LtE, .LtE] [b, c] pos) (xChain pLe pLe ta tb tc) := px_chain op_le (pop_I0 fun _ _ _ => .bl _) op_le (pop_I0 fun _ _ _ => .bl _) ha hb hc hm
theorem pxt_leleI (ha : PX X W a ta) (hb : PX X W b tb) (hc : PX X W c tc) (hm : lastMarks [.LtE, .LtE] [b, c] = false := by with_unfolding_all rfl) : PXT X W (.Compare a [.LtE, .LtE] [b, c] pos) (xTest (xChain pLe pLe ta tb tc)) := pxt_chain op_le (pop_I0 fun _ _ _ => .bl _) op_le (pop_I0 fun _ _ _ => .bl _) ha hb hc hm

mutual
def toPy : D → PyData
  | .non => .none
  | .bl b => .bool b
  | .int i => .int i
  | .str x => .str x
  | .tup l => .tuple (toPys l)
  | .ntp l => .tuple (toPys l)
  | .lst l => .list (toPys l)
  | _ => .none
def toPys : List D → List PyData
  | [] => []
  | d :: ds => toPy d :: toPys ds
end
mutual
/-- data that == may look at: no dict, no object; nested less than n deep -/
def flat (n : Nat) : D → Bool
  | .non => true
  | .bl _ => true
  | .int _ => true
  | .str x => PyData.strOk x
  | .tup l => match n with | 0 => false | n + 1 => flats n l
  | .ntp l => match n with | 0 => false | n + 1 => flats n l
  | .lst l => match n with | 0 => false | n + 1 => flats n l
  | _ => false
def flats (n : Nat) : List D → Bool
  | [] => true
  | d :: ds => flat n d && flats n ds
end

theorem flat_lay (n : Nat) : ∀ d : D, flat n d = true → (toPy d).canLay0 = true ∧ (toPy d).depth ≤ n := by
  intro d
  refine D.rec (motive_1 := fun d => ∀ n, flat n d = true → (toPy d).canLay0 = true ∧ (toPy d).depth ≤ n) (motive_2 := fun ds => ∀ n, flats n ds = true → PyData.canLayAll0 (toPys ds) = true ∧ PyData.depthAll (toPys ds) ≤ n) ?_ ?_ ?_ ?_ ?_ ?_ ?_ ?_ ?_ ?_ ?_ ?_ ?_ ?_ d n
  · intro n _; simp [toPy, PyData.canLay0, PyData.depth]
  · intro b n _; simp [toPy, PyData.canLay0, PyData.depth]
  · intro i n _; simp [toPy, PyData.canLay0, PyData.depth]
  · intro x n h; simp only [flat] at h; simp [toPy, PyData.canLay0, PyData.depth, h]
  · intro a n h; simp [flat] at h
  · intro a n h; simp [flat] at h
  · intro a n h; simp [flat] at h
  · intro l ih n h
    cases n with
    | zero => simp [flat] at h
    | succ n =>
      simp only [flat] at h
      obtain ⟨h1, h2⟩ := ih n h
      simp only [toPy, PyData.canLay0, PyData.depth]
      exact ⟨h1, by omega⟩
  · intro l ih n h
    cases n with
    | zero => simp [flat] at h
    | succ n =>
      simp only [flat] at h
      obtain ⟨h1, h2⟩ := ih n h
      simp only [toPy, PyData.canLay0, PyData.depth]
      exact ⟨h1, by omega⟩
  · intro l ih n h
    cases n with
    | zero => simp [flat] at h
    | succ n =>
      simp only [flat] at h
      obtain ⟨h1, h2⟩ := ih n h
      simp only [toPy, PyData.canLay0, PyData.depth]
      exact ⟨h1, by omega⟩
  · intro t k v _ _ n h; simp [flat] at h
  · intro C k v _ n h; simp [flat] at h
  · intro n _; simp [toPys, PyData.canLayAll0, PyData.depthAll]
  · intro d ds i1 i2 n h
    simp only [flats, Bool.and_eq_true] at h
    obtain ⟨h1, h2⟩ := i1 n h.1
    obtain ⟨h3, h4⟩ := i2 n h.2
    simp only [toPys, PyData.canLayAll0, PyData.depthAll, Bool.and_eq_true]
    exact ⟨⟨h1, h3⟩, by omega⟩
/-- data for == -/
def okEq (d : D) : Bool := flat 60 d
theorem okEq_shaped {d : D} (h : okEq d = true) : SeqAt.shaped (toPy d) = true := by
  obtain ⟨h1, h2⟩ := flat_lay 60 d h
  show ((toPy d).canLay0 && decide ((toPy d).depth ≤ 64)) = true
  rw [h1, Bool.true_and]
  exact decide_eq_true (by omega)
mutual
theorem rep_dp {K : PySem.W.Frag} {G H : Hp} (le : Le G H) (n : Nat) : ∀ (d : D) (v : V), flat n d = true → Rep K G d v → Dp K H v (toPy d)
  | .non, _, _, h => by cases h; simp only [toPy]; exact .non
  | .bl b, _, _, h => by cases h; simp only [toPy]; exact .bl b
  | .int b, _, _, h => by cases h; simp only [toPy]; exact .int b
  | .str b, _, _, h => by cases h; simp only [toPy]; exact .str b
  | .fn _, _, f, _ => by simp [flat] at f
  | .ty _, _, f, _ => by simp [flat] at f
  | .dic _ _ _, _, f, _ => by simp [flat] at f
  | .scr _, _, f, _ => by simp [flat] at f
  | .obj _ _ _, _, f, _ => by simp [flat] at f
  | .tup l, _, f, h => by
    cases n with
    | zero => simp [flat] at f
    | succ n =>
      simp only [flat] at f
      cases h with
      | tup h hs => simp only [toPy]; exact .tup (SqT.of (le _ _ h)) (reps_dp le n l _ f hs)
  | .ntp l, _, f, h => by
    cases n with
    | zero => simp [flat] at f
    | succ n =>
      simp only [flat] at f
      cases h with
      | ntp h _ hs => simp only [toPy]; exact .tup (.inl (.inr ⟨_, le _ _ h⟩)) (reps_dp le n l _ f hs)
  | .lst l, _, f, h => by
    cases n with
    | zero => simp [flat] at f
    | succ n =>
      simp only [flat] at f
      cases h with
      | lst h hs => simp only [toPy]; exact .lst (SqL.of (le _ _ h)) (reps_dp le n l _ f hs)
theorem reps_dp {K : PySem.W.Frag} {G H : Hp} (le : Le G H) (n : Nat) : ∀ (ds : List D) (vs : List V), flats n ds = true → Reps K G ds vs → DpAll K H vs (toPys ds)
  | [], _, _, h => by cases h; simp only [toPys]; exact .nil
  | d :: ds, _, f, h => by
    simp only [flats, Bool.and_eq_true] at f
    cases h with
    | cons h hs => simp only [toPys]; exact .cons (rep_dp le n d _ f.1 h) (reps_dp le n ds _ f.2 hs)
end
def deq (x y : D) : Bool := PyData.eqv (toPy x) (toPy y)
def pEq : SV → SV → Mem → VP → Prop := fun sa sb μ Q => match sa, sb with
  | .d x, .d y => (okEq x = true ∧ okEq y = true) ∧ Q (.d (.bl (deq x y))) μ
  | _, _ => False
def pNe : SV → SV → Mem → VP → Prop := fun sa sb μ Q => match sa, sb with
  | .d x, .d y => (okEq x = true ∧ okEq y = true) ∧ Q (.d (.bl (!deq x y))) μ
  | _, _ => False
theorem pop_eq {K : PySem.W.Frag} : POp K (rEqD K) pEq := by
  intro sa sb μ A G H va vb Qp Q h c ra rb k
  match sa, sb, h, ra, rb with
  | .d x, .d y, ⟨⟨h1, h2⟩, h⟩, ra, rb => exact ⟨toPy x, toPy y, rep_dp c.le 60 x _ h1 ra, rep_dp c.le 60 y _ h2 rb, okEq_shaped h1, okEq_shaped h2, k _ _ _ _ _ _ h c .refl (.bl _)⟩
theorem pop_ne {K : PySem.W.Frag} : POp K (rNeD K) pNe := by
  intro sa sb μ A G H va vb Qp Q h c ra rb k
  match sa, sb, h, ra, rb with
  | .d x, .d y, ⟨⟨h1, h2⟩, h⟩, ra, rb => exact ⟨toPy x, toPy y, rep_dp c.le 60 x _ h1 ra, rep_dp c.le 60 y _ h2 rb, okEq_shaped h1, okEq_shaped h2, k _ _ _ _ _ _ h c .refl (.bl _)⟩
def xIsN (ta : TX) : TX := fun x ρ μ Q => ta x ρ μ fun s μ1 => match s with
  | .d .non => Q (.d (.bl true)) μ1
  | .d _ => Q (.d (.bl false)) μ1
  | .c _ => Q (.d (.bl false)) μ1
  | .un => False
def xNotN (ta : TX) : TX := fun x ρ μ Q => ta x ρ μ fun s μ1 => match s with
  | .d .non => Q (.d (.bl false)) μ1
  | .d _ => Q (.d (.bl true)) μ1
  | .c _ => Q (.d (.bl true)) μ1
  | .un => False
theorem isN_of {K : PySem.W.Frag} {A : List Addr} {G : Hp} {s : SV} {v : V} (r : RepS K A G s v) : (s = .d .non ∧ v = .non) ∨ (s = .un) ∨ (s ≠ .d .non ∧ s ≠ .un ∧ decide (v = V.non) = false) := by
  match s, r with
  | .un, _ => exact .inr (.inl rfl)
  | .c k, r => obtain ⟨a, _, rfl⟩ := r; exact .inr (.inr ⟨by simp, by simp, by simp⟩)
  | .d d, r => cases r <;> first | exact .inl ⟨rfl, rfl⟩ | exact .inr (.inr ⟨by simp, by simp, by simp⟩)
theorem px_isN {j pos'} (ha : PX X W a ta) : PX X W (.Compare a [.Is] [.Constant .none j pos'] pos) (xIsN ta) := by
  refine ⟨(pe_cmp (pc_isN ha.pe)).imp fun σ H Q h => ?_⟩
  obtain ⟨A, ρ, μ, G, Qp, xp, S, ht, hx, k⟩ := h
  refine ⟨A, ρ, μ, G, _, xp, S, ht, hx, fun r μ' A' G' H' v q c s rr => ?_⟩
  rcases isN_of rr with ⟨rfl, rfl⟩ | rfl | ⟨h1, h2, h3⟩
  · exact k _ _ _ _ _ _ q c s (.bl _)
  · exact q.elim
  · rw [h3]
    match r, h1, h2, q with
    | .c _, _, _, q => exact k _ _ _ _ _ _ q c s (.bl _)
    | .d d, h1, _, q => cases d <;> first | exact absurd rfl h1 | exact k _ _ _ _ _ _ q c s (.bl _)
variable {tA tB : TXT} {rest : List Expr}
def xAnd (t u : TXT) : TXT := fun x ρ μ Q => t x ρ μ fun b μ1 => Br b (u x ρ μ1 Q) (Q false μ1)
def xOr (t u : TXT) : TXT := fun x ρ μ Q => t x ρ μ fun b μ1 => Br b (Q true μ1) (u x ρ μ1 Q)
def xNot (t : TXT) : TXT := fun x ρ μ Q => t x ρ μ fun b μ1 => Q (!b) μ1
/-- a test whatever its whole is -/
structure PXW (X : Cx) (W : WX) (e : Expr) (t : TXT) : Prop where
  pw : PW X e (liftT X.K W t)
theorem _root_.L2.PW.imp {X : Cx} {e : Expr} {t t' : TT} (h : PW X e t) (i : ∀ σ H Q, t' σ H Q → t σ H Q) : PW X e t' := ⟨fun wh pins s σ H Q I q => h.run wh pins s σ H Q I (i _ _ _ q)⟩
theorem PXW.pt {t : TXT} (h : PXW X W e t) : PXT X W e t := ⟨h.pw.pt⟩
theorem pxw_and1 (ha : PXT X W a tA) : PXW X W (.BoolOp .And [a] pos) tA := ⟨pw_and1 ha.pt⟩
theorem pxw_or1 (ha : PXT X W a tA) : PXW X W (.BoolOp .Or [a] pos) tA := ⟨pw_or1 ha.pt⟩
theorem pxw_and (ha : PXT X W a tA) (hb : PXW X W (.BoolOp .And (b :: rest) pos) tB) : PXW X W (.BoolOp .And (a :: b :: rest) pos) (xAnd tA tB) := by
  refine ⟨(pw_and ha.pt hb.pw).imp fun σ H Q h => ?_⟩
  obtain ⟨A, ρ, μ, G, Qp, xp, S, ht, hx, k⟩ := h
  refine ⟨A, ρ, μ, G, _, xp, S, ht, hx, fun r μ' A' G' H' q c s => ?_⟩
  cases r with
  | true => exact ite_tt ⟨A', ρ, μ', G', Qp, xp, S.after s c, q, hx.after s, fun b μ2 A2 G2 H2 q2 c2 s2 => k _ _ _ _ _ q2 c2 (s.trans s2)⟩
  | false => exact ite_ff (k _ _ _ _ _ q c s)
theorem pxw_or (ha : PXT X W a tA) (hb : PXW X W (.BoolOp .Or (b :: rest) pos) tB) : PXW X W (.BoolOp .Or (a :: b :: rest) pos) (xOr tA tB) := by
  refine ⟨(pw_or ha.pt hb.pw).imp fun σ H Q h => ?_⟩
  obtain ⟨A, ρ, μ, G, Qp, xp, S, ht, hx, k⟩ := h
  refine ⟨A, ρ, μ, G, _, xp, S, ht, hx, fun r μ' A' G' H' q c s => ?_⟩
  cases r with
  | true => exact ite_tt (k _ _ _ _ _ q c s)
  | false => exact ite_ff ⟨A', ρ, μ', G', Qp, xp, S.after s c, q, hx.after s, fun b μ2 A2 G2 H2 q2 c2 s2 => k _ _ _ _ _ q2 c2 (s.trans s2)⟩
theorem pxt_not (ha : PXT X W a tA) : PXT X W (.UnaryOp .Not a pos) (xNot tA) := by
  refine ⟨(pt_not ha.pt).imp fun σ H Q h => ?_⟩
  obtain ⟨A, ρ, μ, G, Qp, xp, S, ht, hx, k⟩ := h
  exact ⟨A, ρ, μ, G, _, xp, S, ht, hx, fun r μ' A' G' H' q c s => k _ _ _ _ _ q c s⟩
/-- .. as values: all but the last are bools -/
def xAndV (ta tb : TX) : TX := fun x ρ μ Q => ta x ρ μ fun s μ1 => match s with
  | .d (.bl b) => Br b (tb x ρ μ1 Q) (Q (.d (.bl false)) μ1)
  | _ => False
def xNotV (ta : TX) : TX := fun x ρ μ Q => ta x ρ μ fun s μ1 => match s with
  | .d (.bl b) => Q (.d (.bl (!b))) μ1
  | _ => False
theorem px_one {op} {t : TX} (h : PX X W a t) : PX X W (.BoolOp op [a] pos) t := ⟨pe_one h.pe⟩
theorem px_and (ha : PX X W a ta) (hb : PX X W (.BoolOp .And (b :: rest) pos) tb) : PX X W (.BoolOp .And (a :: b :: rest) pos) (xAndV ta tb) := by
  refine ⟨(pe_and ha.pe hb.pe).imp fun σ H Q h => ?_⟩
  obtain ⟨A, ρ, μ, G, Qp, xp, S, ht, hx, k⟩ := h
  refine ⟨A, ρ, μ, G, _, xp, S, ht, hx, fun r μ' A' G' H' v q c s rr => ?_⟩
  match r, q, rr with
  | .d (.bl true), q, rr => cases rr; exact ⟨true, rfl, ite_tt ⟨A', ρ, μ', G', Qp, xp, S.after s c, q, hx.after s, fun r2 μ2 A2 G2 H2 v2 q2 c2 s2 rr2 => k _ _ _ _ _ _ q2 c2 (s.trans s2) rr2⟩⟩
  | .d (.bl false), q, rr => cases rr; exact ⟨false, rfl, ite_ff (k _ _ _ _ _ _ q c s (.bl _))⟩
theorem px_not (ha : PX X W a ta) : PX X W (.UnaryOp .Not a pos) (xNotV ta) := by
  refine ⟨(pe_not ha.pe).imp fun σ H Q h => ?_⟩
  obtain ⟨A, ρ, μ, G, Qp, xp, S, ht, hx, k⟩ := h
  refine ⟨A, ρ, μ, G, _, xp, S, ht, hx, fun r μ' A' G' H' v q c s rr => ?_⟩
  match r, q, rr with
  | .d (.bl b), q, rr => cases rr; exact ⟨b, rfl, k _ _ _ _ _ _ q c s (.bl _)⟩
/-- a if t else b -/
def xIf (t : TXT) (ta tb : TX) : TX := fun x ρ μ Q => t x ρ μ fun k μ1 => Br k (ta x ρ μ1 Q) (tb x ρ μ1 Q)
theorem px_if (hc : PXT X W c tA) (ha : PX X W a ta) (hb : PX X W b tb) : PX X W (.IfExp c a b pos) (xIf tA ta tb) := by
  refine ⟨(pe_ifExp hc.pt ha.pe hb.pe).imp fun σ H Q h => ?_⟩
  obtain ⟨A, ρ, μ, G, Qp, xp, S, ht, hx, k⟩ := h
  refine ⟨A, ρ, μ, G, _, xp, S, ht, hx, fun r μ' A' G' H' q c s => ?_⟩
  cases r with
  | true => exact ite_tt ⟨A', ρ, μ', G', Qp, xp, S.after s c, q, hx.after s, fun r2 μ2 A2 G2 H2 v2 q2 c2 s2 rr2 => k _ _ _ _ _ _ q2 c2 (s.trans s2) rr2⟩
  | false => exact ite_ff ⟨A', ρ, μ', G', Qp, xp, S.after s c, q, hx.after s, fun r2 μ2 A2 G2 H2 v2 q2 c2 s2 rr2 => k _ _ _ _ _ _ q2 c2 (s.trans s2) rr2⟩

def xNil : TXA := fun _ _ μ Q => Q [] μ
def xCons (ta : TX) (tr : TXA) : TXA := fun x ρ μ Q => ta x ρ μ fun s μ1 => tr x ρ μ1 fun ss μ2 => Q (s :: ss) μ2
variable {tL : TXA}
theorem pxa_nil : PXA X W [] xNil := by
  refine ⟨pa_nil.imp fun σ H Q h => ?_⟩
  obtain ⟨A, ρ, μ, G, Qp, xp, S, ht, hx, k⟩ := h
  exact k _ _ _ _ _ _ ht S.toCells .refl .nil
theorem pxa_cons (ha : PX X W e ta) (hr : PXA X W es tL) (hs : starEach (e :: es) X.env = (false, eval e X.env) :: starEach es X.env := by rfl) : PXA X W (e :: es) (xCons ta tL) := by
  refine ⟨(pa_cons ha.pe hr.pa hs).imp fun σ H Q h => ?_⟩
  obtain ⟨A, ρ, μ, G, Qp, xp, S, ht, hx, k⟩ := h
  refine ⟨A, ρ, μ, G, _, xp, S, ht, hx, fun r μ' A' G' H' v q c s rr => ?_⟩
  exact ⟨A', ρ, μ', G', _, xp, S.after s c, q, hx.after s, fun rs μ2 A2 G2 H2 vs q2 c2 s2 rr2 => k _ _ _ _ _ _ q2 c2 (s.trans s2) (.cons (rr.mono s2.pre s2.le) rr2)⟩
/-- all of them data -/
def allD : List SV → Option (List D)
  | [] => some []
  | .d x :: r => (allD r).map (x :: ·)
  | _ :: _ => none
theorem allD_reps {K : PySem.W.Frag} {A : List Addr} {G : Hp} : ∀ {ss : List SV} {ds : List D} {vs : List V}, allD ss = some ds → RepsS K A G ss vs → Reps K G ds vs
  | [], _, _, e, .nil => by simp [allD] at e; subst e; exact .nil
  | .d x :: r, ds, _, e, .cons h t => by
    simp only [allD, Option.map_eq_some_iff] at e
    obtain ⟨es, e1, rfl⟩ := e
    exact .cons h (allD_reps e1 t)
  | .c _ :: _, _, _, e, _ => by simp [allD] at e
  | .un :: _, _, _, e, _ => by simp [allD] at e
def onD (o : Option (List D)) (q : List D → Prop) : Prop := match o with
  | some ds => q ds
  | none => False
def xTup (t : TXA) : TX := fun x ρ μ Q => t x ρ μ fun ss μ1 => onD (allD ss) fun ds => ds.length ≤ sizeLine ∧ Q (.d (.tup ds)) μ1
def xLst (t : TXA) : TX := fun x ρ μ Q => t x ρ μ fun ss μ1 => onD (allD ss) fun ds => ds.length ≤ sizeLine ∧ Q (.d (.lst ds)) μ1
/-- a list of one's own -/
def xLstC (t : TXA) : TX := fun x ρ μ Q => t x ρ μ fun ss μ1 => onD (allD ss) fun ds => ds.length ≤ sizeLine ∧ Q (.c μ1.length) (μ1 ++ [.lst ds])
theorem onD_of {o : Option (List D)} {q : List D → Prop} (h : onD o q) : ∃ ds, o = some ds ∧ q ds := by
  cases o with
  | none => exact h.elim
  | some ds => exact ⟨ds, rfl, h⟩
theorem px_tup {x1} (h : PXA X W es tL) : PX X W (.Tuple es x1 pos) (xTup tL) := by
  refine ⟨(pe_tup h.pa).imp fun σ H Q h => ?_⟩
  obtain ⟨A, ρ, μ, G, Qp, xp, S, ht, hx, k⟩ := h
  refine ⟨A, ρ, μ, G, _, xp, S, ht, hx, fun rs μ' A' G' H' vs q c s rr => ?_⟩
  obtain ⟨ds, e, hz, q⟩ := onD_of q
  have r := allD_reps e rr
  refine ⟨by rw [← r.length]; exact hz, fun p hp => ?_⟩
  obtain ⟨c2, s2⟩ := c.laid (o := .tup vs) hp
  exact k _ _ _ _ _ _ q c2 (s.trans s2) (Rep.tup upd_same (r.mono s2.le))
theorem px_lst (h : PXA X W es tL) : PX X W (.List es pos) (xLst tL) := by
  refine ⟨(pe_lst h.pa).imp fun σ H Q h => ?_⟩
  obtain ⟨A, ρ, μ, G, Qp, xp, S, ht, hx, k⟩ := h
  refine ⟨A, ρ, μ, G, _, xp, S, ht, hx, fun rs μ' A' G' H' vs q c s rr => ?_⟩
  obtain ⟨ds, e, hz, q⟩ := onD_of q
  have r := allD_reps e rr
  refine ⟨by rw [← r.length]; exact hz, fun p hp => ?_⟩
  obtain ⟨c2, s2⟩ := c.laid (o := .lst vs) hp
  exact k _ _ _ _ _ _ q c2 (s.trans s2) (Rep.lst upd_same (r.mono s2.le))
theorem px_lstC (h : PXA X W es tL) : PX X W (.List es pos) (xLstC tL) := by
  refine ⟨(pe_lst h.pa).imp fun σ H Q h => ?_⟩
  obtain ⟨A, ρ, μ, G, Qp, xp, S, ht, hx, k⟩ := h
  refine ⟨A, ρ, μ, G, _, xp, S, ht, hx, fun rs μ' A' G' H' vs q c s rr => ?_⟩
  obtain ⟨ds, e, hz, q⟩ := onD_of q
  have r := allD_reps e rr
  refine ⟨by rw [← r.length]; exact hz, fun p hp => ?_⟩
  obtain ⟨c2, s2⟩ := c.cell (o := .lst vs) (cl := .lst ds) hp ⟨vs, upd_same, r⟩
  exact k _ _ _ _ _ _ q c2 (s.trans s2) ⟨p, by rw [← c.len]; simp, rfl⟩
end
end PL
namespace PL
open PySem PySem.Spec PyProof.Rows L2
/-- there is such a thing, and q holds of it -/
def on {α : Type} (o : Option α) (q : α → Prop) : Prop := match o with
  | some a => q a
  | none => False
theorem on_of {α : Type} {o : Option α} {q : α → Prop} (h : on o q) : ∃ a, o = some a ∧ q a := by
  cases o with
  | none => exact h.elim
  | some a => exact ⟨a, rfl, h⟩
def lstOf (s : SV) (μ : Mem) : Option (List D) := match s with
  | .d (.lst l) => some l
  | .c k => match μ[k]? with
    | some (.lst l) => some l
    | _ => none
  | _ => none
def tupOf (s : SV) : Option (List D) := match s with
  | .d (.tup l) => some l
  | .d (.ntp l) => some l
  | _ => none
section
variable {K : PySem.W.Frag} {A : List Addr} {μ : Mem} {G H : Hp} {s : SV} {v : V} {l : List D}
theorem lstOf_rep (e : lstOf s μ = some l) (c : Cells K A μ G H) (r : RepS K A G s v) : ∃ a vs, v = .ref a ∧ H a = some (.lst vs) ∧ Reps K G l vs := by
  unfold lstOf at e
  split at e
  · cases e
    obtain ⟨a, vs, rfl, h, hs⟩ := Reps.sql r
    exact ⟨a, vs, rfl, c.le _ _ h, hs⟩
  · rename_i k
    split at e
    · rename_i l' hk
      cases e
      obtain ⟨a, ha, rfl⟩ := r
      obtain ⟨vs, h, hs⟩ := c.ok _ _ _ ha hk
      exact ⟨a, vs, rfl, h, hs⟩
    · cases e
  · cases e
theorem tupOf_rep (e : tupOf s = some l) (c : Cells K A μ G H) (r : RepS K A G s v) : ∃ a vs, v = .ref a ∧ SqT K H a vs ∧ Reps K G l vs := by
  unfold tupOf at e
  split at e
  · cases e
    obtain ⟨a, vs, rfl, h, hs⟩ := Reps.sq r
    exact ⟨a, vs, rfl, c.le.sqT h, hs⟩
  · cases e
    obtain ⟨a, vs, rfl, h, hs⟩ := Reps.sqn r
    exact ⟨a, vs, rfl, c.le.sqT h, hs⟩
  · cases e
end

def PCall (K : PySem.W.Frag) (r : List V → Hp → VK → Prop) (P : List SV → Mem → VP → Prop) : Prop := ∀ (ss : List SV) (μ : Mem) (A : List Addr) (G H : Hp) (vs : List V) (Qp : VP) (Q : VK), P ss μ Qp → Cells K A μ G H → RepsS K A G ss vs →
  (∀ r μ' A' G' H' v, Qp r μ' → Cells K A' μ' G' H' → Step A G H A' G' H' → RepS K A' G' r v → Q v H') → r vs H Q
def xCall (P : List SV → Mem → VP → Prop) (t : TXA) : TX := fun x ρ μ Q => t x ρ μ fun ss μ1 => P ss μ1 Q
section
variable {X : Cx} {W : WX} {a b c e : Expr} {es : List Expr} {ta tb tc : TX} {tL : TXA} {x : Str} {p pos apos cpos : Pos}
theorem lift_call {r : List V → Hp → VK → Prop} {P : List SV → Mem → VP → Prop} (hp : PCall X.K r P) {σ : L2.St} {H : Hp} {Q : VK} (h : lift X.K W (xCall P tL) σ H Q) : tCB r (liftA X.K W tL) σ H Q := by
  obtain ⟨A, ρ, μ, G, Qp, xp, S, ht, hx, k⟩ := h
  refine ⟨A, ρ, μ, G, _, xp, S, ht, hx, fun ss μ1 A1 G1 H1 vs q c1 s1 r1 => ?_⟩
  exact hp ss μ1 A1 G1 H1 vs Qp Q q c1 r1 fun r μ' A' G' H' v q3 c3 s3 r3 => k r μ' A' G' H' v q3 c3 (s1.trans s3) r3
theorem px_callB {id : String} {r : List V → Hp → VK → Prop} {P : List SV → Mem → VP → Prop} (hc : CallR X (.builtin id) r) (hp : PCall X.K r P) (hg : Gl X x) (hm : X.mg x = none) (hv : bootBuiltins x = some (.builtin id)) (ha : PXA X W (e :: es) tL)
    (hn : x ≠ "__name__" := by decide) (hdb : (x == ("__debug__" : Str)) = false := by decide)
    (he : starEach (e :: es) X.env = (false, eval e X.env) :: starEach es X.env := by rfl) (hpl : (backTo pos (starEach es X.env)).any (·.1) = false := by rfl) : PX X W (.Call (.Name x p) (e :: es) [] pos) (xCall P tL) :=
  ⟨(pe_callB hc hg hm hv ha.pa hn hdb he hpl).imp fun _ _ _ h => lift_call hp h⟩
theorem px_callTy {T : String} {r : List V → Hp → VK → Prop} {P : List SV → Mem → VP → Prop} (hc : CallR X (.type T) r) (hp : PCall X.K r P) (hg : Gl X x) (hm : X.mg x = none) (hv : bootBuiltins x = some (.type T)) (ha : PXA X W (e :: es) tL)
    (hn : x ≠ "__name__" := by decide) (hdb : (x == ("__debug__" : Str)) = false := by decide)
    (he : starEach (e :: es) X.env = (false, eval e X.env) :: starEach es X.env := by rfl) (hpl : (backTo pos (starEach es X.env)).any (·.1) = false := by rfl) : PX X W (.Call (.Name x p) (e :: es) [] pos) (xCall P tL) :=
  ⟨(pe_callTy hc hg hm hv ha.pa hn hdb he hpl).imp fun _ _ _ h => lift_call hp h⟩
theorem CallR.or {f : Value} {r r' : List V → Hp → VK → Prop} (h : CallR X f r) (h' : CallR X f r') : CallR X f (fun xs H Q => r xs H Q ∨ r' xs H Q) := by
  intro pins s σ H xs us Q I rx q
  rcases q with q | q
  · exact h pins s σ H xs us Q I rx q
  · exact h' pins s σ H xs us Q I rx q

def lenOf (s : SV) (μ : Mem) : Option Nat := match s with
  | .d (.tup l) => some l.length
  | .d (.ntp l) => some l.length
  | .d (.lst l) => some l.length
  | .d (.scr l) => some l.length
  | .d (.str x) => if x.length ≤ sizeLine then some x.length else none
  | .c k => match μ[k]? with
    | some (.lst l) => some l.length
    | _ => none
  | _ => none
def pLen : List SV → Mem → VP → Prop := fun ss μ Q => match ss with
  | [s] => on (lenOf s μ) fun n => Q (.d (.int (n : Nat))) μ
  | _ => False
theorem pcall_len : PCall X.K (fun xs H Q => ∃ x n, xs = [x] ∧ LenV X.K x H n ∧ Q (.int n) H) pLen := by
  intro ss μ A G H vs Qp Q h c rs k
  match ss, h, rs with
  | [s], h, .cons r .nil =>
    obtain ⟨n, e, q⟩ := on_of h
    refine ⟨_, n, rfl, ?_, k _ _ _ _ _ _ q c .refl (.int _)⟩
    unfold lenOf at e
    split at e
    · cases e
      obtain ⟨a, us, rfl, h1, h2⟩ := Reps.sq r
      exact .inr ⟨us, c.le.sqT h1, h2.length⟩
    · cases e
      obtain ⟨a, us, rfl, h1, h2⟩ := Reps.sqn r
      exact .inr ⟨us, c.le.sqT h1, h2.length⟩
    · cases e
      obtain ⟨a, us, rfl, h1, h2⟩ := Reps.sql r
      exact .inl ⟨us, SqL.of (c.le _ _ h1), h2.length⟩
    · cases e
      cases r with
      | scr h1 => exact .inl ⟨_, c.le.sqL h1, by rw [List.length_map]⟩
    · split at e
      · rename_i hz
        cases e
        cases r
        exact ⟨hz, rfl⟩
      · cases e
    · rename_i k
      split at e
      · rename_i l hk
        cases e
        obtain ⟨a, ha, rfl⟩ := r
        obtain ⟨us, h1, h2⟩ := c.ok _ _ _ ha hk
        exact .inl ⟨us, SqL.of h1, h2.length⟩
      · cases e
    · cases e
theorem px_len (hg : Gl X "len") (hm : X.mg "len" = none) (ha : PXA X W [e] tL) (he : starEach [e] X.env = (false, eval e X.env) :: starEach [] X.env := by rfl) : PX X W (.Call (.Name "len" p) [e] [] pos) (xCall pLen tL) :=
  px_callB call_len pcall_len hg hm (by decide +kernel) ha (by decide) (by decide) he rfl

def tyOf (s : SV) (μ : Mem) : Option String := match s with
  | .d .non => some "NoneType"
  | .d (.bl _) => some "bool"
  | .d (.int _) => some "int"
  | .d (.str _) => some "str"
  | .d (.tup _) => some "tuple"
  | .d (.ntp _) => some "tuple"
  | .d (.lst _) => some "list"
  | .d (.scr _) => some "list"
  | .d (.dic _ _ _) => some "dict"
  | .c k => match μ[k]? with
    | some (.lst _) => some "list"
    | some (.dK _ _) => some "dict"
    | some (.dT _ _) => some "dict"
    | _ => none
  | _ => none
/-- as TyX, and a locked dict with tuple keys -/
def TyY (K : PySem.W.Frag) (H : Hp) (v : V) (t : Value) : Prop := TyX K H v t ∨ ∃ (a : Addr) (o : Obj) (kvs : List (List Key × V)), H a = some (.frz o (.dT kvs)) ∧ v = .ref a ∧ t = .type "dict"
theorem kit_ofY {X : Cx} {pins : List (Addr × Obj)} {σ : L2.St} {H : Hp} {s : Shared} {x : V} {u t : Value} (I : Inv X pins σ H s) (rx : RelV x u) (ty : TyY X.K H x t) : ∃ P : Heap → Prop, PySem.W.KitX X.K u t P ∧ P s.heap ∧ u ≠ .builtin "__main__.__loader__#opaque" := by
  rcases ty with ty | ⟨a, ob, kvs, ea, rfl, rfl⟩
  · exact kit_of I rx ty
  · cases (show u = Value.ref a from rx)
    obtain ⟨_, _, _, xs, _, o, es, ep, h1, h2, _⟩ := (show ObjOk X.prog X.w H s.heap a (.frz ob (.dT kvs)) from I.hok a _ ea)
    exact ⟨_, PySem.W.kitx_dict, ⟨o, h1, h2.1⟩, fun z => nomatch z⟩
def rIsiY (K : PySem.W.Frag) : List V → Hp → VK → Prop := fun xs H Q => ∃ (x c : V) (t u : Value) (b : Bool), xs = [x, c] ∧ ClsV c u ∧ TyY K H x t ∧ PySem.W.kitOne K t u = some b ∧ Q (.bl b) H
theorem call_isiY {X : Cx} : CallR X (.builtin "isinstance") (rIsiY X.K) := by
  intro pins s σ H xs us Q I r h
  obtain ⟨x, c, t, u, b, rfl, k, ty, e, q⟩ := h
  obtain ⟨u1, u2, rfl, r1, r2⟩ := vals2 r
  have e2 := k.eq r2
  subst e2
  obtain ⟨P, Z, p, hx⟩ := kit_ofY I r1 ty
  exact PySem.W.kia_one Z I.kIn p e hx fun tk => ⟨.bl b, H, I.tok tk, rfl, q⟩
theorem tyOf_rep {K : PySem.W.Frag} {A : List Addr} {μ : Mem} {G H : Hp} {s : SV} {v : V} {T : String} (e : tyOf s μ = some T) (c : Cells K A μ G H) (r : RepS K A G s v) : TyY K H v (.type T) := by
  unfold tyOf at e
  split at e
  · cases e; cases r; exact .inl (.base .non)
  · cases e; cases r; exact .inl (.base (.bl _))
  · cases e; cases r; exact .inl (.base (.int _))
  · cases e; cases r; exact .inl (.base (.str _))
  · cases e
    obtain ⟨a, us, rfl, h1, _⟩ := Reps.sq r
    rcases c.le.sqT h1 with (h | ⟨o, h⟩) | ⟨o, _, _, h, hc, _⟩
    · exact .inl (.base (.tup h))
    · exact .inl (.fTuple h)
    · exact .inl (.kTuple h hc)
  · cases e
    obtain ⟨a, us, rfl, h1, _⟩ := Reps.sqn r
    rcases c.le.sqT h1 with (h | ⟨o, h⟩) | ⟨o, _, _, h, hc, _⟩
    · exact .inl (.base (.tup h))
    · exact .inl (.fTuple h)
    · exact .inl (.kTuple h hc)
  · cases e
    obtain ⟨a, us, rfl, h1, _⟩ := Reps.sql r
    exact .inl (.base (.lst (c.le _ _ h1)))
  · cases e
    cases r with
    | scr h1 =>
      rcases c.le.sqL h1 with (h | ⟨o, h⟩) | ⟨o, _, _, h, hc, _⟩
      · exact .inl (.base (.lst h))
      · exact .inl (.base (.frz h))
      · exact .inl (.kList h hc)
  · cases e
    cases r with
    | dicK h _ _ =>
      rcases c.le.rd h with h | ⟨o, h⟩
      · exact .inl (.base (.dK h))
      · exact .inl (.fDict h)
    | dicT h _ _ =>
      rcases c.le.rd h with h | ⟨o, h⟩
      · exact .inl (.base (.dT h))
      · exact .inr ⟨_, _, _, h, rfl, rfl⟩
  · rename_i k
    obtain ⟨a, ha, rfl⟩ := r
    split at e
    · rename_i hk
      cases e
      obtain ⟨us, h1, _⟩ := c.ok _ _ _ ha hk
      exact .inl (.base (.lst h1))
    · rename_i hk
      cases e
      obtain ⟨us, h1, _⟩ := c.ok _ _ _ ha hk
      exact .inl (.base (.dK h1))
    · rename_i hk
      cases e
      obtain ⟨us, h1, _⟩ := c.ok _ _ _ ha hk
      exact .inl (.base (.dT h1))
    · cases e
  · cases e
/-- is the built-in class T that or above it -/
def isTy (T U : String) : Bool := T == U || (T == "bool" && U == "int")
def tyNames : List String := ["NoneType", "bool", "int", "str", "tuple", "list", "dict"]
theorem isTy_ok : (tyNames.all fun T => tyNames.all fun U => decide (kitB T U = some (isTy T U))) = true := by decide +kernel
def pIsi : List SV → Mem → VP → Prop := fun ss μ Q => match ss with
  | [s, .d (.ty U)] => on (tyOf s μ) fun T => (U ∈ tyNames) ∧ Q (.d (.bl (isTy T U))) μ
  | _ => False
theorem tyOf_mem {s : SV} {μ : Mem} {T : String} (e : tyOf s μ = some T) : T ∈ tyNames := by
  unfold tyOf at e
  split at e <;> first
    | (cases e; decide)
    | (split at e <;> first | (cases e; decide) | cases e)
    | cases e
theorem pcall_isi : PCall X.K (rIsiY X.K) pIsi := by
  intro ss μ A G H vs Qp Q h c rs k
  match ss, h, rs with
  | [s, .d (.ty U)], h, .cons r (.cons r2 .nil) =>
    obtain ⟨T, e, hU, q⟩ := on_of h
    cases r2
    have h1 := List.all_eq_true.mp (List.all_eq_true.mp isTy_ok T (tyOf_mem e)) U hU
    exact ⟨_, _, .type T, .type U, isTy T U, rfl, .ty U, tyOf_rep e c r, kit_ty (of_decide_eq_true h1), k _ _ _ _ _ _ q c .refl (.bl _)⟩
def bools : List D → Option (List Bool)
  | [] => some []
  | .bl b :: r => (bools r).map (b :: ·)
  | _ :: _ => none
theorem bools_reps {K : PySem.W.Frag} {G : Hp} : ∀ {l : List D} {bs : List Bool} {vs : List V}, bools l = some bs → Reps K G l vs → vs = bs.map V.bl
  | [], _, _, e, .nil => by simp [bools] at e; subst e; rfl
  | .bl b :: r, bs, _, e, .cons h t => by
    simp only [bools, Option.map_eq_some_iff] at e
    obtain ⟨es, e1, rfl⟩ := e
    cases h
    rw [bools_reps e1 t]; rfl
  | .non :: _, _, _, e, _ | .int _ :: _, _, _, e, _ | .str _ :: _, _, _, e, _ | .fn _ :: _, _, _, e, _ | .ty _ :: _, _, _, e, _ | .scr _ :: _, _, _, e, _ | .tup _ :: _, _, _, e, _ | .ntp _ :: _, _, _, e, _ | .lst _ :: _, _, _, e, _ | .dic _ _ _ :: _, _, _, e, _ | .obj _ _ _ :: _, _, _, e, _ => by simp [bools] at e
def pAll : List SV → Mem → VP → Prop := fun ss μ Q => match ss with
  | [s] => on ((lstOf s μ).bind bools) fun bs => Q (.d (.bl (bs.all id))) μ
  | _ => False
def pAny : List SV → Mem → VP → Prop := fun ss μ Q => match ss with
  | [s] => on ((lstOf s μ).bind bools) fun bs => Q (.d (.bl (bs.any id))) μ
  | _ => False
theorem pcall_all : PCall X.K (rAll X.K) pAll := by
  intro ss μ A G H vs Qp Q h c rs k
  match ss, h, rs with
  | [s], h, .cons r .nil =>
    obtain ⟨bs, e, q⟩ := on_of h
    obtain ⟨l, e1, e2⟩ := Option.bind_eq_some_iff.mp e
    obtain ⟨a, us, rfl, h1, h2⟩ := lstOf_rep e1 c r
    have := bools_reps e2 h2
    subst this
    exact ⟨a, bs, rfl, SqL.of h1, k _ _ _ _ _ _ q c .refl (.bl _)⟩
theorem pcall_any : PCall X.K (rAny X.K) pAny := by
  intro ss μ A G H vs Qp Q h c rs k
  match ss, h, rs with
  | [s], h, .cons r .nil =>
    obtain ⟨bs, e, q⟩ := on_of h
    obtain ⟨l, e1, e2⟩ := Option.bind_eq_some_iff.mp e
    obtain ⟨a, us, rfl, h1, h2⟩ := lstOf_rep e1 c r
    have := bools_reps e2 h2
    subst this
    exact ⟨a, bs, rfl, SqL.of h1, k _ _ _ _ _ _ q c .refl (.bl _)⟩
theorem px_all (hc : X.calm = true) (hg : Gl X "all") (hm : X.mg "all" = none) (ha : PXA X W [e] tL) (he : starEach [e] X.env = (false, eval e X.env) :: starEach [] X.env := by rfl) : PX X W (.Call (.Name "all" p) [e] [] pos) (xCall pAll tL) :=
  px_callB (cr_all hc) pcall_all hg hm (by decide +kernel) ha (by decide) (by decide) he rfl
theorem px_any (hc : X.calm = true) (hg : Gl X "any") (hm : X.mg "any" = none) (ha : PXA X W [e] tL) (he : starEach [e] X.env = (false, eval e X.env) :: starEach [] X.env := by rfl) : PX X W (.Call (.Name "any" p) [e] [] pos) (xCall pAny tL) :=
  px_callB (cr_any hc) pcall_any hg hm (by decide +kernel) ha (by decide) (by decide) he rfl

def pInt : List SV → Mem → VP → Prop := fun ss μ Q => match ss with
  | [.d (.int i)] => Q (.d (.int i)) μ
  | [.d (.bl b)] => Q (.d (.int (if b then 1 else 0))) μ
  | _ => False
theorem pcall_int : PCall X.K (fun xs H Q => (∃ i, xs = [.int i] ∧ Q (.int i) H) ∨ ∃ k, xs = [.bl k] ∧ Q (.int (if k then 1 else 0)) H) pInt := by
  intro ss μ A G H vs Qp Q h c rs k
  match ss, h, rs with
  | [.d (.int i)], h, .cons r .nil => cases r; exact .inl ⟨i, rfl, k _ _ _ _ _ _ h c .refl (.int _)⟩
  | [.d (.bl b)], h, .cons r .nil => cases r; exact .inr ⟨b, rfl, k _ _ _ _ _ _ h c .refl (.int _)⟩
theorem px_intc (hg : Gl X "int") (hm : X.mg "int" = none) (ha : PXA X W [e] tL) (he : starEach [e] X.env = (false, eval e X.env) :: starEach [] X.env := by rfl) : PX X W (.Call (.Name "int" p) [e] [] pos) (xCall pInt tL) :=
  px_callTy call_int1 pcall_int hg hm (by decide +kernel) ha (by decide) (by decide) he rfl
def pAbs : List SV → Mem → VP → Prop := fun ss μ Q => match ss with
  | [.d (.int i)] => Q (.d (.int (if i < 0 then -i else i))) μ
  | _ => False
theorem pcall_abs : PCall X.K (fun xs H Q => ∃ i, xs = [.int i] ∧ Q (.int (if i < 0 then -i else i)) H) pAbs := by
  intro ss μ A G H vs Qp Q h c rs k
  match ss, h, rs with
  | [.d (.int i)], h, .cons r .nil => cases r; exact ⟨i, rfl, k _ _ _ _ _ _ h c .refl (.int _)⟩
theorem px_abs (hg : Gl X "abs") (hm : X.mg "abs" = none) (ha : PXA X W [e] tL) (he : starEach [e] X.env = (false, eval e X.env) :: starEach [] X.env := by rfl) : PX X W (.Call (.Name "abs" p) [e] [] pos) (xCall pAbs tL) :=
  px_callB call_abs pcall_abs hg hm (by decide +kernel) ha (by decide) (by decide) he rfl
def pDivmod : List SV → Mem → VP → Prop := fun ss μ Q => match ss with
  | [.d (.int i), .d (.int j)] => CDiv i j ∧ Q (.d (.tup [.int (i / j), .int (i % j)])) μ
  | _ => False
theorem pcall_divmod : PCall X.K (fun xs H Q => ∃ i j, xs = [.int i, .int j] ∧ CDiv i j ∧ ∀ p, H p = none → Q (.ref p) (upd H p (.tup [.int (i / j), .int (i % j)]))) pDivmod := by
  intro ss μ A G H vs Qp Q h c rs k
  match ss, h, rs with
  | [.d (.int i), .d (.int j)], ⟨hd, h⟩, .cons r (.cons r2 .nil) =>
    cases r; cases r2
    refine ⟨i, j, rfl, hd, fun p hp => ?_⟩
    obtain ⟨c2, s2⟩ := c.laid (o := .tup [.int (i / j), .int (i % j)]) hp
    exact k _ _ _ _ _ _ h c2 s2 (Rep.tup upd_same (.cons (.int _) (.cons (.int _) .nil)))
theorem px_divmod (hg : Gl X "divmod") (hm : X.mg "divmod" = none) (ha : PXA X W [a, b] tL) (he : starEach [a, b] X.env = (false, eval a X.env) :: starEach [b] X.env := by rfl) (hpl : (backTo pos (starEach [b] X.env)).any (·.1) = false := by rfl) : PX X W (.Call (.Name "divmod" p) [a, b] [] pos) (xCall pDivmod tL) :=
  px_callB call_divmod pcall_divmod hg hm (by decide +kernel) ha (by decide) (by decide) he hpl

def ixOf (s : SV) (μ : Mem) (i : Int) : Option D := match s with
  | .d (.tup l) => atI l i
  | .d (.ntp l) => atI l i
  | .d (.lst l) => atI l i
  | .d (.scr l) => (atI l i).map .int
  | .d (.str x) => if x.length ≤ sizeLine then (atI x.cps.toList i).map fun c => .str ⟨#[c]⟩ else none
  | .c k => match μ[k]? with
    | some (.lst l) => atI l i
    | _ => none
  | _ => none
def pIx : SV → SV → Mem → VP → Prop := fun sa sb μ Q => match sb with
  | .d (.int i) => on (ixOf sa μ i) fun d => Q (.d d) μ
  | _ => False
theorem atI_rep {K : PySem.W.Frag} {G : Hp} {l : List D} {vs : List V} {i : Int} {d : D} (r : Reps K G l vs) (e : atI l i = some d) : ∃ v, atI vs i = some v ∧ Rep K G d v := by
  unfold atI at e ⊢
  rw [← r.length]
  obtain ⟨j, e1, e2⟩ := Option.bind_eq_some_iff.mp e
  rw [e1]
  exact r.at e2
theorem pop_ix : POp X.K (rIx X.K) pIx := by
  intro sa sb μ A G H va vb Qp Q h c ra rb k
  match sb, h, rb with
  | .d (.int i), h, rb =>
    cases rb
    obtain ⟨d, e, q⟩ := on_of h
    unfold ixOf at e
    split at e
    · obtain ⟨a, us, rfl, h1, h2⟩ := Reps.sq ra
      obtain ⟨v, e1, r1⟩ := atI_rep h2 e
      exact .inr (.inl ⟨a, us, i, v, rfl, rfl, c.le.sqT h1, e1, k _ _ _ _ _ _ q c .refl r1⟩)
    · obtain ⟨a, us, rfl, h1, h2⟩ := Reps.sqn ra
      obtain ⟨v, e1, r1⟩ := atI_rep h2 e
      exact .inr (.inl ⟨a, us, i, v, rfl, rfl, c.le.sqT h1, e1, k _ _ _ _ _ _ q c .refl r1⟩)
    · obtain ⟨a, us, rfl, h1, h2⟩ := Reps.sql ra
      obtain ⟨v, e1, r1⟩ := atI_rep h2 e
      exact .inl ⟨a, us, i, v, rfl, rfl, SqL.of (c.le _ _ h1), e1, k _ _ _ _ _ _ q c .refl r1⟩
    · obtain ⟨n, e1, rfl⟩ := Option.map_eq_some_iff.mp e
      cases ra with
      | scr h1 =>
        refine .inl ⟨_, _, i, .int n, rfl, rfl, c.le.sqL h1, ?_, k _ _ _ _ _ _ q c .refl (.int _)⟩
        unfold atI at e1 ⊢
        obtain ⟨j, e2, e3⟩ := Option.bind_eq_some_iff.mp e1
        rw [List.length_map, e2]
        simp only [Option.bind_some, List.getElem?_map, e3, Option.map_some]
    · split at e
      · rename_i x hz
        obtain ⟨n, e1, rfl⟩ := Option.map_eq_some_iff.mp e
        cases ra
        exact .inr (.inr ⟨_, i, n, rfl, rfl, hz, e1, k _ _ _ _ _ _ q c .refl (.str _)⟩)
      · cases e
    · rename_i kk
      split at e
      · rename_i l hk
        obtain ⟨a, ha, rfl⟩ := ra
        obtain ⟨us, h1, h2⟩ := c.ok _ _ _ ha hk
        obtain ⟨v, e1, r1⟩ := atI_rep h2 e
        exact .inl ⟨a, us, i, v, rfl, rfl, SqL.of h1, e1, k _ _ _ _ _ _ q c .refl r1⟩
      · cases e
    · cases e
theorem px_ix (ha : PX X W a ta) (hb : PX X W b tb) (hs : PlainIx b := by intro _ _; rfl) : PX X W (.Subscript a b pos) (xOp pIx ta tb) :=
  ⟨(pe_ix ix_seq ha.pe hb.pe hs).imp fun _ _ _ h => lift_op pop_ix h⟩

def cutD (xs : List D) (lo hi : Option Int) : List D := (xs.drop (HT.sIx xs.length 0 lo)).take (HT.sIx xs.length xs.length hi - HT.sIx xs.length 0 lo)
theorem cutD_rep {K : PySem.W.Frag} {G : Hp} {l : List D} {vs : List V} (r : Reps K G l vs) (lo hi : Option Int) : Reps K G (cutD l lo hi) (cutV vs lo hi) := by
  unfold cutD cutV
  rw [← r.length]
  exact (r.drop _).take _
abbrev TXO := XP → Env' → Mem → (Option Int → Mem → Prop) → Prop
def liftO (K : PySem.W.Frag) (W : WX) (t : TXO) : TO := fun σ H Q => ∃ A ρ μ G Qp x, Sim K A σ ρ μ G H ∧ t x ρ μ Qp ∧ ExTo K W A G H x ∧
  ∀ o μ' A' G' H', Qp o μ' → Cells K A' μ' G' H' → Step A G H A' G' H' → Q o H'
structure PXO (X : Cx) (W : WX) (e : Option Expr) (t : TXO) : Prop where
  po : PO X e (liftO X.K W t)
theorem _root_.L2.PO.imp {X : Cx} {e : Option Expr} {t t' : TO} (h : PO X e t) (i : ∀ σ H Q, t' σ H Q → t σ H Q) : PO X e t' := ⟨fun pins s σ H Q I q => h.run pins s σ H Q I (i _ _ _ q)⟩
def xNoPart : TXO := fun _ _ μ Q => Q none μ
def xPart (t : TX) : TXO := fun x ρ μ Q => t x ρ μ fun s μ1 => match s with
  | .d (.int i) => Q (some i) μ1
  | _ => False
theorem pxo_none : PXO X W none xNoPart := by
  refine ⟨po_none.imp fun σ H Q h => ?_⟩
  obtain ⟨A, ρ, μ, G, Qp, xp, S, ht, hx, k⟩ := h
  exact k _ _ _ _ _ ht S.toCells .refl
theorem pxo_some (h : PX X W e ta) : PXO X W (some e) (xPart ta) := by
  refine ⟨(po_some h.pe).imp fun σ H Q h => ?_⟩
  obtain ⟨A, ρ, μ, G, Qp, xp, S, ht, hx, k⟩ := h
  refine ⟨A, ρ, μ, G, _, xp, S, ht, hx, fun r μ' A' G' H' v q c s rr => ?_⟩
  match r, q, rr with
  | .d (.int i), q, rr => cases rr; exact ⟨i, rfl, k _ _ _ _ _ q c s⟩
def PSl (K : PySem.W.Frag) (r : V → Option Int → Option Int → Hp → VK → Prop) (P : SV → Option Int → Option Int → Mem → VP → Prop) : Prop := ∀ (sa : SV) (lo hi : Option Int) (μ : Mem) (A : List Addr) (G H : Hp) (va : V) (Qp : VP) (Q : VK), P sa lo hi μ Qp → Cells K A μ G H → RepS K A G sa va →
  (∀ r μ' A' G' H' v, Qp r μ' → Cells K A' μ' G' H' → Step A G H A' G' H' → RepS K A' G' r v → Q v H') → r va lo hi H Q
def xSl (P : SV → Option Int → Option Int → Mem → VP → Prop) (ta : TX) (tl th : TXO) : TX := fun x ρ μ Q => ta x ρ μ fun sa μ1 => tl x ρ μ1 fun lo μ2 => th x ρ μ2 fun hi μ3 => P sa lo hi μ3 Q
theorem px_sl {lo hi : Option Expr} {tl th : TXO} {p2 : Pos} {r : V → Option Int → Option Int → Hp → VK → Prop} {P : SV → Option Int → Option Int → Mem → VP → Prop} (hr : SlR X r) (hp : PSl X.K r P) (ha : PX X W a ta) (hl : PXO X W lo tl) (hh : PXO X W hi th) :
    PX X W (.Subscript a (.Slice lo hi none p2) pos) (xSl P ta tl th) := by
  refine ⟨(pe_slice hr ha.pe hl.po hh.po).imp fun σ H Q h => ?_⟩
  obtain ⟨A, ρ, μ, G, Qp, xp, S, ht, hx, k⟩ := h
  refine ⟨A, ρ, μ, G, _, xp, S, ht, hx, fun sa μ1 A1 G1 H1 va q c1 s1 r1 => ?_⟩
  refine ⟨A1, ρ, μ1, G1, _, xp, S.after s1 c1, q, hx.after s1, fun ol μ2 A2 G2 H2 q2 c2 s2 => ?_⟩
  have s12 := s1.trans s2
  refine ⟨A2, ρ, μ2, G2, _, xp, S.after s12 c2, q2, hx.after s12, fun oh μ3 A3 G3 H3 q3 c3 s3 => ?_⟩
  have s23 := s2.trans s3
  exact hp sa ol oh μ3 A3 G3 H3 va Qp Q q3 c3 (r1.mono s23.pre s23.le) fun r μ' A' G' H' v q5 c5 s5 r5 => k r μ' A' G' H' v q5 c5 ((s12.trans s3).trans s5) r5
/-- a slice of a known tuple: the whole of it is the tuple itself -/
def cutN (l : List D) (lo hi : Option Int) : D := if HT.sIx l.length 0 lo = 0 ∧ HT.sIx l.length l.length hi = l.length then .ntp l else .tup (cutD l lo hi)
def pSlT : SV → Option Int → Option Int → Mem → VP → Prop := fun sa lo hi μ Q => match sa with
  | .d (.tup l) => Q (.d (.tup (cutD l lo hi))) μ
  | .d (.ntp l) => Q (.d (cutN l lo hi)) μ
  | _ => False
def pSlL : SV → Option Int → Option Int → Mem → VP → Prop := fun sa lo hi μ Q => on (lstOf sa μ) fun l => Q (.d (.lst (cutD l lo hi))) μ
theorem psl_tup : PSl X.K (rSlA X.K) pSlT := by
  intro sa lo hi μ A G H va Qp Q h c ra k
  match sa, h, ra with
  | .d (.tup l), q, ra =>
    obtain ⟨a, us, rfl, h1, h2⟩ := tupOf_rep (s := .d (.tup l)) rfl c ra
    refine ⟨a, us, rfl, h1, fun hw => ?_, fun _ p hp => ?_⟩
    · have hl : cutD l lo hi = l := by
        unfold cutD
        rw [h2.length, hw.1, hw.2, List.drop_zero, Nat.sub_zero, ← h2.length, List.take_length]
      have q : Qp (.d (.tup (cutD l lo hi))) μ := q
      rw [hl] at q
      exact k _ _ _ _ _ _ q c .refl ra
    · obtain ⟨c2, s2⟩ := c.laid (o := .tup (cutV us lo hi)) hp
      exact k _ _ _ _ _ _ q c2 s2 (Rep.tup upd_same ((cutD_rep h2 lo hi).mono s2.le))
  | .d (.ntp l), q, ra =>
    obtain ⟨a, us, rfl, h1, h2⟩ := tupOf_rep (s := .d (.ntp l)) rfl c ra
    have q : Qp (.d (cutN l lo hi)) μ := q
    unfold cutN at q
    refine ⟨a, us, rfl, h1, fun hw => ?_, fun hw p hp => ?_⟩
    · rw [if_pos (by rw [h2.length]; exact hw)] at q
      exact k _ _ _ _ _ _ q c .refl ra
    · rw [if_neg (by rw [h2.length]; exact hw)] at q
      obtain ⟨c2, s2⟩ := c.laid (o := .tup (cutV us lo hi)) hp
      exact k _ _ _ _ _ _ q c2 s2 (Rep.tup upd_same ((cutD_rep h2 lo hi).mono s2.le))
theorem psl_list : PSl X.K (rSlL X.K) pSlL := by
  intro sa lo hi μ A G H va Qp Q h c ra k
  obtain ⟨l, e, q⟩ := on_of h
  obtain ⟨a, us, rfl, h1, h2⟩ := lstOf_rep e c ra
  refine ⟨a, us, rfl, SqL.of h1, fun p hp => ?_⟩
  obtain ⟨c2, s2⟩ := c.laid (o := .lst (cutV us lo hi)) hp
  exact k _ _ _ _ _ _ q c2 s2 (Rep.lst upd_same ((cutD_rep h2 lo hi).mono s2.le))
/-- a slice of the script -/
def pSlS : SV → Option Int → Option Int → Mem → VP → Prop := fun sa lo hi μ Q => match sa with
  | .d (.scr l) => Q (.d (.lst (cutD (l.map .int) lo hi))) μ
  | _ => False
theorem scr_reps {K : PySem.W.Frag} {G : Hp} : ∀ l : List Int, Reps K G (l.map .int) (l.map V.int)
  | [] => .nil
  | i :: l => .cons (.int i) (scr_reps l)
theorem psl_scr : PSl X.K (rSlL X.K) pSlS := by
  intro sa lo hi μ A G H va Qp Q h c ra k
  match sa, h, ra with
  | .d (.scr l), h, ra =>
    cases ra with
    | scr h1 =>
      refine ⟨_, _, rfl, c.le.sqL h1, fun p hp => ?_⟩
      obtain ⟨c2, s2⟩ := c.laid (o := .lst (cutV (l.map V.int) lo hi)) hp
      exact k _ _ _ _ _ _ h c2 s2 (Rep.lst upd_same ((cutD_rep (scr_reps l) lo hi)))
variable {lo hi : Option Expr} {tl th : TXO} {p2 : Pos}
def pCatT : SV → SV → Mem → VP → Prop := fun sa sb μ Q => match sa, sb with
  | .d (.tup l), .d (.tup m) => l.length + m.length ≤ sizeLine ∧ Q (.d (.tup (l ++ m))) μ
  | _, _ => False
theorem pop_catT : POp X.K (rCatA X.K) pCatT := by
  intro sa sb μ A G H va vb Qp Q h c ra rb k
  match sa, sb, h, ra, rb with
  | .d (.tup l), .d (.tup m), ⟨hz, h⟩, ra, rb =>
    obtain ⟨a, us, rfl, h1, h2⟩ := Reps.sq ra
    obtain ⟨b, ws, rfl, h3, h4⟩ := Reps.sq rb
    refine ⟨a, b, us, ws, rfl, rfl, c.le.sqT h1, c.le.sqT h3, by rw [← h2.length, ← h4.length]; exact hz, fun e => ?_, fun _ e => ?_, fun _ _ p hp => ?_⟩
    · have hl : l = [] := List.length_eq_zero_iff.mp (by rw [h2.length, e]; rfl)
      subst hl
      exact k _ _ _ _ _ _ h c .refl rb
    · have hl : m = [] := List.length_eq_zero_iff.mp (by rw [h4.length, e]; rfl)
      subst hl
      rw [List.append_nil] at h
      exact k _ _ _ _ _ _ h c .refl ra
    · obtain ⟨c2, s2⟩ := c.laid (o := .tup (us ++ ws)) hp
      exact k _ _ _ _ _ _ h c2 s2 (Rep.tup upd_same ((h2.app h4).mono s2.le))
def pCatL : SV → SV → Mem → VP → Prop := fun sa sb μ Q => on (lstOf sa μ) fun l => on (lstOf sb μ) fun m => l.length + m.length ≤ sizeLine ∧ Q (.d (.lst (l ++ m))) μ
theorem pop_catL {K : PySem.W.Frag} : POp K rCat pCatL := by
  intro sa sb μ A G H va vb Qp Q h c ra rb k
  obtain ⟨l, e1, h⟩ := on_of h
  obtain ⟨m, e2, hz, q⟩ := on_of h
  obtain ⟨a, us, rfl, h1, h2⟩ := lstOf_rep e1 c ra
  obtain ⟨b, ws, rfl, h3, h4⟩ := lstOf_rep e2 c rb
  refine ⟨a, b, us, ws, rfl, rfl, h1, h3, by rw [← h2.length, ← h4.length]; exact hz, fun p hp => ?_⟩
  obtain ⟨c2, s2⟩ := c.laid (o := .lst (us ++ ws)) hp
  exact k _ _ _ _ _ _ q c2 s2 (Rep.lst upd_same ((h2.app h4).mono s2.le))
end
end PL
namespace PL
open PySem PySem.Spec PyProof.Rows L2
section
variable {X : Cx} {W : WX} {a b c e : Expr} {es : List Expr} {ta tb tc te : TX} {tA : TXT} {tL : TXA} {st : Stmt} {rest : List Stmt} {t u : TXS} {pos p : Pos}

def xNext : TXS := fun E ρ μ => E.nx ρ μ
def xSeq (t u : TXS) : TXS := fun E ρ μ => t { E with nx := u E } ρ μ
theorem pss_nil' : PXSs X W [] xNext := by
  refine ⟨pss_nil.imp fun D σ H h => ?_⟩
  obtain ⟨A, ρ, μ, G, E, S, ht, k⟩ := h
  exact k.nx _ _ _ _ _ _ ht S .refl
theorem pxs_cons (h1 : PXS X W st t) (h2 : PXSs X W rest u) : PXSs X W (st :: rest) (xSeq t u) := by
  refine ⟨(pss_cons h1.ps h2.ps).imp fun D σ H h => ?_⟩
  obtain ⟨A, ρ, μ, G, E, S, ht, k⟩ := h
  refine ⟨A, ρ, μ, G, _, S, ht, ?_⟩
  exact ⟨fun ρ' μ' A' σ' G' H' q s s2 => ⟨A', ρ', μ', G', E, s, q, k.after s2⟩, k.bk, k.ct, k.rt, k.ex⟩
theorem pxs_one (h1 : PXS X W st t) : PXSs X W [st] t := ⟨pss_one h1.ps⟩
def xDrop (te : TX) : TXS := fun E ρ μ => te E.ex ρ μ fun _ μ1 => E.nx ρ μ1
theorem psx_expr (he : PX X W e te) (hs : swapsWith e none pos.line X.env = pure false := by rfl) : PXS X W (.Expr e pos) (xDrop te) := by
  refine ⟨(ps_expr he.pe hs).imp fun D σ H h => ?_⟩
  obtain ⟨A, ρ, μ, G, E, S, ht, k⟩ := h
  exact ⟨A, ρ, μ, G, _, _, S, ht, k.ex, fun r μ' A' G' H' v q c s rr => k.nx _ _ _ _ _ _ q (S.after s c) s⟩
def xRet (te : TX) : TXS := fun E ρ μ => te E.ex ρ μ E.rt
theorem psx_ret (he : PX X W e te) : PXS X W (.Return (some e) pos) (xRet te) := by
  refine ⟨(ps_ret he.pe).imp fun D σ H h => ?_⟩
  obtain ⟨A, ρ, μ, G, E, S, ht, k⟩ := h
  exact ⟨A, ρ, μ, G, _, _, S, ht, k.ex, fun r μ' A' G' H' v q c s rr => k.rt _ _ _ _ _ _ q c s rr⟩
def xIfS (c : TXT) (t u : TXS) : TXS := fun E ρ μ => c E.ex ρ μ fun b μ1 => Br b (t E ρ μ1) (u E ρ μ1)
theorem psx_if {c : Expr} {a b : List Stmt} (hc : PXT X W c tA) (ha : PXSs X W a t) (hb : PXSs X W b u) : PXS X W (.If c a b pos) (xIfS tA t u) := by
  refine ⟨(ps_if hc.pt ha.ps hb.ps).imp fun D σ H h => ?_⟩
  obtain ⟨A, ρ, μ, G, E, S, ht, k⟩ := h
  refine ⟨A, ρ, μ, G, _, _, S, ht, k.ex, fun r μ' A' G' H' q c s => ?_⟩
  cases r with
  | true => exact ite_tt ⟨A', ρ, μ', G', E, S.after s c, q, k.after s⟩
  | false => exact ite_ff ⟨A', ρ, μ', G', E, S.after s c, q, k.after s⟩
def xNever : TXS := fun _ _ _ => False
theorem psx_never : PXS X W st xNever := by
  refine ⟨ps_never.imp fun D σ H h => ?_⟩
  obtain ⟨A, ρ, μ, G, E, S, ht, k⟩ := h
  exact ht
abbrev TXG := XP → SV → Env' → Mem → (Env' → Mem → Prop) → Prop
abbrev TXGs := XP → List D → Env' → Mem → (Env' → Mem → Prop) → Prop
/-- the slots of own apart, the frame is as it was -/
def Keeps (own : List Nat) (σ σ' : L2.St) : Prop := L2.wipe σ' own = L2.wipe σ own
theorem Keeps.refl {own : List Nat} {σ : L2.St} : Keeps own σ σ := rfl
theorem Keeps.trans {own : List Nat} {σ σ1 σ2 : L2.St} (a : Keeps own σ σ1) (b : Keeps own σ1 σ2) : Keeps own σ σ2 := Eq.trans b a
theorem wipe_set (σ : L2.St) (i : Nat) (x : Option V) : ∀ vs : List Nat, (i ∈ vs → L2.wipe (σ.set i x) vs = L2.wipe σ vs) ∧ (i ∉ vs → L2.wipe (σ.set i x) vs = (L2.wipe σ vs).set i x)
  | [] => ⟨fun h => absurd h (by simp), fun _ => rfl⟩
  | v :: vs => by
    obtain ⟨h1, h2⟩ := wipe_set σ i x vs
    refine ⟨fun h => ?_, fun h => ?_⟩
    · show (L2.wipe (σ.set i x) vs).set v none = (L2.wipe σ vs).set v none
      by_cases hm : i ∈ vs
      · rw [h1 hm]
      · rcases List.mem_cons.mp h with e | e
        · subst e
          rw [h2 hm, List.set_set]
        · exact absurd e hm
    · show (L2.wipe (σ.set i x) vs).set v none = ((L2.wipe σ vs).set v none).set i x
      rw [h2 (fun z => h (List.mem_cons_of_mem _ z)), List.set_comm _ _ (fun e => h (by rw [e]; exact List.mem_cons_self))]
theorem Keeps.set {own : List Nat} {σ : L2.St} {i : Nat} {x : Option V} (h : i ∈ own) : Keeps own σ (σ.set i x) := (wipe_set σ i x own).1 h
def liftG (K : PySem.W.Frag) (W : WX) (own : List Nat) (g : TXG) : TG := fun v σ H Q => ∃ A ρ μ G s Qp x, Sim K A σ ρ μ G H ∧ RepS K A G s v ∧ g x s ρ μ Qp ∧ ExTo K W A G H x ∧
  ∀ ρ' μ' A' σ' G' H', Qp ρ' μ' → Sim K A' σ' ρ' μ' G' H' → Step A G H A' G' H' → Keeps own σ σ' → Q σ' H'
def liftGs (K : PySem.W.Frag) (W : WX) (own : List Nat) (g : TXGs) : TGs := fun vs σ H Q => ∃ A ρ μ G ds Qp x, Sim K A σ ρ μ G H ∧ Reps K G ds vs ∧ g x ds ρ μ Qp ∧ ExTo K W A G H x ∧
  ∀ ρ' μ' A' σ' G' H', Qp ρ' μ' → Sim K A' σ' ρ' μ' G' H' → Step A G H A' G' H' → Keeps own σ σ' → Q σ' H'
structure PXG (X : Cx) (W : WX) (own : List Nat) (e : Expr) (g : TXG) : Prop where
  pg : PG X e (liftG X.K W own g)
structure PXGs (X : Cx) (W : WX) (own : List Nat) (es : List Expr) (g : TXGs) : Prop where
  pg : PGs X es (liftGs X.K W own g)
theorem _root_.L2.PG.imp {X : Cx} {e : Expr} {t t' : TG} (h : PG X e t) (i : ∀ v σ H Q, t' v σ H Q → t v σ H Q) : PG X e t' := ⟨fun pins s σ H v u Q I r q => h.run pins s σ H v u Q I r (i _ _ _ _ q)⟩
theorem _root_.L2.PGs.imp {X : Cx} {e : List Expr} {t t' : TGs} (h : PGs X e t) (i : ∀ v σ H Q, t' v σ H Q → t v σ H Q) : PGs X e t' := ⟨fun pins s σ H v u Q I r q => h.run pins s σ H v u Q I r (i _ _ _ _ q)⟩
theorem Sim.set {K : PySem.W.Frag} {A : List Addr} {σ : L2.St} {ρ : Env'} {μ : Mem} {G H : Hp} {s : SV} {v : V} (S : Sim K A σ ρ μ G H) (i : Nat) (r : RepS K A G s v) : Sim K A (σ.set i (some v)) (ρ.set i s) μ G H where
  toCells := S.toCells
  sl := by simp [Env'.set, S.sl]
  at_ := fun j hj => by
    have hl : j < ρ.n := hj
    by_cases h : j = i
    · subst h
      refine ⟨some v, ?_, ?_⟩
      · rw [List.getElem?_set_self (by rw [← S.sl]; exact hl)]
      · show SlotOk K A G (if j = j then s else _) _
        rw [if_pos rfl]
        cases s with
        | un => trivial
        | d x => exact ⟨v, rfl, r⟩
        | c k => exact ⟨v, rfl, r⟩
    · obtain ⟨o, e1, q⟩ := S.at_ j hl
      refine ⟨o, by rw [List.getElem?_set_ne (Ne.symm h)]; exact e1, ?_⟩
      show SlotOk K A G (if j = i then s else _) _
      rw [if_neg h]; exact q
def xName (i : Nat) : TXG := fun _ s ρ μ Q => Q (ρ.set i s) μ
theorem pxg_name {i : Nat} {own : List Nat} {x : Str} (ho : i ∈ own) (hN : X.N.Nodup) (hi : X.N[i]? = some x) (hx : Loc X.env.scope x) (hf : X.fn x = true ∨ X.env.scope.names.lookup x = some .local := by first | exact .inl rfl | exact .inr rfl | assumption) : PXG X W own (.Name x pos) (xName i) := by
  refine ⟨(pg_name hN hi hx hf).imp fun v σ H Q h => ?_⟩
  obtain ⟨A, ρ, μ, G, s, Qp, x, S, r, ht, hx, k⟩ := h
  exact k _ _ _ _ _ _ ht (S.set i r) .refl (Keeps.set ho)
def xgNil : TXGs := fun _ ds ρ μ Q => match ds with
  | [] => Q ρ μ
  | _ => False
def xgCons (g : TXG) (gs : TXGs) : TXGs := fun x ds ρ μ Q => match ds with
  | d :: r => g x (.d d) ρ μ fun ρ1 μ1 => gs x r ρ1 μ1 Q
  | [] => False
variable {g : TXG} {gs : TXGs} {own : List Nat}
theorem pxgs_nil : PXGs X W own [] xgNil := by
  refine ⟨pgs_nil.imp fun v σ H Q h => ?_⟩
  obtain ⟨A, ρ, μ, G, ds, Qp, x, S, r, ht, hx, k⟩ := h
  match ds, r, ht with
  | [], .nil, ht => exact ⟨rfl, k _ _ _ _ _ _ ht S .refl .refl⟩
theorem pxgs_cons (h1 : PXG X W own e g) (h2 : PXGs X W own es gs) (hs : (assignEach (e :: es) X.env).map (·.2) = assign e X.env :: (assignEach es X.env).map (·.2) := by rfl) : PXGs X W own (e :: es) (xgCons g gs) := by
  refine ⟨(pgs_cons h1.pg h2.pg hs).imp fun v σ H Q h => ?_⟩
  obtain ⟨A, ρ, μ, G, ds, Qp, x, S, r, ht, hx, k⟩ := h
  match ds, r, ht with
  | d :: ds, .cons r rr, ht =>
    refine ⟨_, _, rfl, A, ρ, μ, G, .d d, _, x, S, r, ht, hx, fun ρ' μ' A' σ' G' H' q s s2 kp => ?_⟩
    exact ⟨A', ρ', μ', G', ds, _, x, s, rr.mono s2.le, q, hx.after s2, fun ρ3 μ3 A3 σ3 G3 H3 q3 s3 s23 kp2 => k _ _ _ _ _ _ q3 s3 (s2.trans s23) (kp.trans kp2)⟩
/-- (a, b, ..) = a tuple -/
def xgTup (n : Nat) (gs : TXGs) : TXG := fun x s ρ μ Q => match s with
  | .d (.tup ds) => ds.length = n ∧ gs x ds ρ μ Q
  | _ => False
theorem pxg_tup {k : Nat} {n : Nat} (hc : X.calm = true) (h : PXGs X W own es gs) (hn : (assignEach es X.env).length = n := by rfl) (hst : (assignEach es X.env).findIdx? (·.1) = none := by rfl) : PXG X W own (.Tuple es k pos) (xgTup n gs) := by
  refine ⟨(pg_tup hc h.pg hn hst).imp fun v σ H Q h => ?_⟩
  obtain ⟨A, ρ, μ, G, s, Qp, x, S, r, ht, hx, k⟩ := h
  match s, r, ht with
  | .d (.tup ds), r, ⟨hl, ht⟩ =>
    obtain ⟨a, us, rfl, h1, h2⟩ := Reps.sq r
    exact ⟨a, us, rfl, S.le.sqT h1, by rw [← h2.length]; exact hl, A, ρ, μ, G, ds, _, x, S, h2, ht, hx, k⟩
/-- l[i] = .., l a list of one's own -/
def xgSub (to ti : TX) : TXG := fun x s ρ μ Q => to x ρ μ fun so μ1 => ti x ρ μ1 fun si μ2 => match so, si, s with
  | .c k, .d (.int i), .d v => match μ2[k]? with
    | some (.lst l) => on (ixN l.length i) fun j => Q ρ (μ2.set k (.lst (l.set j v)))
    | _ => False
  | _, _, _ => False
theorem pxg_sub {o i : Expr} {to ti : TX} (ho : PX X W o to) (hi : PX X W i ti)
    (ha : ∀ v, assign (.Subscript o i pos) X.env v = (do
      let ov ← holding [v] (eval o X.env)
      let iv ← holding [v, ov] (eval i X.env)
      standAt pos
      holding [v, ov, iv] (setItem ov iv v)
      release [v, ov, iv] []) := by intro _; rfl) : PXG X W own (.Subscript o i pos) (xgSub to ti) := by
  refine ⟨(pg_sub ho.pe hi.pe set_list ha).imp fun v σ H Q h => ?_⟩
  obtain ⟨A, ρ, μ, G, s, Qp, x, S, r, ht, hx, k⟩ := h
  refine ⟨A, ρ, μ, G, _, x, S, ht, hx, fun so μ1 A1 G1 H1 vo q c1 s1 r1 => ?_⟩
  refine ⟨A1, ρ, μ1, G1, _, x, S.after s1 c1, q, hx.after s1, fun si μ2 A2 G2 H2 vi q2 c2 s2 r2 => ?_⟩
  match so, si, s, r1, r2, r, q2 with
  | .c kk, .d (.int j), .d w, r1, r2, r, q2 =>
    obtain ⟨a, ha, rfl⟩ := r1
    cases r2
    simp only at q2
    split at q2
    · rename_i l hk
      obtain ⟨n, hn, q⟩ := on_of q2
      have ha2 : A2[kk]? = some a := by
        obtain ⟨B, rfl⟩ := s2.pre
        rw [List.getElem?_append_left (List.getElem?_eq_some_iff.mp ha).1]; exact ha
      obtain ⟨us, h1, h2⟩ := c2.ok _ _ _ ha2 hk
      have s12 := s1.trans s2
      refine ⟨a, us, j, n, rfl, rfl, h1, by rw [← h2.length]; exact hn, ?_⟩
      obtain ⟨c3, s3⟩ := c2.write (o := .lst (us.set n v)) (cl := .lst (l.set n w)) ha2 ⟨_, upd_same, h2.set (Rep.mono s12.le r) n⟩
      exact k _ _ _ _ _ _ q (S.after (s12.trans s3) c3) (s12.trans s3) .refl
    · exact q2.elim
/-- target = e -/
def xAsg (te : TX) (g : TXG) : TXS := fun E ρ μ => te E.ex ρ μ fun s μ1 => g E.ex s ρ μ1 E.nx
theorem psx_asg {tg : Expr} (he : PX X W e te) (hg : PXG X W own tg g) (hs : swapsWithSole [tg] e pos.line X.env = pure false := by rfl) (hw : swappedStores [tg] e X.env = pure none := by rfl)
    (h1 : (assignEach [tg] X.env).map (·.2) = [assign tg X.env] := by rfl) : PXS X W (.Assign [tg] e pos) (xAsg te g) := by
  refine ⟨(ps_asg he.pe hg.pg hs hw h1).imp fun D σ H h => ?_⟩
  obtain ⟨A, ρ, μ, G, E, S, ht, k⟩ := h
  refine ⟨A, ρ, μ, G, _, _, S, ht, k.ex, fun s μ1 A1 G1 H1 v q c1 s1 r1 => ?_⟩
  exact ⟨A1, ρ, μ1, G1, s, _, _, S.after s1 c1, r1, q, k.ex.after s1, fun ρ' μ' A' σ' G' H' q' S' s' _ => k.nx _ _ _ _ _ _ q' S' (s1.trans s')⟩
theorem psx_set {i : Nat} {x : Str} {pos' : Pos} (hN : X.N.Nodup) (hi : X.N[i]? = some x) (hx : Loc X.env.scope x) (he : PX X W e te) (hs : swapsWith e (some (.Name x pos')) pos.line X.env = pure false := by rfl) (hf : X.fn x = true ∨ X.env.scope.names.lookup x = some .local := by first | exact .inl rfl | exact .inr rfl | assumption) :
    PXS X W (.Assign [.Name x pos'] e pos) (xAsg te (xName i)) := by
  refine ⟨(ps_set hN hi hx he.pe hs hf).imp fun D σ H h => ?_⟩
  obtain ⟨A, ρ, μ, G, E, S, ht, k⟩ := h
  exact ⟨A, ρ, μ, G, _, _, S, ht, k.ex, fun s μ1 A1 G1 H1 v q c1 s1 r1 => k.nx _ _ _ _ _ _ q ((S.after s1 c1).set i r1) s1⟩
/-- a, b = x, y, plain local names -/
def xPar (i j : Nat) (t : TXA) : TXS := fun E ρ μ => t E.ex ρ μ fun ss μ1 => match ss with
  | [s, r] => E.nx ((ρ.set i s).set j r) μ1
  | _ => False
theorem psx_par {i j : Nat} {x y : Str} {px py pt : Pos} {kt k2 pt2} (hc : X.calm = true) (hN : X.N.Nodup) (hi : X.N[i]? = some x) (hj : X.N[j]? = some y) (hij : i ≠ j)
    (hx : X.env.scope.names.lookup x = some .local) (hy : X.env.scope.names.lookup y = some .local) (ha : PXA X W [a, b] tL)
    (hw : swappedStores [.Tuple [.Name x px, .Name y py] kt pt] (.Tuple [a, b] k2 pt2) X.env = pure (some [x, y]))
    (hs : swapsWithSole [.Tuple [.Name x px, .Name y py] kt pt] (.Tuple [a, b] k2 pt2) pos.line X.env = pure false := by rfl) :
    PXS X W (.Assign [.Tuple [.Name x px, .Name y py] kt pt] (.Tuple [a, b] k2 pt2) pos) (xPar i j tL) := by
  refine ⟨(ps_par hc hN hi hj hij hx hy ha.pa hw hs).imp fun D σ H h => ?_⟩
  obtain ⟨A, ρ, μ, G, E, S, ht, k⟩ := h
  refine ⟨A, ρ, μ, G, _, _, S, ht, k.ex, fun ss μ1 A1 G1 H1 vs q c1 s1 r1 => ?_⟩
  match ss, r1, q with
  | [s, r], .cons h1 (.cons h2 .nil), q => exact ⟨_, _, rfl, k.nx _ _ _ _ _ _ q (((S.after s1 c1).set i h1).set j h2) s1⟩

def xWhile (c : TXT) (tb : TXS) : TXS := fun E ρ μ => ∃ I : Nat → Env' → Mem → Prop, (∃ m, I m ρ μ) ∧ ∀ m ρ μ, I m ρ μ → c E.ex ρ μ fun b μ1 =>
  Br b (tb { E with nx := fun ρ' μ' => ∃ m', m' < m ∧ I m' ρ' μ', ct := fun ρ' μ' => ∃ m', m' < m ∧ I m' ρ' μ', bk := E.nx } ρ μ1) (E.nx ρ μ1)
theorem psx_while {c : Expr} {body : List Stmt} (hp : PassesOwn (model X.prog X.w) X.A X.env X.xe) (hc : PXT X W c tA) (hb : PXSs X W body t) : PXS X W (.While c body [] pos) (xWhile tA t) := by
  refine ⟨(ps_while hp hc.pt hb.ps).imp fun D σ H h => ?_⟩
  obtain ⟨A, ρ, μ, G, E, S, ⟨I, ⟨m0, i0⟩, turn⟩, k⟩ := h
  refine ⟨fun m σ' H' => ∃ A' ρ' μ' G', I m ρ' μ' ∧ Sim X.K A' σ' ρ' μ' G' H' ∧ Step A G H A' G' H', ⟨m0, A, ρ, μ, G, i0, S, .refl⟩, ?_⟩
  rintro m σ1 H1 ⟨A1, ρ1, μ1, G1, i1, S1, s1⟩
  refine ⟨A1, ρ1, μ1, G1, _, _, S1, turn m ρ1 μ1 i1, k.ex.after s1, fun b μ2 A2 G2 H2 q c2 s2 => ?_⟩
  have s12 := s1.trans s2
  cases b with
  | true =>
    refine ite_tt ⟨fun σ' H' => ∃ m', m' < m ∧ ∃ A' ρ' μ' G', I m' ρ' μ' ∧ Sim X.K A' σ' ρ' μ' G' H' ∧ Step A G H A' G' H', fun σ' H' z => z, ?_⟩
    refine ⟨A2, ρ1, μ2, G2, _, S1.after s2 c2, q, ?_⟩
    have fin : ∀ ρ' μ' A' σ' G' H', (∃ m', m' < m ∧ I m' ρ' μ') → Sim X.K A' σ' ρ' μ' G' H' → Step A2 G2 H2 A' G' H' → ∃ m', m' < m ∧ ∃ A' ρ' μ' G', I m' ρ' μ' ∧ Sim X.K A' σ' ρ' μ' G' H' ∧ Step A G H A' G' H' := fun ρ' μ' A' σ' G' H' ⟨m', hm, i'⟩ S' s' => ⟨m', hm, A', ρ', μ', G', i', S', s12.trans s'⟩
    exact ⟨fin, fun ρ' μ' A' σ' G' H' q' S' s' => k.nx _ _ _ _ _ _ q' S' (s12.trans s'), fin, (k.after s12).rt, (k.after s12).ex⟩
  | false => exact ite_ff (k.nx _ _ _ _ _ _ q (S1.after s2 c2) s12)
end
end PL
namespace PL
open PySem PySem.Spec PyProof.Rows L2

def IteT (K : PySem.W.Frag) (a : Addr) : It where
  go i H := ∃ (xs : List V) (x : V), SqT K H a xs ∧ xs[i]? = some x
  yld i H v H' := ∃ T x, v = .ref T ∧ H T = none ∧ H' = upd H T (.tup [.int (i : Nat), x]) ∧ ∀ xs, SqT K H a xs → xs[i]? = some x
  stop i H := ∃ xs : List V, SqT K H a xs ∧ xs.length = i
theorem turn_enumT {P : Program} {w : World} {K : PySem.W.Frag} {elts : List Expr} {kk : Nat} {tpos : Pos} (a e it : Addr) :
    Turn P w K (.Tuple elts kk tpos) (IteT K a) [e, it] e (fun i h => (∃ old, IsEnum h e it ((i : Nat) : Int) old) ∧ h.IsTupleIter it a i ∧ e ≠ it) where
  mem := List.mem_cons_self
  obj := fun i h st b hb => by
    obtain ⟨⟨old, he⟩, ⟨o, ho, hc, hd⟩, _⟩ := st
    rcases List.mem_cons.mp hb with z | hb
    · subst z; exact ⟨_, he, fun v q => nomatch q⟩
    · rcases List.mem_cons.mp hb with z | hb
      · subst z; exact ⟨o, ho, fun v q => by rw [hd] at q; cases q⟩
      · cases hb
  keep := fun i h h' st k => let ⟨⟨old, he⟩, hi, hne⟩ := st; ⟨⟨old, k e (by simp) _ he⟩, hi.at fun o q => k it (by simp) o q, hne⟩
  item := by
    intro X hP hw hK hc i pins s σ H E I hf st hg
    subst hP hw hK
    obtain ⟨⟨old, he⟩, hit, hne⟩ := st
    obtain ⟨xs, x, hq, hx⟩ := hg
    obtain ⟨its, rv, p, hz⟩ := I.tuple hq
    obtain ⟨u, hu, ru⟩ := rv.get hx
    have hel : e < s.heap.objs.size := Heap.lt_size he
    have hil : it < s.heap.objs.size := by obtain ⟨_, q, _⟩ := hit; exact Heap.lt_size q
    have hea : e ≠ a := fun z => by
      obtain ⟨o, e1, c1, _⟩ := p
      rw [← z] at e1
      have e2 : s.heap.get? e = some o := e1
      rw [show s.heap.get? e = _ from he] at e2
      cases e2
      exact absurd (Value.type.inj c1) (by decide)
    have hia : a ≠ it := fun z => by
      obtain ⟨o, e1, c1, _⟩ := p
      obtain ⟨o2, e2, c2, _⟩ := hit
      rw [z, e2] at e1
      cases e1
      rw [c1] at c2
      exact absurd (Value.type.inj c2) (by decide)
    have hi : i < its.toArray.size := by
      have := (List.getElem?_eq_some_iff.mp hu).1
      simpa using this
    refine wpAny_pyNext_enum_itemC (Draws.tuple (A := X.A.in1) (I.ok.hd hc) it a hia its.toArray) he ⟨hit, p⟩ hi hne (by simp [hne, hea]) fun y h' tk hy ho hst hT hsz hk => ?_
    have ey : y = u := by
      rw [List.getElem?_toArray, hu] at hy
      exact (Option.some.inj hy).symm
    subst ey
    refine ⟨_, rfl, wpAny_letOwnedTupleGo_enum (s := { s with heap := h', toks := tk + 1 }) ho fun h'' he' sb => ?_⟩
    have hT2 := (sb.2 _ (Nat.ne_of_gt hel)).trans hT
    have new : ObjOk X.prog X.w (upd H s.heap.objs.size (.tup [.int (i : Nat), x])) h'' s.heap.objs.size (.tup [.int (i : Nat), x]) :=
      ⟨by show 2 ≤ sizeLine; decide, [.int i tk, y], .cons ⟨_, rfl⟩ (.cons ru .nil), ⟨_, hT2, rfl, _, rfl⟩⟩
    have I1 := I.turnedNew (t' := tk + 1) (ch := [e, it]) (fun b ob hb q => (sb.2 b (fun z => hb (by simp [z]))).trans (hk b ob (fun z => hb (by simp [z])) (fun z => hb (by simp [z])) q)) hf (Nat.le_refl _) new
    refine ⟨.ref s.heap.objs.size, _, I1, rfl, ⟨_, x, rfl, I.hok.fresh (Nat.le_refl _), rfl, fun ys hy => by rw [I.tuple_inj hy hq]; exact hx⟩, ⟨⟨y, ?_⟩, hst.1.at fun o q => (sb.2 it (Ne.symm hne)).trans q, hne⟩, fun b hb => ?_⟩
    · have e1 : ((i + 1 : Nat) : Int) = (i : Int) + 1 := by omega
      rw [e1]; exact he'
    · have hb' : b < s.heap.objs.size := by
        rcases List.mem_cons.mp hb with z | hb
        · subst z; exact hel
        · rcases List.mem_cons.mp hb with z | hb
          · subst z; exact hil
          · cases hb
      rw [upd_ne (Nat.ne_of_lt hb')]
      exact (hf b hb).1
  done := by
    intro X hP hw hK hc i pins s σ H E I hf st hg
    subst hP hw hK
    obtain ⟨⟨old, he⟩, hit, hne⟩ := st
    obtain ⟨xs, hq, hx⟩ := hg
    obtain ⟨its, rv, p, hz⟩ := I.tuple hq
    have hl := rv.length
    have hia : a ≠ it := fun z => by
      obtain ⟨o, e1, c1, _⟩ := p
      obtain ⟨o2, e2, c2, _⟩ := hit
      rw [z, e2] at e1
      cases e1
      rw [c1] at c2
      exact absurd (Value.type.inj c2) (by decide)
    obtain ⟨f0, f1, f2, f3, f4, f5⟩ := hf it (by simp)
    have hn : i = its.toArray.size := by simp; omega
    subst hn
    exact wpAny_pyNext_enum_endD (Draws.tuple (A := X.A.in1) (I.ok.hd hc) it a hia its.toArray) he ⟨hit, p⟩ fun h' eb => ⟨rfl, I.turned (t' := s.toks) (fun b o hb q => eb b o hb q) f0 f1 f3 f4 f5⟩
  self := fun A i s Q E st h => let ⟨⟨_, he⟩, _⟩ := st; wpAny_pyIter_enum he h

theorem meets_enum1 {v : Value} {o : Obj} {H : Heap → Prop} (B : Begins v o H) :
    Meets (Builtin.«enumerate.__new__» ⟨[.type "enumerate", v], []⟩) (fun _ R s => H s.heap ∧
      R (.ok (.ret (.ref (s.heap.push o).objs.size))) { s with heap := (s.heap.push o).push { cls := .type "enumerate", data := .fields #[.none, .bool false, .ref s.heap.objs.size, rawInt 0, .none, .none] } }) :=
  .of_wp fun prog w A R s h => by
    obtain ⟨hp, g, d, tk, os⟩ := s
    obtain ⟨h1, h⟩ := h
    have hsub := sub_enumerate
    have q1 : ∀ {A' : Around} {E : Value → Shared → Prop} {Q : Value → Shared → Prop}, Q (.ref hp.objs.size) ⟨hp.push o, g, d, tk, os⟩ → wpAny (model prog w) A' (pyIter v) Q E ⟨hp, g, d, tk, os⟩ :=
      fun q => B.iter prog w _ _ ⟨hp, g, d, tk, os⟩ _ h1 q
    wp_walk using q1
    refine wpAny_stack_any fun st => wpAny_pure ?_
    split
    · rename_i c _ _ _ _ _
      cases (c == Value.type "enumerate")
      all_goals
        wp_walk using q1
        exact ⟨_, rfl, h⟩
    · wp_walk using q1
      exact ⟨_, rfl, h⟩
theorem call_enum1 {prog : Program} {w : World} {A : Around} {E : Value → Shared → Prop} {s : Shared} {v : Value} {o : Obj} {H : Heap → Prop} {Q : Value → Shared → Prop} (B : Begins v o H) (h1 : H s.heap)
    (h : ∀ h', IsEnum h' (s.heap.objs.size + 1) s.heap.objs.size 0 .none → h'.get? s.heap.objs.size = some o → (∀ b o, s.heap.get? b = some o → h'.get? b = some o) → Q (.ref (s.heap.objs.size + 1)) { s with heap := h' }) :
    wpAny (model prog w) A (call (.type "enumerate") [v]) Q E s := by
  refine callType_new F.called_enumerate (by decide) (F.typeCall_enumerate_1 _) (F.newCall_enumerate_1 _) (fun obj => F.args_object_init_2 obj _) F.entry_enumerate_new (meets_enum1 B) ⟨h1, ?_⟩
  have hz : (s.heap.push o).objs.size = s.heap.objs.size + 1 := Heap.size_push ..
  show _ ∧ _
  rw [hz]
  have he := Heap.get?_push_size (s.heap.push o) (o := { cls := .type "enumerate", data := .fields #[.none, .bool false, .ref s.heap.objs.size, rawInt 0, .none, .none] }) rfl
  rw [hz] at he
  exact ⟨⟨_, he, rfl⟩, h _ he (Heap.get?_push_of_some _ (Heap.get?_push_size _ B.free)) fun b o x => Heap.get?_push_of_some _ (Heap.get?_push_of_some _ x)⟩
end PL
namespace PL
open PySem PySem.Spec PyProof.Rows L2 RZ
/-- item i of ds comes: it stands already, or a new tuple -/
def YD (K : PySem.W.Frag) (ds : List D) (G : Hp) : Nat → Hp → V → Hp → Prop := fun i H x H' => ∀ G1, LeZ G G1 → Le G1 H → ∃ d, ds[i]? = some d ∧
  ((H' = H ∧ Rep K G1 d x) ∨ (∃ (T : Addr) (vs : List V) (l : List D), x = .ref T ∧ H T = none ∧ H' = upd H T (.tup vs) ∧ d = .tup l ∧ Reps K G1 l vs) ∨ ∃ (T : Addr) (vs : List V) (l : List D), x = .ref T ∧ H T = some (.tup vs) ∧ H' = H ∧ d = .tup l ∧ Reps K G1 l vs)
def liftI (K : PySem.W.Frag) (W : WX) (t : TXI) : TI := fun σ H R => ∃ A ρ μ G Rp x, Sim K A σ ρ μ G H ∧ t x ρ μ Rp ∧ ExTo K W A G H x ∧
  ∀ ds μ' A' G' H' J, Rp ds μ' → Cells K A' μ' G' H' → Step A G H A' G' H' → Walk J ds.length (fun H => LeZ G' H) (YD K ds G') → R J H'
structure PXI (X : Cx) (W : WX) (tg iter : Expr) (ti : TXI) : Prop where
  ex : ∃ wi, PI X tg iter wi ∧ ∀ σ H R, liftI X.K W ti σ H R → wi σ H R
section
variable {X : Cx} {W : WX} {a b c e tg : Expr} {es : List Expr} {ta tb tc te : TX} {tL : TXA} {pos p tpos : Pos} {elts : List Expr} {kk : Nat}
/-- lo, lo + 1, .. -/
def rngD (lo : Int) (n : Nat) : List D := (List.range n).map fun i => .int (lo + (i : Nat))
theorem walk_rngD {K : PySem.W.Frag} {lo : Int} {n : Nat} {G : Hp} : Walk (Itr lo n) (rngD lo n).length (fun H => LeZ G H) (YD K (rngD lo n) G) := by
  have hl : (rngD lo n).length = n := by simp [rngD]
  rw [hl]
  refine walk_range.mono (fun _ _ => trivial) fun i H0 x H' hi _ y G2 g2 _ => ?_
  obtain ⟨e1, e2⟩ := y
  subst e2
  exact ⟨.int (lo + i), by simp [rngD, hi], .inl ⟨e1, .int _⟩⟩
def xiR1 (t : TXA) : TXI := fun x ρ μ Q => t x ρ μ fun ss μ1 => match ss with
  | [.d (.int j)] => (-(2 ^ 62) ≤ j ∧ j < 2 ^ 62) ∧ Q (rngD 0 j.toNat) μ1
  | _ => False
def xiR2 (t : TXA) : TXI := fun x ρ μ Q => t x ρ μ fun ss μ1 => match ss with
  | [.d (.int i), .d (.int j)] => (-(2 ^ 62) ≤ i ∧ i < 2 ^ 62 ∧ -(2 ^ 62) ≤ j ∧ j < 2 ^ 62) ∧ Q (rngD i (j - i).toNat) μ1
  | _ => False
theorem pxi_range1 (hg : Gl X "range") (hm : X.mg "range" = none) (ha : PXA X W [a] tL) (hs : starEach [a] X.env = [(false, eval a X.env)] := by rfl) : PXI X W tg (.Call (.Name "range" p) [a] [] pos) (xiR1 tL) := by
  refine ⟨_, pi_range1 hg hm ha.pa hs, fun σ H R h => ?_⟩
  obtain ⟨A, ρ, μ, G, Rp, x, S, ht, hx, k⟩ := h
  refine ⟨A, ρ, μ, G, _, x, S, ht, hx, fun ss μ1 A1 G1 H1 vs q c1 s1 r1 => ?_⟩
  match ss, q, r1 with
  | [.d (.int j)], ⟨⟨h1, h2⟩, q⟩, .cons r .nil => cases r; exact ⟨j, rfl, h1, h2, k _ _ _ _ _ _ q c1 s1 walk_rngD⟩
theorem pxi_range2 (hg : Gl X "range") (hm : X.mg "range" = none) (ha : PXA X W [a, b] tL) (hs : starEach [a, b] X.env = [(false, eval a X.env), (false, eval b X.env)] := by rfl) (hs2 : starEach [b] X.env = [(false, eval b X.env)] := by rfl) : PXI X W tg (.Call (.Name "range" p) [a, b] [] pos) (xiR2 tL) := by
  refine ⟨_, pi_range2 hg hm ha.pa hs hs2, fun σ H R h => ?_⟩
  obtain ⟨A, ρ, μ, G, Rp, x, S, ht, hx, k⟩ := h
  refine ⟨A, ρ, μ, G, _, x, S, ht, hx, fun ss μ1 A1 G1 H1 vs q c1 s1 r1 => ?_⟩
  match ss, q, r1 with
  | [.d (.int i), .d (.int j)], ⟨hb, q⟩, .cons r (.cons r' .nil) => cases r; cases r'; exact ⟨i, j, rfl, hb, k _ _ _ _ _ _ q c1 s1 walk_rngD⟩
/-- (0, d), (1, e), .. -/
def enumD (l : List D) : List D := l.mapIdx fun i d => .tup [.int (i : Nat), d]
theorem yd_pair {K : PySem.W.Frag} {G1 : Hp} {x y : V} {d e : D} {H H' : Hp} {v : V} {ds : List D} {i : Nat} (hd : ds[i]? = some (.tup [d, e])) (r1 : Rep K G1 d x) (r2 : Rep K G1 e y) (h : ∃ T, v = .ref T ∧ H T = none ∧ H' = upd H T (.tup [x, y])) :
    ∃ d, ds[i]? = some d ∧ ((H' = H ∧ Rep K G1 d v) ∨ (∃ (T : Addr) (vs : List V) (l : List D), v = .ref T ∧ H T = none ∧ H' = upd H T (.tup vs) ∧ d = .tup l ∧ Reps K G1 l vs) ∨ ∃ (T : Addr) (vs : List V) (l : List D), v = .ref T ∧ H T = some (.tup vs) ∧ H' = H ∧ d = .tup l ∧ Reps K G1 l vs) := by
  obtain ⟨T, h1, h2, h3⟩ := h
  exact ⟨_, hd, .inr (.inl ⟨T, [x, y], [d, e], h1, h2, h3, rfl, .cons r1 (.cons r2 .nil)⟩)⟩
def zipD (l m : List D) : List D := List.zipWith (fun a b => .tup [a, b]) l m
theorem zipD_at {l m : List D} {i : Nat} {d e : D} (h1 : l[i]? = some d) (h2 : m[i]? = some e) : (zipD l m)[i]? = some (.tup [d, e]) := by
  unfold zipD
  rw [List.getElem?_zipWith, h1, h2]
theorem walk_zipT {K : PySem.W.Frag} {a b : Addr} {xs ys : List V} {n : Nat} (hn : n = min xs.length ys.length) : Walk (ItzT K a b) n (fun H => SqT K H a xs ∧ SqT K H b ys) (YPair (fun i => xs[i]?) (fun i => ys[i]?)) := by
  subst hn
  refine ⟨fun i _ hi q => ?_, fun _ q => ⟨xs, ys, q.1, q.2, by omega⟩, fun i H v H' _ q y => ?_⟩
  · have h1 : i < xs.length := by omega
    have h2 : i < ys.length := by omega
    exact ⟨xs, ys, xs[i], ys[i], q.1, q.2, by simp [h1], by simp [h2]⟩
  · obtain ⟨T, x, z, h1, h2, h3, h4, h5⟩ := y
    exact ⟨T, x, z, h1, h2, h3, h4 xs q.1, h5 ys q.2⟩
def strD (z : Str) : List D := z.cps.toList.map fun c => .str ⟨#[c]⟩
variable {own : List Nat} {tA : TXT} {g : TXG} {t : TXS} {ti : TXI} {iter : Expr} {body : List Stmt}
def xFor (ti : TXI) (g : TXG) (tb : TXS) : TXS := fun E ρ μ => ti E.ex ρ μ fun ds μ1 => ∃ I : Nat → Env' → Mem → Prop, I 0 ρ μ1 ∧
  (∀ i d ρ μ, ds[i]? = some d → I i ρ μ → g E.ex (.d d) ρ μ fun ρ2 μ2 => tb { E with nx := I (i + 1), ct := I (i + 1), bk := E.nx } ρ2 μ2) ∧ ∀ ρ μ, I ds.length ρ μ → E.nx ρ μ
/-- what a turn begins with -/
theorem yd_begin {K : PySem.W.Frag} {ds : List D} {G0 G H H' : Hp} {A : List Addr} {μ : Mem} {i : Nat} {x : V} (le : LeZ G0 G) (c : Cells K A μ G H) (y : YD K ds G0 i H x H') :
    ∃ d G', ds[i]? = some d ∧ Rep K G' d x ∧ Cells K A μ G' H' ∧ Step A G H A G' H' := by
  obtain ⟨d, e, h⟩ := y G le c.le
  rcases h with ⟨rfl, r⟩ | ⟨T, vs, l, rfl, h1, rfl, rfl, r⟩ | ⟨T, vs, l, rfl, h1, rfl, rfl, r⟩
  · exact ⟨d, G, e, r, c, .refl⟩
  · obtain ⟨c2, s2⟩ := c.laid (o := .tup vs) h1
    exact ⟨_, _, e, Rep.tup upd_same (r.mono s2.le), c2, s2⟩
  · have lg : Le G (upd G T (.tup vs)) := fun a o e => by
      by_cases z : a = T
      · subst z; rw [c.le a o e] at h1; rw [upd_same, ← h1]
      · rw [upd_ne z]; exact e
    refine ⟨_, upd G T (.tup vs), e, Rep.tup upd_same (r.mono lg.z), ⟨fun a o e => ?_, c.len, c.nd, fun a ha => ?_, fun k a cl e1 e2 => (c.ok k a cl e1 e2).mono (List.prefix_refl _) lg.z rfl⟩, ⟨List.prefix_refl _, lg.z, fun _ _ h _ => .inl h, fun a h => ?_, fun _ _ h => .inr h, fun _ h => .inl h, fun _ h => h⟩⟩
    · by_cases z : a = T
      · subst z; rw [upd_same] at e; rw [h1]; exact e
      · rw [upd_ne z] at e; exact c.le a o e
    · refine (upd_ne fun z => ?_).trans (c.free a ha)
      obtain ⟨k, hk⟩ := List.mem_iff_getElem?.mp ha
      have hl : k < μ.length := by rw [← c.len]; exact (List.getElem?_eq_some_iff.mp hk).1
      exact (c.ok k a _ hk (List.getElem?_eq_getElem hl)).notup (by rw [z]; exact h1)
    · by_cases z : a = T
      · subst z; exact .inr (.inr ⟨vs, h1⟩)
      · rw [upd_ne z] at h; exact .inl h
theorem psx_for (hp : PassesOwn (model X.prog X.w) X.A X.env X.xe) (hc : X.calm = true) (hi : PXI X W tg iter ti) (hg : PXG X W own tg g) (hb : PXSs X W body t)
    (hs : ∀ x, foldedSetIterable iter X.env x = pure x := by intro _; rfl) : PXS X W (.For tg iter body [] pos) (xFor ti g t) := by
  obtain ⟨wi, hpi, hti⟩ := hi.ex
  refine ⟨(ps_for hp hc hpi hg.pg hb.ps hs).imp fun D σ H h => ?_⟩
  obtain ⟨A, ρ, μ, G, E, S, ht, k⟩ := h
  refine hti _ _ _ ⟨A, ρ, μ, G, _, _, S, ht, k.ex, fun ds μ1 A1 G1 H1 J q c1 s1 w => ?_⟩
  obtain ⟨I, i0, turn, done⟩ := q
  refine for_it w (fun i σ H => ∃ A' ρ' μ' G', I i ρ' μ' ∧ Sim X.K A' σ ρ' μ' G' H ∧ Step A1 G1 H1 A' G' H) ⟨A1, ρ, μ1, G1, i0, S.after s1 c1, .refl⟩ (fun i σ H _ ⟨A', ρ', μ', G', _, S', s'⟩ => s'.le.trans S'.le.z) ?_ ?_
  · rintro i x σ2 H2 H3 hi ⟨A2, ρ2, μ2, G2, i2, S2, s2⟩ y
    obtain ⟨d, G3, e, r, c3, s3⟩ := yd_begin s2.le S2.toCells y
    have s23 := s2.trans s3
    have s13 := s1.trans s23
    refine ⟨A2, ρ2, μ2, G3, .d d, _, _, S2.after s3 c3, r, turn i d ρ2 μ2 e i2, k.ex.after s13, fun ρ4 μ4 A4 σ4 G4 H4 q4 S4 s4 _ => ?_⟩
    have s14 := s13.trans s4
    refine ⟨A4, ρ4, μ4, G4, _, S4, q4, ?_⟩
    have fin : ∀ ρ' μ' A' σ' G' H', I (i + 1) ρ' μ' → Sim X.K A' σ' ρ' μ' G' H' → Step A4 G4 H4 A' G' H' → ∃ A'' ρ' μ' G', I (i + 1) ρ' μ' ∧ Sim X.K A'' σ' ρ' μ' G' H' ∧ Step A1 G1 H1 A'' G' H' := fun ρ' μ' A' σ' G' H' q' S' s' => ⟨A', ρ', μ', G', q', S', (s23.trans s4).trans s'⟩
    exact ⟨fin, fun ρ' μ' A' σ' G' H' q' S' s' => k.nx _ _ _ _ _ _ q' S' (s14.trans s'), fin, (k.after s14).rt, (k.after s14).ex⟩
  · rintro σ2 H2 ⟨A2, ρ2, μ2, G2, i2, S2, s2⟩
    exact k.nx _ _ _ _ _ _ (done _ _ i2) S2 (s1.trans s2)

def wipeP (ρ : Env') : List Nat → Env'
  | [] => ρ
  | v :: vs => (wipeP ρ vs).set v .un
theorem Sim.wipe {K : PySem.W.Frag} {A : List Addr} {σ : L2.St} {ρ : Env'} {μ : Mem} {G H : Hp} (S : Sim K A σ ρ μ G H) : ∀ vs : List Nat, Sim K A (L2.wipe σ vs) (wipeP ρ vs) μ G H
  | [] => S
  | v :: vs => by
    have S' := Sim.wipe S vs
    refine ⟨S'.toCells, by unfold L2.wipe wipeP; simp [Env'.set, S'.sl], fun j hj => ?_⟩
    have hl : j < (wipeP ρ vs).n := hj
    unfold L2.wipe
    by_cases h : j = v
    · subst h
      refine ⟨none, by rw [List.getElem?_set_self (by rw [← S'.sl]; exact hl)], ?_⟩
      show SlotOk K A G (if j = j then SV.un else _) _
      rw [if_pos rfl]; trivial
    · obtain ⟨o, e1, q⟩ := S'.at_ j hl
      refine ⟨o, by rw [List.getElem?_set_ne (Ne.symm h)]; exact e1, ?_⟩
      show SlotOk K A G (if j = v then SV.un else _) _
      rw [if_neg h]; exact q
structure PXTs (X : Cx) (W : WX) (ifs : List Expr) (t : TXT) : Prop where
  pt : PTs X ifs (liftT X.K W t)
theorem _root_.L2.PTs.imp {X : Cx} {e : List Expr} {t t' : TT} (h : PTs X e t) (i : ∀ σ H Q, t' σ H Q → t σ H Q) : PTs X e t' := ⟨fun pins s σ H Q I q => h.run pins s σ H Q I (i _ _ _ q)⟩
def xYes : TXT := fun _ _ μ Q => Q true μ
theorem pxts_nil : PXTs X W [] xYes := by
  refine ⟨pts_nil.imp fun σ H Q h => ?_⟩
  obtain ⟨A, ρ, μ, G, Qp, x, S, ht, hx, k⟩ := h
  exact k _ _ _ _ _ ht S.toCells .refl
theorem pxts_one {c : Expr} (h : PXT X W c tA) : PXTs X W [c] tA := ⟨pts_one h.pt⟩
/-- nothing is raised within -/
abbrev wF : WX := fun _ _ _ _ => False
abbrev xF : XP := fun _ _ _ => False
theorem exF {K : PySem.W.Frag} {A : List Addr} {G H : Hp} : ExTo K wF A G H xF := fun _ _ _ _ _ _ _ _ h _ _ _ => h
/-- targets touch their own slots alone: shown at each reading -/
def xLc (ti : TXI) (g : TXG) (tt : TXT) (te : TX) (vs : List Nat) (fin : List D → Mem → VP → Prop) : TX := fun x ρ μ Q => ti x ρ μ fun ds μ1 => ds.length ≤ sizeLine ∧ ∃ I : Nat → List D → Mem → Prop, I 0 [] μ1 ∧
  (∀ i d acc μ, ds[i]? = some d → I i acc μ → g xF (.d d) (wipeP ρ vs) μ fun ρ2 μ2 => tt xF ρ2 μ2 fun b μ3 => Br b (te xF ρ2 μ3 fun s μ4 => match s with
    | .d y => I (i + 1) (acc ++ [y]) μ4
    | _ => False) (I (i + 1) acc μ3)) ∧ ∀ acc μ, I ds.length acc μ → fin acc μ Q
def finL : List D → Mem → VP → Prop := fun acc μ Q => Q (.d (.lst acc)) μ
/-- the comprehension's loop -/
theorem lc_turns {K : PySem.W.Frag} {ds : List D} {J : It} {A1 : List Addr} {G1 H1 : Hp} {σ : L2.St} {ρ : Env'} {μ1 : Mem} {tt : TXT} {te : TX} {vs : List Nat} {Q : Hp → Prop} {Dd : Addr} (S : Sim K A1 σ ρ μ1 G1 H1) (hD : H1 Dd = none)
    (w : Walk J ds.length (fun H => LeZ G1 H) (YD K ds G1)) (hz : ds.length ≤ sizeLine) {I : Nat → List D → Mem → Prop} (i0 : I 0 [] μ1)
    (turn : ∀ i d acc μ, ds[i]? = some d → I i acc μ → g xF (.d d) (wipeP ρ vs) μ fun ρ2 μ2 => tt xF ρ2 μ2 fun b μ3 => Br b (te xF ρ2 μ3 fun s μ4 => match s with
      | .d y => I (i + 1) (acc ++ [y]) μ4
      | _ => False) (I (i + 1) acc μ3))
    (done : ∀ acc μ, I ds.length acc μ → ∀ A' G' H' ws, Cells K A' μ G' H' → Step A1 G1 H1 A' G' H' → H' Dd = some (.lst ws) → Reps K G' acc ws → Dd ∉ A' → G' Dd = none → Q H') :
    ∃ W : Nat → Nat → Hp → Prop, (∃ m, W 0 m (upd H1 Dd (.lst []))) ∧ ∀ i m H, W i m H →
      (J.stop i H ∧ Q H) ∨ (J.go i H ∧ ∃ Nx : Hp → Prop, (∀ H', Nx H' → ∃ m', m' < m ∧ W (i + 1) m' H') ∧ ∀ x H', J.yld i H x H' → liftG K wF vs g x (L2.wipe σ vs) H' fun σ2 H2 => L2.wipe σ2 vs = L2.wipe σ vs ∧ liftT K wF tt σ2 H2 fun b H3 =>
        if b = true then lift K wF te σ2 H3 fun y H4 => ∃ acc, H4 Dd = some (.lst acc) ∧ acc.length < sizeLine ∧ Nx (upd H4 Dd (.lst (acc ++ [y]))) else Nx H3) := by
  have wipe2 : ∀ σ : L2.St, L2.wipe (L2.wipe σ vs) vs = L2.wipe σ vs := fun σ => by
    refine List.ext_getElem? fun j => ?_
    have key : ∀ (τ : L2.St) (us : List Nat), (L2.wipe τ us)[j]? = if j ∈ us then (τ[j]?).map (fun _ => none) else τ[j]? := by
      intro τ us
      induction us with
      | nil => simp [L2.wipe]
      | cons v us ih =>
        unfold L2.wipe
        by_cases e : v = j
        · subst e
          by_cases hv : v < τ.length
          · rw [List.getElem?_set_self (by rw [L2.wipe_length]; exact hv)]
            simp [List.getElem?_eq_getElem hv]
          · rw [List.getElem?_eq_none (by simp [L2.wipe_length]; omega)]
            simp [List.getElem?_eq_none (Nat.le_of_not_lt hv)]
        · rw [List.getElem?_set_ne e, ih]
          have : (j ∈ v :: us) ↔ j ∈ us := by
            simp only [List.mem_cons]
            exact ⟨fun h => h.resolve_left fun q => e q.symm, .inr⟩
          simp only [this]
    rw [key, key]
    by_cases h : j ∈ vs
    · simp [h]
      cases σ[j]? <;> rfl
    · simp [h]
  refine lc_it w (σ := σ) (vs := vs) (Qd := Q) (g := liftG K wF vs g) (tt := liftT K wF tt) (te := lift K wF te) (fun i H => ∃ acc ws A' G' μ', I i acc μ' ∧ acc.length ≤ i ∧ Cells K A' μ' G' H ∧ Step A1 G1 H1 A' G' H ∧ H Dd = some (.lst ws) ∧ Reps K G' acc ws ∧ Dd ∉ A' ∧ G' Dd = none) ?_ (fun i H _ ⟨acc, ws, A', G', μ', _, _, c, s, _⟩ => s.le.trans c.le.z) ?_ ?_
  · have gn : G1 Dd = none := S.gnone hD
    have na : Dd ∉ A1 := fun z => S.ne_of_lt z hD rfl
    refine ⟨[], [], A1, G1, μ1, i0, Nat.zero_le _, ⟨fun a o e => ?_, S.len, S.nd, S.free, fun k a cl h1 h2 => ?_⟩, ⟨List.prefix_refl _, LeZ.refl _, fun a o e _ => .inl ?_, fun a e => .inl e, fun a xs e => ?_, fun a e => .inl e, fun a e => ?_⟩, upd_same, .nil, na, gn⟩
    · rw [upd_ne (ne_of_none e gn)]; exact S.le a o e
    · exact (S.ok k a cl h1 h2).mono (List.prefix_refl _) (LeZ.refl _) (upd_ne (S.ne_of_lt (List.mem_of_getElem? h1) hD))
    · rw [upd_ne (ne_of_none e hD)]; exact e
    · by_cases z : a = Dd
      · rw [z, upd_same] at e; cases e
      · rw [upd_ne z] at e; exact .inr e
    · by_cases z : a = Dd
      · rw [z, upd_same]; simp
      · rw [upd_ne z]; exact e
  · rintro i x H H' hi ⟨acc, ws, A2, G2, μ2, i2, hacc, c2, s2, hd, hr, na, gn⟩ y
    obtain ⟨d, G3, e, r, c3, s3⟩ := yd_begin s2.le c2 y
    have keepD : ∀ {A' : List Addr} {G' H' : Hp}, Step A2 G2 H A' G' H' → H' Dd = some (.lst ws) ∧ Dd ∉ A' ∧ G' Dd = none := fun {A' G' H'} st => by
      refine ⟨?_, fun z => ?_, ?_⟩
      · rcases st.keep _ _ hd na with q | ⟨q, _⟩
        · exact q
        · rw [gn] at q; cases q
      · rcases st.cells _ z with q | q
        · exact na q
        · rw [hd] at q; cases q
      · cases q : G' Dd with
        | none => rfl
        | some o =>
          rcases st.new Dd (by rw [q]; simp) with z | z | ⟨_, z⟩
          · exact absurd gn z
          · rw [hd] at z; cases z
          · rw [hd] at z; cases z
    have S3 : Sim K A2 (L2.wipe σ vs) (wipeP ρ vs) μ2 G3 H' := by
      have st := s2.trans s3
      exact (S.wipe vs).after st c3
    refine ⟨A2, _, μ2, G3, .d d, _, xF, S3, r, turn i d acc μ2 e i2, exF, fun ρ4 μ4 A4 σ4 G4 H4 q4 S4 s4 kp => ⟨Eq.trans kp (wipe2 σ), ?_⟩⟩
    refine ⟨A4, ρ4, μ4, G4, _, xF, S4, q4, exF, fun b μ5 A5 G5 H5 q5 c5 s5 => ?_⟩
    have s25 := (s3.trans s4).trans s5
    cases b with
    | false =>
      obtain ⟨h1, h2, h3⟩ := keepD s25
      exact ite_ff ⟨acc, ws, A5, G5, μ5, q5, by omega, c5, s2.trans s25, h1, hr.mono s25.le, h2, h3⟩
    | true =>
      refine ite_tt ⟨A5, ρ4, μ5, G5, _, xF, S4.after s5 c5, q5, exF, fun s μ6 A6 G6 H6 v q6 c6 s6 r6 => ?_⟩
      have s26 := s25.trans s6
      obtain ⟨h1, h2, h3⟩ := keepD s26
      match s, q6, r6 with
      | .d z, q6, r6 =>
        refine ⟨ws, h1, by rw [← hr.length]; omega, acc ++ [z], ws ++ [v], A6, G6, μ6, q6, by simp; omega, ?_, ?_, upd_same, (hr.mono s26.le).app (.cons r6 .nil), h2, h3⟩
        · refine ⟨fun a o e => ?_, c6.len, c6.nd, c6.free, fun k a cl e1 e2 => ?_⟩
          · rw [upd_ne (ne_of_none e h3)]; exact c6.le a o e
          · exact (c6.ok k a cl e1 e2).mono (List.prefix_refl _) (LeZ.refl _) (upd_ne fun q => h2 (by rw [← q]; exact List.mem_of_getElem? e1))
        · have st := s2.trans s26
          refine ⟨st.pre, st.le, fun a o e n => ?_, st.new, fun a xs e => ?_, st.cells, fun a e => ?_⟩
          · rw [upd_ne (ne_of_none e hD)]; exact st.keep a o e n
          · by_cases q : a = Dd
            · rw [q, upd_same] at e; cases e
            · rw [upd_ne q] at e; exact st.tups a xs e
          · by_cases q : a = Dd
            · rw [q, upd_same]; simp
            · rw [upd_ne q]; exact st.there a e
  · rintro H ⟨acc, ws, A2, G2, μ2, i2, _, c2, s2, hd, hr, na, gn⟩
    exact done acc μ2 i2 A2 G2 H ws c2 s2 hd hr na gn
theorem px_lc {elt : Expr} {ifs : List Expr} {scope : Scope} {own : List (Str × Nat)} {tt : TXT} (hc : X.calm = true) (hN : X.N.Nodup) (hi : PXI X W tg iter ti) (ok : BlkOk X.N X.env.scope scope own)
    (hg : ∀ (s : Shared) (H : Hp) (C : Addr) (cl : List (Str × Addr)) (fp : List Addr), PXG (X.blk s H scope (compEnvC scope cl C X.env) fp) wF (own.map (·.2)) tg g)
    (ht : ∀ (s : Shared) (H : Hp) (C : Addr) (cl : List (Str × Addr)) (fp : List Addr), PXTs (X.blk s H scope (compEnvC scope cl C X.env) fp) wF ifs tt)
    (he : ∀ (s : Shared) (H : Hp) (C : Addr) (cl : List (Str × Addr)) (fp : List Addr), PX (X.blk s H scope (compEnvC scope cl C X.env) fp) wF elt te) (hs : ∀ x, foldedSetIterable iter X.env x = pure x := by intro _; rfl) :
    PX X W (.ListComp elt [⟨tg, iter, ifs, 0⟩] scope pos) (xLc ti g tt te (own.map (·.2)) finL) := by
  obtain ⟨wi, hpi, hti⟩ := hi.ex
  refine ⟨(pe_lc (g := liftG X.K wF (own.map (·.2)) g) (tt := liftT X.K wF tt) (te := lift X.K wF te) hc hN hpi ok (fun s H C cl fp => (hg s H C cl fp).pg) (fun s H C cl fp => (ht s H C cl fp).pt) (fun s H C cl fp => (he s H C cl fp).pe) hs).imp fun σ H Q h => ?_⟩
  obtain ⟨A, ρ, μ, G, Qp, x, S, ht, hx, k⟩ := h
  refine hti _ _ _ ⟨A, ρ, μ, G, _, x, S, ht, hx, fun ds μ1 A1 G1 H1 J ⟨hz, I, i0, turn, done⟩ c1 s1 w Dd hD => ?_⟩
  refine lc_turns (S.after s1 c1) hD w hz i0 turn fun acc μ' i' A' G' H' ws c' s' hd hr na gn => ?_
  have q := done acc μ' i'
  have lg : LeZ G' (upd G' Dd (.lst ws)) := fun a o e => .inl (by rw [upd_ne (ne_of_none e gn)]; exact e)
  refine k (.d (.lst acc)) μ' A' (upd G' Dd (.lst ws)) H' (.ref Dd) q ⟨fun a o e => ?_, c'.len, c'.nd, fun a ha => ?_, fun j a cl e1 e2 => (c'.ok j a cl e1 e2).mono (List.prefix_refl _) lg rfl⟩ ?_ (Rep.lst upd_same (hr.mono lg))
  · by_cases z : a = Dd
    · rw [z] at e ⊢; rw [upd_same] at e; rw [hd]; exact e
    · rw [upd_ne z] at e; exact c'.le a o e
  · rw [upd_ne (fun z => na (by rw [← z]; exact ha))]; exact c'.free a ha
  · have st := s1.trans s'
    refine ⟨st.pre, st.le.trans lg, st.keep, fun a e => ?_, st.tups, st.cells, st.there⟩
    by_cases z : a = Dd
    · refine .inr (.inl ?_)
      cases q2 : H a with
      | none => rfl
      | some o => exact absurd (by rw [z]; exact hD) (s1.there a (by rw [q2]; simp))
    · rw [upd_ne z] at e; exact st.new a e
end
end PL
namespace PL
open PySem PySem.Spec PyProof.Rows L2
/-- a def's promise: the arguments (cells by their places among the handed-in cells), the handed-in cells, the wanted end -/
abbrev PSp := XP → List SV → Mem → VP → Prop
def low (K : PySem.W.Frag) (p : PSp) : Sp := fun vs H Q E => ∃ A as μ G Qp x, Cells K A μ G H ∧ RepsS K A G as vs ∧ p x as μ Qp ∧
  (∀ C fs μ' A' G' H' d, x C fs μ' → Cells K A' μ' G' H' → Step A G H A' G' H' → ExOk K G' H' fs d → E (.ref (He.ga K C)) d H') ∧
  ∀ r μ' A' G' H' v, Qp r μ' → Cells K A' μ' G' H' → Step A G H A' G' H' → RepS K A' G' r v → Q v H'
def startP (n : Nat) (as : List SV) : Env' := ⟨as.length + (n - as.length), fun i => as.getD i .un⟩
theorem sim_start {K : PySem.W.Frag} {A : List Addr} {as : List SV} {vs : List V} {μ : Mem} {G H : Hp} {N : List Str} (c : Cells K A μ G H) (r : RepsS K A G as vs) : Sim K A (L2.start N vs) (startP N.length as) μ G H where
  toCells := c
  sl := by simp [startP, L2.start, r.length]
  at_ := by
    have key : ∀ (as : List SV) (vs : List V) (n m : Nat), RepsS K A G as vs → n = m → ∀ (i : Nat) (s : SV), (as ++ List.replicate n .un)[i]? = some s → ∃ o, (vs.map some ++ List.replicate m none)[i]? = some o ∧ SlotOk K A G s o := by
      intro as
      induction as with
      | nil =>
        intro vs n m r e i s h
        cases r
        subst e
        simp only [List.nil_append, List.map_nil] at h ⊢
        obtain ⟨hi, e⟩ := List.getElem?_eq_some_iff.mp h
        simp at hi e
        subst e
        exact ⟨none, by simp [hi], trivial⟩
      | cons a as ih =>
        intro vs n m r e i s h
        cases r with
        | @cons _ v _ us r1 r2 =>
          cases i with
          | zero =>
            simp at h
            subst h
            refine ⟨some v, by simp, ?_⟩
            cases a with
            | un => trivial
            | d x => exact ⟨v, rfl, r1⟩
            | c k => exact ⟨v, rfl, r1⟩
          | succ i => simpa using ih us n m r2 e i s (by simpa using h)
    intro i hi
    have hi : i < as.length + (N.length - as.length) := hi
    refine key as vs (N.length - as.length) _ r (by rw [r.length]) i _ ?_
    show (as ++ List.replicate (N.length - as.length) SV.un)[i]? = some (as.getD i .un)
    by_cases h : i < as.length
    · rw [List.getElem?_append_left h, List.getD_eq_getElem?_getD, List.getElem?_eq_getElem h]; rfl
    · rw [List.getElem?_append_right (by omega), List.getD_eq_getElem?_getD, List.getElem?_eq_none (by omega : as.length ≤ i), List.getElem?_replicate, if_pos (by omega)]; rfl
section
variable {P : Program} {w : World} {K : PySem.W.Frag} {mg : Str → Option Value} {base : Heap}
/-- THE RULE for a def -/
theorem fn_p {x qual : Str} {st : Stmt} {f : Addr} {fd : FuncData} {N ps : List Str} {k : Nat} {p : PSp} {t : TXS} (F : Fun K x qual st f fd) (S : FnScope N ps (defScope st)) (len : ∀ x as μ Q, p x as μ Q → as.length = ps.length)
    (hp : ∀ x as μ Q, p x as μ Q → t { nx := fun _ μ => Q (.d .non) μ, rt := Q, ex := x } (startP N.length as) μ)
    (hb : ∀ (cdv : Value) (A : Around) (outer : List Env) (s : Shared) (H : Hp) (E : XK), Room k (A.deeper (envOfC qual (defScope st) s.heap.objs.size f cdv)) →
      PXSs (cxOf (L2.CX P w) P w K mg base N qual (defScope st) f cdv A outer s H E) (fun cls d _ H => E cls d H) (defBody st) t) :
    FnOk P w K mg base (L2.CX P w) (k + 1) f fd ps (low K p) := by
  refine F.okX S (fun vs H Q E h => ?_) fun cdv A outer s H vs Q E hr h => ?_
  · obtain ⟨A, as, μ, G, Qp, x, c, r, hq, _⟩ := h
    rw [← r.length]
    exact len _ _ _ _ hq
  · obtain ⟨A', as, μ, G, Qp, x, c, r, hq, hx, hk⟩ := h
    refine ⟨_, (hb cdv A outer s H E hr).ps, A', startP N.length as, μ, G, _, sim_start c r, hp _ _ _ _ hq, ?_⟩
    refine ⟨fun ρ' μ' A2 σ' G' H' q S' s' => hk _ _ _ _ _ _ q S'.toCells s' .non, fun _ _ _ _ _ _ q => q.elim, fun _ _ _ _ _ _ q => q.elim, fun r μ' A2 G' H' v q c' s' r' => hk _ _ _ _ _ _ q c' s' r', ?_⟩
    exact fun C fs μ' A2 G' H' d σ q c' s' e => hx C fs μ' A2 G' H' d q c' s' e
end

def cellsOf : List SV → List Nat
  | [] => []
  | .c k :: r => k :: cellsOf r
  | _ :: r => cellsOf r
def relab (n : Nat) : List SV → List SV
  | [] => []
  | .c _ :: r => .c n :: relab (n + 1) r
  | s :: r => s :: relab n r
def nocell : Cell := .lst []
def picked (μ : Mem) (ks : List Nat) : Mem := ks.map fun k => μ.getD k nocell
def merge : Mem → List Nat → Mem → Mem
  | μ, [], _ => μ
  | μ, _ :: _, [] => μ
  | μ, k :: ks, c :: cs => merge (μ.set k c) ks cs
termination_by structural _ ks => ks
theorem merge_length : ∀ (ks : List Nat) (μ cs : Mem), (merge μ ks cs).length = μ.length
  | [], μ, cs => by cases cs <;> rfl
  | k :: ks, μ, [] => rfl
  | k :: ks, μ, c :: cs => by
    show (merge (μ.set k c) ks cs).length = _
    rw [merge_length ks, List.length_set]
theorem merge_out : ∀ (ks : List Nat) (μ cs : Mem) (j : Nat), j ∉ ks → (merge μ ks cs)[j]? = μ[j]?
  | [], μ, cs, j, _ => by cases cs <;> rfl
  | k :: ks, μ, [], j, _ => rfl
  | k :: ks, μ, c :: cs, j, h => by
    show (merge (μ.set k c) ks cs)[j]? = _
    rw [merge_out ks _ _ _ (fun z => h (List.mem_cons_of_mem _ z)), List.getElem?_set_ne (fun e => h (by rw [e]; exact List.mem_cons_self))]
theorem merge_in : ∀ (ks : List Nat) (μ cs : Mem) (i j : Nat), ks.Nodup → ks[i]? = some j → i < cs.length → j < μ.length → (merge μ ks cs)[j]? = cs[i]?
  | [], _, _, _, _, _, h, _, _ => by simp at h
  | k :: ks, μ, [], i, j, _, _, h, _ => by simp at h
  | k :: ks, μ, c :: cs, 0, j, nd, h, _, hj => by
    simp at h
    subst h
    show (merge (μ.set k c) ks cs)[k]? = _
    rw [merge_out ks _ _ _ (List.nodup_cons.mp nd).1, List.getElem?_set_self hj]
    rfl
  | k :: ks, μ, c :: cs, i + 1, j, nd, h, hl, hj => by
    show (merge (μ.set k c) ks cs)[j]? = _
    rw [merge_in ks _ _ i j (List.nodup_cons.mp nd).2 (by simpa using h) (by simpa using hl) (by simpa using hj)]
    simp
/-- a call of a def that promises p -/
def ndP (ks : List Nat) (A : Prop) : Prop := match ks with
  | [] => A
  | [_] => A
  | ks => ks.Nodup ∧ A
theorem ndP_of {ks : List Nat} {A : Prop} (h : ndP ks A) : ks.Nodup ∧ A := by
  match ks, h with
  | [], h => exact ⟨List.nodup_nil, h⟩
  | [_], h => exact ⟨by simp, h⟩
  | _ :: _ :: _, h => exact h
/-- what a call takes and gives back are cells without cells -/
def flP (cs : Mem) (A : Prop) : Prop := match cs with
  | [] => A
  | c :: cs => flat1 c = true ∧ flP cs A
theorem flP_of {A : Prop} : ∀ {cs : Mem}, flP cs A → (∀ c ∈ cs, flat1 c = true) ∧ A
  | [], h => ⟨fun c hc => by simp at hc, h⟩
  | c :: cs, h => by
    obtain ⟨h1, h2⟩ := h
    obtain ⟨h3, h4⟩ := flP_of h2
    exact ⟨fun d hd => (List.mem_cons.mp hd).elim (fun e => by rw [e]; exact h1) (h3 d), h4⟩
def callP (p : PSp) (x : XP) (ss : List SV) (μ : Mem) (Q : VP) : Prop := ndP (cellsOf ss) <| flP (picked μ (cellsOf ss)) <|
  p (fun C fs μ' => flP (μ'.take (cellsOf ss).length) (x C fs (merge μ (cellsOf ss) μ'))) (relab 0 ss) (picked μ (cellsOf ss)) fun r μ' => flP (μ'.take (cellsOf ss).length) <| match r with
    | .d d => Q (.d d) (merge μ (cellsOf ss) μ')
    | .c j => if j < (cellsOf ss).length then Q (.c ((cellsOf ss).getD j 0)) (merge μ (cellsOf ss) μ') else flP [μ'.getD j nocell] (Q (.c μ.length) (merge μ (cellsOf ss) μ' ++ [μ'.getD j nocell]))
    | .un => False
section
variable {K : PySem.W.Frag} {A : List Addr} {μ : Mem} {G H : Hp}
def pickA (A : List Addr) (ks : List Nat) : List Addr := ks.map fun k => A.getD k 0
theorem cellsOf_ok : ∀ {ss : List SV} {vs : List V}, RepsS K A G ss vs → ∀ k ∈ cellsOf ss, k < A.length
  | [], _, _, k, h => by simp [cellsOf] at h
  | .c j :: r, _, .cons h t, k, hk => by
    obtain ⟨a, e, _⟩ := h
    rcases List.mem_cons.mp (show k ∈ j :: cellsOf r from hk) with z | z
    · rw [z]; exact (List.getElem?_eq_some_iff.mp e).1
    · exact cellsOf_ok t k z
  | .d _ :: r, _, .cons h t, k, hk => cellsOf_ok t k hk
  | .un :: r, _, .cons h t, k, hk => cellsOf_ok t k hk
theorem relab_ok {B : List Addr} : ∀ {ss : List SV} {vs : List V} (n : Nat), RepsS K A G ss vs → (∀ i k a, (cellsOf ss)[i]? = some k → A[k]? = some a → B[n + i]? = some a) → RepsS K B G (relab n ss) vs
  | [], _, _, .nil, _ => .nil
  | .c j :: r, _, n, .cons h t, hb => by
    obtain ⟨a, e, rfl⟩ := h
    refine .cons ⟨a, by simpa using hb 0 j a rfl e, rfl⟩ (relab_ok (n + 1) t fun i k a h1 h2 => ?_)
    have := hb (i + 1) k a (by simpa [cellsOf] using h1) h2
    rw [show n + 1 + i = n + (i + 1) by omega]
    exact this
  | .d x :: r, _, n, .cons h t, hb => .cons h (relab_ok n t hb)
  | .un :: r, _, n, .cons h t, hb => .cons h (relab_ok n t hb)
theorem pickA_at {ks : List Nat} (h : ∀ k ∈ ks, k < A.length) {i : Nat} {k : Nat} (e : ks[i]? = some k) : ∃ a, A[k]? = some a ∧ (pickA A ks)[i]? = some a := by
  have hk := h k (List.mem_of_getElem? e)
  refine ⟨A[k], List.getElem?_eq_getElem hk, ?_⟩
  unfold pickA
  rw [List.getElem?_map, e]
  show some (A.getD k 0) = _
  rw [List.getD_eq_getElem?_getD, List.getElem?_eq_getElem hk]
  rfl
theorem pickA_mem {ks : List Nat} (h : ∀ k ∈ ks, k < A.length) {a : Addr} (ha : a ∈ pickA A ks) : ∃ k ∈ ks, A[k]? = some a := by
  obtain ⟨k, hk, rfl⟩ := List.mem_map.mp ha
  refine ⟨k, hk, ?_⟩
  rw [List.getD_eq_getElem?_getD, List.getElem?_eq_getElem (h k hk)]
  rfl
theorem Cells.at_inj (c : Cells K A μ G H) {i j : Nat} {a : Addr} (h1 : A[i]? = some a) (h2 : A[j]? = some a) : i = j := by
  obtain ⟨l1, e1⟩ := List.getElem?_eq_some_iff.mp h1
  obtain ⟨l2, e2⟩ := List.getElem?_eq_some_iff.mp h2
  exact (List.getElem_inj c.nd).mp (e1.trans e2.symm)
theorem nodup_map_on {α β : Type} {f : α → β} : ∀ {l : List α}, l.Nodup → (∀ x ∈ l, ∀ y ∈ l, f x = f y → x = y) → (l.map f).Nodup
  | [], _, _ => List.nodup_nil
  | x :: l, nd, h => by
    obtain ⟨h1, h2⟩ := List.nodup_cons.mp nd
    rw [List.map_cons]
    refine List.nodup_cons.mpr ⟨fun hm => ?_, nodup_map_on h2 fun a ha b hb => h a (List.mem_cons_of_mem _ ha) b (List.mem_cons_of_mem _ hb)⟩
    obtain ⟨y, hy, e⟩ := List.mem_map.mp hm
    exact h1 (h x List.mem_cons_self y (List.mem_cons_of_mem _ hy) e.symm ▸ hy)
theorem Cells.pick (c : Cells K A μ G H) {ks : List Nat} (h : ∀ k ∈ ks, k < A.length) (nd : ks.Nodup) (fl : ∀ c ∈ picked μ ks, flat1 c = true) : Cells K (pickA A ks) (picked μ ks) G H where
  le := c.le
  len := by simp [pickA, picked]
  nd := by
    unfold pickA
    refine nodup_map_on nd fun i hi j hj e => ?_
    have h1 := List.getElem?_eq_getElem (h i hi)
    have h2 := List.getElem?_eq_getElem (h j hj)
    refine c.at_inj h1 ?_
    rw [List.getD_eq_getElem?_getD, List.getD_eq_getElem?_getD, h1, h2] at e
    rw [h2]; exact congrArg some e.symm
  free := fun a ha => let ⟨k, _, e⟩ := pickA_mem h ha; c.free a (List.mem_of_getElem? e)
  ok := fun i a cl h1 h2 => by
    have hi : i < ks.length := by
      have := (List.getElem?_eq_some_iff.mp h1).1
      simpa [pickA] using this
    obtain ⟨b, e1, e2⟩ := pickA_at h (List.getElem?_eq_getElem hi)
    rw [h1] at e2; cases e2
    have hfl := fl cl (List.mem_of_getElem? h2)
    unfold picked at h2
    rw [List.getElem?_map, List.getElem?_eq_getElem hi] at h2
    have h2 : μ.getD ks[i] nocell = cl := Option.some.inj h2
    have hm : ks[i] < μ.length := by rw [← c.len]; exact h _ (List.getElem_mem hi)
    rw [List.getD_eq_getElem?_getD, List.getElem?_eq_getElem hm] at h2
    refine (c.ok _ _ _ e1 ?_).flat hfl
    rw [List.getElem?_eq_getElem hm]
    exact congrArg some h2
/-- behind a call: the caller's cells -/
theorem Cells.back (c : Cells K A μ G H) {ks : List Nat} (h : ∀ k ∈ ks, k < A.length) (nd : ks.Nodup) {A' : List Addr} {μ' : Mem} {G' H' : Hp} (c' : Cells K A' μ' G' H') (s' : Step (pickA A ks) G H A' G' H') (fl : ∀ c ∈ μ'.take ks.length, flat1 c = true) :
    Cells K A (merge μ ks μ') G' H' ∧ Step A G H A G' H' := by
  have sub : ∀ a, a ∉ A → a ∉ pickA A ks := fun a n z => let ⟨k, _, e⟩ := pickA_mem h z; n (List.mem_of_getElem? e)
  have hasH : ∀ a ∈ A, H a ≠ none := fun a ha z => c.ne_of_lt ha z rfl
  refine ⟨⟨c'.le, by rw [merge_length]; exact c.len, c.nd, fun a ha => ?_, fun j a cl h1 h2 => ?_⟩, ⟨List.prefix_refl _, s'.le, fun a o e n => s'.keep a o e (sub a n), s'.new, s'.tups, fun a ha => .inl ha, s'.there⟩⟩
  · cases q : G' a with
    | none => rfl
    | some o =>
      rcases s'.new a (by rw [q]; simp) with z | z | ⟨xs, z⟩
      · exact absurd (c.free a ha) z
      · exact absurd z (hasH a ha)
      · obtain ⟨k, hk⟩ := List.mem_iff_getElem?.mp ha
        have hl : k < μ.length := by rw [← c.len]; exact (List.getElem?_eq_some_iff.mp hk).1
        exact absurd z (c.ok k a _ hk (List.getElem?_eq_getElem hl)).notup
  · have hjl : j < μ.length := by rw [← c.len]; exact (List.getElem?_eq_some_iff.mp h1).1
    by_cases hj : j ∈ ks
    · obtain ⟨i, hi⟩ := List.mem_iff_getElem?.mp hj
      obtain ⟨b, e1, e2⟩ := pickA_at h hi
      rw [h1] at e1; cases e1
      obtain ⟨B, rfl⟩ := s'.pre
      have hil := (List.getElem?_eq_some_iff.mp e2).1
      have e3 : (pickA A ks ++ B)[i]? = some a := by rw [List.getElem?_append_left hil]; exact e2
      have hm : i < μ'.length := by rw [← c'.len, List.length_append]; omega
      rw [merge_in ks μ μ' i j nd hi hm hjl] at h2
      refine (c'.ok i a cl e3 h2).flat (fl cl (List.mem_of_getElem? (i := i) ?_))
      rw [List.getElem?_take, if_pos (by simpa [pickA] using hil)]; exact h2
    · rw [merge_out ks μ μ' j hj] at h2
      have ok := c.ok j a cl h1 h2
      obtain ⟨o, e⟩ := ok.some
      have na : a ∉ pickA A ks := fun z => by
        obtain ⟨k, hk, e⟩ := pickA_mem h z
        exact hj ((c.at_inj h1 e) ▸ hk)
      refine ok.mono (List.prefix_refl _) s'.le ?_
      rcases s'.keep a o e na with q | ⟨q, _⟩
      · rw [q, e]
      · rw [c.free a (List.mem_of_getElem? h1)] at q; cases q
end
section
variable {X : Cx} {W : WX} {a b c e : Expr} {es : List Expr} {tL tK : TXA} {pos ppos : Pos} {x : Str}
/-- the promise at a call gives what is wanted there -/
theorem call_low {K : PySem.W.Frag} {p : PSp} {x : XP} {ss : List SV} {vs : List V} {A : List Addr} {μ : Mem} {G H : Hp} {Qp : VP} {Q : VK} (h : callP p x ss μ Qp) (c : Cells K A μ G H) (r : RepsS K A G ss vs) (hx : ExTo K W A G H x)
    (k : ∀ r μ' A' G' H' v, Qp r μ' → Cells K A' μ' G' H' → Step A G H A' G' H' → RepS K A' G' r v → Q v H') : low K p vs H Q (fun cls d H' => ∀ σ, W cls d σ H') := by
  obtain ⟨nd, h⟩ := ndP_of h
  obtain ⟨fl, h⟩ := flP_of h
  have hk := cellsOf_ok r
  refine ⟨pickA A (cellsOf ss), relab 0 ss, picked μ (cellsOf ss), G, _, _, c.pick hk nd fl, relab_ok 0 r (fun i k a e1 e2 => ?_), h, fun C fs μ' A' G' H' d q c' s' e σ => ?_, fun r' μ' A' G' H' v q c' s' rr => ?_⟩
  · obtain ⟨b, e3, e4⟩ := pickA_at hk e1
    rw [e2] at e3; cases e3
    rw [Nat.zero_add]; exact e4
  · obtain ⟨fl2, q⟩ := flP_of q
    obtain ⟨c2, s2⟩ := c.back hk nd c' s' fl2
    exact hx C fs _ A G' H' d σ q c2 s2 e
  · obtain ⟨fl2, q⟩ := flP_of q
    obtain ⟨c2, s2⟩ := c.back hk nd c' s' fl2
    match r', q, rr with
    | .d d, q, rr => exact k _ _ _ _ _ _ q c2 s2 rr
    | .c j, q, rr =>
      obtain ⟨b, hb, rfl⟩ := rr
      obtain ⟨B, rfl⟩ := s'.pre
      have hl : (pickA A (cellsOf ss)).length = (cellsOf ss).length := by simp [pickA]
      by_cases hj : j < (cellsOf ss).length
      · have q := (show (if j < (cellsOf ss).length then _ else _ : Prop) from q)
        rw [if_pos hj] at q
        refine k _ _ _ _ _ _ q c2 s2 ⟨b, ?_, rfl⟩
        rw [List.getElem?_append_left (by rw [hl]; exact hj)] at hb
        obtain ⟨b', e3, e4⟩ := pickA_at hk (List.getElem?_eq_getElem hj)
        rw [hb] at e4; cases e4
        rw [List.getD_eq_getElem?_getD, List.getElem?_eq_getElem hj]
        exact e3
      · have q := (show (if j < (cellsOf ss).length then _ else _ : Prop) from q)
        rw [if_neg hj] at q
        obtain ⟨fl3, q⟩ := flP_of q
        have hbm : b ∈ pickA A (cellsOf ss) ++ B := List.mem_of_getElem? hb
        have nb : b ∉ pickA A (cellsOf ss) := fun z => by
          obtain ⟨i, hi⟩ := List.mem_iff_getElem?.mp z
          have hil := (List.getElem?_eq_some_iff.mp hi).1
          have := c'.at_inj hb (by rw [List.getElem?_append_left hil]; exact hi)
          omega
        have fresh : H b = none := (s'.cells b hbm).resolve_left nb
        have nA : b ∉ A := fun z => c.ne_of_lt z fresh rfl
        have hjm : j < μ'.length := by rw [← c'.len]; exact (List.getElem?_eq_some_iff.mp hb).1
        have gcell : μ'[j]? = some (μ'.getD j nocell) := by rw [List.getD_eq_getElem?_getD, List.getElem?_eq_getElem hjm]; rfl
        refine k _ _ (A ++ [b]) G' H' _ q ⟨c2.le, by rw [List.length_append, List.length_append, c2.len]; rfl, ?_, fun a ha => ?_, fun i a cl h1 h2 => ?_⟩ ⟨List.prefix_append _ _, s2.le, s2.keep, s2.new, s2.tups, fun a ha => ?_, s2.there⟩ ⟨b, by rw [← c.len]; simp, rfl⟩
        · refine List.nodup_append.mpr ⟨c.nd, by simp, fun a ha d hd => ?_⟩
          simp at hd
          subst hd
          exact fun z => nA (z ▸ ha)
        · rcases List.mem_append.mp ha with z | z
          · exact c2.free a z
          · simp at z; subst z; exact c'.free a hbm
        · rcases getElem?_append_one h1 with h1 | ⟨z1, z2⟩
          · have : i < (merge μ (cellsOf ss) μ').length := by rw [← c2.len]; exact (List.getElem?_eq_some_iff.mp h1).1
            rw [List.getElem?_append_left this] at h2
            exact (c2.ok i a cl h1 h2).mono (List.prefix_append _ _) (LeZ.refl _) rfl
          · subst z2
            rw [z1, c2.len, List.getElem?_append_right (Nat.le_refl _)] at h2
            simp at h2
            subst h2
            exact (c'.ok j a _ hb gcell).flat (fl3 _ (by simp))
        · rcases List.mem_append.mp ha with z | z
          · exact .inl z
          · simp at z; subst z; exact .inr fresh
def xUser (p : PSp) (t : TXA) : TX := fun x ρ μ Q => t x ρ μ fun ss μ1 => callP p x ss μ1 Q
theorem px_call {k : Nat} {f : Addr} {fd : FuncData} {ps : List Str} {p : PSp} (tk : Takes X W) (F : FnOk X.prog X.w X.K X.mg X.base (L2.CX X.prog X.w) k f fd ps (low X.K p)) (hr : Room k X.A) (hg : Gl X x) (hm : X.mg x = some (.ref f)) (hk : PySem.W.keepIn X.K (.ref f) = true)
    (hb : Binds X.K fd ps []) (ha : PXA X W (e :: es) tL) (hdb : (x == ("__debug__" : Str)) = false := by decide) (he : starEach (e :: es) X.env = (false, eval e X.env) :: starEach es X.env := by rfl) (hpl : (backTo pos (starEach es X.env)).any (·.1) = false := by rfl) :
    PX X W (.Call (.Name x ppos) (e :: es) [] pos) (xUser p tL) := by
  refine ⟨(pe_call F hr hg hm hk hb .nil (E := fun cls d H' => ∀ σ, W cls d σ H') (passes_call tk fun _ _ σ _ h => h σ) ha.pa hdb he hpl).imp fun σ H Q h => ?_⟩
  obtain ⟨A, ρ, μ, G, Qp, xp, S, ht, hx, k⟩ := h
  refine ⟨A, ρ, μ, G, _, xp, S, ht, hx, fun ss μ1 A1 G1 H1 vs q c1 s1 r1 => ?_⟩
  show low X.K p (vs ++ []) H1 Q _
  rw [List.append_nil]
  exact call_low q c1 r1 (hx.after s1) fun r μ' A' G' H' v q3 c3 s3 r3 => k r μ' A' G' H' v q3 c3 (s1.trans s3) r3
end
end PL
namespace PL
open PySem PySem.Spec PyProof.Rows L2
def permG {α : Type} (z : α) (perm : List Nat) (us ws : List α) : List α := perm.map fun i => (us ++ ws).getD i z
theorem permG_rel {perm : List Nat} {vs : List V} {us : List Value} {zs : List V} {ws : List Value} (r1 : Vals vs us) (r2 : Vals zs ws) : Vals (permG .non perm vs zs) (permG Value.none perm us ws) := by
  have r := r1.append r2
  unfold permG
  induction perm with
  | nil => exact .nil
  | cons i perm ih =>
    refine .cons ?_ ih
    show RelV ((vs ++ zs).getD i .non) ((us ++ ws).getD i Value.none)
    rw [List.getD_eq_getElem?_getD, List.getD_eq_getElem?_getD]
    cases e : (vs ++ zs)[i]? with
    | none => rw [r.none_of e]; rfl
    | some x =>
      obtain ⟨u, h1, h2⟩ := r.get e
      rw [h1]; exact h2
theorem kbn_of {K : PySem.W.Frag} {x qual : Str} {params : Arguments} {body : List Stmt} {scope : Scope} {kws : List (Str × V)} {f : Addr} {fd : FuncData} {ps : List Str} (F : FunD K x qual params body scope [] kws f fd) (n : Nat) (ks : List Str) (perm : List Nat)
    (h : ∀ (kV doc pm : Value) (an : Option Addr) (cdv ct : Value) (us ws : List Value), us.length = n → ws.length = ks.length → bindArgs (PySem.W.fnOf x qual params body scope .none kV doc pm an cdv ct) ⟨us, ks.zip ws⟩ = pure (ps.zip (permG Value.none perm us ws))) :
    KBn K fd ps n ks (permG Value.none perm) (permG .non perm) := by
  obtain ⟨oc, od, dV, kV, doc, pm, an, cdv, ct, osl, rfl, lk, hcd, hD, hK⟩ := F.ex
  rcases hD with ⟨_, rfl⟩ | ⟨e, _⟩
  · exact ⟨fun s us ws _ h1 h2 => .of_eq (h kV doc pm an cdv ct us ws h1 h2), fun r1 r2 => permG_rel r1 r2⟩
  · exact absurd rfl e
structure PXK (X : Cx) (W : WX) (kws : List Keyword) (t : TXA) : Prop where
  pk : PK X kws (liftA X.K W t)
theorem _root_.L2.PK.imp {X : Cx} {e : List Keyword} {t t' : TA} (h : PK X e t) (i : ∀ σ H Q, t' σ H Q → t σ H Q) : PK X e t' := ⟨fun pos pins s σ H Q I q => h.run pos pins s σ H Q I (i _ _ _ q)⟩
section
variable {X : Cx} {W : WX} {a b c e o : Expr} {es : List Expr} {kws : List Keyword} {ta tb tc te to : TX} {tL tK : TXA} {pos ppos kpos apos cpos : Pos} {x : Str} {nm : Option Str}
theorem pxk_nil : PXK X W [] xNil := by
  refine ⟨pk_nil.imp fun σ H Q h => ?_⟩
  obtain ⟨A, ρ, μ, G, Qp, xp, S, ht, hx, k⟩ := h
  exact k _ _ _ _ _ _ ht S.toCells .refl .nil
theorem pxk_cons (ha : PX X W e ta) (hr : PXK X W kws tL) : PXK X W (⟨nm, e, kpos⟩ :: kws) (xCons ta tL) := by
  refine ⟨(pk_cons ha.pe hr.pk).imp fun σ H Q h => ?_⟩
  obtain ⟨A, ρ, μ, G, Qp, xp, S, ht, hx, k⟩ := h
  refine ⟨A, ρ, μ, G, _, xp, S, ht, hx, fun r μ' A' G' H' v q c s rr => ?_⟩
  exact ⟨A', ρ, μ', G', _, xp, S.after s c, q, hx.after s, fun rs μ2 A2 G2 H2 vs q2 c2 s2 rr2 => k _ _ _ _ _ _ q2 c2 (s.trans s2) (.cons (rr.mono s2.pre s2.le) rr2)⟩
theorem RepsS.app {K : PySem.W.Frag} {A : List Addr} {G : Hp} : ∀ {ds es : List SV} {vs us : List V}, RepsS K A G ds vs → RepsS K A G es us → RepsS K A G (ds ++ es) (vs ++ us)
  | _, _, _, _, .nil, t => t
  | _, _, _, _, .cons r s, t => .cons r (RepsS.app s t)
theorem RepsS.at {K : PySem.W.Frag} {A : List Addr} {G : Hp} : ∀ {ds : List SV} {vs : List V} (i : Nat), RepsS K A G ds vs → RepS K A G (ds.getD i .un) (vs.getD i .non)
  | _, _, _, .nil => by simp; trivial
  | _, _, 0, .cons r _ => by simpa using r
  | _, _, i + 1, .cons _ t => by simpa using RepsS.at i t
theorem permG_reps {K : PySem.W.Frag} {A : List Addr} {G : Hp} {ds es : List SV} {vs us : List V} (r1 : RepsS K A G ds vs) (r2 : RepsS K A G es us) : ∀ perm : List Nat, RepsS K A G (permG .un perm ds es) (permG .non perm vs us)
  | [] => .nil
  | i :: perm => .cons (RepsS.at i (r1.app r2)) (permG_reps r1 r2 perm)
def xUserK (p : PSp) (n m : Nat) (perm : List Nat) (t tk : TXA) : TX := fun x ρ μ Q => t x ρ μ fun ss μ1 => tk x ρ μ1 fun zs μ2 => (ss.length = n ∧ zs.length = m) ∧ callP p x (permG .un perm ss zs) μ2 Q
/-- f(k = v, ..) -/
theorem px_callKw0 {k : Nat} {f : Addr} {fd : FuncData} {ps ks : List Str} {p : PSp} {perm : List Nat} (tk : Takes X W) (F : FnOk X.prog X.w X.K X.mg X.base (L2.CX X.prog X.w) k f fd ps (low X.K p)) (hr : Room k X.A) (hg : Gl X x) (hm : X.mg x = some (.ref f)) (hk : PySem.W.keepIn X.K (.ref f) = true)
    (hb : KBn X.K fd ps 0 ks (permG Value.none perm) (permG .non perm)) (hkw : PXK X W kws tK) (hall : (backToKw pos (keywordEach kws X.env)).all (·.1.isSome) = true := by rfl) (hks : (backToKw pos (keywordEach kws X.env)).filterMap (·.1) = ks := by rfl)
    (hdb : (x == ("__debug__" : Str)) = false := by decide)
    (hpl : ((backTo pos (starEach [] X.env)).any (·.1) || (backToKw pos (keywordEach kws X.env)).any (·.1.isNone)) = false := by rfl) : PX X W (.Call (.Name x ppos) [] kws pos) (xUserK p 0 ks.length perm xNil tK) := by
  refine ⟨⟨fun pins s σ H Q I h => ?_⟩⟩
  obtain ⟨A, ρ, μ, G, Qp, xp, S, ht, hx, k⟩ := h
  refine wpAny_Call_Name_kw (ld_glob I hg hm ?_ hdb)
  refine PySem.W.callWith_KW0 (h₀ := X.base) I.ok.mod.kin hk hall ?_ hpl
  refine thn (hkw.pk.run pos pins s σ H (fun us H2 => us.length = ks.length ∧ low X.K p (permG .non perm [] us) H2 Q (fun cls d H' => ∀ σ, W cls d σ H')) I ?_) fun ws s2 ⟨zs, H2, I2, rz, l2, q2⟩ => ⟨I2.kIn, ?_⟩
  · refine ⟨A, ρ, μ, G, _, xp, S, ht, hx, fun zs μ2 A2 G2 H2 us q2 c2 s2 r2 => ?_⟩
    obtain ⟨⟨l1, l2⟩, q2⟩ := q2
    refine ⟨by rw [← r2.length]; exact l2, ?_⟩
    exact call_low q2 c2 (permG_reps .nil r2 perm) (hx.after s2) fun r μ' A' G' H' v q3 c3 s3 r3 => k r μ' A' G' H' v q3 c3 (s2.trans s3) r3
  · rw [hks]
    exact run_fnN (us := []) (vs := []) F hr hb (passes_call tk fun _ _ σ _ h => h σ) I2 .nil rz rfl l2 q2

/-- the def at f keeps p -/
structure HeldP (P : Program) (w : World) (K : PySem.W.Frag) (mg : Str → Option Value) (base : Heap) (k : Nat) (f : Addr) (p : PSp) : Prop where
  ex : ∃ (fd : FuncData) (ps : List Str), FnOk P w K mg base (L2.CX P w) k f fd ps (low K p) ∧ PySem.W.keepIn K (.ref f) = true ∧ Binds K fd ps []
def xLocal (i : Nat) (T : Str → Option PSp) (t : TXA) : TX := fun x ρ μ Q => i < ρ.n ∧ match ρ.f i with
  | .d (.fn f) => on (T f) fun p => t x ρ μ fun ss μ1 => callP p x ss μ1 Q
  | _ => False
theorem px_local {i k : Nat} {T : Str → Option PSp} (tk : Takes X W) (hT : ∀ f p, T f = some p → HeldP X.prog X.w X.K X.mg X.base k (He.ga X.K f) p) (hr : Room k X.A) (hN : X.N[i]? = some x) (hv : Vis X.env.scope x) (ha : PXA X W (e :: es) tL)
    (hdb : (x == ("__debug__" : Str)) = false := by decide) (hcd : (x == ("__classdict__" : Str)) = false := by decide)
    (he : starEach (e :: es) X.env = (false, eval e X.env) :: starEach es X.env := by rfl) (hpl : (backTo pos (starEach es X.env)).any (·.1) = false := by rfl) : PX X W (.Call (.Name x ppos) (e :: es) [] pos) (xLocal i T tL) := by
  refine ⟨⟨fun pins s σ H Q I h => ?_⟩⟩
  obtain ⟨A, ρ, μ, G, Qp, xp, S, ht, hx, k⟩ := h
  obtain ⟨hn, ht⟩ := ht
  obtain ⟨o, e2, so⟩ := S.at_ i hn
  split at ht
  · rename_i f e1
    obtain ⟨p, hp, ht⟩ := on_of ht
    obtain ⟨fd, ps, F, hk, hb⟩ := (hT f p hp).ex
    rw [e1] at so
    obtain ⟨v, rfl, r⟩ := so
    cases r
    refine (pe_callL (i := i) F hr hN hv hk hb .nil (E := fun cls d H' => ∀ σ, W cls d σ H') (passes_call tk fun _ _ σ _ h => h σ) ha.pa hdb hcd he hpl).run pins s σ H Q I ⟨e2, ?_⟩
    refine ⟨A, ρ, μ, G, _, xp, S, ht, hx, fun ss μ1 A1 G1 H1 vs q c1 s1 r1 => ?_⟩
    show low X.K p (vs ++ []) H1 Q _
    rw [List.append_nil]
    exact call_low q c1 r1 (hx.after s1) fun r μ' A' G' H' v q3 c3 s3 r3 => k r μ' A' G' H' v q3 c3 (s1.trans s3) r3
  · exact ht.elim

def PMt (K : PySem.W.Frag) (r : V → List V → Hp → VK → Prop) (P : SV → List SV → Mem → VP → Prop) : Prop := ∀ (so : SV) (ss : List SV) (μ : Mem) (A : List Addr) (G H : Hp) (v : V) (vs : List V) (Qp : VP) (Q : VK), P so ss μ Qp → Cells K A μ G H → RepS K A G so v → RepsS K A G ss vs →
  (∀ r μ' A' G' H' v, Qp r μ' → Cells K A' μ' G' H' → Step A G H A' G' H' → RepS K A' G' r v → Q v H') → r v vs H Q
def xMeth (P : SV → List SV → Mem → VP → Prop) (to : TX) (t : TXA) : TX := fun x ρ μ Q => to x ρ μ fun so μ1 => (lstOf so μ1).isSome = true ∧ t x ρ μ1 fun ss μ2 => P so ss μ2 Q
theorem px_lmeth {name : Str} {id : String} {r : V → List V → Hp → VK → Prop} {P : SV → List SV → Mem → VP → Prop} (slot : Slot "list" name id) (hty : typeOf (.builtin id) = pure (.type "method_descriptor")) (hm : MtR X id r) (hp : PMt X.K r P) (ho : PX X W o to) (ha : PXA X W (e :: es) tL)
    (hbase : attributeBase o name X.env (eval o X.env) = eval o X.env := by rfl)
    (hfew : ((backTo cpos (starEach (e :: es) X.env)).all (fun x => !x.1) && (backToKw cpos (keywordEach [] X.env)).all (fun x => x.1.isSome)
      && decide ((e :: es).length + ([] : List Keyword).length + (if ([] : List Keyword).isEmpty then 0 else 1) < 30)) = true := by rfl)
    (hline : (apos.endLine == cpos.line) = true := by rfl) (hs : starEach (e :: es) X.env = (false, eval e X.env) :: starEach es X.env := by rfl) (hplain : (backTo cpos (starEach es X.env)).any (·.1) = false := by rfl) :
    PX X W (.Call (.Attribute o name apos) (e :: es) [] cpos) (xMeth P to tL) := by
  refine ⟨(pe_bm PySem.F.plainAttrs_list slot hty hm ho.pe ha.pa hbase hfew hline hs hplain).imp fun σ H Q h => ?_⟩
  obtain ⟨A, ρ, μ, G, Qp, xp, S, ht, hx, k⟩ := h
  refine ⟨A, ρ, μ, G, _, xp, S, ht, hx, fun so μ1 A1 G1 H1 v q c1 s1 r1 => ?_⟩
  obtain ⟨hl, q⟩ := q
  obtain ⟨l, hl⟩ := Option.isSome_iff_exists.mp hl
  obtain ⟨a, us, rfl, h1, h2⟩ := lstOf_rep hl c1 r1
  refine ⟨Or.inl ⟨rfl, _, SqL.of h1⟩, A1, ρ, μ1, G1, _, xp, S.after s1 c1, q, hx.after s1, fun ss μ2 A2 G2 H2 vs q2 c2 s2 r2 => ?_⟩
  exact hp so ss μ2 A2 G2 H2 _ vs Qp Q q2 c2 (r1.mono s2.pre s2.le) r2 fun r μ' A' G' H' v q3 c3 s3 r3 => k r μ' A' G' H' v q3 c3 ((s1.trans s2).trans s3) r3
/-- l.append(x) -/
def pAppend : SV → List SV → Mem → VP → Prop := fun so ss μ Q => match so, ss with
  | .c k, [.d y] => match μ[k]? with
    | some (.lst l) => l.length < sizeLine ∧ Q (.d .non) (μ.set k (.lst (l ++ [y])))
    | _ => False
  | _, _ => False
theorem pmt_append {K : PySem.W.Frag} : PMt K rAppend pAppend := by
  intro so ss μ A G H v vs Qp Q h c ro rs k
  match so, ss, h, ro, rs with
  | .c kk, [.d y], h, ro, .cons r .nil =>
    obtain ⟨a, ha, rfl⟩ := ro
    simp only [pAppend] at h
    split at h
    · rename_i l hk
      obtain ⟨hz, h⟩ := h
      obtain ⟨us, h1, h2⟩ := c.ok _ _ _ ha hk
      refine ⟨a, us, _, rfl, rfl, h1, by rw [← h2.length]; exact hz, ?_⟩
      obtain ⟨c3, s3⟩ := c.write (o := .lst (us ++ [_])) (cl := .lst (l ++ [y])) ha ⟨_, upd_same, h2.app (.cons r .nil)⟩
      exact k _ _ _ _ _ _ h c3 s3 .non
    · exact h.elim
theorem px_append (ho : PX X W o to) (ha : PXA X W [e] tL) (hbase : attributeBase o "append" X.env (eval o X.env) = eval o X.env := by rfl)
    (hfew : ((backTo cpos (starEach [e] X.env)).all (fun x => !x.1) && (backToKw cpos (keywordEach [] X.env)).all (fun x => x.1.isSome)
      && decide ([e].length + ([] : List Keyword).length + (if ([] : List Keyword).isEmpty then 0 else 1) < 30)) = true := by rfl)
    (hline : (apos.endLine == cpos.line) = true := by rfl) (hs : starEach [e] X.env = (false, eval e X.env) :: starEach [] X.env := by rfl) : PX X W (.Call (.Attribute o "append" apos) [e] [] cpos) (xMeth pAppend to tL) :=
  px_lmeth PySem.F.slot_list_append PySem.F.type_list_append mt_append pmt_append ho ha hbase hfew hline hs rfl
/-- l.extend(m) -/
def pExtend : SV → List SV → Mem → VP → Prop := fun so ss μ Q => match so, ss with
  | .c k, [s] => match μ[k]? with
    | some (.lst l) => on (lstOf s μ) fun m => l.length + m.length ≤ sizeLine ∧ Q (.d .non) (μ.set k (.lst (l ++ m)))
    | _ => False
  | _, _ => False
theorem pmt_extend {K : PySem.W.Frag} : PMt K rExtend pExtend := by
  intro so ss μ A G H v vs Qp Q h c ro rs k
  match so, ss, h, ro, rs with
  | .c kk, [s], h, ro, .cons r .nil =>
    obtain ⟨a, ha, rfl⟩ := ro
    simp only [pExtend] at h
    split at h
    · rename_i l hk
      obtain ⟨m, hm, hz, h⟩ := on_of h
      obtain ⟨us, h1, h2⟩ := c.ok _ _ _ ha hk
      obtain ⟨b, ws, rfl, h3, h4⟩ := lstOf_rep hm c r
      refine ⟨a, b, us, ws, rfl, rfl, h1, h3, by rw [← h2.length, ← h4.length]; exact hz, ?_⟩
      obtain ⟨c3, s3⟩ := c.write (o := .lst (us ++ ws)) (cl := .lst (l ++ m)) ha ⟨_, upd_same, h2.app h4⟩
      exact k _ _ _ _ _ _ h c3 s3 .non
    · exact h.elim
theorem px_extend (ho : PX X W o to) (ha : PXA X W [e] tL) (hbase : attributeBase o "extend" X.env (eval o X.env) = eval o X.env := by rfl)
    (hfew : ((backTo cpos (starEach [e] X.env)).all (fun x => !x.1) && (backToKw cpos (keywordEach [] X.env)).all (fun x => x.1.isSome)
      && decide ([e].length + ([] : List Keyword).length + (if ([] : List Keyword).isEmpty then 0 else 1) < 30)) = true := by rfl)
    (hline : (apos.endLine == cpos.line) = true := by rfl) (hs : starEach [e] X.env = (false, eval e X.env) :: starEach [] X.env := by rfl) : PX X W (.Call (.Attribute o "extend" apos) [e] [] cpos) (xMeth pExtend to tL) :=
  px_lmeth PySem.F.slot_list_extend PySem.F.type_list_extend mt_extend pmt_extend ho ha hbase hfew hline hs rfl

end
end PL
namespace PL
open PySem PySem.Spec PyProof.Rows L2
def keyOf : D → Option Key
  | .int i => some (.inl i)
  | .str x => some (.inr x)
  | _ => none
def keysOf : List D → Option (List Key)
  | [] => some []
  | d :: ds => match keyOf d, keysOf ds with
    | some k, some ks => some (k :: ks)
    | _, _ => none
theorem keyOf_eq {d : D} {k : Key} (h : keyOf d = some k) : d = keyD k := by
  cases d <;> simp [keyOf] at h
  all_goals subst h; rfl
theorem keysOf_eq : ∀ {l : List D} {ks : List Key}, keysOf l = some ks → l = ks.map keyD
  | [], ks, h => by simp [keysOf] at h; subst h; rfl
  | d :: ds, ks, h => by
    unfold keysOf at h
    split at h
    · rename_i k ks' h1 h2
      cases h
      rw [keyOf_eq h1, keysOf_eq h2]; rfl
    · cases h
theorem keyD_inj {a b : Key} (h : keyD a = keyD b) : a = b := by
  cases a <;> cases b <;> simp [keyD] at h
  all_goals rw [h]
theorem keysD_inj : ∀ {a b : List Key}, a.map keyD = b.map keyD → a = b
  | [], [], _ => rfl
  | [], _ :: _, h => by simp at h
  | _ :: _, [], h => by simp at h
  | x :: a, y :: b, h => by
    simp only [List.map_cons, List.cons.injEq] at h
    rw [keyD_inj h.1, keysD_inj h.2]
theorem keyD_rep {K : PySem.W.Frag} {G : Hp} (k : Key) : Rep K G (keyD k) (kV k) := by
  cases k with
  | inl i => exact .int i
  | inr x => exact .str x
theorem keyD_reps {K : PySem.W.Frag} {G : Hp} : ∀ ks : List Key, Reps K G (ks.map keyD) (ks.map kV)
  | [] => .nil
  | k :: ks => .cons (keyD_rep k) (keyD_reps ks)
theorem keyD_val {K : PySem.W.Frag} {G : Hp} {k : Key} {v : V} (r : Rep K G (keyD k) v) : v = kV k := by
  cases k with
  | inl i => cases r; rfl
  | inr x => cases r; rfl
theorem keysD_vals {K : PySem.W.Frag} {G : Hp} : ∀ {ks : List Key} {vs : List V}, Reps K G (ks.map keyD) vs → vs = ks.map kV
  | [], _, .nil => rfl
  | k :: ks, _, .cons h t => by rw [keyD_val h, keysD_vals t]; rfl

open Classical in
noncomputable def findD : List D → List D → D → Option D
  | k :: ks, v :: vs, x => if k = x then some v else findD ks vs x
  | _, _, _ => none
open Classical in
noncomputable def putKs (ks : List D) (k : D) : List D := if k ∈ ks then ks else ks ++ [k]
open Classical in
noncomputable def putVs (ks vs : List D) (k v : D) : List D := if k ∈ ks then List.zipWith (fun k' v' => if k' = k then v else v') ks vs else vs ++ [v]
section
variable {κ : Type} [DecidableEq κ] {kd : κ → D} {K : PySem.W.Frag} {G : Hp}
theorem findD_rep (inj : ∀ a b, kd a = kd b → a = b) (k : κ) : ∀ {kvs : List (κ × V)} {vs : List D}, Reps K G vs (kvs.map Prod.snd) → (∀ v, valV kvs k = some v → ∃ d, findD (kvs.map fun p => kd p.1) vs (kd k) = some d ∧ Rep K G d v) ∧ (valV kvs k = none → findD (kvs.map fun p => kd p.1) vs (kd k) = none)
  | [], _, .nil => ⟨fun v h => (by cases h), fun _ => rfl⟩
  | p :: kvs, _, .cons r t => by
    obtain ⟨h1, h2⟩ := findD_rep inj k t
    by_cases e : p.1 = k
    · rw [valV_pos e]
      refine ⟨fun v h => ?_, fun h => by cases h⟩
      cases h
      exact ⟨_, by simp only [List.map_cons, findD]; rw [if_pos (by rw [e])], r⟩
    · have e' : ¬ kd p.1 = kd k := fun z => e (inj _ _ z)
      rw [valV_neg e]
      refine ⟨fun v h => ?_, fun h => ?_⟩
      · obtain ⟨d, q, r'⟩ := h1 v h
        exact ⟨d, by simp only [List.map_cons, findD]; rw [if_neg e']; exact q, r'⟩
      · simp only [List.map_cons, findD]; rw [if_neg e']; exact h2 h
theorem any_mem (inj : ∀ a b, kd a = kd b → a = b) (k : κ) (kvs : List (κ × V)) : (kvs.any fun kv => decide (kv.1 = k)) = true ↔ kd k ∈ kvs.map fun p => kd p.1 := by
  rw [List.any_eq_true, List.mem_map]
  constructor
  · rintro ⟨p, hp, e⟩
    exact ⟨p, hp, by rw [of_decide_eq_true e]⟩
  · rintro ⟨p, hp, e⟩
    exact ⟨p, hp, decide_eq_true (inj _ _ e)⟩
theorem put_keys (inj : ∀ a b, kd a = kd b → a = b) (kvs : List (κ × V)) (k : κ) (v : V) : (putK kvs k v).map (fun p => kd p.1) = putKs (kvs.map fun p => kd p.1) (kd k) := by
  unfold putK putKs
  by_cases h : (kvs.any fun kv => decide (kv.1 = k)) = true
  · rw [if_pos h, if_pos ((any_mem inj k kvs).mp h), List.map_map]
    refine List.map_congr_left fun p _ => ?_
    show kd (if p.1 = k then (p.1, v) else p).1 = kd p.1
    split <;> rfl
  · rw [if_neg h, if_neg (fun z => h ((any_mem inj k kvs).mpr z)), List.map_append]
    rfl
theorem put_vals (inj : ∀ a b, kd a = kd b → a = b) {kvs : List (κ × V)} {vs : List D} (r : Reps K G vs (kvs.map Prod.snd)) (k : κ) {d : D} {v : V} (rv : Rep K G d v) : Reps K G (putVs (kvs.map fun p => kd p.1) vs (kd k) d) ((putK kvs k v).map Prod.snd) := by
  unfold putK putVs
  by_cases h : (kvs.any fun kv => decide (kv.1 = k)) = true
  · rw [if_pos h, if_pos ((any_mem inj k kvs).mp h)]
    clear h
    induction kvs generalizing vs with
    | nil => cases r; exact .nil
    | cons p kvs ih =>
      cases r with
      | cons r t =>
        refine .cons ?_ (ih t)
        show Rep K G (@ite D (kd p.1 = kd k) (Classical.propDecidable _) d _) (if p.1 = k then (p.1, v) else p).2
        by_cases e : p.1 = k
        · rw [if_pos e, if_pos (by rw [e])]; exact rv
        · rw [if_neg e, if_neg (fun z => e (inj _ _ z))]; exact r
  · rw [if_neg h, if_neg (fun z => h ((any_mem inj k kvs).mpr z)), List.map_append]
    exact r.app (.cons rv .nil)
end

/-- what is read as a dict: whether its keys are tuples, its keys, its values -/
def dicOf (s : SV) (μ : Mem) : Option (Bool × List D × List D) := match s with
  | .d (.dic t ks vs) => some (t, ks, vs)
  | .c k => match μ[k]? with
    | some (.dK ks vs) => some (false, ks, vs)
    | some (.dT ks vs) => some (true, ks, vs)
    | _ => none
  | _ => none
def DicAt (K : PySem.W.Frag) (G H : Hp) (a : Addr) : Bool × List D × List D → Prop
  | (false, ks, vs) => ∃ kvs : List (Key × V), Rd H a (.dK kvs) ∧ ks = kvs.map (fun p => keyD p.1) ∧ Reps K G vs (kvs.map Prod.snd)
  | (true, ks, vs) => ∃ kvs : List (List Key × V), Rd H a (.dT kvs) ∧ ks = kvs.map (fun p => .tup (p.1.map keyD)) ∧ Reps K G vs (kvs.map Prod.snd)
theorem dicOf_rep {K : PySem.W.Frag} {A : List Addr} {μ : Mem} {G H : Hp} {s : SV} {v : V} {z : Bool × List D × List D} (e : dicOf s μ = some z) (c : Cells K A μ G H) (r : RepS K A G s v) : ∃ a, v = .ref a ∧ DicAt K G H a z := by
  unfold dicOf at e
  split at e
  · cases e
    cases r with
    | dicK h k hs => exact ⟨_, rfl, _, c.le.rd h, k, hs⟩
    | dicT h k hs => exact ⟨_, rfl, _, c.le.rd h, k, hs⟩
  · obtain ⟨a, ha, rfl⟩ := r
    split at e
    · rename_i hk
      cases e
      obtain ⟨kvs, h1, h2, h3⟩ := c.ok _ _ _ ha hk
      exact ⟨a, rfl, kvs, .inl h1, h2, h3⟩
    · rename_i hk
      cases e
      obtain ⟨kvs, h1, h2, h3⟩ := c.ok _ _ _ ha hk
      exact ⟨a, rfl, kvs, .inl h1, h2, h3⟩
    · cases e
  · cases e
/-- the key is of the sort: ints, texts for the one sort of dicts, tuples of such for the other one -/
def fitK : Bool → D → Bool
  | false, .int _ => true
  | false, .str _ => true
  | true, .tup l => (keysOf l).isSome
  | _, _ => false
theorem tupKey_inj {a b : List Key} (h : (D.tup (a.map keyD)) = .tup (b.map keyD)) : a = b := keysD_inj (by injection h)
theorem fitF {k : D} (h : fitK false k = true) : ∃ k', k = keyD k' := by
  cases k <;> simp [fitK] at h
  · exact ⟨.inl _, rfl⟩
  · exact ⟨.inr _, rfl⟩
theorem fitT {k : D} (h : fitK true k = true) : ∃ ks : List Key, k = .tup (ks.map keyD) := by
  cases k <;> simp [fitK] at h
  obtain ⟨ks, e⟩ := Option.isSome_iff_exists.mp h
  exact ⟨ks, by rw [keysOf_eq e]⟩
theorem tupKey_val {K : PySem.W.Frag} {G H : Hp} {ks : List Key} {v : V} (le : Le G H) (r : Rep K G (.tup (ks.map keyD)) v) : ∃ b, v = .ref b ∧ H b = some (.tup (ks.map kV)) := by
  cases r with
  | tup h hs => rw [keysD_vals hs] at h; exact ⟨_, rfl, le _ _ h⟩
/-- what a dict holds at a key -/
theorem dget_of {K : PySem.W.Frag} {A : List Addr} {μ : Mem} {G H : Hp} {sd : SV} {vd vk : V} {t : Bool} {ks vs : List D} {k : D} (c : Cells K A μ G H) (e : dicOf sd μ = some (t, ks, vs)) (rd : RepS K A G sd vd) (rk : Rep K G k vk) (hf : fitK t k = true) :
    ∃ a o, vd = .ref a ∧ DGet H a vk o ∧ (∀ v, o = some v → ∃ d, findD ks vs k = some d ∧ Rep K G d v) ∧ (o = none → findD ks vs k = none) := by
  obtain ⟨a, rfl, h⟩ := dicOf_rep e c rd
  cases t with
  | false =>
    obtain ⟨kvs, h1, rfl, h3⟩ := h
    obtain ⟨k', rfl⟩ := fitF hf
    obtain rfl := keyD_val rk
    obtain ⟨q1, q2⟩ := findD_rep (kd := keyD) (fun _ _ z => keyD_inj z) k' h3
    exact ⟨a, _, rfl, .inl ⟨kvs, k', h1, rfl, rfl⟩, fun v hv => q1 v hv, q2⟩
  | true =>
    obtain ⟨kvs, h1, rfl, h3⟩ := h
    obtain ⟨k', rfl⟩ := fitT hf
    obtain ⟨b, rfl, hb⟩ := tupKey_val c.le rk
    obtain ⟨q1, q2⟩ := findD_rep (kd := fun ks : List Key => D.tup (ks.map keyD)) (fun _ _ z => tupKey_inj z) k' h3
    exact ⟨a, _, rfl, .inr ⟨kvs, k', b, h1, rfl, hb, rfl⟩, fun v hv => q1 v hv, q2⟩
def pDGet : SV → SV → Mem → VP → Prop := fun sd sk μ Q => match sk with
  | .d k => on (dicOf sd μ) fun z => fitK z.1 k = true ∧ on (findD z.2.1 z.2.2 k) fun d => Q (.d d) μ
  | _ => False
def rDGet : R2 := fun x y H Q => ∃ a v, x = .ref a ∧ DGet H a y (some v) ∧ Q v H
theorem pop_dget {K : PySem.W.Frag} : POp K rDGet pDGet := by
  intro sa sb μ A G H va vb Qp Q h c ra rb k
  match sb, h, rb with
  | .d key, h, rb =>
    obtain ⟨⟨t, ks, vs⟩, e, hf, h⟩ := on_of h
    obtain ⟨d, hd, q⟩ := on_of h
    obtain ⟨a, o, rfl, g, h1, h2⟩ := dget_of c e ra rb hf
    cases o with
    | none => rw [h2 rfl] at hd; cases hd
    | some v =>
      obtain ⟨d', e1, r⟩ := h1 v rfl
      have e2 : d' = d := Option.some.inj (e1.symm.trans hd)
      subst e2
      exact ⟨a, v, rfl, g, k _ _ _ _ _ _ q c .refl r⟩
def pDIn (neg : Bool) : SV → SV → Mem → VP → Prop := fun sk sd μ Q => match sk with
  | .d k => on (dicOf sd μ) fun z => fitK z.1 k = true ∧ Q (.d (.bl (if neg = true then !(findD z.2.1 z.2.2 k).isSome else (findD z.2.1 z.2.2 k).isSome))) μ
  | _ => False
def rDIn (neg : Bool) : R2 := fun y x H Q => ∃ a o, x = .ref a ∧ DGet H a y o ∧ Q (.bl (if neg = true then !o.isSome else o.isSome)) H
theorem pop_din {K : PySem.W.Frag} {neg : Bool} : POp K (rDIn neg) (pDIn neg) := by
  intro sb sa μ A G H vb va Qp Q h c rb ra k
  match sb, h, rb with
  | .d key, h, rb =>
    obtain ⟨⟨t, ks, vs⟩, e, hf, h⟩ := on_of h
    obtain ⟨a, o, rfl, g, h1, h2⟩ := dget_of c e ra rb hf
    refine ⟨a, o, rfl, g, k _ _ _ _ _ _ h c .refl ?_⟩
    have e2 : o.isSome = (findD ks vs key).isSome := by
      cases o with
      | none => rw [h2 rfl]; rfl
      | some v => obtain ⟨d', e1, _⟩ := h1 v rfl; rw [e1]; rfl
    rw [e2]; exact .bl _
section
variable {X : Cx} {W : WX} {a b c e o i : Expr} {ta tb tc te to ti : TX} {tL : TXA} {pos apos cpos pos' : Pos}
theorem op_or {f : Value → Value → Sem Value} {r1 r2 : R2} (h1 : OpR X f r1) (h2 : OpR X f r2) : OpR X f (fun x y H Q => r1 x y H Q ∨ r2 x y H Q) :=
  fun pins s σ H x y v u Q I rx ry h => h.elim (h1 pins s σ H x y v u Q I rx ry) (h2 pins s σ H x y v u Q I rx ry)
theorem op_dIn (hu : X.A.units + 1 < cLine) : OpR X (compareOp .In) (rDIn false) := by
  intro pins s σ H x y v u Q I rx ry ⟨a, o, e, g, q⟩
  subst e
  obtain rfl : u = Value.ref a := ry
  exact d_in hu I g rx fun s3 I3 => ⟨.bl o.isSome, H, I3, rfl, q⟩
theorem op_dNotIn (hu : X.A.units + 1 < cLine) : OpR X (compareOp .NotIn) (rDIn true) := by
  intro pins s σ H x y v u Q I rx ry ⟨a, o, e, g, q⟩
  subst e
  obtain rfl : u = Value.ref a := ry
  exact d_notIn hu I g rx fun s3 I3 => ⟨.bl (!o.isSome), H, I3, rfl, q⟩
theorem px_dget (hu : X.A.units + 1 < cLine) (ha : PX X W a ta) (hb : PX X W b tb) (hs : NoSl b := by intro _ _; rfl) : PX X W (.Subscript a b pos) (xOp pDGet ta tb) :=
  ⟨(pe_dget hu ha.pe hb.pe hs).imp fun _ _ _ h => lift_op pop_dget h⟩
/-- {} for keys that are ints and texts; tuples -/
def xNewK : TX := fun _ _ μ Q => Q (.c μ.length) (μ ++ [.dK [] []])
theorem px_newK : PX X W (.Dict [] [] pos) xNewK := by
  refine ⟨pe_dnewK.imp fun σ H Q h => ?_⟩
  obtain ⟨A, ρ, μ, G, Qp, xp, S, ht, hx, k⟩ := h
  intro p hp
  obtain ⟨c2, s2⟩ := S.toCells.cell (o := .dK []) (cl := .dK [] []) hp ⟨[], upd_same, rfl, .nil⟩
  exact k _ _ _ _ _ _ ht c2 s2 ⟨p, by rw [← S.len]; simp, rfl⟩
/-- d[k] = v, d a dict of one's own -/
def dputS (so si s : SV) (μ : Mem) (q : Mem → Prop) : Prop := match so, si, s with
  | .c k, .d key, .d v => match μ[k]? with
    | some (.dK ks vs) => (fitK false key = true ∧ ks.length < sizeLine) ∧ q (μ.set k (.dK (putKs ks key) (putVs ks vs key v)))
    | some (.dT ks vs) => (fitK true key = true ∧ ks.length < sizeLine) ∧ q (μ.set k (.dT (putKs ks key) (putVs ks vs key v)))
    | _ => False
  | _, _, _ => False
def xDPut (to ti te : TX) : TXS := fun E ρ μ => te E.ex ρ μ fun s μ1 => to E.ex ρ μ1 fun so μ2 => ti E.ex ρ μ2 fun si μ3 => dputS so si s μ3 fun μ4 => E.nx ρ μ4
theorem dput_of {K : PySem.W.Frag} {A : List Addr} {μ : Mem} {G H : Hp} {so si s : SV} {vo vi v : V} {q : Mem → Prop} (h : dputS so si s μ q) (c : Cells K A μ G H) (r1 : RepS K A G so vo) (r2 : RepS K A G si vi) (r : RepS K A G s v) :
    ∃ a H' μ', vo = .ref a ∧ DPut H a vi v H' ∧ q μ' ∧ Cells K A μ' G H' ∧ Step A G H A G H' := by
  match so, si, s, h, r1, r2, r with
  | .c kk, .d key, .d w, h, r1, r2, r =>
    obtain ⟨a, ha, rfl⟩ := r1
    simp only [dputS] at h
    split at h
    · rename_i ks vs hk
      obtain ⟨⟨hf, hz⟩, h⟩ := h
      obtain ⟨kvs, h1, rfl, h3⟩ := c.ok _ _ _ ha hk
      obtain ⟨k', rfl⟩ := fitF hf
      obtain rfl := keyD_val r2
      obtain ⟨c3, s3⟩ := c.write (o := .dK (putK kvs k' v)) (cl := .dK (putKs (kvs.map fun p => keyD p.1) (keyD k')) (putVs (kvs.map fun p => keyD p.1) vs (keyD k') w)) ha
        ⟨_, upd_same, (put_keys (kd := keyD) (fun _ _ z => keyD_inj z) kvs k' v).symm, put_vals (kd := keyD) (fun _ _ z => keyD_inj z) h3 k' r⟩
      exact ⟨a, _, _, rfl, .inl ⟨kvs, k', h1, rfl, by simpa using hz, rfl⟩, h, c3, s3⟩
    · rename_i ks vs hk
      obtain ⟨⟨hf, hz⟩, h⟩ := h
      obtain ⟨kvs, h1, rfl, h3⟩ := c.ok _ _ _ ha hk
      obtain ⟨k', rfl⟩ := fitT hf
      obtain ⟨b, rfl, hb⟩ := tupKey_val c.le r2
      obtain ⟨c3, s3⟩ := c.write (o := .dT (putK kvs k' v)) (cl := .dT (putKs (kvs.map fun p => .tup (p.1.map keyD)) (.tup (k'.map keyD))) (putVs (kvs.map fun p => .tup (p.1.map keyD)) vs (.tup (k'.map keyD)) w)) ha
        ⟨_, upd_same, (put_keys (kd := fun ks : List Key => D.tup (ks.map keyD)) (fun _ _ z => tupKey_inj z) kvs k' v).symm, put_vals (kd := fun ks : List Key => D.tup (ks.map keyD)) (fun _ _ z => tupKey_inj z) h3 k' r⟩
      exact ⟨a, _, _, rfl, .inr ⟨kvs, k', b, h1, rfl, hb, by simpa using hz, rfl⟩, h, c3, s3⟩
    · exact h.elim
theorem psx_dput (hu : X.A.units + 1 < cLine) (ho : PX X W o to) (hi : PX X W i ti) (he : PX X W e te) (hs : swapsWith e (some (.Subscript o i pos')) pos.line X.env = pure false := by rfl) : PXS X W (.Assign [.Subscript o i pos'] e pos) (xDPut to ti te) := by
  refine ⟨(ps_dput hu ho.pe hi.pe he.pe hs).imp fun D σ H h => ?_⟩
  obtain ⟨A, ρ, μ, G, E, S, ht, k⟩ := h
  refine ⟨A, ρ, μ, G, _, _, S, ht, k.ex, fun s μ1 A1 G1 H1 v q c1 s1 r1 => ?_⟩
  refine ⟨A1, ρ, μ1, G1, _, _, S.after s1 c1, q, k.ex.after s1, fun so μ2 A2 G2 H2 vo q2 c2 s2 r2 => ?_⟩
  have s12 := s1.trans s2
  refine ⟨A2, ρ, μ2, G2, _, _, S.after s12 c2, q2, k.ex.after s12, fun si μ3 A3 G3 H3 vi q3 c3 s3 r3 => ?_⟩
  have s13 := s12.trans s3
  have s23 := s2.trans s3
  obtain ⟨a, H', μ', rfl, g, q4, c4, s4⟩ := dput_of q3 c3 (r2.mono s3.pre s3.le) r3 (r1.mono s23.pre s23.le)
  exact ⟨a, H', rfl, g, k.nx _ _ _ _ _ _ q4 (S.after (s13.trans s4) c4) (s13.trans s4)⟩

theorem Cells.lockD {K : PySem.W.Frag} {A : List Addr} {μ : Mem} {G H : Hp} {d : Addr} {u : HO} {od : Obj} (c : Cells K A μ G H) (h : G d = some u) (hu : isDic u = true) : Cells K A μ (upd G d (.frz od u)) (upd H d (.frz od u)) ∧ Step A G H A (upd G d (.frz od u)) (upd H d (.frz od u)) := by
  have lg : LeZ G (upd G d (.frz od u)) := fun a o e => by
    by_cases z : a = d
    · subst z; rw [h] at e; cases e; exact .inr ⟨hu, od, upd_same⟩
    · exact .inl (by rw [upd_ne z]; exact e)
  have hH := c.le _ _ h
  have na : d ∉ A := fun z => by rw [c.free d z] at h; cases h
  refine ⟨⟨fun a o e => ?_, c.len, c.nd, fun a ha => ?_, fun k a cl e1 e2 => (c.ok k a cl e1 e2).mono (List.prefix_refl _) lg (upd_ne fun (z : a = d) => na (by rw [← z]; exact List.mem_of_getElem? e1))⟩, ⟨List.prefix_refl _, lg, fun a o e n => ?_, fun a e => ?_, fun a xs e => ?_, fun a ha => .inl ha, fun a e => ?_⟩⟩
  · by_cases z : a = d
    · subst z; rw [upd_same] at e ⊢; exact e
    · rw [upd_ne z] at e ⊢; exact c.le a o e
  · rw [upd_ne (fun (z : a = d) => na (by rw [← z]; exact ha))]; exact c.free a ha
  · by_cases z : a = d
    · subst z
      rw [hH] at e; cases e
      exact .inr ⟨h, hu, od, upd_same⟩
    · exact .inl (by rw [upd_ne z]; exact e)
  · by_cases z : a = d
    · subst z; exact .inl (by rw [h]; simp)
    · rw [upd_ne z] at e; exact .inl e
  · by_cases z : a = d
    · subst z; rw [upd_same] at e; cases e
    · rw [upd_ne z] at e; exact .inr e
  · by_cases z : a = d
    · subst z; rw [upd_same]; simp
    · rw [upd_ne z]; exact e
theorem yd_keys {K : PySem.W.Frag} {G : Hp} {d : Addr} {od : Obj} {kvs : List (Key × V)} (h : G d = some (.frz od (.dK kvs))) : Walk (Itk d od kvs) (kvs.map fun p => keyD p.1).length (fun H => LeZ G H) (YD K (kvs.map fun p => keyD p.1) G) := by
  rw [List.length_map]
  refine walk_keys.mono (fun H z => z.same h rfl) fun i H0 x H' hi _ y G2 g2 _ => ?_
  obtain ⟨rfl, k, v, e, rfl⟩ := y
  exact ⟨keyD k, by rw [List.getElem?_map, e]; rfl, .inl ⟨rfl, keyD_rep k⟩⟩
theorem yd_keysT {K : PySem.W.Frag} {G : Hp} {d : Addr} {od : Obj} {kvs : List (List Key × V)} (h : G d = some (.frz od (.dT kvs))) : Walk (Itkt d od kvs) (kvs.map fun p => D.tup (p.1.map keyD)).length (fun H => LeZ G H) (YD K (kvs.map fun p => D.tup (p.1.map keyD)) G) := by
  rw [List.length_map]
  refine walk_keysT.mono (fun H z => z.same h rfl) fun i H0 x H' hi _ y G2 g2 _ => ?_
  obtain ⟨rfl, k, v, q, e, rfl, hq⟩ := y
  exact ⟨.tup (k.map keyD), by rw [List.getElem?_map, e]; rfl, .inr (.inr ⟨q, _, k.map keyD, rfl, hq, rfl, rfl, keyD_reps k⟩)⟩
end
end PL
namespace PL
open PySem PySem.Spec PyProof.Rows L2
def optAll {α : Type} : List (Option α) → Option (List α)
  | [] => some []
  | some a :: r => (optAll r).map (a :: ·)
  | none :: _ => none
/-- what a value is from here on, its cells (all behind the first n0) data -/
def frzS (n0 : Nat) (μ : Mem) : Nat → SV → Option D
  | n, s => match s with
    | .d x => some x
    | .un => none
    | .c j => if n0 ≤ j then (match μ[j]? with
      | some (.lst l) => some (.lst l)
      | some (.dK ks vs) => some (.dic false ks vs)
      | some (.dT ks vs) => some (.dic true ks vs)
      | some (.ins C ns vs) => some (.obj C ns vs)
      | some (.dC ks is) => match n with
        | 0 => none
        | n + 1 => (optAll (is.map fun s => frzS n0 μ n s)).map (.dic true ks)
      | some (.inC C ns vs) => match n with
        | 0 => none
        | n + 1 => (optAll (vs.map fun s => frzS n0 μ n s)).map (.obj C ns)
      | some (.lsC vs) => match n with
        | 0 => none
        | n + 1 => (optAll (vs.map fun s => frzS n0 μ n s)).map .lst
      | some (.dN _ _) => none
      | none => none) else none
/-- a call of a def that promises p; what is made there is data here -/
def callPF (p : PSp) (x : XP) (ss : List SV) (μ : Mem) (Q : VP) : Prop := ndP (cellsOf ss) <| flP (picked μ (cellsOf ss)) <|
  p (fun C fs μ' => flP (μ'.take (cellsOf ss).length) (x C fs (merge μ (cellsOf ss) μ'))) (relab 0 ss) (picked μ (cellsOf ss)) fun r μ' => flP (μ'.take (cellsOf ss).length) <| match r with
    | .d d => Q (.d d) (merge μ (cellsOf ss) μ')
    | .c j => on (frzS (cellsOf ss).length μ' 3 (.c j)) fun d => Q (.d d) (merge μ (cellsOf ss) μ')
    | .un => False
/-- all cells of B are frozen -/
theorem Cells.frz {K : PySem.W.Frag} {A B : List Addr} {μ : Mem} {G H : Hp} (c : Cells K (A ++ B) μ G H) : ∃ G2, LeZ G G2 ∧ Le G2 H ∧ (∀ a, G2 a ≠ none → G a ≠ none ∨ a ∈ B) ∧ (∀ b ∈ B, G2 b = H b) ∧ ∀ b, b ∉ B → G2 b = G b := by
  classical
  refine ⟨fun a => if a ∈ B then H a else G a, fun a o e => .inl ?_, fun a o e => ?_, fun a e => ?_, fun b hb => if_pos hb, fun b hb => if_neg hb⟩
  · have : a ∉ B := fun z => by rw [c.free a (List.mem_append_right _ z)] at e; cases e
    exact (if_neg this).trans e
  · by_cases z : a ∈ B
    · exact (if_pos z).symm.trans e
    · exact c.le a o ((if_neg z).symm.trans e)
  · by_cases z : a ∈ B
    · exact .inr z
    · exact .inl fun w => e ((if_neg z).trans w)
theorem optAll_reps {K : PySem.W.Frag} {A : List Addr} {G G2 : Hp} {f : SV → Option D} : ∀ {ss : List SV} {vs : List V} {ds : List D}, optAll (ss.map f) = some ds → RepsS K A G ss vs → (∀ s v d, s ∈ ss → f s = some d → RepS K A G s v → Rep K G2 d v) → Reps K G2 ds vs
  | [], _, ds, e, .nil, _ => by simp [optAll] at e; subst e; exact .nil
  | s :: ss, _, ds, e, .cons r t, h => by
    rw [List.map_cons] at e
    cases e1 : f s with
    | none => rw [e1] at e; simp [optAll] at e
    | some d =>
      rw [e1] at e
      simp only [optAll, Option.map_eq_some_iff] at e
      obtain ⟨ds', e2, rfl⟩ := e
      exact .cons (h s _ d List.mem_cons_self e1 r) (optAll_reps e2 t fun s' v d hs => h s' v d (List.mem_cons_of_mem _ hs))
theorem frzS_rep {K : PySem.W.Frag} {A B : List Addr} {μ : Mem} {G G2 H : Hp} (c : Cells K (A ++ B) μ G H) (lg : LeZ G G2) (hB : ∀ b ∈ B, G2 b = H b) : ∀ (n : Nat) (s : SV) (v : V) (d : D), frzS A.length μ n s = some d → RepS K (A ++ B) G s v → Rep K G2 d v
  | n, .d x, v, d, e, r => by
    unfold frzS at e; cases e; exact Rep.mono lg r
  | n, .un, v, d, e, r => by unfold frzS at e; cases e
  | n, .c j, v, d, e, r => by
    obtain ⟨b, hb, rfl⟩ := r
    unfold frzS at e
    dsimp only at e
    split at e
    · rename_i hj
      have hbB : b ∈ B := by
        rw [List.getElem?_append_right hj] at hb
        exact List.mem_of_getElem? hb
      have hG := hB b hbB
      split at e
      · rename_i l hk
        obtain ⟨vs, h1, h2⟩ := c.ok _ _ _ hb hk
        cases e; exact .lst (hG.trans h1) (h2.mono lg)
      · rename_i ks vs hk
        obtain ⟨kvs, h1, h2, h3⟩ := c.ok _ _ _ hb hk
        cases e; exact .dicK (.inl (hG.trans h1)) h2 (h3.mono lg)
      · rename_i ks vs hk
        obtain ⟨kvs, h1, h2, h3⟩ := c.ok _ _ _ hb hk
        cases e; exact .dicT (.inl (hG.trans h1)) h2 (h3.mono lg)
      · rename_i C ns vs hk
        obtain ⟨dx, fs, h1, h2, h3⟩ := c.ok _ _ _ hb hk
        cases e; exact .obj (hG.trans h1) h2 (h3.mono lg)
      · rename_i ks is hk
        obtain ⟨kvs, h1, h2, h3⟩ := c.ok _ _ _ hb hk
        cases n with
        | zero => cases e
        | succ n =>
          simp only [Option.map_eq_some_iff] at e
          obtain ⟨ds, e1, rfl⟩ := e
          refine .dicT (.inl (hG.trans h1)) h2 (optAll_reps (f := frzS A.length μ n) e1 h3 fun s v d _ hs hr => frzS_rep c lg hB n s v d hs hr)
      · rename_i C ns vs hk
        obtain ⟨dx, fs, h1, h2, h3⟩ := c.ok _ _ _ hb hk
        cases n with
        | zero => cases e
        | succ n =>
          simp only [Option.map_eq_some_iff] at e
          obtain ⟨ds, e1, rfl⟩ := e
          exact .obj (hG.trans h1) h2 (optAll_reps (f := frzS A.length μ n) e1 h3 fun s v d _ hs hr => frzS_rep c lg hB n s v d hs hr)
      · rename_i vs hk
        obtain ⟨ws, h1, h3⟩ := c.ok _ _ _ hb hk
        cases n with
        | zero => cases e
        | succ n =>
          simp only [Option.map_eq_some_iff] at e
          obtain ⟨ds, e1, rfl⟩ := e
          exact .lst (hG.trans h1) (optAll_reps (f := frzS A.length μ n) e1 h3 fun s v d _ hs hr => frzS_rep c lg hB n s v d hs hr)
      · cases e
      · cases e
    · cases e
section
variable {X : Cx} {W : WX} {a b c e : Expr} {es : List Expr} {kws : List Keyword} {tL tK : TXA} {pos ppos : Pos} {x : Str}
theorem call_lowF {K : PySem.W.Frag} {p : PSp} {x : XP} {ss : List SV} {vs : List V} {A : List Addr} {μ : Mem} {G H : Hp} {Qp : VP} {Q : VK} (h : callPF p x ss μ Qp) (c : Cells K A μ G H) (r : RepsS K A G ss vs) (hx : ExTo K W A G H x)
    (k : ∀ r μ' A' G' H' v, Qp r μ' → Cells K A' μ' G' H' → Step A G H A' G' H' → RepS K A' G' r v → Q v H') : low K p vs H Q (fun cls d H' => ∀ σ, W cls d σ H') := by
  obtain ⟨nd, h⟩ := ndP_of h
  obtain ⟨fl, h⟩ := flP_of h
  have hk := cellsOf_ok r
  refine ⟨pickA A (cellsOf ss), relab 0 ss, picked μ (cellsOf ss), G, _, _, c.pick hk nd fl, relab_ok 0 r (fun i k a e1 e2 => ?_), h, fun C fs μ' A' G' H' d q c' s' e σ => ?_, fun r' μ' A' G' H' v q c' s' rr => ?_⟩
  · obtain ⟨b, e3, e4⟩ := pickA_at hk e1
    rw [e2] at e3; cases e3
    rw [Nat.zero_add]; exact e4
  · obtain ⟨fl2, q⟩ := flP_of q
    obtain ⟨c2, s2⟩ := c.back hk nd c' s' fl2
    exact hx C fs _ A G' H' d σ q c2 s2 e
  · obtain ⟨fl2, q⟩ := flP_of q
    obtain ⟨c2, s2⟩ := c.back hk nd c' s' fl2
    match r', q, rr with
    | .d d, q, rr => exact k _ _ _ _ _ _ q c2 s2 rr
    | .c j, q, rr =>
      obtain ⟨d, hd, q⟩ := on_of q
      obtain ⟨B, rfl⟩ := s'.pre
      have hl : (pickA A (cellsOf ss)).length = (cellsOf ss).length := by simp [pickA]
      rw [← hl] at hd
      obtain ⟨G2, g1, g2, g3, g4, g5⟩ := c'.frz
      have hr := frzS_rep c' g1 g4 3 (.c j) v d hd rr
      have fresh : ∀ b ∈ B, H b = none := fun b hb => (s'.cells b (List.mem_append_right _ hb)).resolve_left fun z => by
        have := List.nodup_append.mp c'.nd
        exact this.2.2 b z b hb rfl
      have nA : ∀ a ∈ A, a ∉ B := fun a ha z => c.ne_of_lt ha (fresh a z) rfl
      refine k (.d d) _ A G2 H' _ q ⟨g2, c2.len, c2.nd, fun a ha => ?_, fun i a cl e1 e2 => (c2.ok i a cl e1 e2).mono (List.prefix_refl _) g1 rfl⟩ ⟨List.prefix_refl _, s2.le.trans g1, s2.keep, fun a e => ?_, s2.tups, s2.cells, s2.there⟩ hr
      · rw [g5 a (nA a ha)]; exact c2.free a ha
      · rcases g3 a e with z | z
        · exact s2.new a z
        · exact .inr (.inl (fresh a z))
def xUserF (p : PSp) (t : TXA) : TX := fun x ρ μ Q => t x ρ μ fun ss μ1 => callPF p x ss μ1 Q
theorem px_callF {k : Nat} {f : Addr} {fd : FuncData} {ps : List Str} {p : PSp} (tk : Takes X W) (F : FnOk X.prog X.w X.K X.mg X.base (L2.CX X.prog X.w) k f fd ps (low X.K p)) (hr : Room k X.A) (hg : Gl X x) (hm : X.mg x = some (.ref f)) (hk : PySem.W.keepIn X.K (.ref f) = true)
    (hb : Binds X.K fd ps []) (ha : PXA X W (e :: es) tL) (hdb : (x == ("__debug__" : Str)) = false := by decide) (he : starEach (e :: es) X.env = (false, eval e X.env) :: starEach es X.env := by rfl) (hpl : (backTo pos (starEach es X.env)).any (·.1) = false := by rfl) :
    PX X W (.Call (.Name x ppos) (e :: es) [] pos) (xUserF p tL) := by
  refine ⟨(pe_call F hr hg hm hk hb .nil (E := fun cls d H' => ∀ σ, W cls d σ H') (passes_call tk fun _ _ σ _ h => h σ) ha.pa hdb he hpl).imp fun σ H Q h => ?_⟩
  obtain ⟨A, ρ, μ, G, Qp, xp, S, ht, hx, k⟩ := h
  refine ⟨A, ρ, μ, G, _, xp, S, ht, hx, fun ss μ1 A1 G1 H1 vs q c1 s1 r1 => ?_⟩
  show low X.K p (vs ++ []) H1 Q _
  rw [List.append_nil]
  exact call_lowF q c1 r1 (hx.after s1) fun r μ' A' G' H' v q3 c3 s3 r3 => k r μ' A' G' H' v q3 c3 (s1.trans s3) r3
end
end PL
namespace PL
open PySem PySem.Spec PyProof.Rows L2
/-- the module's def x, as the text st has it -/
structure DefN (K : PySem.W.Frag) (mg : Str → Option Value) (x nm : Str) (st : Stmt) : Prop where
  ex : ∃ fd, FunD K nm nm (defArgs st) (defBody st) (defScope st) [] [] (He.ga K x) fd ∧ mg x = some (.ref (He.ga K x))
/-- .. under its own name -/
abbrev Def (K : PySem.W.Frag) (mg : Str → Option Value) (x : Str) (st : Stmt) : Prop := DefN K mg x x st
/-- .. keeps p -/
structure Has (P : Program) (w : World) (K : PySem.W.Frag) (mg : Str → Option Value) (base : Heap) (k : Nat) (x : Str) (ps : List Str) (p : PSp) : Prop where
  ex : ∃ fd, FnOk P w K mg base (L2.CX P w) k (He.ga K x) fd ps (low K p) ∧ mg x = some (.ref (He.ga K x)) ∧ PySem.W.keepIn K (.ref (He.ga K x)) = true ∧ Binds K fd ps [] ∧ ∃ nm st, FunD K nm nm (defArgs st) (defBody st) (defScope st) [] [] (He.ga K x) fd
theorem _root_.L2.FunD.fun_ {K : PySem.W.Frag} {x : Str} {st : Stmt} {f : Addr} {fd : FuncData} (F : FunD K x x (defArgs st) (defBody st) (defScope st) [] [] f fd) : Fun K x x st f fd := by
  obtain ⟨oc, od, dV, kV, doc, pm, an, cdv, ct, osl, rfl, lk, hcd, hD, hK⟩ := F.ex
  rcases hD with ⟨_, rfl⟩ | ⟨e, _⟩
  · exact ⟨⟨oc, od, kV, doc, pm, an, cdv, ct, osl, rfl, lk, hcd⟩, F.kp⟩
  · exact absurd rfl e
/-- how a def's parameters take n values -/
def BindN (x : Str) (st : Stmt) (ps : List Str) : Prop := ∀ (kV doc pm : Value) (an : Option Addr) (cdv ct : Value) (us : List Value), us.length = ps.length → bindArgs (PySem.W.fnOf x x (defArgs st) (defBody st) (defScope st) .none kV doc pm an cdv ct) ⟨us, []⟩ = pure (ps.zip us)
section
variable {P : Program} {w : World} {K : PySem.W.Frag} {mg : Str → Option Value} {base : Heap}
theorem has_p {x nm : Str} {st : Stmt} {N ps : List Str} {k : Nat} {p : PSp} {t : TXS} (D : DefN K mg x nm st) (S : FnScope N ps (defScope st)) (B : BindN nm st ps) (len : ∀ x as μ Q, p x as μ Q → as.length = ps.length)
    (hb : ∀ (f : Addr) (cdv : Value) (A : Around) (outer : List Env) (s : Shared) (H : Hp) (E : XK), Room k (A.deeper (envOfC nm (defScope st) s.heap.objs.size f cdv)) →
      PXSs (cxOf (L2.CX P w) P w K mg base N nm (defScope st) f cdv A outer s H E) (fun cls d _ H => E cls d H) (defBody st) t)
    (hp : ∀ x as μ Q, p x as μ Q → t { nx := fun _ μ => Q (.d .non) μ, rt := Q, ex := x } (startP N.length as) μ) : Has P w K mg base (k + 1) x ps p := by
  obtain ⟨fd, F, hm⟩ := D.ex
  exact ⟨fd, fn_p F.fun_ S len hp (hb _), hm, F.kp, FunD.bindsN F B, nm, st, F⟩
theorem Has.imp {x : Str} {ps : List Str} {k : Nat} {p q : PSp} (h : Has P w K mg base k x ps p) (i : ∀ x as μ Q, q x as μ Q → p x as μ Q) : Has P w K mg base k x ps q := by
  obtain ⟨fd, F, r⟩ := h.ex
  have i2 : ∀ vs H Q E, low K q vs H Q E → low K p vs H Q E := fun vs H Q E z => by
    obtain ⟨A', as, μ, G, Qp, x, c, rr, hq, hx, hk⟩ := z
    exact ⟨A', as, μ, G, Qp, x, c, rr, i _ _ _ _ hq, hx, hk⟩
  exact ⟨fd, ⟨fun vs H Q E z => F.1 vs H Q E (i2 _ _ _ _ z), fun A outer s H args us vs Q E hr e b r z => F.run A outer s H args us vs Q E hr e b r (i2 _ _ _ _ z)⟩, r⟩
end
/-- nothing let out -/
theorem _root_.L2.FnOk.ground {P : Program} {w : World} {K : PySem.W.Frag} {mg : Str → Option Value} {base : Heap} {k : Nat} {f : Addr} {fd : FuncData} {ps : List Str} {sp : Sp} (F : FnOk P w K mg base (L2.CX P w) k f fd ps sp) :
    FnOk P w K mg base CX0 k f fd ps (fun vs H Q _ => sp vs H Q fun _ _ _ => False) :=
  ⟨fun vs H Q E q => F.len vs H Q _ q, fun A outer s H args us vs Q E hr he hb hv hs => by
    have r := F.run A outer s H args us vs Q _ hr he hb hv hs
    refine codeAny_mono r fun r s' z => ?_
    cases r with
    | ok v => cases v <;> exact z
    | error e =>
      obtain ⟨_, _, _, _, _, _, _, _, _, _, _, _, q⟩ := z
      exact q.elim⟩
/-- the def's own context -/
theorem tk_of {P : Program} {w : World} {K : PySem.W.Frag} {mg : Str → Option Value} {base : Heap} {N : List Str} {qual : Str} {scope : Scope} {f : Addr} {cdv : Value} {A : Around} {outer : List Env} {s : Shared} {H : Hp} {E : XK} :
    Takes (cxOf (L2.CX P w) P w K mg base N qual scope f cdv A outer s H E) (fun cls d _ H => E cls d H) := takes_of rfl rfl rfl rfl
theorem hp_of {P : Program} {w : World} {K : PySem.W.Frag} {mg : Str → Option Value} {base : Heap} {N : List Str} {qual : Str} {scope : Scope} {f : Addr} {cdv : Value} {A : Around} {outer : List Env} {s : Shared} {H : Hp} {E : XK} :
    PassesOwn (model P w) (cxOf (L2.CX P w) P w K mg base N qual scope f cdv A outer s H E).A (cxOf (L2.CX P w) P w K mg base N qual scope f cdv A outer s H E).env (cxOf (L2.CX P w) P w K mg base N qual scope f cdv A outer s H E).xe :=
  passes_of (X := cxOf (L2.CX P w) P w K mg base N qual scope f cdv A outer s H E) rfl
section
variable {X : Cx} {W : WX} {a b c e : Expr} {es : List Expr} {kws : List Keyword} {tL tK : TXA} {pos ppos : Pos} {x : Str} {k k' : Nat} {ps : List Str} {p : PSp}
theorem px_callH (h : Has X.prog X.w X.K X.mg X.base k x ps p) (tk : Takes X W) (hr : Room k' X.A) (hle : k ≤ k') (hg : Gl X x) (ha : PXA X W (e :: es) tL) (hdb : (x == ("__debug__" : Str)) = false := by decide) (he : starEach (e :: es) X.env = (false, eval e X.env) :: starEach es X.env := by rfl) (hpl : (backTo pos (starEach es X.env)).any (·.1) = false := by rfl) :
    PX X W (.Call (.Name x ppos) (e :: es) [] pos) (xUser p tL) := by
  obtain ⟨fd, F, hm, hk, hb, _⟩ := h.ex
  exact px_call tk F (hr.mono hle) hg hm hk hb ha hdb he hpl
theorem px_callHF (h : Has X.prog X.w X.K X.mg X.base k x ps p) (tk : Takes X W) (hr : Room k' X.A) (hle : k ≤ k') (hg : Gl X x) (ha : PXA X W (e :: es) tL) (hdb : (x == ("__debug__" : Str)) = false := by decide) (he : starEach (e :: es) X.env = (false, eval e X.env) :: starEach es X.env := by rfl) (hpl : (backTo pos (starEach es X.env)).any (·.1) = false := by rfl) :
    PX X W (.Call (.Name x ppos) (e :: es) [] pos) (xUserF p tL) := by
  obtain ⟨fd, F, hm, hk, hb, _⟩ := h.ex
  exact px_callF tk F (hr.mono hle) hg hm hk hb ha hdb he hpl
/-- how keywords are taken -/
def BindK (x : Str) (ps : List Str) (n : Nat) (ks : List Str) (perm : List Nat) (st : Stmt) : Prop := ∀ (kV doc pm : Value) (an : Option Addr) (cdv ct : Value) (us ws : List Value), us.length = n → ws.length = ks.length → bindArgs (PySem.W.fnOf x x (defArgs st) (defBody st) (defScope st) .none kV doc pm an cdv ct) ⟨us, ks.zip ws⟩ = pure (ps.zip (permG Value.none perm us ws))
/-- .. with its text -/
structure HasK (P : Program) (w : World) (K : PySem.W.Frag) (mg : Str → Option Value) (base : Heap) (k : Nat) (x : Str) (st : Stmt) (ps : List Str) (p : PSp) : Prop where
  ex : ∃ fd, FnOk P w K mg base (L2.CX P w) k (He.ga K x) fd ps (low K p) ∧ mg x = some (.ref (He.ga K x)) ∧ PySem.W.keepIn K (.ref (He.ga K x)) = true ∧ FunD K x x (defArgs st) (defBody st) (defScope st) [] [] (He.ga K x) fd
theorem Has.withK {P : Program} {w : World} {K : PySem.W.Frag} {mg : Str → Option Value} {base : Heap} {st : Stmt} (h : Has P w K mg base k x ps p) (D : Def K mg x st) : HasK P w K mg base k x st ps p := by
  obtain ⟨fd, F, hm, hk, hb, nm', st', F'⟩ := h.ex
  obtain ⟨gd, G, hm'⟩ := D.ex
  have e2 : fd = gd := by
    obtain ⟨_, _, _, _, _, _, _, _, _, _, _, l1, _⟩ := F'.ex
    obtain ⟨_, _, _, _, _, _, _, _, _, _, _, l2, _⟩ := G.ex
    rw [l1] at l2; cases l2; rfl
  subst e2
  exact ⟨fd, F, hm, hk, G⟩
theorem px_callHK0 {ks : List Str} {perm : List Nat} {st : Stmt} (h : HasK X.prog X.w X.K X.mg X.base k x st ps p) (tk : Takes X W) (hr : Room k' X.A) (hle : k ≤ k') (hg : Gl X x)
    (hb : BindK x ps 0 ks perm st) (hkw : PXK X W kws tK) (hall : (backToKw pos (keywordEach kws X.env)).all (·.1.isSome) = true := by rfl) (hks : (backToKw pos (keywordEach kws X.env)).filterMap (·.1) = ks := by rfl)
    (hdb : (x == ("__debug__" : Str)) = false := by decide)
    (hpl : ((backTo pos (starEach [] X.env)).any (·.1) || (backToKw pos (keywordEach kws X.env)).any (·.1.isNone)) = false := by rfl) : PX X W (.Call (.Name x ppos) [] kws pos) (xUserK p 0 ks.length perm xNil tK) := by
  obtain ⟨fd, F, hm, hk, F'⟩ := h.ex
  exact px_callKw0 tk F (hr.mono hle) hg hm hk (kbn_of F' 0 ks perm hb) hkw hall hks hdb hpl
/-- a def as a value -/
theorem px_fn {mg : Str → Option Value} (hm : Has X.prog X.w X.K X.mg X.base k x ps p) (hg : Gl X x) (e : X.mg = mg := by rfl) (hd : (x == ("__debug__" : Str)) = false := by decide) : PX X W (.Name x pos) (xC (.fn x)) := by
  obtain ⟨fd, F, hm, _⟩ := hm.ex
  subst e
  exact px_gref hg hm hd
theorem Has.held {P : Program} {w : World} {K : PySem.W.Frag} {mg : Str → Option Value} {base : Heap} (h : Has P w K mg base k x ps p) : HeldP P w K mg base k (He.ga K x) p := by
  obtain ⟨fd, F, hm, hk, hb, _⟩ := h.ex
  exact ⟨fd, ps, F, hk, hb⟩
end
end PL
namespace PL
open PySem PySem.Spec PyProof.Rows L2 RZ
section
variable {X : Cx} {W : WX} {a b c e : Expr} {es : List Expr} {ta tb tc te : TX} {tA : TXT} {tL : TXA} {pos p tpos p2 : Pos} {elts : List Expr} {kk k : Nat} {x : Str}
theorem hu_of {A : Around} (r : Room k A) : A.units + 64 < cLine := r.units
theorem hu1_of {A : Around} (r : Room k A) : A.units + 1 < cLine := by have := r.units; omega
theorem px_gintC {i : Int} (hg : Gl X x) (hm : ∃ t, X.mg x = some (.int i t)) (hd : (x == ("__debug__" : Str)) = false := by decide) : PX X W (.Name x pos) (xC (.int i)) := let ⟨_, h⟩ := hm; px_gint hg h hd
theorem px_gstrC {z : Str} (hg : Gl X x) (hm : ∃ t, X.mg x = some (.str z t)) (hd : (x == ("__debug__" : Str)) = false := by decide) : PX X W (.Name x pos) (xC (.str z)) := let ⟨_, h⟩ := hm; px_gstr hg h hd
def pAddU : SV → SV → Mem → VP → Prop := fun sa sb μ Q => match sa, sb with
  | .d (.int i), .d (.int j) => Q (.d (.int (i + j))) μ
  | .d (.str i), .d (.str j) => i.length + j.length ≤ sizeLine ∧ Q (.d (.str (i ++ j))) μ
  | .d (.tup l), .d (.tup m) => l.length + m.length ≤ sizeLine ∧ Q (.d (.tup (l ++ m))) μ
  | sa, sb => on (lstOf sa μ) fun l => on (lstOf sb μ) fun m => l.length + m.length ≤ sizeLine ∧ Q (.d (.lst (l ++ m))) μ
def rAddS : R2 := fun x y H Q => ∃ i j, x = .str i ∧ y = .str j ∧ i.length + j.length ≤ sizeLine ∧ Q (.str (i ++ j)) H
theorem pop_addU : POp X.K (fun x y H Q => (rI0 (fun i j => .int (i + j)) x y H Q ∨ rAddS x y H Q) ∨ (rCatA X.K x y H Q ∨ rCat x y H Q)) pAddU := by
  intro sa sb μ A G H va vb Qp Q h c ra rb k
  unfold pAddU at h
  split at h
  · cases ra; cases rb
    exact .inl (.inl ⟨_, _, rfl, rfl, k _ _ _ _ _ _ h c .refl (.int _)⟩)
  · cases ra; cases rb
    exact .inl (.inr ⟨_, _, rfl, rfl, h.1, k _ _ _ _ _ _ h.2 c .refl (.str _)⟩)
  · rename_i l m
    exact .inr (.inl (pop_catT (X := X) (.d (.tup l)) (.d (.tup m)) μ A G H va vb Qp Q h c ra rb k))
  · exact .inr (.inr (pop_catL (K := X.K) _ _ μ A G H va vb Qp Q h c ra rb k))
def pMulU : SV → SV → Mem → VP → Prop := fun sa sb μ Q => match sa, sb with
  | .d (.int i), .d (.int j) => CMul i j ∧ Q (.d (.int (i * j))) μ
  | sa, .d (.int j) => on (lstOf sa μ) fun l => (-(2 ^ 63) ≤ j ∧ j < 2 ^ 63 ∧ l.length * j.toNat ≤ sizeLine) ∧ Q (.d (.lst (List.replicate j.toNat l).flatten)) μ
  | _, _ => False
theorem reps_rep {K : PySem.W.Frag} {G : Hp} {l : List D} {vs : List V} (r : Reps K G l vs) : ∀ n : Nat, Reps K G (List.replicate n l).flatten (List.replicate n vs).flatten
  | 0 => .nil
  | n + 1 => by
    rw [List.replicate_succ, List.replicate_succ, List.flatten_cons, List.flatten_cons]
    exact r.app (reps_rep r n)
theorem pop_mulU {K : PySem.W.Frag} : POp K (fun x y H Q => rI CMul (fun i j => .int (i * j)) x y H Q ∨ rRep x y H Q) pMulU := by
  intro sa sb μ A G H va vb Qp Q h c ra rb k
  unfold pMulU at h
  split at h
  · cases ra; cases rb
    exact .inl ⟨_, _, rfl, rfl, h.1, k _ _ _ _ _ _ h.2 c .refl (.int _)⟩
  · obtain ⟨l, e1, ⟨h1, h2, h3⟩, q⟩ := on_of h
    obtain ⟨a, us, rfl, g1, g2⟩ := lstOf_rep e1 c ra
    cases rb
    refine .inr ⟨a, _, us, rfl, rfl, g1, h1, h2, by rw [← g2.length]; exact h3, fun p hp => ?_⟩
    obtain ⟨c2, s2⟩ := c.laid (o := .lst (List.replicate _ us).flatten) hp
    exact k _ _ _ _ _ _ q c2 s2 (Rep.lst upd_same ((reps_rep g2 _).mono s2.le))
  · exact h.elim
def rCmpS (g : Str → Str → Bool) : R2 := fun x y H Q => ∃ i j, x = .str i ∧ y = .str j ∧ Q (.bl (g i j)) H
theorem pxt_isN {j pos'} (ha : PX X W a ta) : PXT X W (.Compare a [.Is] [.Constant .none j pos'] pos) (xTest (xIsN ta)) := by
  refine ⟨(pt_cmp (pc_isN ha.pe)).imp fun σ H Q h => ?_⟩
  refine lift_test (t0 := _) (fun _ _ _ z => ?_) h
  obtain ⟨A, ρ, μ, G, Qp, xp, S, ht, hx, k⟩ := z
  refine ⟨A, ρ, μ, G, _, xp, S, ht, hx, fun r μ' A' G' H' v q c s rr => ?_⟩
  rcases isN_of rr with ⟨rfl, rfl⟩ | rfl | ⟨h1, h2, h3⟩
  · exact k _ _ _ _ _ _ q c s (.bl _)
  · exact q.elim
  · rw [h3]
    match r, h1, h2, q with
    | .c _, _, _, q => exact k _ _ _ _ _ _ q c s (.bl _)
    | .d d, h1, _, q => cases d <;> first | exact absurd rfl h1 | exact k _ _ _ _ _ _ q c s (.bl _)
theorem pxt_notN {j pos'} (ha : PX X W a ta) : PXT X W (.Compare a [.IsNot] [.Constant .none j pos'] pos) (xTest (xNotN ta)) := by
  refine ⟨(pt_cmp (pc_notN ha.pe)).imp fun σ H Q h => ?_⟩
  refine lift_test (t0 := _) (fun _ _ _ z => ?_) h
  obtain ⟨A, ρ, μ, G, Qp, xp, S, ht, hx, k⟩ := z
  refine ⟨A, ρ, μ, G, _, xp, S, ht, hx, fun r μ' A' G' H' v q c s rr => ?_⟩
  rcases isN_of rr with ⟨rfl, rfl⟩ | rfl | ⟨h1, h2, h3⟩
  · exact k _ _ _ _ _ _ q c s (.bl _)
  · exact q.elim
  · rw [h3]
    match r, h1, h2, q with
    | .c _, _, _, q => exact k _ _ _ _ _ _ q c s (.bl _)
    | .d d, h1, _, q => cases d <;> first | exact absurd rfl h1 | exact k _ _ _ _ _ _ q c s (.bl _)
theorem room_tup {A : Around} {d : PyData} {ds : List PyData} (sd : SeqAt.shaped d = true) (hu : A.units + 64 < cLine) (dp : d.depth ≤ 62) : A.units + 1 + min (PyData.depthAll ds) d.depth < cLine := by
  have : min (PyData.depthAll ds) d.depth ≤ 62 := Nat.le_trans (Nat.min_le_right _ _) dp
  omega
theorem okEq_depth {d : D} (h : okEq d = true) : (toPy d).depth ≤ 61 := by
  obtain ⟨h1, h2⟩ := flat_lay 60 d h
  omega
theorem shaped_lay {d : PyData} (h : SeqAt.shaped d = true) : d.canLay0 = true := SeqAt.canLay_of_shaped h
theorem toPys_any {d : PyData} : ∀ l : List D, ((toPys l).any fun z => PyData.eqv z d) = l.any fun z => PyData.eqv (toPy z) d
  | [] => rfl
  | x :: l => by simp only [toPys, List.any_cons, toPys_any l]
def inD (d : D) (l : List D) : Bool := l.any fun z => deq z d
def pInU : SV → SV → Mem → VP → Prop := fun sk sd μ Q => match sk, sd with
  | .d k, .d (.dic t ks vs) => fitK t k = true ∧ Q (.d (.bl ((findD ks vs k).isSome))) μ
  | .d k, .d (.tup l) => (okEq k = true ∧ okEq (.tup l) = true) ∧ Q (.d (.bl (inD k l))) μ
  | .d k, .d (.ntp l) => (okEq k = true ∧ okEq (.ntp l) = true) ∧ Q (.d (.bl (inD k l))) μ
  | .d k, .d (.lst l) => (okEq k = true ∧ okEq (.lst l) = true) ∧ Q (.d (.bl (inD k l))) μ
  | .d (.str x), .d (.str z) => (∃ c, x = ⟨#[c]⟩ ∧ Q (.d (.bl (decide (c ∈ z.cps.toList)))) μ)
  | .d k, .c j => match μ[j]? with
    | some (.lst l) => (okEq k = true ∧ okEq (.lst l) = true) ∧ Q (.d (.bl (inD k l))) μ
    | some (.dK ks vs) => fitK false k = true ∧ Q (.d (.bl ((findD ks vs k).isSome))) μ
    | some (.dT ks vs) => fitK true k = true ∧ Q (.d (.bl ((findD ks vs k).isSome))) μ
    | _ => False
  | _, _ => False
def pNiU : SV → SV → Mem → VP → Prop := fun sk sd μ Q => match sk, sd with
  | .d k, .d (.dic t ks vs) => fitK t k = true ∧ Q (.d (.bl (!(findD ks vs k).isSome))) μ
  | .d k, .d (.tup l) => (okEq k = true ∧ okEq (.tup l) = true) ∧ Q (.d (.bl (!inD k l))) μ
  | .d k, .d (.ntp l) => (okEq k = true ∧ okEq (.ntp l) = true) ∧ Q (.d (.bl (!inD k l))) μ
  | .d k, .d (.lst l) => (okEq k = true ∧ okEq (.lst l) = true) ∧ Q (.d (.bl (!inD k l))) μ
  | .d (.str x), .d (.str z) => (∃ c, x = ⟨#[c]⟩ ∧ Q (.d (.bl (!decide (c ∈ z.cps.toList)))) μ)
  | .d k, .c j => match μ[j]? with
    | some (.lst l) => (okEq k = true ∧ okEq (.lst l) = true) ∧ Q (.d (.bl (!inD k l))) μ
    | some (.dK ks vs) => fitK false k = true ∧ Q (.d (.bl (!(findD ks vs k).isSome))) μ
    | some (.dT ks vs) => fitK true k = true ∧ Q (.d (.bl (!(findD ks vs k).isSome))) μ
    | _ => False
  | _, _ => False
def rInS0 (neg : Bool) : R2 := fun x y H Q => ∃ (c : Nat) (z : Str), x = .str ⟨#[c]⟩ ∧ y = .str z ∧ Q (.bl (if neg = true then !decide (c ∈ z.cps.toList) else decide (c ∈ z.cps.toList))) H
def rInLD (K : PySem.W.Frag) (neg : Bool) : R2 := fun x y H Q => ∃ d ds, (Dp K H x d ∧ d.depth ≤ 62) ∧ Dp K H y (.list ds) ∧ SeqAt.shaped d = true ∧ SeqAt.shaped (.list ds) = true ∧ Q (.bl (if neg = true then !ds.any fun z => PyData.eqv z d else ds.any fun z => PyData.eqv z d)) H
def rInTD' (K : PySem.W.Frag) (neg : Bool) : R2 := fun x y H Q => ∃ d ds, (Dp K H x d ∧ d.depth ≤ 62) ∧ Dp K H y (.tuple ds) ∧ SeqAt.shaped d = true ∧ SeqAt.shaped (.tuple ds) = true ∧ Q (.bl (if neg = true then !ds.any fun z => PyData.eqv z d else ds.any fun z => PyData.eqv z d)) H
theorem shaped_all {ds : List PyData} (h : SeqAt.shaped (.list ds) = true) : PyData.canLayAll0 ds = true := SeqAt.canLay_of_shaped h
theorem shaped_allT {ds : List PyData} (h : SeqAt.shaped (.tuple ds) = true) : PyData.canLayAll0 ds = true := SeqAt.canLay_of_shaped h
theorem op_inLD (hu : X.A.units + 64 < cLine) : OpR X (compareOp .In) (rInLD X.K false) := by
  intro pins s σ H x y v u Q I rx ry h
  obtain ⟨d, ds, ⟨hd, hp⟩, he, sd, se, q⟩ := h
  obtain ⟨as, r1⟩ := Dp.reads I d x v hd rx
  obtain ⟨bs, r2⟩ := Dp.reads I (.list ds) y u he ry
  exact SeqAt.in_list_reads r2 r1 (shaped_all se) (shaped_lay sd) (room_tup sd hu hp) ⟨.bl _, H, I, rfl, q⟩
theorem op_notInLD (hu : X.A.units + 64 < cLine) : OpR X (compareOp .NotIn) (rInLD X.K true) := by
  intro pins s σ H x y v u Q I rx ry h
  obtain ⟨d, ds, ⟨hd, hp⟩, he, sd, se, q⟩ := h
  obtain ⟨as, r1⟩ := Dp.reads I d x v hd rx
  obtain ⟨bs, r2⟩ := Dp.reads I (.list ds) y u he ry
  exact SeqAt.notIn_list_reads r2 r1 (shaped_all se) (shaped_lay sd) (room_tup sd hu hp) ⟨.bl _, H, I, rfl, q⟩
theorem op_inTD (hu : X.A.units + 64 < cLine) : OpR X (compareOp .In) (rInTD' X.K false) := by
  intro pins s σ H x y v u Q I rx ry h
  obtain ⟨d, ds, ⟨hd, hp⟩, he, sd, se, q⟩ := h
  obtain ⟨as, r1⟩ := Dp.reads I d x v hd rx
  obtain ⟨bs, r2⟩ := Dp.reads I (.tuple ds) y u he ry
  exact SeqAt.in_tuple_reads r2 r1 (shaped_allT se) (shaped_lay sd) (room_tup sd hu hp) ⟨.bl _, H, I, rfl, q⟩
theorem op_notInTD (hu : X.A.units + 64 < cLine) : OpR X (compareOp .NotIn) (rInTD' X.K true) := by
  intro pins s σ H x y v u Q I rx ry h
  obtain ⟨d, ds, ⟨hd, hp⟩, he, sd, se, q⟩ := h
  obtain ⟨as, r1⟩ := Dp.reads I d x v hd rx
  obtain ⟨bs, r2⟩ := Dp.reads I (.tuple ds) y u he ry
  exact SeqAt.notIn_tuple_reads r2 r1 (shaped_allT se) (shaped_lay sd) (room_tup sd hu hp) ⟨.bl _, H, I, rfl, q⟩
theorem inD_eq (k : D) (l : List D) : ((toPys l).any fun z => PyData.eqv z (toPy k)) = inD k l := toPys_any l
theorem pop_inU {K : PySem.W.Frag} : POp K (fun x y H Q => (rDIn false x y H Q ∨ rInS0 false x y H Q) ∨ (rInLD K false x y H Q ∨ rInTD' K false x y H Q)) pInU := by
  have bl : ∀ (G : Hp) (b : Bool), Rep K G (.bl b) (.bl b) := fun G b => .bl b
  intro sk sd μ A G H va vb Qp Q h c ra rb k
  unfold pInU at h
  split at h
  · rename_i k t ks vs
    exact .inl (.inl (pop_din (K := K) (.d k) (.d (.dic t ks vs)) μ A G H va vb Qp Q h c ra rb ‹_›))
  · rename_i kd l
    obtain ⟨⟨h1, h2⟩, q⟩ := h
    rw [← inD_eq] at q
    refine .inr (.inr ⟨toPy kd, toPys l, ⟨rep_dp c.le 60 kd _ h1 ra, by have := okEq_depth h1; omega⟩, ?_, okEq_shaped h1, ?_, k _ _ _ _ _ _ q c .refl (.bl _)⟩)
    · have := rep_dp c.le 60 (.tup l) _ h2 rb
      simpa only [toPy] using this
    · have := okEq_shaped h2
      simpa only [toPy] using this
  · rename_i kd l
    obtain ⟨⟨h1, h2⟩, q⟩ := h
    rw [← inD_eq] at q
    refine .inr (.inr ⟨toPy kd, toPys l, ⟨rep_dp c.le 60 kd _ h1 ra, by have := okEq_depth h1; omega⟩, ?_, okEq_shaped h1, ?_, k _ _ _ _ _ _ q c .refl (.bl _)⟩)
    · have := rep_dp c.le 60 (.ntp l) _ h2 rb
      simpa only [toPy] using this
    · have := okEq_shaped h2
      simpa only [toPy] using this
  · rename_i kd l
    obtain ⟨⟨h1, h2⟩, q⟩ := h
    rw [← inD_eq] at q
    refine .inr (.inl ⟨toPy kd, toPys l, ⟨rep_dp c.le 60 kd _ h1 ra, by have := okEq_depth h1; omega⟩, ?_, okEq_shaped h1, ?_, k _ _ _ _ _ _ q c .refl (.bl _)⟩)
    · have := rep_dp c.le 60 (.lst l) _ h2 rb
      simpa only [toPy] using this
    · have := okEq_shaped h2
      simpa only [toPy] using this
  · rename_i x z
    obtain ⟨ch, rfl, q⟩ := h
    cases ra; cases rb
    exact .inl (.inr ⟨ch, z, rfl, rfl, k _ _ _ _ _ _ q c .refl (.bl _)⟩)
  · rename_i kd j
    split at h
    · rename_i l hk
      obtain ⟨a, ha, rfl⟩ := rb
      obtain ⟨us, g1, g2⟩ := c.ok _ _ _ ha hk
      obtain ⟨⟨h1, h2⟩, q⟩ := h
      rw [← inD_eq] at q
      refine .inr (.inl ⟨toPy kd, toPys l, ⟨rep_dp c.le 60 kd _ h1 ra, by have := okEq_depth h1; omega⟩, .lst (SqL.of g1) (reps_dp c.le 59 l _ (by unfold okEq at h2; simpa only [flat] using h2) g2), okEq_shaped h1, ?_, k _ _ _ _ _ _ q c .refl (.bl _)⟩)
      have := okEq_shaped h2
      simpa only [toPy] using this
    · rename_i ks vs hk
      exact .inl (.inl (pop_din (K := K) (.d kd) (.c j) μ A G H va vb Qp Q (by simp only [pDIn, dicOf, hk, on]; exact h) c ra rb k))
    · rename_i ks vs hk
      exact .inl (.inl (pop_din (K := K) (.d kd) (.c j) μ A G H va vb Qp Q (by simp only [pDIn, dicOf, hk, on]; exact h) c ra rb k))
    · exact h.elim
  · exact h.elim
theorem pop_niU {K : PySem.W.Frag} : POp K (fun x y H Q => (rDIn true x y H Q ∨ rInS0 true x y H Q) ∨ (rInLD K true x y H Q ∨ rInTD' K true x y H Q)) pNiU := by
  have bl : ∀ (G : Hp) (b : Bool), Rep K G (.bl b) (.bl b) := fun G b => .bl b
  intro sk sd μ A G H va vb Qp Q h c ra rb k
  unfold pNiU at h
  split at h
  · rename_i k t ks vs
    exact .inl (.inl (pop_din (K := K) (.d k) (.d (.dic t ks vs)) μ A G H va vb Qp Q h c ra rb ‹_›))
  · rename_i kd l
    obtain ⟨⟨h1, h2⟩, q⟩ := h
    rw [← inD_eq] at q
    refine .inr (.inr ⟨toPy kd, toPys l, ⟨rep_dp c.le 60 kd _ h1 ra, by have := okEq_depth h1; omega⟩, ?_, okEq_shaped h1, ?_, k _ _ _ _ _ _ q c .refl (.bl _)⟩)
    · have := rep_dp c.le 60 (.tup l) _ h2 rb
      simpa only [toPy] using this
    · have := okEq_shaped h2
      simpa only [toPy] using this
  · rename_i kd l
    obtain ⟨⟨h1, h2⟩, q⟩ := h
    rw [← inD_eq] at q
    refine .inr (.inr ⟨toPy kd, toPys l, ⟨rep_dp c.le 60 kd _ h1 ra, by have := okEq_depth h1; omega⟩, ?_, okEq_shaped h1, ?_, k _ _ _ _ _ _ q c .refl (.bl _)⟩)
    · have := rep_dp c.le 60 (.ntp l) _ h2 rb
      simpa only [toPy] using this
    · have := okEq_shaped h2
      simpa only [toPy] using this
  · rename_i kd l
    obtain ⟨⟨h1, h2⟩, q⟩ := h
    rw [← inD_eq] at q
    refine .inr (.inl ⟨toPy kd, toPys l, ⟨rep_dp c.le 60 kd _ h1 ra, by have := okEq_depth h1; omega⟩, ?_, okEq_shaped h1, ?_, k _ _ _ _ _ _ q c .refl (.bl _)⟩)
    · have := rep_dp c.le 60 (.lst l) _ h2 rb
      simpa only [toPy] using this
    · have := okEq_shaped h2
      simpa only [toPy] using this
  · rename_i x z
    obtain ⟨ch, rfl, q⟩ := h
    cases ra; cases rb
    exact .inl (.inr ⟨ch, z, rfl, rfl, k _ _ _ _ _ _ q c .refl (.bl _)⟩)
  · rename_i kd j
    split at h
    · rename_i l hk
      obtain ⟨a, ha, rfl⟩ := rb
      obtain ⟨us, g1, g2⟩ := c.ok _ _ _ ha hk
      obtain ⟨⟨h1, h2⟩, q⟩ := h
      rw [← inD_eq] at q
      refine .inr (.inl ⟨toPy kd, toPys l, ⟨rep_dp c.le 60 kd _ h1 ra, by have := okEq_depth h1; omega⟩, .lst (SqL.of g1) (reps_dp c.le 59 l _ (by unfold okEq at h2; simpa only [flat] using h2) g2), okEq_shaped h1, ?_, k _ _ _ _ _ _ q c .refl (.bl _)⟩)
      have := okEq_shaped h2
      simpa only [toPy] using this
    · rename_i ks vs hk
      exact .inl (.inl (pop_din (K := K) (.d kd) (.c j) μ A G H va vb Qp Q (by simp only [pDIn, dicOf, hk, on]; exact h) c ra rb k))
    · rename_i ks vs hk
      exact .inl (.inl (pop_din (K := K) (.d kd) (.c j) μ A G H va vb Qp Q (by simp only [pDIn, dicOf, hk, on]; exact h) c ra rb k))
    · exact h.elim
  · exact h.elim
theorem op_inU (hu : X.A.units + 64 < cLine) : OpR X (compareOp .In) (fun x y H Q => (rDIn false x y H Q ∨ rInS0 false x y H Q) ∨ (rInLD X.K false x y H Q ∨ rInTD' X.K false x y H Q)) :=
  op_or (op_or (op_dIn (by omega)) op_in_sign) (op_or (op_inLD hu) (op_inTD hu))
theorem op_notInU (hu : X.A.units + 64 < cLine) : OpR X (compareOp .NotIn) (fun x y H Q => (rDIn true x y H Q ∨ rInS0 true x y H Q) ∨ (rInLD X.K true x y H Q ∨ rInTD' X.K true x y H Q)) :=
  op_or (op_or (op_dNotIn (by omega)) op_notIn_sign) (op_or (op_notInLD hu) (op_notInTD hu))
theorem px_inU (hu : X.A.units + 64 < cLine) (ha : PX X W a ta) (hb : PX X W b tb) (hm : behindInMarks .In b = false := by first | exact nomark _ | rfl) : PX X W (.Compare a [.In] [b] pos) (xOp pInU ta tb) := px_cmp (op_inU hu) pop_inU ha hb hm
theorem pxt_notinU (hu : X.A.units + 64 < cLine) (ha : PX X W a ta) (hb : PX X W b tb) (hm : behindInMarks .NotIn b = false := by first | exact nomark _ | rfl) : PXT X W (.Compare a [.NotIn] [b] pos) (xTest (xOp pNiU ta tb)) := pxt_cmp (op_notInU hu) pop_niU ha hb hm
def iU (K : PySem.W.Frag) (td : TE) : TI := fun σ H R => td σ H fun x H1 => (∃ a xs, x = .ref a ∧ SqT K H1 a xs ∧ R (Itt K a) H1) ∨ (∃ a xs, x = .ref a ∧ SqL K H1 a xs ∧ R (Itl K a) H1) ∨
  (∃ z, x = .str z ∧ R (Its z) H1) ∨ ∃ d u, x = .ref d ∧ ((∃ kvs, u = .dK kvs) ∨ ∃ kvs, u = .dT kvs) ∧ ((H1 d = some u ∧ ∀ od, (∀ kvs, u = .dK kvs → R (Itk d od kvs) (upd H1 d (.frz od u))) ∧ ∀ kvs, u = .dT kvs → R (Itkt d od kvs) (upd H1 d (.frz od u))) ∨
    ∃ od, H1 d = some (.frz od u) ∧ (∀ kvs, u = .dK kvs → R (Itk d od kvs) H1) ∧ ∀ kvs, u = .dT kvs → R (Itkt d od kvs) H1)
theorem keys_core {tg : Expr} {pins : List (Addr × Obj)} {σ : L2.St} {H1 : Hp} {s1 : Shared} {R : It → Hp → Prop} {d : Addr} {o : Obj} {u : HO} (I1 : Inv X pins σ H1 s1) (hd : H1 d = some (.frz o u)) (hu : (∃ kvs, u = .dK kvs) ∨ ∃ kvs, u = .dT kvs)
    (q1 : ∀ kvs, u = .dK kvs → R (Itk d o kvs) H1) (q2 : ∀ kvs, u = .dT kvs → R (Itkt d o kvs) H1) : wpAny (model X.prog X.w) X.A (pyIter (.ref d)) (PIE X pins σ tg R) X.xe s1 := by
  rcases hu with ⟨kvs, rfl⟩ | ⟨kvs, rfl⟩
  · obtain ⟨hs, hgd, hx, es, ep, vs, hdt, hsz, kv, hm⟩ := I1.frzK hd
    refine iter_keys hs hgd hx hdt (pi_one (tk := s1.toks) I1 _ (turn_keys _ hdt) ⟨_, Heap.get?_push_size _ rfl, rfl, ?_⟩ (q1 _ rfl))
    rw [hsz] <;> rfl
  · obtain ⟨hs, hgd, hx, es, ep, hdt, hsz, ent⟩ := I1.frzT hd
    refine iter_keys hs hgd hx hdt (pi_one (tk := s1.toks) I1 _ (turn_keysT _ hdt) ⟨_, Heap.get?_push_size _ rfl, rfl, ?_⟩ (q2 _ rfl))
    rw [hsz] <;> rfl
theorem pi_U {tg : Expr} {td : TE} (he : PE X e td) : PI X tg e (iU X.K td) := by
  refine ⟨fun pins s σ H R I h => ?_⟩
  refine thn (he.run pins s σ H _ I h) fun v s1 ⟨x, H1, I1, r1, q1⟩ => ?_
  rcases q1 with ⟨a, xs, rfl, hq, q⟩ | ⟨a, xs, rfl, hq, q⟩ | ⟨z, rfl, q⟩ | ⟨d, u, rfl, hu, q⟩
  · cases r1
    obtain ⟨its, rv, p, hz⟩ := I1.tuple hq
    refine wpAny_pyIter_tuple (show s1.heap.IsTuple a its.toArray from p) ?_
    refine ⟨s1.heap.objs.size, [s1.heap.objs.size], _, _, H1, rfl, I1.kept (t' := s1.toks) fun b o e => Heap.get?_push_of_some _ e, turn_tuple a _, ⟨_, Heap.get?_push_size _ rfl, rfl, rfl⟩, fun b hb => ?_, q⟩
    have e : b = s1.heap.objs.size := by simpa using hb
    subst e
    exact I1.fpOk (Nat.le_refl _) (I1.hok.fresh (Nat.le_refl _))
  · cases r1
    obtain ⟨its, rv, p, hz⟩ := I1.list hq
    refine wpAny_pyIter_list p.isList ?_
    refine ⟨s1.heap.objs.size, [s1.heap.objs.size], _, _, H1, rfl, I1.kept (t' := s1.toks) fun b o e => Heap.get?_push_of_some _ e, turn_list a _, ⟨_, Heap.get?_push_size _ rfl, rfl, rfl⟩, fun b hb => ?_, q⟩
    have e : b = s1.heap.objs.size := by simpa using hb
    subst e
    exact I1.fpOk (Nat.le_refl _) (I1.hok.fresh (Nat.le_refl _))
  · obtain ⟨t, rfl⟩ := r1
    cases ha : z.cps.all (· < 128)
    · exact wpAny_pyIter_wide ha (pi_one (tk := s1.toks) I1 _ (turn_str _ z t "str_iterator" (.inr rfl)) ⟨_, Heap.get?_push_size _ rfl, rfl, rfl⟩ q)
    · exact wpAny_pyIter_ascii ha (pi_one (tk := s1.toks) I1 _ (turn_str _ z t "str_ascii_iterator" (.inl rfl)) ⟨_, Heap.get?_push_size _ rfl, rfl, rfl⟩ q)
  · cases r1
    rcases q with ⟨hd, q⟩ | ⟨od, hd, q⟩
    · obtain ⟨od, I2⟩ := I1.lock hd (by rcases hu with ⟨_, rfl⟩ | ⟨_, rfl⟩ <;> exact True.intro)
      exact keys_core I2 upd_same hu (q od).1 (q od).2
    · exact keys_core I1 hd hu q.1 q.2
def itD : D → Option (List D)
  | .tup l => some l
  | .ntp l => some l
  | .lst l => some l
  | .scr l => some (l.map .int)
  | .str z => some (strD z)
  | .dic _ ks _ => some ks
  | _ => none
def xiU (te : TX) : TXI := fun x ρ μ Q => te x ρ μ fun s μ1 => match s with
  | .d d => on (itD d) fun l => Q l μ1
  | _ => False
theorem yd_str {K : PySem.W.Frag} {G : Hp} {z : Str} : Walk (Its z) (strD z).length (fun H => LeZ G H) (YD K (strD z) G) := by
  have hl : (strD z).length = z.cps.size := by simp [strD]
  rw [hl]
  refine walk_str.mono (fun _ _ => trivial) fun i H v H' hi q y G2 g2 _ => ?_
  obtain ⟨e1, c, e2, rfl⟩ := y
  have e3 : z.cps.toList[i]? = some c := by rw [Array.getElem?_toList]; exact e2
  exact ⟨.str ⟨#[c]⟩, by simp only [strD, List.getElem?_map, e3, Option.map_some], .inl ⟨e1, .str _⟩⟩
theorem pxi_U {tg : Expr} (he : PX X W e te) : PXI X W tg e (xiU te) := by
  refine ⟨_, pi_U he.pe, fun σ H R h => ?_⟩
  obtain ⟨A, ρ, μ, G, Rp, x, S, ht, hx, k⟩ := h
  refine ⟨A, ρ, μ, G, _, x, S, ht, hx, fun s μ1 A1 G1 H1 v q c1 s1 r1 => ?_⟩
  match s, q, r1 with
  | .d d, q, r1 =>
    obtain ⟨l, hl, q⟩ := on_of q
    cases d <;> simp [itD] at hl
    case tup l' =>
      subst hl
      obtain ⟨a, us, rfl, h1, h2⟩ := Reps.sq r1
      refine .inl ⟨a, us, rfl, c1.le.sqT h1, k _ _ _ _ _ _ q c1 s1 ?_⟩
      rw [h2.length]
      refine walk_tup.mono (fun H' z => z.sqT h1) fun i H0 x H' hi _ y G2 g2 _ => ?_
      obtain ⟨d, e1, r⟩ := h2.get y.2
      exact ⟨d, e1, .inl ⟨y.1, r.mono g2⟩⟩
    case ntp l' =>
      subst hl
      obtain ⟨a, us, rfl, h1, h2⟩ := Reps.sqn r1
      refine .inl ⟨a, us, rfl, c1.le.sqT h1, k _ _ _ _ _ _ q c1 s1 ?_⟩
      rw [h2.length]
      refine walk_tup.mono (fun H' z => z.sqT h1) fun i H0 x H' hi _ y G2 g2 _ => ?_
      obtain ⟨d, e1, r⟩ := h2.get y.2
      exact ⟨d, e1, .inl ⟨y.1, r.mono g2⟩⟩
    case lst l' =>
      subst hl
      obtain ⟨a, us, rfl, h1, h2⟩ := Reps.sql r1
      refine .inr (.inl ⟨a, us, rfl, SqL.of (c1.le _ _ h1), k _ _ _ _ _ _ q c1 s1 ?_⟩)
      rw [h2.length]
      refine walk_list.mono (fun H' z => SqL.of (z.same h1 rfl)) fun i H0 x H' hi _ y G2 g2 _ => ?_
      obtain ⟨d, e1, r⟩ := h2.get y.2
      exact ⟨d, e1, .inl ⟨y.1, r.mono g2⟩⟩
    case scr l' =>
      subst hl
      cases r1 with
      | scr h1 =>
        refine .inr (.inl ⟨_, _, rfl, c1.le.sqL h1, k _ _ _ _ _ _ q c1 s1 ?_⟩)
        have h2 := scr_reps (K := X.K) (G := G1) l'
        rw [h2.length]
        refine walk_list.mono (fun H' z => z.sqL h1) fun i H0 x H' hi _ y G2 g2 _ => ?_
        obtain ⟨d, e1, r⟩ := h2.get y.2
        exact ⟨d, e1, .inl ⟨y.1, r.mono g2⟩⟩
    case str z =>
      subst hl
      cases r1
      exact .inr (.inr (.inl ⟨z, rfl, k _ _ _ _ _ _ q c1 s1 yd_str⟩))
    case dic t ks vs =>
      subst hl
      cases r1 with
      | @dicK a kvs _ _ h hk hs =>
        subst hk
        refine .inr (.inr (.inr ⟨a, .dK kvs, rfl, .inl ⟨_, rfl⟩, ?_⟩))
        rcases h with h | ⟨od, h⟩
        · refine .inl ⟨c1.le _ _ h, fun od => ⟨fun kvs' e => ?_, fun kvs' e => by cases e⟩⟩
          cases e
          obtain ⟨c2, s2⟩ := c1.lockD (od := od) h rfl
          exact k _ _ _ _ _ _ q c2 (s1.trans s2) (yd_keys upd_same)
        · refine .inr ⟨od, c1.le _ _ h, fun kvs' e => ?_, fun kvs' e => by cases e⟩
          cases e
          exact k _ _ _ _ _ _ q c1 s1 (yd_keys h)
      | @dicT a kvs _ _ h hk hs =>
        subst hk
        refine .inr (.inr (.inr ⟨a, .dT kvs, rfl, .inr ⟨_, rfl⟩, ?_⟩))
        rcases h with h | ⟨od, h⟩
        · refine .inl ⟨c1.le _ _ h, fun od => ⟨fun kvs' e => (by cases e), fun kvs' e => ?_⟩⟩
          cases e
          obtain ⟨c2, s2⟩ := c1.lockD (od := od) h rfl
          exact k _ _ _ _ _ _ q c2 (s1.trans s2) (yd_keysT upd_same)
        · refine .inr ⟨od, c1.le _ _ h, fun kvs' e => (by cases e), fun kvs' e => ?_⟩
          cases e
          exact k _ _ _ _ _ _ q c1 s1 (yd_keysT h)
def iEnumU (K : PySem.W.Frag) (ta : TA) : TI := fun σ H R => ta σ H fun vs H1 => ∃ a xs, vs = [.ref a] ∧ ((SqT K H1 a xs ∧ R (IteT K a) H1) ∨ (SqL K H1 a xs ∧ R (Ite K a) H1))
theorem pi_enumU {ta : TA} (hg : Gl X "enumerate") (hm : X.mg "enumerate" = none) (ha : PA X [e] ta) (hs : starEach [e] X.env = [(false, eval e X.env)] := by rfl) :
    PI X (.Tuple elts kk tpos) (.Call (.Name "enumerate" p) [e] [] pos) (iEnumU X.K ta) := by
  refine ⟨fun pins s σ H R I h => ?_⟩
  refine Call_ (ld_blt I hg hm boot_enumerate (PyProof.Rows.callWith_type1 (thn (ha.run pos pins s σ H _ I h) fun us s1 ⟨vs, H1, I1, r1, q1⟩ => ?_) hs rfl))
  obtain ⟨a, xs, ex, q⟩ := q1
  subst ex
  cases r1 with
  | cons r rr =>
    cases rr
    cases r
    have fp : ∀ b ∈ [s1.heap.objs.size + 1, s1.heap.objs.size], FpOk X pins H1 b := fun b hb => by
      have e' : b = s1.heap.objs.size + 1 ∨ b = s1.heap.objs.size := by simpa using hb
      have hle : s1.heap.objs.size ≤ b := by
        rcases e' with z | z
        · rw [z]; exact Nat.le_add_right _ _
        · rw [z]; exact Nat.le_refl _
      exact I1.fpOk hle (I1.hok.fresh hle)
    rcases q with ⟨hq, q⟩ | ⟨hq, q⟩
    · obtain ⟨its, rv, p', hz⟩ := I1.tuple hq
      refine call_enum1 (begins_tuple a its.toArray) p' fun h' he hit0 hk => wpAny_pyIter_enum he ?_
      have hit : h'.IsTupleIter s1.heap.objs.size a 0 := ⟨_, hit0, rfl, rfl⟩
      have I2 : Inv X pins σ H1 { s1 with heap := h' } := I1.kept (t' := s1.toks) hk
      exact ⟨s1.heap.objs.size + 1, [s1.heap.objs.size + 1, s1.heap.objs.size], _, _, H1, rfl, I2, turn_enumT a (s1.heap.objs.size + 1) s1.heap.objs.size, ⟨⟨.none, he⟩, hit, Nat.succ_ne_self _⟩, fp, q⟩
    · obtain ⟨its, rv, p', hz⟩ := I1.list hq
      refine call_enumerate_list p'.isList fun h' he hit hsz hk => wpAny_pyIter_enum he ?_
      have I2 : Inv X pins σ H1 { s1 with heap := h' } := I1.kept (t' := s1.toks) hk
      exact ⟨s1.heap.objs.size + 1, [s1.heap.objs.size + 1, s1.heap.objs.size], _, _, H1, rfl, I2, turn_enum a (s1.heap.objs.size + 1) s1.heap.objs.size, ⟨⟨.none, he⟩, hit, Nat.succ_ne_self _⟩, fp, q⟩
def xiEnU (t : TXA) : TXI := fun x ρ μ Q => t x ρ μ fun ss μ1 => match ss with
  | [.d (.tup l)] => Q (enumD l) μ1
  | [.d (.ntp l)] => Q (enumD l) μ1
  | [.d (.lst l)] => Q (enumD l) μ1
  | _ => False
theorem pxi_enumU (hg : Gl X "enumerate") (hm : X.mg "enumerate" = none) (ha : PXA X W [e] tL) (hs : starEach [e] X.env = [(false, eval e X.env)] := by rfl) : PXI X W (.Tuple elts kk tpos) (.Call (.Name "enumerate" p) [e] [] pos) (xiEnU tL) := by
  refine ⟨_, pi_enumU hg hm ha.pa hs, fun σ H R h => ?_⟩
  obtain ⟨A, ρ, μ, G, Rp, x, S, ht, hx, k⟩ := h
  refine ⟨A, ρ, μ, G, _, x, S, ht, hx, fun ss μ1 A1 G1 H1 vs q c1 s1 r1 => ?_⟩
  match ss, q, r1 with
  | [.d (.tup l)], q, .cons r .nil =>
    obtain ⟨a, us, rfl, h1, h2⟩ := Reps.sq r
    refine ⟨a, us, rfl, .inl ⟨c1.le.sqT h1, k _ _ _ _ _ _ q c1 s1 ?_⟩⟩
    have hl : (enumD l).length = us.length := by simp [enumD, h2.length]
    rw [hl]
    refine ⟨fun i H hi q => ⟨us, us[i], q.sqT h1, by simp [hi]⟩, fun _ q => ⟨us, q.sqT h1, rfl⟩, fun i H v H' hi q y G2 g2 _ => ?_⟩
    obtain ⟨T, x, e1, e2, e3, e4⟩ := y
    obtain ⟨d, ed, r⟩ := h2.get (e4 us (q.sqT h1))
    exact yd_pair (d := .int (i : Nat)) (e := d) (by simp [enumD, ed]) (.int _) (r.mono g2) ⟨T, e1, e2, e3⟩
  | [.d (.ntp l)], q, .cons r .nil =>
    obtain ⟨a, us, rfl, h1, h2⟩ := Reps.sqn r
    refine ⟨a, us, rfl, .inl ⟨c1.le.sqT h1, k _ _ _ _ _ _ q c1 s1 ?_⟩⟩
    have hl : (enumD l).length = us.length := by simp [enumD, h2.length]
    rw [hl]
    refine ⟨fun i H hi q => ⟨us, us[i], q.sqT h1, by simp [hi]⟩, fun _ q => ⟨us, q.sqT h1, rfl⟩, fun i H v H' hi q y G2 g2 _ => ?_⟩
    obtain ⟨T, x, e1, e2, e3, e4⟩ := y
    obtain ⟨d, ed, r⟩ := h2.get (e4 us (q.sqT h1))
    exact yd_pair (d := .int (i : Nat)) (e := d) (by simp [enumD, ed]) (.int _) (r.mono g2) ⟨T, e1, e2, e3⟩
  | [.d (.lst l)], q, .cons r .nil =>
    obtain ⟨a, us, rfl, h1, h2⟩ := Reps.sql r
    refine ⟨a, us, rfl, .inr ⟨SqL.of (c1.le _ _ h1), k _ _ _ _ _ _ q c1 s1 ?_⟩⟩
    have hl : (enumD l).length = us.length := by simp [enumD, h2.length]
    rw [hl]
    refine walk_enum.mono (fun H z => SqL.of (z.same h1 rfl)) fun i H v H' hi q y G2 g2 _ => ?_
    obtain ⟨T, x, y', e1, e2, e3, e4, e5⟩ := y
    cases e4
    obtain ⟨d, ed, r⟩ := h2.get e5
    exact yd_pair (d := .int (i : Nat)) (e := d) (by simp [enumD, ed]) (.int _) (r.mono g2) ⟨T, e1, e2, e3⟩
def xiZipU (t : TXA) : TXI := fun x ρ μ Q => t x ρ μ fun ss μ1 => match ss with
  | [.d (.tup l), .d (.tup m)] => Q (zipD l m) μ1
  | [.d (.ntp l), .d (.tup m)] => Q (zipD l m) μ1
  | [.d (.tup l), .d (.ntp m)] => Q (zipD l m) μ1
  | [.d (.ntp l), .d (.ntp m)] => Q (zipD l m) μ1
  | [.d (.lst l), .d (.lst m)] => Q (zipD l m) μ1
  | _ => False
theorem pxi_zipU (hg : Gl X "zip") (hm : X.mg "zip" = none) (ha : PXA X W [a, b] tL) (hs : starEach [a, b] X.env = (false, eval a X.env) :: starEach [b] X.env := by rfl) (hpl : (backTo pos (starEach [b] X.env)).any (·.1) = false := by rfl) : PXI X W (.Tuple elts kk tpos) (.Call (.Name "zip" p) [a, b] [] pos) (xiZipU tL) := by
  refine ⟨_, pi_zipA hg hm ha.pa hs hpl, fun σ H R h => ?_⟩
  obtain ⟨A, ρ, μ, G, Rp, x, S, ht, hx, k⟩ := h
  refine ⟨A, ρ, μ, G, _, x, S, ht, hx, fun ss μ1 A1 G1 H1 vs q c1 s1 r1 => ?_⟩
  match ss, q, r1 with
  | [.d (.tup l), .d (.tup m)], q, .cons r (.cons r' .nil) =>
    obtain ⟨a, us, rfl, h1, h2⟩ := Reps.sq r
    obtain ⟨b, ws, rfl, h3, h4⟩ := Reps.sq r'
    refine ⟨a, b, us, ws, rfl, .inr ⟨c1.le.sqT h1, c1.le.sqT h3, k _ _ _ _ _ _ q c1 s1 ?_⟩⟩
    have hl : (zipD l m).length = min us.length ws.length := by simp [zipD, h2.length, h4.length]
    refine (walk_zipT hl).mono (fun H z => ⟨z.sqT h1, z.sqT h3⟩) fun i H v H' hi q y G2 g2 _ => ?_
    obtain ⟨T, x, y', e1, e2, e3, e4, e5⟩ := y
    obtain ⟨d, ed, r⟩ := h2.get e4
    obtain ⟨e, ee, r'⟩ := h4.get e5
    exact yd_pair (d := d) (e := e) (zipD_at ed ee) (r.mono g2) (r'.mono g2) ⟨T, e1, e2, e3⟩
  | [.d (.ntp l), .d (.tup m)], q, .cons r (.cons r' .nil) =>
    obtain ⟨a, us, rfl, h1, h2⟩ := Reps.sqn r
    obtain ⟨b, ws, rfl, h3, h4⟩ := Reps.sq r'
    refine ⟨a, b, us, ws, rfl, .inr ⟨c1.le.sqT h1, c1.le.sqT h3, k _ _ _ _ _ _ q c1 s1 ?_⟩⟩
    have hl : (zipD l m).length = min us.length ws.length := by simp [zipD, h2.length, h4.length]
    refine (walk_zipT hl).mono (fun H z => ⟨z.sqT h1, z.sqT h3⟩) fun i H v H' hi q y G2 g2 _ => ?_
    obtain ⟨T, x, y', e1, e2, e3, e4, e5⟩ := y
    obtain ⟨d, ed, r⟩ := h2.get e4
    obtain ⟨e, ee, r'⟩ := h4.get e5
    exact yd_pair (d := d) (e := e) (zipD_at ed ee) (r.mono g2) (r'.mono g2) ⟨T, e1, e2, e3⟩
  | [.d (.tup l), .d (.ntp m)], q, .cons r (.cons r' .nil) =>
    obtain ⟨a, us, rfl, h1, h2⟩ := Reps.sq r
    obtain ⟨b, ws, rfl, h3, h4⟩ := Reps.sqn r'
    refine ⟨a, b, us, ws, rfl, .inr ⟨c1.le.sqT h1, c1.le.sqT h3, k _ _ _ _ _ _ q c1 s1 ?_⟩⟩
    have hl : (zipD l m).length = min us.length ws.length := by simp [zipD, h2.length, h4.length]
    refine (walk_zipT hl).mono (fun H z => ⟨z.sqT h1, z.sqT h3⟩) fun i H v H' hi q y G2 g2 _ => ?_
    obtain ⟨T, x, y', e1, e2, e3, e4, e5⟩ := y
    obtain ⟨d, ed, r⟩ := h2.get e4
    obtain ⟨e, ee, r'⟩ := h4.get e5
    exact yd_pair (d := d) (e := e) (zipD_at ed ee) (r.mono g2) (r'.mono g2) ⟨T, e1, e2, e3⟩
  | [.d (.ntp l), .d (.ntp m)], q, .cons r (.cons r' .nil) =>
    obtain ⟨a, us, rfl, h1, h2⟩ := Reps.sqn r
    obtain ⟨b, ws, rfl, h3, h4⟩ := Reps.sqn r'
    refine ⟨a, b, us, ws, rfl, .inr ⟨c1.le.sqT h1, c1.le.sqT h3, k _ _ _ _ _ _ q c1 s1 ?_⟩⟩
    have hl : (zipD l m).length = min us.length ws.length := by simp [zipD, h2.length, h4.length]
    refine (walk_zipT hl).mono (fun H z => ⟨z.sqT h1, z.sqT h3⟩) fun i H v H' hi q y G2 g2 _ => ?_
    obtain ⟨T, x, y', e1, e2, e3, e4, e5⟩ := y
    obtain ⟨d, ed, r⟩ := h2.get e4
    obtain ⟨e, ee, r'⟩ := h4.get e5
    exact yd_pair (d := d) (e := e) (zipD_at ed ee) (r.mono g2) (r'.mono g2) ⟨T, e1, e2, e3⟩
  | [.d (.lst l), .d (.lst m)], q, .cons r (.cons r' .nil) =>
    obtain ⟨a, us, rfl, h1, h2⟩ := Reps.sql r
    obtain ⟨b, ws, rfl, h3, h4⟩ := Reps.sql r'
    refine ⟨a, b, us, ws, rfl, .inl ⟨SqL.of (c1.le _ _ h1), SqL.of (c1.le _ _ h3), k _ _ _ _ _ _ q c1 s1 ?_⟩⟩
    have hl : (zipD l m).length = min us.length ws.length := by simp [zipD, h2.length, h4.length]
    refine (walk_zip hl).mono (fun H z => ⟨SqL.of (z.same h1 rfl), SqL.of (z.same h3 rfl)⟩) fun i H v H' hi q y G2 g2 _ => ?_
    obtain ⟨T, x, y', e1, e2, e3, e4, e5⟩ := y
    obtain ⟨d, ed, r⟩ := h2.get e4
    obtain ⟨e, ee, r'⟩ := h4.get e5
    exact yd_pair (d := d) (e := e) (zipD_at ed ee) (r.mono g2) (r'.mono g2) ⟨T, e1, e2, e3⟩
inductive TyK where
  | bool | int | str | tuple | list | dict
def TyK.nm : TyK → String
  | .bool => "bool"
  | .int => "int"
  | .str => "str"
  | .tuple => "tuple"
  | .list => "list"
  | .dict => "dict"
def isK : TyK → D → Option Bool
  | k, .non => match k with | _ => some false
  | k, .bl _ => match k with | .bool => some true | .int => some true | _ => some false
  | k, .int _ => match k with | .int => some true | _ => some false
  | k, .str _ => match k with | .str => some true | _ => some false
  | k, .tup _ => match k with | .tuple => some true | _ => some false
  | k, .ntp _ => match k with | .tuple => some true | _ => some false
  | k, .lst _ => match k with | .list => some true | _ => some false
  | k, .scr _ => match k with | .list => some true | _ => some false
  | k, .dic _ _ _ => match k with | .dict => some true | _ => some false
  | _, _ => none
def isKc : TyK → Cell → Option Bool
  | k, .lst _ => match k with | .list => some true | _ => some false
  | k, .dK _ _ => match k with | .dict => some true | _ => some false
  | k, .dT _ _ => match k with | .dict => some true | _ => some false
  | _, _ => none
def isKs (k : TyK) (s : SV) (μ : Mem) : Option Bool := match s with
  | .d d => isK k d
  | .c j => match μ[j]? with
    | some c => isKc k c
    | none => none
  | .un => none
theorem isKs_ok {k : TyK} {s : SV} {μ : Mem} {b : Bool} (h : isKs k s μ = some b) : ∃ T, tyOf s μ = some T ∧ k.nm ∈ tyNames ∧ isTy T k.nm = b := by
  unfold isKs at h
  split at h
  · rename_i d
    cases d <;> cases k <;> simp [isK] at h <;> subst h <;> refine ⟨_, rfl, by decide, by decide⟩
  · rename_i j
    split at h
    · rename_i c hc
      cases c <;> cases k <;> simp [isKc] at h <;> subst h <;> simp only [tyOf, hc] <;> exact ⟨_, rfl, by decide, by decide⟩
    · cases h
  · cases h
def pIsK (k : TyK) : SV → Mem → VP → Prop := fun s μ Q => on (isKs k s μ) fun b => Q (.d (.bl b)) μ
def xIsK (k : TyK) (ta : TX) : TX := fun x ρ μ Q => ta x ρ μ fun s μ1 => pIsK k s μ1 Q
theorem px_isiK (k : TyK) {x : Str} {px' : Pos} (hg : Gl X "isinstance") (hm : X.mg "isinstance" = none) (hg2 : Gl X x) (hm2 : X.mg x = none) (hv : bootBuiltins x = some (.type k.nm)) (ha : PX X W a ta)
    (hn : x ≠ "__name__" := by decide) (hd : (x == ("__debug__" : Str)) = false := by decide)
    (he : starEach [a, .Name x px'] X.env = (false, eval a X.env) :: starEach [.Name x px'] X.env := by rfl) (he2 : starEach [.Name x px'] X.env = (false, eval (.Name x px') X.env) :: starEach [] X.env := by rfl) (hpl : (backTo pos (starEach [.Name x px'] X.env)).any (·.1) = false := by rfl) : PX X W (.Call (.Name "isinstance" p) [a, .Name x px'] [] pos) (xIsK k ta) := by
  have hL : PXA X W [a, .Name x px'] (xCons ta (xCons (xC (.ty k.nm)) xNil)) := pxa_cons ha (pxa_cons (px_bty (T := k.nm) hg2 hm2 hv hn hd) pxa_nil he2) he
  refine ⟨(pe_callB call_isiY hg hm (by decide +kernel) hL.pa (by decide) (by decide) he hpl).imp fun σ H Q h => ?_⟩
  obtain ⟨A, ρ, μ, G, Qp, xp, S, ht, hx, kk⟩ := h
  refine ⟨A, ρ, μ, G, fun ss μ1 => ∃ s, ss = [s, .d (.ty k.nm)] ∧ pIsK k s μ1 Qp, xp, S, ?_, hx, fun ss μ' A' G' H' vs q c s rr => ?_⟩
  · have e : (fun (s : SV) (μ1 : Mem) => ∃ s', [s, SV.d (.ty k.nm)] = [s', SV.d (.ty k.nm)] ∧ pIsK k s' μ1 Qp) = fun s μ1 => pIsK k s μ1 Qp := by
      funext s μ1
      refine propext ⟨fun ⟨s', e, q⟩ => ?_, fun q => ⟨s, rfl, q⟩⟩
      cases e
      exact q
    show ta xp ρ μ fun s μ1 => ∃ s', [s, SV.d (.ty k.nm)] = [s', SV.d (.ty k.nm)] ∧ pIsK k s' μ1 Qp
    rw [e]
    exact ht
  · obtain ⟨s0, rfl, q⟩ := q
    obtain ⟨b, e, q⟩ := on_of q
    obtain ⟨T, e1, e2, e3⟩ := isKs_ok e
    exact pcall_isi (X := X) _ μ' A' G' H' vs Qp Q (by simp only [pIsi, e1, on]; exact ⟨e2, by rw [e3]; exact q⟩) c rr fun r μ2 A2 G2 H2 v q2 c2 s2 r2 => kk r μ2 A2 G2 H2 v q2 c2 (s.trans s2) r2
def pModU : SV → SV → Mem → VP → Prop := fun sa sb μ Q => match sa, sb with
  | .d (.int i), .d (.int j) => 0 < j ∧ Q (.d (.int (i % j))) μ
  | _, _ => False
theorem pop_modU {K : PySem.W.Frag} : POp K (rI (fun _ j => 0 < j) fun i j => .int (i % j)) pModU := by
  intro sa sb μ A G H va vb Qp Q h c ra rb k
  unfold pModU at h
  split at h
  · cases ra; cases rb
    exact ⟨_, _, rfl, rfl, h.1, k _ _ _ _ _ _ h.2 c .refl (.int _)⟩
  · exact h.elim
theorem px_modU (ha : PX X W a ta) (hb : PX X W b tb) : PX X W (.BinOp a .Mod b pos) (xOp pModU ta tb) := px_op op_mod pop_modU ha hb
def pSubU : SV → SV → Mem → VP → Prop := fun sa sb μ Q => match sa, sb with
  | .d (.int i), .d (.int j) => Q (.d (.int (i - j))) μ
  | _, _ => False
theorem pop_subU {K : PySem.W.Frag} : POp K (rI0 fun i j => .int (i - j)) pSubU := by
  intro sa sb μ A G H va vb Qp Q h c ra rb k
  unfold pSubU at h
  split at h
  · cases ra; cases rb
    exact ⟨_, _, rfl, rfl, k _ _ _ _ _ _ h c .refl (.int _)⟩
  · exact h.elim
theorem px_subU (ha : PX X W a ta) (hb : PX X W b tb) : PX X W (.BinOp a .Sub b pos) (xOp pSubU ta tb) := px_op op_sub pop_subU ha hb
/-- ==, != -/
def pEqU : SV → SV → Mem → VP → Prop := fun sa sb μ Q => match sa, sb with
  | .d (.int i), .d (.int j) => Q (.d (.bl (decide (i = j)))) μ
  | .d (.bl i), .d (.bl j) => Q (.d (.bl (i == j))) μ
  | .d x, .d y => (okEq x = true ∧ okEq y = true) ∧ Q (.d (.bl (deq x y))) μ
  | _, _ => False
def pNeU : SV → SV → Mem → VP → Prop := fun sa sb μ Q => match sa, sb with
  | .d (.int i), .d (.int j) => Q (.d (.bl (!decide (i = j)))) μ
  | .d (.bl i), .d (.bl j) => Q (.d (.bl (!(i == j)))) μ
  | .d x, .d y => (okEq x = true ∧ okEq y = true) ∧ Q (.d (.bl (!deq x y))) μ
  | _, _ => False
theorem deq_int0 (i j : Int) : deq (.int i) (.int j) = decide (i = j) := by
  simp only [deq, toPy, PyData.eqv]
  by_cases h : i = j <;> simp [h]
theorem pop_eqU {K : PySem.W.Frag} : POp K (rEqD K) pEqU := by
  intro sa sb μ A G H va vb Qp Q h c ra rb k
  unfold pEqU at h
  split at h
  · rename_i i j
    exact pop_eq (.d (.int i)) (.d (.int j)) μ A G H va vb Qp Q ⟨⟨by simp [okEq, flat], by simp [okEq, flat]⟩, by rw [deq_int0]; exact h⟩ c ra rb k
  · rename_i i j
    exact pop_eq (.d (.bl i)) (.d (.bl j)) μ A G H va vb Qp Q ⟨⟨by simp [okEq, flat], by simp [okEq, flat]⟩, by simp only [deq, toPy, PyData.eqv]; exact h⟩ c ra rb k
  · rename_i x y _ _
    exact pop_eq (.d x) (.d y) μ A G H va vb Qp Q h c ra rb k
  · exact h.elim
theorem pop_neU {K : PySem.W.Frag} : POp K (rNeD K) pNeU := by
  intro sa sb μ A G H va vb Qp Q h c ra rb k
  unfold pNeU at h
  split at h
  · rename_i i j
    exact pop_ne (.d (.int i)) (.d (.int j)) μ A G H va vb Qp Q ⟨⟨by simp [okEq, flat], by simp [okEq, flat]⟩, by rw [deq_int0]; exact h⟩ c ra rb k
  · rename_i i j
    exact pop_ne (.d (.bl i)) (.d (.bl j)) μ A G H va vb Qp Q ⟨⟨by simp [okEq, flat], by simp [okEq, flat]⟩, by simp only [deq, toPy, PyData.eqv]; exact h⟩ c ra rb k
  · rename_i x y _ _
    exact pop_ne (.d x) (.d y) μ A G H va vb Qp Q h c ra rb k
  · exact h.elim
theorem px_eqU (hu : X.A.units + 64 < cLine) (ha : PX X W a ta) (hb : PX X W b tb) : PX X W (.Compare a [.Eq] [b] pos) (xOp pEqU ta tb) := px_cmp (op_eqD hu) pop_eqU ha hb
theorem pxt_eqU (hu : X.A.units + 64 < cLine) (ha : PX X W a ta) (hb : PX X W b tb) : PXT X W (.Compare a [.Eq] [b] pos) (xTest (xOp pEqU ta tb)) := pxt_cmp (op_eqD hu) pop_eqU ha hb
theorem pxt_neU (hu : X.A.units + 64 < cLine) (ha : PX X W a ta) (hb : PX X W b tb) : PXT X W (.Compare a [.NotEq] [b] pos) (xTest (xOp pNeU ta tb)) := pxt_cmp (op_neD hu) pop_neU ha hb
end
end PL
namespace PL
open PySem PySem.Spec PyProof.Rows L2
theorem sz (n : Nat) (h : n ≤ 1000 := by decide) : n ≤ sizeLine := by rw [sizeLine_eq]; omega
theorem deq_int (i j : Int) : deq (.int i) (.int j) = decide (i = j) := by
  simp only [deq, toPy, PyData.eqv]
  by_cases h : i = j <;> simp [h]
theorem deq_bl (i j : Bool) : deq (.bl i) (.bl j) = (i == j) := by simp only [deq, toPy, PyData.eqv]
theorem bools_map {α : Type} (g : α → Bool) : ∀ l : List α, bools (l.map fun d => .bl (g d)) = some (l.map g)
  | [] => rfl
  | a :: l => by simp only [List.map_cons, bools, bools_map g l, Option.map_some]
theorem rngD_length (lo : Int) (n : Nat) : (rngD lo n).length = n := by simp [rngD]
theorem enumD_length (l : List D) : (enumD l).length = l.length := by simp [enumD]
theorem enumD_at {l : List D} {i : Nat} {d : D} (h : (enumD l)[i]? = some d) : ∃ e, l[i]? = some e ∧ d = .tup [.int (i : Nat), e] := by
  unfold enumD at h
  rw [List.getElem?_mapIdx] at h
  obtain ⟨e, h1, h2⟩ := Option.map_eq_some_iff.mp h
  exact ⟨e, h1, h2.symm⟩
theorem atI_nat {α : Type} {l : List α} {i : Nat} : atI l (i : Nat) = l[i]? := by
  unfold atI ixN
  by_cases h : i < l.length
  · have h2 : ¬ ((i : Int) < 0) := by omega
    simp [h2, h]
  · have h2 : ¬ ((i : Int) < 0) := by omega
    simp [h2, h, List.getElem?_eq_none (Nat.le_of_not_lt h)]
theorem cutD_mem {l : List D} {lo hi : Option Int} {d : D} (h : d ∈ cutD l lo hi) : d ∈ l := by
  unfold cutD at h
  exact List.mem_of_mem_drop (List.mem_of_mem_take h)
section
variable {P : Program} {w : World} {K : PySem.W.Frag} {mg : Str → Option Value} {base : Heap}
end
end PL
namespace PL
open PySem PySem.Spec PyProof.Rows L2
def ltD (x y : D) : Bool := PySem.W.dataLt (toPy x) (toPy y)
def alD (x y : D) : Bool := PySem.W.alike (toPy x) (toPy y)
def rCmpD (f : PyData → PyData → Bool) (K : PySem.W.Frag) : R2 := fun x y H Q => ∃ d e, Dp K H x d ∧ Dp K H y e ∧ PySem.W.alike d e = true ∧ d ≠ .none ∧ d.depth ≤ 62 ∧ Q (.bl (f d e)) H
theorem room62 {A : Around} {d e : PyData} (hu : A.units + 64 < cLine) (h : d.depth ≤ 62) : A.units + min d.depth e.depth < cLine := by
  have : min d.depth e.depth ≤ 62 := Nat.le_trans (Nat.min_le_left _ _) h
  omega
section
variable {X : Cx} {W : WX} {a b c e : Expr} {es : List Expr} {ta tb tc te : TX} {tA : TXT} {tL : TXA} {pos p tpos p2 : Pos} {x : Str}
theorem op_ltD (hu : X.A.units + 64 < cLine) : OpR X (compareOp .Lt) (rCmpD (fun d e => PySem.W.dataLt d e) X.K) := by
  intro pins s σ H x y v u Q I rx ry ⟨d, e, hd, he, hc, hn, hp, q⟩
  obtain ⟨as, r1⟩ := Dp.reads I d x v hd rx
  obtain ⟨bs, r2⟩ := Dp.reads I e y u he ry
  exact PySem.W.lt_data r1 r2 hc hn (room62 hu hp) ⟨.bl _, H, I, rfl, q⟩
theorem op_leD (hu : X.A.units + 64 < cLine) : OpR X (compareOp .LtE) (rCmpD (fun d e => !PySem.W.dataLt e d) X.K) := by
  intro pins s σ H x y v u Q I rx ry ⟨d, e, hd, he, hc, hn, hp, q⟩
  obtain ⟨as, r1⟩ := Dp.reads I d x v hd rx
  obtain ⟨bs, r2⟩ := Dp.reads I e y u he ry
  exact PySem.W.le_data r1 r2 hc hn (room62 hu hp) ⟨.bl _, H, I, rfl, q⟩
theorem op_gtD (hu : X.A.units + 64 < cLine) : OpR X (compareOp .Gt) (rCmpD (fun d e => PySem.W.dataLt e d) X.K) := by
  intro pins s σ H x y v u Q I rx ry ⟨d, e, hd, he, hc, hn, hp, q⟩
  obtain ⟨as, r1⟩ := Dp.reads I d x v hd rx
  obtain ⟨bs, r2⟩ := Dp.reads I e y u he ry
  exact PySem.W.gt_data r1 r2 hc hn (room62 hu hp) ⟨.bl _, H, I, rfl, q⟩
theorem op_geD (hu : X.A.units + 64 < cLine) : OpR X (compareOp .GtE) (rCmpD (fun d e => !PySem.W.dataLt d e) X.K) := by
  intro pins s σ H x y v u Q I rx ry ⟨d, e, hd, he, hc, hn, hp, q⟩
  obtain ⟨as, r1⟩ := Dp.reads I d x v hd rx
  obtain ⟨bs, r2⟩ := Dp.reads I e y u he ry
  exact PySem.W.ge_data r1 r2 hc hn (room62 hu hp) ⟨.bl _, H, I, rfl, q⟩
def isTp : D → Bool
  | .tup _ => true
  | .ntp _ => true
  | _ => false
def pLtV : SV → SV → Mem → VP → Prop := fun sa sb μ Q => match sa, sb with
  | .d (.int i), .d (.int j) => Q (.d (.bl (decide (i < j)))) μ
  | .d (.str i), .d (.str j) => Q (.d (.bl (decide (i.cps.toList < j.cps.toList)))) μ
  | .d x, .d y => (isTp x = true ∧ isTp y = true ∧ okEq x = true ∧ okEq y = true ∧ alD x y = true) ∧ Q (.d (.bl (ltD x y))) μ
  | _, _ => False
def pLeV : SV → SV → Mem → VP → Prop := fun sa sb μ Q => match sa, sb with
  | .d (.int i), .d (.int j) => Q (.d (.bl (decide (i ≤ j)))) μ
  | .d (.str i), .d (.str j) => Q (.d (.bl (!decide (j.cps.toList < i.cps.toList)))) μ
  | .d x, .d y => (isTp x = true ∧ isTp y = true ∧ okEq x = true ∧ okEq y = true ∧ alD x y = true) ∧ Q (.d (.bl (!ltD y x))) μ
  | _, _ => False
def pGtV : SV → SV → Mem → VP → Prop := fun sa sb μ Q => match sa, sb with
  | .d (.int i), .d (.int j) => Q (.d (.bl (decide (j < i)))) μ
  | .d (.str i), .d (.str j) => Q (.d (.bl (decide (j.cps.toList < i.cps.toList)))) μ
  | .d x, .d y => (isTp x = true ∧ isTp y = true ∧ okEq x = true ∧ okEq y = true ∧ alD x y = true) ∧ Q (.d (.bl (ltD y x))) μ
  | _, _ => False
def pGeV : SV → SV → Mem → VP → Prop := fun sa sb μ Q => match sa, sb with
  | .d (.int i), .d (.int j) => Q (.d (.bl (decide (j ≤ i)))) μ
  | .d (.str i), .d (.str j) => Q (.d (.bl (!decide (i.cps.toList < j.cps.toList)))) μ
  | .d x, .d y => (isTp x = true ∧ isTp y = true ∧ okEq x = true ∧ okEq y = true ∧ alD x y = true) ∧ Q (.d (.bl (!ltD x y))) μ
  | _, _ => False
theorem rCmpD_of {K : PySem.W.Frag} {f : PyData → PyData → Bool} {a b : D} {va vb : V} {G H : Hp} {Q : VK} (le : Le G H) (h : isTp a = true ∧ isTp b = true ∧ okEq a = true ∧ okEq b = true ∧ alD a b = true) (ra : Rep K G a va) (rb : Rep K G b vb)
    (q : Q (.bl (f (toPy a) (toPy b))) H) : rCmpD f K va vb H Q :=
  ⟨toPy a, toPy b, rep_dp le 60 a _ h.2.2.1 ra, rep_dp le 60 b _ h.2.2.2.1 rb, h.2.2.2.2, (by obtain ⟨h, _⟩ := h; cases a <;> simp [isTp] at h <;> simp only [toPy] <;> intro z <;> cases z), by have := okEq_depth h.2.2.1; omega, q⟩
theorem pop_ltV {K : PySem.W.Frag} : POp K (fun x y H Q => (rI0 (fun i j => .bl (decide (i < j))) x y H Q ∨ rCmpS (fun i j => decide (i.cps.toList < j.cps.toList)) x y H Q) ∨ rCmpD (fun d e => PySem.W.dataLt d e) K x y H Q) pLtV := by
  intro sa sb μ A G H va vb Qp Q h c ra rb k
  unfold pLtV at h
  split at h
  · cases ra; cases rb
    exact .inl (.inl ⟨_, _, rfl, rfl, k _ _ _ _ _ _ h c .refl (.bl _)⟩)
  · cases ra; cases rb
    exact .inl (.inr ⟨_, _, rfl, rfl, k _ _ _ _ _ _ h c .refl (.bl _)⟩)
  · exact .inr (rCmpD_of c.le h.1 ra rb (k _ _ _ _ _ _ h.2 c .refl (.bl _)))
  · exact h.elim
theorem pop_leV {K : PySem.W.Frag} : POp K (fun x y H Q => (rI0 (fun i j => .bl (decide (i ≤ j))) x y H Q ∨ rCmpS (fun i j => !decide (j.cps.toList < i.cps.toList)) x y H Q) ∨ rCmpD (fun d e => !PySem.W.dataLt e d) K x y H Q) pLeV := by
  intro sa sb μ A G H va vb Qp Q h c ra rb k
  unfold pLeV at h
  split at h
  · cases ra; cases rb
    exact .inl (.inl ⟨_, _, rfl, rfl, k _ _ _ _ _ _ h c .refl (.bl _)⟩)
  · cases ra; cases rb
    exact .inl (.inr ⟨_, _, rfl, rfl, k _ _ _ _ _ _ h c .refl (.bl _)⟩)
  · exact .inr (rCmpD_of c.le h.1 ra rb (k _ _ _ _ _ _ h.2 c .refl (.bl _)))
  · exact h.elim
theorem pop_gtV {K : PySem.W.Frag} : POp K (fun x y H Q => (rI0 (fun i j => .bl (decide (j < i))) x y H Q ∨ rCmpS (fun i j => decide (j.cps.toList < i.cps.toList)) x y H Q) ∨ rCmpD (fun d e => PySem.W.dataLt e d) K x y H Q) pGtV := by
  intro sa sb μ A G H va vb Qp Q h c ra rb k
  unfold pGtV at h
  split at h
  · cases ra; cases rb
    exact .inl (.inl ⟨_, _, rfl, rfl, k _ _ _ _ _ _ h c .refl (.bl _)⟩)
  · cases ra; cases rb
    exact .inl (.inr ⟨_, _, rfl, rfl, k _ _ _ _ _ _ h c .refl (.bl _)⟩)
  · exact .inr (rCmpD_of c.le h.1 ra rb (k _ _ _ _ _ _ h.2 c .refl (.bl _)))
  · exact h.elim
theorem pop_geV {K : PySem.W.Frag} : POp K (fun x y H Q => (rI0 (fun i j => .bl (decide (j ≤ i))) x y H Q ∨ rCmpS (fun i j => !decide (i.cps.toList < j.cps.toList)) x y H Q) ∨ rCmpD (fun d e => !PySem.W.dataLt d e) K x y H Q) pGeV := by
  intro sa sb μ A G H va vb Qp Q h c ra rb k
  unfold pGeV at h
  split at h
  · cases ra; cases rb
    exact .inl (.inl ⟨_, _, rfl, rfl, k _ _ _ _ _ _ h c .refl (.bl _)⟩)
  · cases ra; cases rb
    exact .inl (.inr ⟨_, _, rfl, rfl, k _ _ _ _ _ _ h c .refl (.bl _)⟩)
  · exact .inr (rCmpD_of c.le h.1 ra rb (k _ _ _ _ _ _ h.2 c .refl (.bl _)))
  · exact h.elim
theorem px_ltV (hu : X.A.units + 64 < cLine) (ha : PX X W a ta) (hb : PX X W b tb) : PX X W (.Compare a [.Lt] [b] pos) (xOp pLtV ta tb) := px_cmp (op_or (op_or op_lt op_lt_str) (op_ltD hu)) pop_ltV ha hb
theorem px_gtV (hu : X.A.units + 64 < cLine) (ha : PX X W a ta) (hb : PX X W b tb) : PX X W (.Compare a [.Gt] [b] pos) (xOp pGtV ta tb) := px_cmp (op_or (op_or op_gt op_gt_str) (op_gtD hu)) pop_gtV ha hb
theorem px_geV (hu : X.A.units + 64 < cLine) (ha : PX X W a ta) (hb : PX X W b tb) : PX X W (.Compare a [.GtE] [b] pos) (xOp pGeV ta tb) := px_cmp (op_or (op_or op_ge op_ge_str) (op_geD hu)) pop_geV ha hb
theorem pxt_ltV (hu : X.A.units + 64 < cLine) (ha : PX X W a ta) (hb : PX X W b tb) : PXT X W (.Compare a [.Lt] [b] pos) (xTest (xOp pLtV ta tb)) := pxt_cmp (op_or (op_or op_lt op_lt_str) (op_ltD hu)) pop_ltV ha hb
theorem pxt_leV (hu : X.A.units + 64 < cLine) (ha : PX X W a ta) (hb : PX X W b tb) : PXT X W (.Compare a [.LtE] [b] pos) (xTest (xOp pLeV ta tb)) := pxt_cmp (op_or (op_or op_le op_le_str) (op_leD hu)) pop_leV ha hb
theorem pxt_gtV (hu : X.A.units + 64 < cLine) (ha : PX X W a ta) (hb : PX X W b tb) : PXT X W (.Compare a [.Gt] [b] pos) (xTest (xOp pGtV ta tb)) := pxt_cmp (op_or (op_or op_gt op_gt_str) (op_gtD hu)) pop_gtV ha hb
theorem pxt_geV (hu : X.A.units + 64 < cLine) (ha : PX X W a ta) (hb : PX X W b tb) : PXT X W (.Compare a [.GtE] [b] pos) (xTest (xOp pGeV ta tb)) := pxt_cmp (op_or (op_or op_ge op_ge_str) (op_geD hu)) pop_geV ha hb
end
end PL
namespace PL
open PySem PySem.Spec PyProof.Rows L2
def srtD (l : List D) : List D := l.mergeSort (W.dataLe false toPy)
/-- data that sorted may look at -/
def okSort (l : List D) : Prop := (∀ d ∈ l, okEq d = true) ∧ W.AllAlike (l.map toPy) ∧ W.Sortable (l.map toPy)
section
variable {X : Cx} {W : WX} {e : Expr} {tL : TXA} {p pos : Pos}
end
end PL
namespace PySem.W
open PySem PyProof.Rows PySem.SeqAt
theorem max_two_data {prog : Program} {w : World} {A : Around} {E : Value → Shared → Prop} {s : Shared} {a b : Value} {da db : PyData} {as bs : List Addr} {Q : Value → Shared → Prop} (hh : A.handled = none) (ra : Reads s.heap a da as) (rb : Reads s.heap b db bs)
    (hal : AlikeAll [da, db]) (hu : A.units + 1 + PyData.depthAll [da, db] < cLine) (h : ∀ h' tk, (∀ c o, s.heap.get? c = some o → h'.get? c = some o) → Q (if dataLt da db = true then b else a) { s with heap := h', toks := tk }) :
    wpAny (model prog w) A (call (.builtin "max") [a, b]) Q E s := by
  have nm : (toString "max" ++ toString ".loop" : String) = "max.loop" := by decide
  refine call_function_tree F.kind_max F.plain_max F.entry_max (F.args_max2 _ _) ?_
  show wpAny _ A.in1 (Builtin.Builtins.bindParams "max" ["key", "default"] 0 ⟨[], []⟩ >>= fun x => _) _ _ s
  refine wpAny_bind (wpAny_of_eq (show Builtin.Builtins.bindParams "max" ["key", "default"] 0 ⟨[], []⟩ = pure [none, none] from rfl) ?_)
  show wpAny _ A.in1 (newTuple [a, b] >>= fun x => _) _ _ s
  refine wpAny_bind (wpAny_newObj_type ?_)
  have isT : (s.heap.push { cls := .type "tuple", data := .seq #[a, b] }).IsTuple s.heap.objs.size #[a, b] := ⟨_, Heap.get?_push_size _ rfl, rfl, 0, rfl⟩
  have kp : ∀ c o, s.heap.get? c = some o → (s.heap.push { cls := .type "tuple", data := .seq #[a, b] }).get? c = some o := fun c o e => Heap.get?_push_of_some _ e
  have rall : ReadsAll (s.heap.push { cls := .type "tuple", data := .seq #[a, b] }) (#[a, b] : Array Value).toList [da, db] (as ++ (bs ++ [])) := .cons (reads_keeps kp ra) (.cons (reads_keeps kp rb) .nil)
  refine wpAny_bind (iter_tupleW (A := A.in1) (s := { s with heap := s.heap.push { cls := .type "tuple", data := .seq #[a, b] } }) hh isT fun s₂ e W st hfp hw hk => ?_)
  refine wpAny_bind (wpAny_newObj_type ?_)
  have nf := fun hm => Nat.lt_irrefl _ (hfp s₂.heap.objs.size hm)
  rw [nm]
  refine wpAny_pure ⟨plainId_quiet F.plain_max_loop _, codeAny_max_loop_firstH W (s.heap.push { cls := .type "tuple", data := .seq #[a, b] }) hw _ (cmpIn_gt (A := A.in1) (s := { s with heap := s.heap.push { cls := .type "tuple", data := .seq #[a, b] } }) rall hal (by show A.units + 1 + _ < _; exact hu)) s₂.heap.objs.size nf (fresh_in hk) _ (by simp) (fun c o q => Heap.get?_push_of_some _ (hk c o q)) (W.frame 0 s₂ _ s₂.toks st (Nat.le_refl _) fun c _ o q => Heap.get?_push_of_some _ q) (Heap.get?_push_size _ rfl) fun v s' hP hm => ?_⟩
  obtain ⟨h', tk, rfl, hk'⟩ := moved_old (s := { s with heap := s.heap.push { cls := .type "tuple", data := .seq #[a, b] } }) e rfl (Moved.drop_new (tk := s₂.toks) hm (Nat.le_refl _))
  have z := h h' tk fun c o q => hk' c o (kp c o q)
  have hv : v = if dataLt da db = true then b else a := by
    have hP2 : (#[a, b] : Array Value)[argBest (fun i j => dataLt ([da, db].getD j .none) ([da, db].getD i .none)) 1]? = some v := hP
    cases hc : (dataLt da db) <;> simp [argBest, hc] at hP2 <;> simp [hP2]
  rw [hv]
  exact z
theorem min_two_data {prog : Program} {w : World} {A : Around} {E : Value → Shared → Prop} {s : Shared} {a b : Value} {da db : PyData} {as bs : List Addr} {Q : Value → Shared → Prop} (hh : A.handled = none) (ra : Reads s.heap a da as) (rb : Reads s.heap b db bs)
    (hal : AlikeAll [da, db]) (hu : A.units + 1 + PyData.depthAll [da, db] < cLine) (h : ∀ h' tk, (∀ c o, s.heap.get? c = some o → h'.get? c = some o) → Q (if dataLt db da = true then b else a) { s with heap := h', toks := tk }) :
    wpAny (model prog w) A (call (.builtin "min") [a, b]) Q E s := by
  have nm : (toString "min" ++ toString ".loop" : String) = "min.loop" := by decide
  refine call_function_tree F.kind_min F.plain_min F.entry_min (F.args_min2 _ _) ?_
  show wpAny _ A.in1 (Builtin.Builtins.bindParams "min" ["key", "default"] 0 ⟨[], []⟩ >>= fun x => _) _ _ s
  refine wpAny_bind (wpAny_of_eq (show Builtin.Builtins.bindParams "min" ["key", "default"] 0 ⟨[], []⟩ = pure [none, none] from rfl) ?_)
  show wpAny _ A.in1 (newTuple [a, b] >>= fun x => _) _ _ s
  refine wpAny_bind (wpAny_newObj_type ?_)
  have isT : (s.heap.push { cls := .type "tuple", data := .seq #[a, b] }).IsTuple s.heap.objs.size #[a, b] := ⟨_, Heap.get?_push_size _ rfl, rfl, 0, rfl⟩
  have kp : ∀ c o, s.heap.get? c = some o → (s.heap.push { cls := .type "tuple", data := .seq #[a, b] }).get? c = some o := fun c o e => Heap.get?_push_of_some _ e
  have rall : ReadsAll (s.heap.push { cls := .type "tuple", data := .seq #[a, b] }) (#[a, b] : Array Value).toList [da, db] (as ++ (bs ++ [])) := .cons (reads_keeps kp ra) (.cons (reads_keeps kp rb) .nil)
  refine wpAny_bind (iter_tupleW (A := A.in1) (s := { s with heap := s.heap.push { cls := .type "tuple", data := .seq #[a, b] } }) hh isT fun s₂ e W st hfp hw hk => ?_)
  refine wpAny_bind (wpAny_newObj_type ?_)
  have nf := fun hm => Nat.lt_irrefl _ (hfp s₂.heap.objs.size hm)
  rw [nm]
  refine wpAny_pure ⟨plainId_quiet F.plain_min_loop _, codeAny_min_loop_firstH W (s.heap.push { cls := .type "tuple", data := .seq #[a, b] }) hw _ (cmpIn_lt (A := A.in1) (s := { s with heap := s.heap.push { cls := .type "tuple", data := .seq #[a, b] } }) rall hal (by show A.units + 1 + _ < _; exact hu)) s₂.heap.objs.size nf (fresh_in hk) _ (by simp) (fun c o q => Heap.get?_push_of_some _ (hk c o q)) (W.frame 0 s₂ _ s₂.toks st (Nat.le_refl _) fun c _ o q => Heap.get?_push_of_some _ q) (Heap.get?_push_size _ rfl) fun v s' hP hm => ?_⟩
  obtain ⟨h', tk, rfl, hk'⟩ := moved_old (s := { s with heap := s.heap.push { cls := .type "tuple", data := .seq #[a, b] } }) e rfl (Moved.drop_new (tk := s₂.toks) hm (Nat.le_refl _))
  have z := h h' tk fun c o q => hk' c o (kp c o q)
  have hv : v = if dataLt db da = true then b else a := by
    have hP2 : (#[a, b] : Array Value)[argBest (fun i j => dataLt ([da, db].getD i .none) ([da, db].getD j .none)) 1]? = some v := hP
    cases hc : (dataLt db da) <;> simp [argBest, hc] at hP2 <;> simp [hP2]
  rw [hv]
  exact z
end PySem.W
namespace PL
open PySem PySem.Spec PyProof.Rows L2
def alP (x y : D) : Bool := alD x x && (alD x y && (alD y x && alD y y))
theorem alP_all {l m : List D} (h : alP (.tup l) (.tup m) = true) : PySem.W.AlikeAll [toPy (.tup l), toPy (.tup m)] := by
  unfold alP at h
  simp only [Bool.and_eq_true] at h
  obtain ⟨h1, h2, h3, h4⟩ := h
  refine ⟨?_, ?_⟩
  · intro x hx y hy
    simp only [List.mem_cons, List.not_mem_nil, or_false] at hx hy
    rcases hx with rfl | rfl <;> rcases hy with rfl | rfl
    · exact h1
    · exact h2
    · exact h3
    · exact h4
  · intro x hx
    simp only [List.mem_cons, List.not_mem_nil, or_false] at hx
    rcases hx with rfl | rfl <;> simp [toPy]
def rmax2D (K : PySem.W.Frag) : List V → Hp → VK → Prop := fun vs H Q => ∃ (x y : V) (d e : PyData), vs = [x, y] ∧ Dp K H x d ∧ Dp K H y e ∧ PySem.W.AlikeAll [d, e] ∧ PyData.depthAll [d, e] ≤ 62 ∧ Q (if PySem.W.dataLt d e = true then y else x) H
theorem cr_max2D {X : Cx} (hc : X.calm = true) (hu : X.A.units + 64 < cLine) : CallR X (.builtin "max") (rmax2D X.K) := by
  intro pins s σ H xs us Q I r ⟨x, y, d, e, ex, hd, he, hal, hp, q⟩
  subst ex
  obtain ⟨u, w', rfl, r1, r2⟩ := vals2 r
  obtain ⟨as, k1⟩ := Dp.reads I d x u hd r1
  obtain ⟨bs, k2⟩ := Dp.reads I e y w' he r2
  refine PySem.W.max_two_data (I.ok.hd hc) k1 k2 hal (by omega) fun h' tk k => ⟨_, H, I.kept k, ?_, q⟩
  by_cases c : PySem.W.dataLt d e = true
  · rw [if_pos c, if_pos c]; exact r2
  · rw [if_neg c, if_neg c]; exact r1
def pmaxU : List SV → Mem → VP → Prop := fun ss μ Q => match ss with
  | [.d (.int i), .d (.int j)] => Q (.d (.int (if j > i then j else i))) μ
  | [.d (.str i), .d (.str j)] => (okEq (.str i) = true ∧ okEq (.str j) = true) ∧ Q (.d (if ltD (.str i) (.str j) = true then .str j else .str i)) μ
  | [.d (.tup l), .d (.tup m)] => (okEq (.tup l) = true ∧ okEq (.tup m) = true ∧ alP (.tup l) (.tup m) = true) ∧ Q (.d (if ltD (.tup l) (.tup m) = true then .tup m else .tup l)) μ
  | _ => False
theorem pcall_maxU {K : PySem.W.Frag} : PCall K (fun xs H Q => (∃ i j, xs = [.int i, .int j] ∧ Q (.int (if j > i then j else i)) H) ∨ rmax2D K xs H Q) pmaxU := by
  intro ss μ A G H vs Qp Q h c rs k
  unfold pmaxU at h
  split at h
  · match rs with
    | .cons r (.cons r2 .nil) =>
      cases r; cases r2
      exact .inl ⟨_, _, rfl, k _ _ _ _ _ _ h c .refl (.int _)⟩
  · rename_i i j
    match rs with
    | .cons r (.cons r2 .nil) =>
      obtain ⟨⟨h1, h2⟩, q⟩ := h
      refine .inr ⟨_, _, toPy (.str i), toPy (.str j), rfl, rep_dp c.le 60 _ _ h1 r, rep_dp c.le 60 _ _ h2 r2, ⟨?_, ?_⟩, ?_, k _ _ _ _ _ _ q c .refl ?_⟩
      · intro x hx y hy
        simp only [toPy, List.mem_cons, List.not_mem_nil, or_false] at hx hy
        rcases hx with rfl | rfl <;> rcases hy with rfl | rfl <;> simp [PySem.W.alike]
      · intro x hx
        simp only [toPy, List.mem_cons, List.not_mem_nil, or_false] at hx
        rcases hx with rfl | rfl <;> simp
      · simp [toPy, PyData.depthAll, PyData.depth]
      · by_cases z : ltD (.str i) (.str j) = true
        · rw [if_pos z, if_pos (show PySem.W.dataLt (toPy (.str i)) (toPy (.str j)) = true from z)]; exact r2
        · rw [if_neg z, if_neg (show ¬ PySem.W.dataLt (toPy (.str i)) (toPy (.str j)) = true from z)]; exact r
  · rename_i l m
    match rs with
    | .cons r (.cons r2 .nil) =>
      obtain ⟨⟨h1, h2, h3⟩, q⟩ := h
      refine .inr ⟨_, _, toPy (.tup l), toPy (.tup m), rfl, rep_dp c.le 60 _ _ h1 r, rep_dp c.le 60 _ _ h2 r2, alP_all h3, ?_, k _ _ _ _ _ _ q c .refl ?_⟩
      · have := okEq_depth h1
        have := okEq_depth h2
        simp only [PyData.depthAll]; omega
      · by_cases z : ltD (.tup l) (.tup m) = true
        · rw [if_pos z, if_pos (show PySem.W.dataLt (toPy (.tup l)) (toPy (.tup m)) = true from z)]; exact r2
        · rw [if_neg z, if_neg (show ¬ PySem.W.dataLt (toPy (.tup l)) (toPy (.tup m)) = true from z)]; exact r
  · exact h.elim
def rmin2D (K : PySem.W.Frag) : List V → Hp → VK → Prop := fun vs H Q => ∃ (x y : V) (d e : PyData), vs = [x, y] ∧ Dp K H x d ∧ Dp K H y e ∧ PySem.W.AlikeAll [d, e] ∧ PyData.depthAll [d, e] ≤ 62 ∧ Q (if PySem.W.dataLt e d = true then y else x) H
theorem cr_min2D {X : Cx} (hc : X.calm = true) (hu : X.A.units + 64 < cLine) : CallR X (.builtin "min") (rmin2D X.K) := by
  intro pins s σ H xs us Q I r ⟨x, y, d, e, ex, hd, he, hal, hp, q⟩
  subst ex
  obtain ⟨u, w', rfl, r1, r2⟩ := vals2 r
  obtain ⟨as, k1⟩ := Dp.reads I d x u hd r1
  obtain ⟨bs, k2⟩ := Dp.reads I e y w' he r2
  refine PySem.W.min_two_data (I.ok.hd hc) k1 k2 hal (by omega) fun h' tk k => ⟨_, H, I.kept k, ?_, q⟩
  by_cases c : PySem.W.dataLt e d = true
  · rw [if_pos c, if_pos c]; exact r2
  · rw [if_neg c, if_neg c]; exact r1
def pminU : List SV → Mem → VP → Prop := fun ss μ Q => match ss with
  | [.d (.int i), .d (.int j)] => Q (.d (.int (if j < i then j else i))) μ
  | [.d (.str i), .d (.str j)] => (okEq (.str i) = true ∧ okEq (.str j) = true) ∧ Q (.d (if ltD (.str j) (.str i) = true then .str j else .str i)) μ
  | [.d (.tup l), .d (.tup m)] => (okEq (.tup l) = true ∧ okEq (.tup m) = true ∧ alP (.tup l) (.tup m) = true) ∧ Q (.d (if ltD (.tup m) (.tup l) = true then .tup m else .tup l)) μ
  | _ => False
theorem pcall_minU {K : PySem.W.Frag} : PCall K (fun xs H Q => (∃ i j, xs = [.int i, .int j] ∧ Q (.int (if j < i then j else i)) H) ∨ rmin2D K xs H Q) pminU := by
  intro ss μ A G H vs Qp Q h c rs k
  unfold pminU at h
  split at h
  · match rs with
    | .cons r (.cons r2 .nil) =>
      cases r; cases r2
      exact .inl ⟨_, _, rfl, k _ _ _ _ _ _ h c .refl (.int _)⟩
  · rename_i i j
    match rs with
    | .cons r (.cons r2 .nil) =>
      obtain ⟨⟨h1, h2⟩, q⟩ := h
      refine .inr ⟨_, _, toPy (.str i), toPy (.str j), rfl, rep_dp c.le 60 _ _ h1 r, rep_dp c.le 60 _ _ h2 r2, ⟨?_, ?_⟩, ?_, k _ _ _ _ _ _ q c .refl ?_⟩
      · intro x hx y hy
        simp only [toPy, List.mem_cons, List.not_mem_nil, or_false] at hx hy
        rcases hx with rfl | rfl <;> rcases hy with rfl | rfl <;> simp [PySem.W.alike]
      · intro x hx
        simp only [toPy, List.mem_cons, List.not_mem_nil, or_false] at hx
        rcases hx with rfl | rfl <;> simp
      · simp [toPy, PyData.depthAll, PyData.depth]
      · by_cases z : ltD (.str j) (.str i) = true
        · rw [if_pos z, if_pos (show PySem.W.dataLt (toPy (.str j)) (toPy (.str i)) = true from z)]; exact r2
        · rw [if_neg z, if_neg (show ¬ PySem.W.dataLt (toPy (.str j)) (toPy (.str i)) = true from z)]; exact r
  · rename_i l m
    match rs with
    | .cons r (.cons r2 .nil) =>
      obtain ⟨⟨h1, h2, h3⟩, q⟩ := h
      refine .inr ⟨_, _, toPy (.tup l), toPy (.tup m), rfl, rep_dp c.le 60 _ _ h1 r, rep_dp c.le 60 _ _ h2 r2, alP_all h3, ?_, k _ _ _ _ _ _ q c .refl ?_⟩
      · have := okEq_depth h1
        have := okEq_depth h2
        simp only [PyData.depthAll]; omega
      · by_cases z : ltD (.tup m) (.tup l) = true
        · rw [if_pos z, if_pos (show PySem.W.dataLt (toPy (.tup m)) (toPy (.tup l)) = true from z)]; exact r2
        · rw [if_neg z, if_neg (show ¬ PySem.W.dataLt (toPy (.tup m)) (toPy (.tup l)) = true from z)]; exact r
  · exact h.elim
section
variable {X : Cx} {W : WX} {a b : Expr} {tL : TXA} {p pos : Pos}
theorem px_maxU (hu : X.A.units + 64 < cLine) (hc : X.calm = true) (hg : Gl X "max") (hm : X.mg "max" = none) (ha : PXA X W [a, b] tL) (he : starEach [a, b] X.env = (false, eval a X.env) :: starEach [b] X.env := by rfl) (hpl : (backTo pos (starEach [b] X.env)).any (·.1) = false := by rfl) : PX X W (.Call (.Name "max" p) [a, b] [] pos) (xCall pmaxU tL) :=
  px_callB (CallR.or (call_max2 hc) (cr_max2D hc hu)) pcall_maxU hg hm (by decide +kernel) ha (by decide) (by decide) he hpl
theorem px_minU (hu : X.A.units + 64 < cLine) (hc : X.calm = true) (hg : Gl X "min") (hm : X.mg "min" = none) (ha : PXA X W [a, b] tL) (he : starEach [a, b] X.env = (false, eval a X.env) :: starEach [b] X.env := by rfl) (hpl : (backTo pos (starEach [b] X.env)).any (·.1) = false := by rfl) : PX X W (.Call (.Name "min" p) [a, b] [] pos) (xCall pminU tL) :=
  px_callB (CallR.or (call_min2 hc) (cr_min2D hc hu)) pcall_minU hg hm (by decide +kernel) ha (by decide) (by decide) he hpl
end
end PL
namespace PL
open PySem PySem.Spec PyProof.Rows L2 RZ
section
variable {X : Cx} {W : WX} {a b c e o tg iter elt : Expr} {es ifs : List Expr} {ta tb tc te to : TX} {tL : TXA} {pos p apos cpos tpos p2 : Pos} {x : Str} {g : TXG} {ti : TXI} {tt : TXT}
def txts : List D → Option (List Str)
  | [] => some []
  | .str x :: r => (txts r).map (x :: ·)
  | _ :: _ => none
def pSlV : SV → Option Int → Option Int → Mem → VP → Prop := fun sa lo hi μ Q => match sa with
  | .d (.tup l) => Q (.d (.tup (cutD l lo hi))) μ
  | .d (.ntp l) => Q (.d (cutN l lo hi)) μ
  | .d (.scr l) => Q (.d (.lst (cutD (l.map .int) lo hi))) μ
  | .d (.str z) => z.length ≤ sizeLine ∧ Q (.d (.str (cutS z lo hi))) μ
  | sa => on (lstOf sa μ) fun l => Q (.d (.lst (cutD l lo hi))) μ
theorem psl_V : PSl X.K (fun x lo hi H Q => (rSlA X.K x lo hi H Q ∨ rSlL X.K x lo hi H Q) ∨ rSlS x lo hi H Q) pSlV := by
  intro sa lo hi μ A G H va Qp Q h c ra k
  unfold pSlV at h
  split at h
  · rename_i l
    exact .inl (.inl (psl_tup (.d (.tup l)) lo hi μ A G H va Qp Q h c ra k))
  · rename_i l
    exact .inl (.inl (psl_tup (.d (.ntp l)) lo hi μ A G H va Qp Q h c ra k))
  · rename_i l
    exact .inl (.inr (psl_scr (.d (.scr l)) lo hi μ A G H va Qp Q h c ra k))
  · cases ra
    exact .inr ⟨_, rfl, h.1, k _ _ _ _ _ _ h.2 c .refl (.str _)⟩
  · exact .inl (.inr (psl_list _ lo hi μ A G H va Qp Q h c ra k))
theorem px_slV {lo hi : Option Expr} {tl th : TXO} (ha : PX X W a ta) (hl : PXO X W lo tl) (hh : PXO X W hi th) : PX X W (.Subscript a (.Slice lo hi none p2) pos) (xSl pSlV ta tl th) := px_sl (SlR.or (SlR.or sl_tupA sl_list) sl_str) psl_V ha hl hh
end
end PL
namespace PL
open PySem PySem.Spec PyProof.Rows L2 RZ
section
variable {X : Cx} {W : WX} {a b c e o tg iter elt : Expr} {es ifs : List Expr} {ta tb tc te to : TX} {tL : TXA} {pos p apos cpos tpos p2 : Pos} {x : Str} {g : TXG} {ti : TXI} {tt : TXT}
theorem call_tuple_frz : CallR X (.type "tuple") (fun xs H Q => ∃ p ys, xs = [.ref p] ∧ ((SqL X.K H p ys ∧ ∀ l o, H l = none → o.dict = none → Q (.ref l) (upd H l (.frz o (.tup ys)))) ∨ (SqT X.K H p ys ∧ Q (.ref p) H))) := by
  intro pins s σ H xs us Q I r h
  obtain ⟨p, ys, rfl, h⟩ := h
  obtain ⟨u, rfl, rx⟩ := vals1 r
  cases rx
  rcases h with ⟨hq, q⟩ | ⟨hq, q⟩
  · obtain ⟨its, r', pl, hz⟩ := I.list hq
    have hlen := r'.length
    refine call_tuple_list pl.isList (fun h' kp => ?_) (by simp only [List.size_toArray] <;> omega)
    have I1 : Inv X pins σ H { s with heap := h' } := I.kept (t' := s.toks) kp
    have I2 : Inv X pins σ (upd H h'.objs.size (.frz { cls := .type "tuple", data := .seq its.toArray } (.tup ys))) { s with heap := h'.push { cls := .type "tuple", data := .seq its.toArray } } :=
      I1.laid (t' := s.toks) (fun b o e => Heap.get?_push_of_some _ e) (Nat.le_refl _) (show ObjOk X.prog X.w _ _ _ (.frz _ (.tup ys)) from ⟨Heap.get?_push_size _ rfl, hz, its, r', IsTup.new _ _⟩)
    exact ⟨.ref h'.objs.size, _, I2, rfl, q _ _ (I1.hok.fresh (Nat.le_refl _)) rfl⟩
  · obtain ⟨its, r', pl, hz⟩ := I.tuple hq
    exact call_tuple_same pl ⟨.ref p, H, I, rfl, q⟩
def pTupN : List SV → Mem → VP → Prop := fun ss μ Q => match ss with
  | [s] => match lstOf s μ with
    | some l => Q (.d (.ntp l)) μ
    | none => (tupOf s).isSome = true ∧ Q s μ
  | _ => False
theorem pcall_tupN : PCall X.K (fun xs H Q => ∃ p ys, xs = [.ref p] ∧ ((SqL X.K H p ys ∧ ∀ l o, H l = none → o.dict = none → Q (.ref l) (upd H l (.frz o (.tup ys)))) ∨ (SqT X.K H p ys ∧ Q (.ref p) H))) pTupN := by
  intro ss μ A G H vs Qp Q h c rs k
  match ss, h, rs with
  | [s], h, .cons r .nil =>
    simp only [pTupN] at h
    cases e1 : lstOf s μ with
    | some l' =>
      rw [e1] at h
      obtain ⟨a, us, rfl, h1, h2⟩ := lstOf_rep e1 c r
      refine ⟨a, us, rfl, .inl ⟨SqL.of h1, fun p o hp hd => ?_⟩⟩
      obtain ⟨c2, s2⟩ := c.laid (o := .frz o (.tup us)) hp
      exact k _ _ _ _ _ _ h c2 s2 (Rep.ntp upd_same hd (h2.mono s2.le))
    | none =>
      rw [e1] at h
      obtain ⟨h0, q⟩ := h
      obtain ⟨l, e2⟩ := Option.isSome_iff_exists.mp h0
      obtain ⟨a, us, rfl, h1, h2⟩ := tupOf_rep e2 c r
      exact ⟨a, us, rfl, .inr ⟨h1, k _ _ _ _ _ _ q c .refl r⟩⟩
theorem px_tupleN (hg : Gl X "tuple") (hm : X.mg "tuple" = none) (ha : PXA X W [e] tL) (he : starEach [e] X.env = (false, eval e X.env) :: starEach [] X.env := by rfl) : PX X W (.Call (.Name "tuple" p) [e] [] pos) (xCall pTupN tL) :=
  px_callTy call_tuple_frz pcall_tupN hg hm (by decide +kernel) ha (by decide) (by decide) he rfl

theorem lc_liftL {vs : List Nat} {wi : TI} (hti : ∀ σ H R, liftI X.K W ti σ H R → wi σ H R) (σ : L2.St) (H : Hp) (Q : VK) (h : lift X.K W (xLc ti g tt te vs finL) σ H Q) : tLc wi (liftG X.K wF vs g) (liftT X.K wF tt) (lift X.K wF te) vs σ H Q := by
  obtain ⟨A, ρ, μ, G, Qp, x, S, ht, hx, k⟩ := h
  refine hti _ _ _ ⟨A, ρ, μ, G, _, x, S, ht, hx, fun ds μ1 A1 G1 H1 J ⟨hz, I, i0, turn, done⟩ c1 s1 w Dd hD => ?_⟩
  refine lc_turns (S.after s1 c1) hD w hz i0 turn fun acc μ' i' A' G' H' ws c' s' hd hr na gn => ?_
  have q := done acc μ' i'
  have lg : LeZ G' (upd G' Dd (.lst ws)) := fun a o e => .inl (by rw [upd_ne (ne_of_none e gn)]; exact e)
  refine k (.d (.lst acc)) μ' A' (upd G' Dd (.lst ws)) H' (.ref Dd) q ⟨fun a o e => ?_, c'.len, c'.nd, fun a ha => ?_, fun j a cl e1 e2 => (c'.ok j a cl e1 e2).mono (List.prefix_refl _) lg rfl⟩ ?_ (Rep.lst upd_same (hr.mono lg))
  · by_cases z : a = Dd
    · rw [z] at e ⊢; rw [upd_same] at e; rw [hd]; exact e
    · rw [upd_ne z] at e; exact c'.le a o e
  · rw [upd_ne (fun z => na (by rw [← z]; exact ha))]; exact c'.free a ha
  · have st := s1.trans s'
    refine ⟨st.pre, st.le.trans lg, st.keep, fun a e => ?_, st.tups, st.cells, st.there⟩
    by_cases z : a = Dd
    · refine .inr (.inl ?_)
      cases q2 : H a with
      | none => rfl
      | some o => exact absurd (by rw [z]; exact hD) (s1.there a (by rw [q2]; simp))
    · rw [upd_ne z] at e; exact st.new a e
theorem psx_setLc {i : Nat} {y : Str} {py : Pos} {scope : Scope} {own : List (Str × Nat)} (hc : X.calm = true) (hN : X.N.Nodup) (hy : X.N[i]? = some y) (hyl : X.env.scope.names.lookup y = some .local)
    (hsw : swapsWith (.ListComp elt [⟨tg, iter, ifs, 0⟩] scope p) (some (.Name y py)) pos.line X.env = pure true) (hi : PXI X W tg iter ti) (ok : BlkOk X.N X.env.scope scope own)
    (hg : ∀ (s : Shared) (H : Hp) (C : Addr) (cl : List (Str × Addr)) (fp : List Addr), PXG (X.blk s H scope (compEnvC scope cl C X.env) fp) wF (own.map (·.2)) tg g)
    (ht : ∀ (s : Shared) (H : Hp) (C : Addr) (cl : List (Str × Addr)) (fp : List Addr), PXTs (X.blk s H scope (compEnvC scope cl C X.env) fp) wF ifs tt)
    (he : ∀ (s : Shared) (H : Hp) (C : Addr) (cl : List (Str × Addr)) (fp : List Addr), PX (X.blk s H scope (compEnvC scope cl C X.env) fp) wF elt te) (hs : ∀ x, foldedSetIterable iter X.env x = pure x := by intro _; rfl) :
    PXS X W (.Assign [.Name y py] (.ListComp elt [⟨tg, iter, ifs, 0⟩] scope p) pos) (xAsg (xLc ti g tt te (own.map (·.2)) finL) (xName i)) := by
  obtain ⟨wi, hpi, hti⟩ := hi.ex
  refine ⟨(ps_setLc (g := liftG X.K wF (own.map (·.2)) g) (tt := liftT X.K wF tt) (te := lift X.K wF te) hc hN hy hyl hsw hpi ok (fun s H C cl fp => (hg s H C cl fp).pg) (fun s H C cl fp => (ht s H C cl fp).pt) (fun s H C cl fp => (he s H C cl fp).pe) hs).imp fun D σ H h => ?_⟩
  obtain ⟨A, ρ, μ, G, E, S, ht, k⟩ := h
  exact lc_liftL hti σ H _ ⟨A, ρ, μ, G, _, _, S, ht, k.ex, fun s μ1 A1 G1 H1 v q c1 s1 r1 => k.nx _ _ _ _ _ _ q ((S.after s1 c1).set i r1) s1⟩
end
end PL
namespace PL
open PySem PySem.Spec PyProof.Rows L2 RZ
section
variable {X : Cx} {W : WX} {a b c e o tg iter elt : Expr} {es ifs : List Expr} {ta tb tc te to : TX} {t : TA} {tL : TXA} {pos p apos cpos tpos p2 : Pos} {x : Str} {g : TXG} {ti : TXI} {tt : TXT} {name : Str}
end
end PL
namespace PL
open PySem PySem.Spec PyProof.Rows L2 RZ
theorem wipe_wipe (σ : L2.St) (vs : List Nat) : L2.wipe (L2.wipe σ vs) vs = L2.wipe σ vs := by
  refine List.ext_getElem? fun j => ?_
  have key : ∀ (τ : L2.St) (us : List Nat), (L2.wipe τ us)[j]? = if j ∈ us then (τ[j]?).map (fun _ => none) else τ[j]? := by
    intro τ us
    induction us with
    | nil => simp [L2.wipe]
    | cons v us ih =>
      unfold L2.wipe
      by_cases e : v = j
      · subst e
        by_cases hv : v < τ.length
        · rw [List.getElem?_set_self (by rw [L2.wipe_length]; exact hv)]
          simp [List.getElem?_eq_getElem hv]
        · rw [List.getElem?_eq_none (by simp [L2.wipe_length]; omega)]
          simp [List.getElem?_eq_none (Nat.le_of_not_lt hv)]
      · rw [List.getElem?_set_ne e, ih]
        have : (j ∈ v :: us) ↔ j ∈ us := by
          simp only [List.mem_cons]
          exact ⟨fun h => h.resolve_left fun q => e q.symm, .inr⟩
        simp only [this]
  rw [key, key]
  by_cases h : j ∈ vs
  · simp [h]
    cases σ[j]? <;> rfl
  · simp [h]
/-- any loop over a walk -/
theorem it_gen {J : It} {n : Nat} {G : Hp → Prop} {Y : Nat → Hp → V → Hp → Prop} (w : Walk J n G Y) {H1 : Hp} {Qd : Hp → Prop} (body : (Hp → Prop) → V → Hp → Prop) (Pv : Nat → Hp → Prop) (h0 : Pv 0 H1) (hG : ∀ i H, i ≤ n → Pv i H → G H)
    (hs : ∀ i x H H', i < n → Pv i H → Y i H x H' → body (Pv (i + 1)) x H') (hd : ∀ H, Pv n H → Qd H) :
    ∃ W : Nat → Nat → Hp → Prop, (∃ m, W 0 m H1) ∧ ∀ i m H, W i m H →
      (J.stop i H ∧ Qd H) ∨ (J.go i H ∧ ∃ Nx : Hp → Prop, (∀ H', Nx H' → ∃ m', m' < m ∧ W (i + 1) m' H') ∧ ∀ x H', J.yld i H x H' → body Nx x H') := by
  refine ⟨fun i m H => m = n - i ∧ i ≤ n ∧ Pv i H, ⟨n, by simp, Nat.zero_le _, h0⟩, ?_⟩
  rintro i m H ⟨rfl, hi, p⟩
  have q := hG i H hi p
  by_cases hlt : i < n
  · exact .inr ⟨w.goes i H hlt q, Pv (i + 1), fun H' p' => ⟨n - (i + 1), by omega, rfl, hlt, p'⟩, fun x H' y => hs i x H H' hlt p (w.yields i H x H' hlt q y)⟩
  · have e : i = n := by omega
    subst e
    exact .inl ⟨w.stops H q, hd H p⟩
/-- the list under way stands at Dd -/
def LcS (K : PySem.W.Frag) (A1 : List Addr) (G1 H1 : Hp) (Dd : Addr) (acc : List D) (μ : Mem) (H : Hp) : Prop :=
  ∃ ws A' G', Cells K A' μ G' H ∧ Step A1 G1 H1 A' G' H ∧ H Dd = some (.lst ws) ∧ Reps K G' acc ws ∧ Dd ∉ A' ∧ G' Dd = none
section
variable {X : Cx} {W : WX} {a b c e o tg iter elt tg1 iter1 : Expr} {es ifs ifs1 : List Expr} {ta tb tc te to : TX} {tL : TXA} {pos p apos cpos tpos p2 : Pos} {x : Str} {g g1 : TXG} {ti ti1 : TXI} {tt tt1 : TXT}
def xLc2 (ti : TXI) (g : TXG) (tt : TXT) (ti1 : TXI) (g1 : TXG) (tt1 : TXT) (te : TX) (vs vs1 : List Nat) (fin : List D → Mem → VP → Prop) : TX := fun x ρ μ Q => ti x ρ μ fun ds μ1 => ∃ I : Nat → List D → Mem → Prop, I 0 [] μ1 ∧
  (∀ i d acc μ, ds[i]? = some d → I i acc μ → g xF (.d d) (wipeP ρ vs) μ fun ρ2 μ2 => tt xF ρ2 μ2 fun b μ3 => Br b
    (ti1 xF ρ2 μ3 fun es μ4 => ∃ I1 : Nat → List D → Mem → Prop, I1 0 acc μ4 ∧
      (∀ j e acc μ, es[j]? = some e → I1 j acc μ → g1 xF (.d e) (wipeP ρ2 vs1) μ fun ρ5 μ5 => tt1 xF ρ5 μ5 fun b μ6 => Br b (te xF ρ5 μ6 fun s μ7 => match s with
        | .d y => acc.length < sizeLine ∧ I1 (j + 1) (acc ++ [y]) μ7
        | _ => False) (I1 (j + 1) acc μ6)) ∧ ∀ acc μ, I1 es.length acc μ → I (i + 1) acc μ)
    (I (i + 1) acc μ3)) ∧ ∀ acc μ, I ds.length acc μ → fin acc μ Q
theorem PXI.pi (h : PXI X W tg iter ti) : PI X tg iter (liftI X.K W ti) := by
  obtain ⟨wi, hp, hw⟩ := h.ex
  exact ⟨fun pins s σ H R I q => hp.run pins s σ H R I (hw _ _ _ q)⟩
theorem Sim.after2 {K : PySem.W.Frag} {A A' : List Addr} {σ : L2.St} {ρ : Env'} {μ μ' : Mem} {G G' H H' : Hp} (S : Sim K A σ ρ μ G H) (p : A <+: A') (g : LeZ G G') (c : Cells K A' μ' G' H') : Sim K A' σ ρ μ' G' H' where
  toCells := c
  sl := S.sl
  at_ := fun i h => let ⟨o, e, q⟩ := S.at_ i h; ⟨o, e, q.mono p g⟩
theorem LcS.step {K : PySem.W.Frag} {A2 A' : List Addr} {G2 H2 G' H' : Hp} {Dd : Addr} {acc : List D} {ws : List V} (hd : H2 Dd = some (.lst ws)) (hr : Reps K G2 acc ws) (na : Dd ∉ A2) (gn : G2 Dd = none)
    (st : Step A2 G2 H2 A' G' H') : H' Dd = some (.lst ws) ∧ Reps K G' acc ws ∧ Dd ∉ A' ∧ G' Dd = none := by
  refine ⟨?_, hr.mono st.le, fun z => ?_, ?_⟩
  · rcases st.keep _ _ hd na with q | ⟨q, _⟩
    · exact q
    · rw [gn] at q; cases q
  · rcases st.cells _ z with q | q
    · exact na q
    · rw [hd] at q; cases q
  · cases q : G' Dd with
    | none => rfl
    | some o =>
      rcases st.new Dd (by rw [q]; simp) with z | z | ⟨_, z⟩
      · exact absurd gn z
      · rw [hd] at z; cases z
      · rw [hd] at z; cases z
theorem lc2_turns {K : PySem.W.Frag} {ds : List D} {J : It} {A1 : List Addr} {G1 H1 : Hp} {σ : L2.St} {ρ : Env'} {μ1 : Mem} {vs vs1 : List Nat} {Q : Hp → Prop} {Dd : Addr} (S : Sim K A1 σ ρ μ1 G1 H1) (hD : H1 Dd = none)
    (w : Walk J ds.length (fun H => LeZ G1 H) (YD K ds G1)) {I : Nat → List D → Mem → Prop} (i0 : I 0 [] μ1)
    (turn : ∀ i d acc μ, ds[i]? = some d → I i acc μ → g xF (.d d) (wipeP ρ vs) μ fun ρ2 μ2 => tt xF ρ2 μ2 fun b μ3 => Br b
      (ti1 xF ρ2 μ3 fun es μ4 => ∃ I1 : Nat → List D → Mem → Prop, I1 0 acc μ4 ∧
        (∀ j e acc μ, es[j]? = some e → I1 j acc μ → g1 xF (.d e) (wipeP ρ2 vs1) μ fun ρ5 μ5 => tt1 xF ρ5 μ5 fun b μ6 => Br b (te xF ρ5 μ6 fun s μ7 => match s with
          | .d y => acc.length < sizeLine ∧ I1 (j + 1) (acc ++ [y]) μ7
          | _ => False) (I1 (j + 1) acc μ6)) ∧ ∀ acc μ, I1 es.length acc μ → I (i + 1) acc μ)
      (I (i + 1) acc μ3))
    (done : ∀ acc μ, I ds.length acc μ → ∀ A' G' H' ws, Cells K A' μ G' H' → Step A1 G1 H1 A' G' H' → H' Dd = some (.lst ws) → Reps K G' acc ws → Dd ∉ A' → G' Dd = none → Q H') :
    ∃ W : Nat → Nat → Hp → Prop, (∃ m, W 0 m (upd H1 Dd (.lst []))) ∧ ∀ i m H, W i m H →
      (J.stop i H ∧ Q H) ∨ (J.go i H ∧ ∃ Nx : Hp → Prop, (∀ H', Nx H' → ∃ m', m' < m ∧ W (i + 1) m' H') ∧ ∀ x H', J.yld i H x H' → liftG K wF vs g x (L2.wipe σ vs) H' fun σ2 H2 => L2.wipe σ2 vs = L2.wipe σ vs ∧ liftT K wF tt σ2 H2 fun b H3 =>
        if b = true then liftI K wF ti1 σ2 H3 fun J1 H4 => ∃ W1 : Nat → Nat → Hp → Prop, (∃ m, W1 0 m H4) ∧ ∀ j k H, W1 j k H →
          (J1.stop j H ∧ Nx H) ∨ (J1.go j H ∧ ∃ Nx1 : Hp → Prop, (∀ H', Nx1 H' → ∃ k', k' < k ∧ W1 (j + 1) k' H') ∧ ∀ x H', J1.yld j H x H' → liftG K wF vs1 g1 x (L2.wipe σ2 vs1) H' fun σ3 H5 => L2.wipe σ3 vs1 = L2.wipe σ2 vs1 ∧ liftT K wF tt1 σ3 H5 fun b H6 =>
            if b = true then lift K wF te σ3 H6 fun y H7 => ∃ acc, H7 Dd = some (.lst acc) ∧ acc.length < sizeLine ∧ Nx1 (upd H7 Dd (.lst (acc ++ [y]))) else Nx1 H6)
        else Nx H3) := by
  refine it_gen w (fun Nx x H' => liftG K wF vs g x (L2.wipe σ vs) H' fun σ2 H2 => L2.wipe σ2 vs = L2.wipe σ vs ∧ liftT K wF tt σ2 H2 fun b H3 =>
        if b = true then liftI K wF ti1 σ2 H3 fun J1 H4 => ∃ W1 : Nat → Nat → Hp → Prop, (∃ m, W1 0 m H4) ∧ ∀ j k H, W1 j k H →
          (J1.stop j H ∧ Nx H) ∨ (J1.go j H ∧ ∃ Nx1 : Hp → Prop, (∀ H', Nx1 H' → ∃ k', k' < k ∧ W1 (j + 1) k' H') ∧ ∀ x H', J1.yld j H x H' → liftG K wF vs1 g1 x (L2.wipe σ2 vs1) H' fun σ3 H5 => L2.wipe σ3 vs1 = L2.wipe σ2 vs1 ∧ liftT K wF tt1 σ3 H5 fun b H6 =>
            if b = true then lift K wF te σ3 H6 fun y H7 => ∃ acc, H7 Dd = some (.lst acc) ∧ acc.length < sizeLine ∧ Nx1 (upd H7 Dd (.lst (acc ++ [y]))) else Nx1 H6)
        else Nx H3) (fun i H => ∃ acc μ', I i acc μ' ∧ LcS K A1 G1 H1 Dd acc μ' H) ?_ (fun i H _ ⟨acc, μ', _, ws, A', G', c, s, _⟩ => s.le.trans c.le.z) ?_ ?_
  · have gn : G1 Dd = none := S.gnone hD
    have na : Dd ∉ A1 := fun z => S.ne_of_lt z hD rfl
    refine ⟨[], μ1, i0, [], A1, G1, ⟨fun a o e => ?_, S.len, S.nd, S.free, fun k a cl h1 h2 => ?_⟩, ⟨List.prefix_refl _, LeZ.refl _, fun a o e _ => .inl ?_, fun a e => .inl e, fun a xs e => ?_, fun a e => .inl e, fun a e => ?_⟩, upd_same, .nil, na, gn⟩
    · rw [upd_ne (ne_of_none e gn)]; exact S.le a o e
    · exact (S.ok k a cl h1 h2).mono (List.prefix_refl _) (LeZ.refl _) (upd_ne (S.ne_of_lt (List.mem_of_getElem? h1) hD))
    · rw [upd_ne (ne_of_none e hD)]; exact e
    · by_cases z : a = Dd
      · rw [z, upd_same] at e; cases e
      · rw [upd_ne z] at e; exact .inr e
    · by_cases z : a = Dd
      · rw [z, upd_same]; simp
      · rw [upd_ne z]; exact e
  · rintro i x H H' hi ⟨acc, μ2, i2, ws, A2, G2, c2, s2, hd, hr, na, gn⟩ y
    obtain ⟨d, G3, e, r, c3, s3⟩ := yd_begin s2.le c2 y
    have S3 : Sim K A2 (L2.wipe σ vs) (wipeP ρ vs) μ2 G3 H' := (S.wipe vs).after (s2.trans s3) c3
    refine ⟨A2, _, μ2, G3, .d d, _, xF, S3, r, turn i d acc μ2 e i2, exF, fun ρ4 μ4 A4 σ4 G4 H4 q4 S4 s4 kp => ⟨Eq.trans kp (wipe_wipe σ vs), ?_⟩⟩
    refine ⟨A4, ρ4, μ4, G4, _, xF, S4, q4, exF, fun b μ5 A5 G5 H5 q5 c5 s5 => ?_⟩
    have s25 := (s3.trans s4).trans s5
    cases b with
    | false =>
      obtain ⟨h1, h2, h3, h4⟩ := LcS.step hd hr na gn s25
      exact ite_ff ⟨acc, μ5, q5, ws, A5, G5, c5, s2.trans s25, h1, h2, h3, h4⟩
    | true =>
      refine ite_tt ⟨A5, ρ4, μ5, G5, _, xF, S4.after s5 c5, q5, exF, fun es μ6 A6 G6 H6 J1 ⟨I1, i10, turn1, done1⟩ c6 s6 w1 => ?_⟩
      have s26 := s25.trans s6
      obtain ⟨h1, h2, h3, h4⟩ := LcS.step hd hr na gn s26
      have S6 : Sim K A6 σ4 ρ4 μ6 G6 H6 := (S4.after s5 c5).after s6 c6
      refine it_gen w1 (fun Nx1 x H' => liftG K wF vs1 g1 x (L2.wipe σ4 vs1) H' fun σ3 H5 => L2.wipe σ3 vs1 = L2.wipe σ4 vs1 ∧ liftT K wF tt1 σ3 H5 fun b H6 =>
            if b = true then lift K wF te σ3 H6 fun y H7 => ∃ acc, H7 Dd = some (.lst acc) ∧ acc.length < sizeLine ∧ Nx1 (upd H7 Dd (.lst (acc ++ [y]))) else Nx1 H6)
        (fun j H => ∃ acc μ', I1 j acc μ' ∧ ∃ ws A' G', Cells K A' μ' G' H ∧ Step A1 G1 H1 A' G' H ∧ (A6 <+: A' ∧ LeZ G6 G') ∧ H Dd = some (.lst ws) ∧ Reps K G' acc ws ∧ Dd ∉ A' ∧ G' Dd = none) ⟨acc, μ6, i10, ws, A6, G6, c6, s2.trans s26, ⟨List.prefix_refl _, LeZ.refl _⟩, h1, h2, h3, h4⟩ (fun i H _ ⟨acc, μ', _, ws, A', G', c, s, l, _⟩ => l.2.trans c.le.z) ?_ ?_
      · rintro j x Ha Hb hj ⟨acc, μ7, i7, ws, A7, G7, c7, s7, l7, hd7, hr7, na7, gn7⟩ y1
        obtain ⟨d1, G8, e1, r1, c8, s8⟩ := yd_begin l7.2 c7 y1
        have S8 : Sim K A7 (L2.wipe σ4 vs1) (wipeP ρ4 vs1) μ7 G8 Hb := (S6.wipe vs1).after2 (l7.1.trans s8.pre) (l7.2.trans s8.le) c8
        refine ⟨A7, _, μ7, G8, .d d1, _, xF, S8, r1, turn1 j d1 acc μ7 e1 i7, exF, fun ρ9 μ9 A9 σ9 G9 H9 q9 S9 s9 kp9 => ⟨Eq.trans kp9 (wipe_wipe σ4 vs1), ?_⟩⟩
        refine ⟨A9, ρ9, μ9, G9, _, xF, S9, q9, exF, fun b μ10 A10 G10 H10 q10 c10 s10 => ?_⟩
        have s710 := (s8.trans s9).trans s10
        cases b with
        | false =>
          obtain ⟨k1, k2, k3, k4⟩ := LcS.step hd7 hr7 na7 gn7 s710
          exact ite_ff ⟨acc, μ10, q10, ws, A10, G10, c10, s7.trans s710, ⟨l7.1.trans s710.pre, l7.2.trans s710.le⟩, k1, k2, k3, k4⟩
        | true =>
          refine ite_tt ⟨A10, ρ9, μ10, G10, _, xF, S9.after s10 c10, q10, exF, fun s μ11 A11 G11 H11 v q11 c11 s11 r11 => ?_⟩
          have s711 := s710.trans s11
          obtain ⟨k1, k2, k3, k4⟩ := LcS.step hd7 hr7 na7 gn7 s711
          match s, q11, r11 with
          | .d z, q11, r11 =>
            refine ⟨ws, k1, by rw [← hr7.length]; exact q11.1, acc ++ [z], μ11, q11.2, ws ++ [v], A11, G11, ?_, ?_, ⟨l7.1.trans s711.pre, l7.2.trans s711.le⟩, upd_same, k2.app (.cons r11 .nil), k3, k4⟩
            · refine ⟨fun a o e => ?_, c11.len, c11.nd, c11.free, fun k a cl e1 e2 => ?_⟩
              · rw [upd_ne (ne_of_none e k4)]; exact c11.le a o e
              · exact (c11.ok k a cl e1 e2).mono (List.prefix_refl _) (LeZ.refl _) (upd_ne fun q => k3 (by rw [← q]; exact List.mem_of_getElem? e1))
            · have st := s7.trans s711
              refine ⟨st.pre, st.le, fun a o e n => ?_, st.new, fun a xs e => ?_, st.cells, fun a e => ?_⟩
              · rw [upd_ne (ne_of_none e hD)]; exact st.keep a o e n
              · by_cases q : a = Dd
                · rw [q, upd_same] at e; cases e
                · rw [upd_ne q] at e; exact st.tups a xs e
              · by_cases q : a = Dd
                · rw [q, upd_same]; simp
                · rw [upd_ne q]; exact st.there a e
      · rintro H ⟨acc, μ7, i7, ws, A7, G7, c7, s7, l7, hd7, hr7, na7, gn7⟩
        exact ⟨acc, μ7, done1 acc μ7 i7, ws, A7, G7, c7, s7, hd7, hr7, na7, gn7⟩
  · rintro H ⟨acc, μ2, i2, ws, A2, G2, c2, s2, hd, hr, na, gn⟩
    exact done acc μ2 i2 A2 G2 H ws c2 s2 hd hr na gn
theorem px_lc2 {scope : Scope} {own : List (Str × Nat)} (vs1 : List Nat) (hc : X.calm = true) (hN : X.N.Nodup) (hi : PXI X W tg iter ti) (ok : BlkOk X.N X.env.scope scope own) (hv : ∀ i ∈ vs1, i ∈ own.map (·.2))
    (hg : ∀ (s : Shared) (H : Hp) (C : Addr) (cl : List (Str × Addr)) (fp : List Addr), PXG (X.blk s H scope (compEnvC scope cl C X.env) fp) wF (own.map (·.2)) tg g)
    (ht : ∀ (s : Shared) (H : Hp) (C : Addr) (cl : List (Str × Addr)) (fp : List Addr), PXTs (X.blk s H scope (compEnvC scope cl C X.env) fp) wF ifs tt)
    (hi1 : ∀ (s : Shared) (H : Hp) (C : Addr) (cl : List (Str × Addr)) (fp : List Addr), PXI (X.blk s H scope (compEnvC scope cl C X.env) fp) wF tg1 iter1 ti1)
    (hg1 : ∀ (s : Shared) (H : Hp) (C : Addr) (cl : List (Str × Addr)) (fp : List Addr), PXG (X.blk s H scope (compEnvC scope cl C X.env) fp) wF vs1 tg1 g1)
    (ht1 : ∀ (s : Shared) (H : Hp) (C : Addr) (cl : List (Str × Addr)) (fp : List Addr), PXTs (X.blk s H scope (compEnvC scope cl C X.env) fp) wF ifs1 tt1)
    (he : ∀ (s : Shared) (H : Hp) (C : Addr) (cl : List (Str × Addr)) (fp : List Addr), PX (X.blk s H scope (compEnvC scope cl C X.env) fp) wF elt te) (hs : ∀ x, foldedSetIterable iter X.env x = pure x := by intro _; rfl) (hs1 : ∀ env x, foldedSetIterable iter1 env x = pure x := by intro _ _; rfl) :
    PX X W (.ListComp elt [⟨tg, iter, ifs, 0⟩, ⟨tg1, iter1, ifs1, 0⟩] scope pos) (xLc2 ti g tt ti1 g1 tt1 te (own.map (·.2)) vs1 finL) := by
  obtain ⟨wi, hpi, hti⟩ := hi.ex
  refine ⟨(pe_lc2 (g := liftG X.K wF (own.map (·.2)) g) (tt := liftT X.K wF tt) (wi1 := liftI X.K wF ti1) (g1 := liftG X.K wF vs1 g1) (tt1 := liftT X.K wF tt1) (te := lift X.K wF te) hc hN hpi ok hv (fun s H C cl fp => (hg s H C cl fp).pg) (fun s H C cl fp => (ht s H C cl fp).pt) (fun s H C cl fp => (hi1 s H C cl fp).pi) (fun s H C cl fp => (hg1 s H C cl fp).pg) (fun s H C cl fp => (ht1 s H C cl fp).pt) (fun s H C cl fp => (he s H C cl fp).pe) hs hs1).imp fun σ H Q h => ?_⟩
  obtain ⟨A, ρ, μ, G, Qp, x, S, ht, hx, k⟩ := h
  refine hti _ _ _ ⟨A, ρ, μ, G, _, x, S, ht, hx, fun ds μ1 A1 G1 H1 J ⟨I, i0, turn, done⟩ c1 s1 w Dd hD => ?_⟩
  refine lc2_turns (S.after s1 c1) hD w i0 turn fun acc μ' i' A' G' H' ws c' s' hd hr na gn => ?_
  have q := done acc μ' i'
  have lg : LeZ G' (upd G' Dd (.lst ws)) := fun a o e => .inl (by rw [upd_ne (ne_of_none e gn)]; exact e)
  refine k (.d (.lst acc)) μ' A' (upd G' Dd (.lst ws)) H' (.ref Dd) q ⟨fun a o e => ?_, c'.len, c'.nd, fun a ha => ?_, fun j a cl e1 e2 => (c'.ok j a cl e1 e2).mono (List.prefix_refl _) lg rfl⟩ ?_ (Rep.lst upd_same (hr.mono lg))
  · by_cases z : a = Dd
    · rw [z] at e ⊢; rw [upd_same] at e; rw [hd]; exact e
    · rw [upd_ne z] at e; exact c'.le a o e
  · rw [upd_ne (fun z => na (by rw [← z]; exact ha))]; exact c'.free a ha
  · have st := s1.trans s'
    refine ⟨st.pre, st.le.trans lg, st.keep, fun a e => ?_, st.tups, st.cells, st.there⟩
    by_cases z : a = Dd
    · refine .inr (.inl ?_)
      cases q2 : H a with
      | none => rfl
      | some o => exact absurd (by rw [z]; exact hD) (s1.there a (by rw [q2]; simp))
    · rw [upd_ne z] at e; exact st.new a e
end
end PL
namespace PL
open PySem PySem.Spec PyProof.Rows L2 HT
section
variable {prog : Program} {w : World} {A : Around} {E : Value → Shared → Prop} {s : Shared}
theorem revAdjust (n : Nat) : Builtin.Slice.sliceAdjust none none (-1) (n : Int) = ((n : Int) - 1, -1) := by
  simp [Builtin.Slice.sliceAdjust]
theorem revPlaces (n : Nat) : Builtin.Slice.slicePlaces ((n : Int) - 1) (-1) (-1) = n := by
  unfold Builtin.Slice.slicePlaces
  simp
  split <;> omega
theorem filterMap_cong {α β : Type} {f g : α → Option β} : ∀ {l : List α}, (∀ x ∈ l, f x = g x) → l.filterMap f = l.filterMap g
  | [], _ => rfl
  | x :: l, h => by
    rw [List.filterMap_cons, List.filterMap_cons, h x List.mem_cons_self, filterMap_cong fun y hy => h y (List.mem_cons_of_mem _ hy)]
theorem rev_pick (xs : Array Value) : ((List.range xs.size).filterMap fun (k : Nat) => xs[(((xs.size : Nat) : Int) - 1 + (k : Int) * (-1)).toNat]?).toArray = xs.toList.reverse.toArray := by
  congr 1
  have h : (List.range xs.size).filterMap (fun (k : Nat) => xs[(((xs.size : Nat) : Int) - 1 + (k : Int) * (-1)).toNat]?) = ((List.range xs.size).map fun k => xs.size - 1 - k).filterMap (xs[·]?) := by
    rw [List.filterMap_map]
    refine filterMap_cong fun k hk => ?_
    have hk := List.mem_range.mp hk
    show xs[_]? = xs[xs.size - 1 - k]?
    congr 1
    omega
  rw [h, PySem.W.krv_range, List.filterMap_reverse, PySem.W.krv_all]
theorem sliceApplied_rev {sl : Addr} {vs : Value} {n : Nat} {Q : Int × Int × Nat → Shared → Prop} (hs : s.heap.IsSliceOf sl .none .none vs) (ps : IsPart vs (some (-1))) (h : Q ((n : Int) - 1, -1, n) s) :
    wpAny (model prog w) A (Builtin.Slice.sliceApplied (.ref sl) (pure (n : Int))) Q E s := by
  obtain ⟨o, ho, hc, hd⟩ := id hs
  unfold Builtin.Slice.sliceApplied Builtin.Slice.sliceFields
  refine wpAny_bind (wpAny_bind (wpAny_field ho hd (x := .none) rfl (wpAny_bind (wpAny_field ho hd (x := .none) rfl (wpAny_bind (wpAny_field ho hd (x := vs) rfl (wpAny_pure ?_)))))))
  refine wpAny_bind (slicePart_ ps ?_)
  show wpAny _ _ (if ((-1 : Int) == 0) = true then _ else _) _ _ s
  rw [if_neg (by decide)]; refine wpAny_bind (slicePart_none (wpAny_bind (slicePart_none (wpAny_bind (wpAny_pure ?_)))))
  show wpAny _ _ (match Builtin.Slice.sliceAdjust none none (-1) (n : Int) with | (lo, hi) => pure (lo, (-1 : Int), Builtin.Slice.slicePlaces lo hi (-1))) _ _ s
  rw [revAdjust]
  show wpAny _ _ (pure ((n : Int) - 1, (-1 : Int), Builtin.Slice.slicePlaces ((n : Int) - 1) (-1) (-1))) _ _ s
  rw [revPlaces]; exact wpAny_pure h
theorem getItem_tuple_rev {t sl : Addr} {items : Array Value} {vs : Value} {Q : Value → Shared → Prop} (ht : IsTup s.heap t items) (hs : s.heap.IsSliceOf sl .none .none vs) (ps : IsPart vs (some (-1))) (hsz : items.size ≤ sizeLine)
    (h : Q (.ref s.heap.objs.size) { s with heap := s.heap.push { cls := .type "tuple", data := .seq items.toList.reverse.toArray } }) : wpAny (model prog w) A (getItem (.ref t) (.ref sl)) Q E s := by
  have hok : sizeOk (.seq items.toList.reverse.toArray) := by
    show items.toList.reverse.toArray.size ≤ sizeLine
    simpa using hsz
  obtain ⟨o, ho, hc, hd⟩ := id hs
  have hT : s.TypeIs (.ref sl) "slice" := ⟨o, ho, hc⟩
  unfold getItem
  try with_reducible refine wpAny_holding ?_
  first | refine wpAny_bind (wpAny_pure ?_) | skip
  refine wpAny_bind (wpAny_sequenceKey ht.typeIs (by decide) (wpAny_bind (wpAny_callSpecial?_slot (name := Str.ofString "__getitem__") ht.typeIs PyProof.Rows.slot_tuple_getitem (wpAny_call_entry PyProof.Rows.slot_tuple_getitem ht.typeIs entry_tuple_getitem ?_ (args_tuple_getitem _ _)))))
  show wpAny _ _ (Builtin.Tuple.tupleItemsOf (.ref t) >>= _) _ _ s
  refine wpAny_bind (tupleItemsOf_ ht (wpAny_bind (wpAny_typeOf hT ?_)))
  rw [if_pos (by decide)]; refine wpAny_bind (sliceApplied_rev hs ps ?_)
  have hno : ¬ ((((items.size : Nat) : Int) - 1 == 0 && (-1 : Int) == 1 && items.size == items.size) = true) := by simp
  show wpAny _ _ (if (((items.size : Nat) : Int) - 1 == 0 && (-1 : Int) == 1 && items.size == items.size) = true then _ else _) _ _ s
  rw [if_neg hno, rev_pick]
  first
    | exact wpAny_bind (m := Builtin.Tuple.tupleExact _) (wpAny_newObj_type (wpAny_pure ⟨_, rfl, wpAny_pure h⟩) hok)
    | exact wpAny_bind (m := Builtin.Tuple.tupleExact _) (wpAny_newObj_type (wpAny_bind (wpAny_pure (wpAny_pure ⟨_, rfl, wpAny_pure h⟩))) hok)
    | exact wpAny_bind (wpAny_bind (m := Builtin.Tuple.tupleExact _) (wpAny_newObj_type (wpAny_pure (wpAny_pure ⟨_, rfl, wpAny_pure h⟩)) hok))
    | exact wpAny_bind (wpAny_bind (m := Builtin.Tuple.tupleExact _) (wpAny_newObj_type (wpAny_pure ⟨_, rfl, wpAny_pure h⟩) hok))
end
section
variable {X : Cx} {W : WX} {a b c e o : Expr} {es : List Expr} {te ta tb to : TX} {tL : TXA} {pos p apos cpos p1 p2 p3 : Pos} {k : Nat}
def tRevA (K : PySem.W.Frag) (te : TE) : TE := fun σ H Q => te σ H fun x H1 => ∃ a xs, x = .ref a ∧ ((SqL K H1 a xs ∧ ∀ p, H1 p = none → Q (.ref p) (upd H1 p (.lst xs.reverse))) ∨ (SqT K H1 a xs ∧ ∀ p, H1 p = none → Q (.ref p) (upd H1 p (.tup xs.reverse))))
theorem pe_revA {te : TE} (he : PE X e te) : PE X (.Subscript e (.Slice none none (some (.UnaryOp .USub (.Constant (.int 1) k p1) p2)) p3) pos) (tRevA X.K te) := by
  refine ⟨fun pins s σ H Q I h => Subscript_ (thn (he.run pins s σ H _ I h) fun v s1 ⟨x, H1, I1, r1, a, xs, ex, q1⟩ => ?_)⟩
  subst ex; cases r1
  have hst : PO X (some (.UnaryOp .USub (.Constant (.int 1) k p1) p2)) (tPart (tUn (rU fun i => .int (-i)) (tC (.int 1)))) := po_some (pe_un un_neg pe_int)
  refine wpAny_Slice (thn (po_none.run pins s1 σ H1 (fun o H2 => o = none ∧ H2 = H1) I1 ⟨rfl, rfl⟩) fun vl s2 ⟨l, H2, I2, pl, el, e2⟩ => ?_)
  subst el; subst e2
  refine thn (po_none.run pins s2 σ H2 (fun o H3 => o = none ∧ H3 = H2) I2 ⟨rfl, rfl⟩) fun vu s3 ⟨u, H3, I3, pu, eu, e3⟩ => ?_
  subst eu; subst e3
  refine thn (hst.run pins s3 σ H3 (fun o H4 => o = some (-1) ∧ H4 = H3) I3 ⟨1, rfl, -1, rfl, rfl, rfl⟩) fun vs s4 ⟨o, H4, I4, ps, eo, e4⟩ => ?_
  subst eo; subst e4
  have I5 : Inv X pins σ H4 { s4 with heap := s4.heap.push { cls := .type "slice", data := .fields #[vl, vu, vs] } } := I4.kept (t' := s4.toks) fun b ob q => Heap.get?_push_of_some _ q
  show wpAny (model X.prog X.w) X.A (subscriptTail e (.Slice none none (some (.UnaryOp .USub (.Constant (.int 1) k p1) p2)) p3) (.ref a) (.ref s4.heap.objs.size)) (EP X pins σ Q) X.xe { s4 with heap := s4.heap.push { cls := .type "slice", data := .fields #[vl, vu, vs] } }
  rcases q1 with ⟨hx, q⟩ | ⟨hx, q⟩
  · obtain ⟨its, r, ht, hz⟩ := I5.list hx
    have hlen := r.length
    refine tail_any (ops := [.ref a, .ref s4.heap.objs.size]) ht.isList.typeIs (PySem.slot_list_getitem.lookup) ?_ (by with_unfolding_all rfl)
    refine wpAny_getItem_list_slice ht.isList (Heap.IsSliceOf.new _ vl vu vs) pl pu ps (by decide) ?_ (by rw [List.size_toArray]; omega)
    rw [PySem.W.krv_pick]
    exact ⟨.ref _, _, I5.laid (t' := s4.toks) (o := .lst xs.reverse) (fun b ob q => Heap.get?_push_of_some _ q) (Nat.le_refl _) ⟨by rw [List.length_reverse]; exact hz, _, 0, r.reverse, Heap.get?_push_size _ rfl⟩, rfl, q _ (I5.hok.fresh (Nat.le_refl _))⟩
  · obtain ⟨its, r, ht, hz⟩ := I5.tuple hx
    have hlen := r.length
    cases pl; cases pu
    refine tail_any (ops := [.ref a, .ref s4.heap.objs.size]) ht.typeIs (PyProof.Rows.slot_tuple_getitem.lookup) ?_ (by with_unfolding_all rfl)
    refine getItem_tuple_rev ht (Heap.IsSliceOf.new _ _ _ vs) ps (by rw [List.size_toArray]; omega) ?_
    refine ⟨.ref _, _, I5.laid (t' := s4.toks) (o := .tup xs.reverse) (fun b ob q => Heap.get?_push_of_some _ q) (Nat.le_refl _) ?_, rfl, q _ (I5.hok.fresh (Nat.le_refl _))⟩
    exact ⟨by rw [List.length_reverse]; exact hz, _, r.reverse, _, Heap.get?_push_size _ rfl, rfl, 0, rfl⟩
def xRev (te : TX) : TX := fun x ρ μ Q => te x ρ μ fun s μ1 => match s with
  | .d (.tup l) => Q (.d (.tup l.reverse)) μ1
  | .d (.ntp l) => Q (.d (.tup l.reverse)) μ1
  | s => on (lstOf s μ1) fun l => Q (.d (.lst l.reverse)) μ1
theorem px_rev (he : PX X W e te) : PX X W (.Subscript e (.Slice none none (some (.UnaryOp .USub (.Constant (.int 1) k p1) p2)) p3) pos) (xRev te) := by
  refine ⟨(pe_revA he.pe).imp fun σ H Q h => ?_⟩
  obtain ⟨A, ρ, μ, G, Qp, xp, S, ht, hx, kk⟩ := h
  refine ⟨A, ρ, μ, G, _, xp, S, ht, hx, fun s μ1 A1 G1 H1 v q c s1 r => ?_⟩
  split at q
  · obtain ⟨a, us, rfl, h1, h2⟩ := Reps.sq r
    refine ⟨a, us, rfl, .inr ⟨c.le.sqT h1, fun p hp => ?_⟩⟩
    obtain ⟨c2, s2⟩ := c.laid (o := .tup us.reverse) hp
    exact kk _ _ _ _ _ _ q c2 (s1.trans s2) (Rep.tup upd_same (h2.rev.mono s2.le))
  · obtain ⟨a, us, rfl, h1, h2⟩ := Reps.sqn r
    refine ⟨a, us, rfl, .inr ⟨c.le.sqT h1, fun p hp => ?_⟩⟩
    obtain ⟨c2, s2⟩ := c.laid (o := .tup us.reverse) hp
    exact kk _ _ _ _ _ _ q c2 (s1.trans s2) (Rep.tup upd_same (h2.rev.mono s2.le))
  · obtain ⟨l, e1, q⟩ := on_of q
    obtain ⟨a, us, rfl, h1, h2⟩ := lstOf_rep e1 c r
    refine ⟨a, us, rfl, .inl ⟨SqL.of h1, fun p hp => ?_⟩⟩
    obtain ⟨c2, s2⟩ := c.laid (o := .lst us.reverse) hp
    exact kk _ _ _ _ _ _ q c2 (s1.trans s2) (Rep.lst upd_same (h2.rev.mono s2.le))
def pMulV : SV → SV → Mem → VP → Prop := fun sa sb μ Q => match sa, sb with
  | .d (.tup l), .d (.int j) => (l ≠ [] ∧ 2 ≤ j ∧ j ≤ 1000 ∧ l.length ≤ 1000) ∧ Q (.d (.tup (List.replicate j.toNat l).flatten)) μ
  | .d (.ntp l), .d (.int j) => (l ≠ [] ∧ 2 ≤ j ∧ j ≤ 1000 ∧ l.length ≤ 1000) ∧ Q (.d (.tup (List.replicate j.toNat l).flatten)) μ
  | sa, sb => pMulU sa sb μ Q
theorem pop_mulV : POp X.K (fun x y H Q => (rI CMul (fun i j => .int (i * j)) x y H Q ∨ rRep x y H Q) ∨ rRepT X.K x y H Q) pMulV := by
  intro sa sb μ A G H va vb Qp Q h c ra rb k
  unfold pMulV at h
  split at h
  · obtain ⟨a, us, rfl, h1, h2⟩ := Reps.sq ra
    cases rb
    obtain ⟨⟨g1, g2, g3, g4⟩, q⟩ := h
    refine .inr ⟨a, _, us, rfl, rfl, c.le.sqT h1, fun z => g1 (List.length_eq_zero_iff.mp (by rw [h2.length, z]; rfl)), g2, g3, by rw [← h2.length]; exact g4, fun p hp => ?_⟩
    obtain ⟨c2, s2⟩ := c.laid (o := .tup (List.replicate _ us).flatten) hp
    exact k _ _ _ _ _ _ q c2 s2 (Rep.tup upd_same ((reps_rep h2 _).mono s2.le))
  · obtain ⟨a, us, rfl, h1, h2⟩ := Reps.sqn ra
    cases rb
    obtain ⟨⟨g1, g2, g3, g4⟩, q⟩ := h
    refine .inr ⟨a, _, us, rfl, rfl, c.le.sqT h1, fun z => g1 (List.length_eq_zero_iff.mp (by rw [h2.length, z]; rfl)), g2, g3, by rw [← h2.length]; exact g4, fun p hp => ?_⟩
    obtain ⟨c2, s2⟩ := c.laid (o := .tup (List.replicate _ us).flatten) hp
    exact k _ _ _ _ _ _ q c2 s2 (Rep.tup upd_same ((reps_rep h2 _).mono s2.le))
  · exact .inl (pop_mulU _ _ μ A G H va vb Qp Q h c ra rb k)
end
theorem Cells.out {K : PySem.W.Frag} {A : List Addr} {μ : Mem} {G H : Hp} {p : Addr} {o : HO} (c : Cells K A μ G H) (hp : H p = none) (ho : ∀ xs, o ≠ .tup xs) : Cells K A μ G (upd H p o) ∧ Step A G H A G (upd H p o) := by
  have gn : G p = none := c.gnone hp
  refine ⟨⟨fun a u e => by rw [upd_ne (ne_of_none e gn)]; exact c.le a u e, c.len, c.nd, c.free, fun k a cl h1 h2 => (c.ok k a cl h1 h2).mono (List.prefix_refl _) (LeZ.refl _) (upd_ne (c.ne_of_lt (List.mem_of_getElem? h1) hp))⟩, ⟨List.prefix_refl _, LeZ.refl _, fun a u e _ => .inl ?_, fun a e => .inl e, fun a xs e => ?_, fun a e => .inl e, fun a e => ?_⟩⟩
  · rw [upd_ne (ne_of_none e hp)]; exact e
  · by_cases z : a = p
    · rw [z, upd_same] at e; exact absurd (Option.some.inj e) (ho xs)
    · rw [upd_ne z] at e; exact .inr e
  · by_cases z : a = p
    · rw [z, upd_same]; simp
    · rw [upd_ne z]; exact e
inductive RepPs (K : PySem.W.Frag) (G : Hp) : List (D × D) → List (V × V) → Prop
  | nil : RepPs K G [] []
  | cons {d e : D} {v w : V} {ds : List (D × D)} {vs : List (V × V)} : Rep K G d v → Rep K G e w → RepPs K G ds vs → RepPs K G ((d, e) :: ds) ((v, w) :: vs)
theorem RepPs.mono {K : PySem.W.Frag} {G G' : Hp} (l : LeZ G G') : ∀ {ds : List (D × D)} {vs : List (V × V)}, RepPs K G ds vs → RepPs K G' ds vs
  | _, _, .nil => .nil
  | _, _, .cons a b t => .cons (a.mono l) (b.mono l) (RepPs.mono l t)
theorem RepPs.length {K : PySem.W.Frag} {G : Hp} : ∀ {ds : List (D × D)} {vs : List (V × V)}, RepPs K G ds vs → ds.length = vs.length
  | _, _, .nil => rfl
  | _, _, .cons _ _ t => congrArg (· + 1) (RepPs.length t)
noncomputable def mergeD : List D → List D → List (D × D) → List D × List D
  | ks, vs, [] => (ks, vs)
  | ks, vs, (k, v) :: ps => mergeD (putKs ks k) (putVs ks vs k v) ps
end PL
namespace PL
open PySem PySem.Spec PyProof.Rows L2
section
variable {X : Cx} {W : WX} {a b : Expr} {tL : TXA} {pos : Pos}
end
end PL
namespace PL
open PySem PySem.Spec PyProof.Rows L2
section
variable {X : Cx} {W : WX} {a b : Expr} {ta tb : TX} {pos : Pos}
/-- u + v, tuples of l and of m -/
def catT (u v : D) (l m : List D) : D := if l = [] then v else if m = [] then u else .tup (l ++ m)
def pAddV : SV → SV → Mem → VP → Prop := fun sa sb μ Q => match sa, sb with
  | .d (.ntp l), .d (.tup m) => l.length + m.length ≤ sizeLine ∧ Q (.d (catT (.ntp l) (.tup m) l m)) μ
  | .d (.tup l), .d (.ntp m) => l.length + m.length ≤ sizeLine ∧ Q (.d (catT (.tup l) (.ntp m) l m)) μ
  | .d (.ntp l), .d (.ntp m) => l.length + m.length ≤ sizeLine ∧ Q (.d (catT (.ntp l) (.ntp m) l m)) μ
  | sa, sb => pAddU sa sb μ Q
theorem catA_of {K : PySem.W.Frag} {A : List Addr} {μ : Mem} {G H : Hp} {va vb : V} {Qp : VP} {Q : VK} {u v : D} {l m : List D} {a b : Addr} {us ws : List V} (hz : l.length + m.length ≤ sizeLine) (q : Qp (.d (catT u v l m)) μ) (c : Cells K A μ G H)
    (ra : RepS K A G (.d u) va) (rb : RepS K A G (.d v) vb) (k : ∀ r μ' A' G' H' v, Qp r μ' → Cells K A' μ' G' H' → Step A G H A' G' H' → RepS K A' G' r v → Q v H') (ea : va = .ref a) (eb : vb = .ref b) (h1 : SqT K G a us) (h2 : Reps K G l us) (h3 : SqT K G b ws) (h4 : Reps K G m ws) : rCatA K va vb H Q := by
  subst ea; subst eb
  refine ⟨a, b, us, ws, rfl, rfl, c.le.sqT h1, c.le.sqT h3, by rw [← h2.length, ← h4.length]; exact hz, fun e => ?_, fun n1 e => ?_, fun n1 n2 p hp => ?_⟩
  · have hl : l = [] := List.length_eq_zero_iff.mp (by rw [h2.length, e]; rfl)
    rw [catT, if_pos hl] at q
    exact k _ _ _ _ _ _ q c .refl rb
  · have hl : l ≠ [] := fun z => n1 (List.length_eq_zero_iff.mp (by rw [← h2.length, z]; rfl))
    have hm : m = [] := List.length_eq_zero_iff.mp (by rw [h4.length, e]; rfl)
    rw [catT, if_neg hl, if_pos hm] at q
    exact k _ _ _ _ _ _ q c .refl ra
  · have hl : l ≠ [] := fun z => n1 (List.length_eq_zero_iff.mp (by rw [← h2.length, z]; rfl))
    have hm : m ≠ [] := fun z => n2 (List.length_eq_zero_iff.mp (by rw [← h4.length, z]; rfl))
    rw [catT, if_neg hl, if_neg hm] at q
    obtain ⟨c2, s2⟩ := c.laid (o := .tup (us ++ ws)) hp
    exact k _ _ _ _ _ _ q c2 s2 (Rep.tup upd_same ((h2.app h4).mono s2.le))
theorem pop_addV : POp X.K (fun x y H Q => (rI0 (fun i j => .int (i + j)) x y H Q ∨ rAddS x y H Q) ∨ (rCatA X.K x y H Q ∨ rCat x y H Q)) pAddV := by
  intro sa sb μ A G H va vb Qp Q h c ra rb k
  unfold pAddV at h
  split at h
  · obtain ⟨a, us, rfl, h1, h2⟩ := Reps.sqn ra
    obtain ⟨b, ws, rfl, h3, h4⟩ := Reps.sq rb
    exact .inr (.inl (catA_of h.1 h.2 c ra rb k rfl rfl h1 h2 h3 h4))
  · obtain ⟨a, us, rfl, h1, h2⟩ := Reps.sq ra
    obtain ⟨b, ws, rfl, h3, h4⟩ := Reps.sqn rb
    exact .inr (.inl (catA_of h.1 h.2 c ra rb k rfl rfl h1 h2 h3 h4))
  · obtain ⟨a, us, rfl, h1, h2⟩ := Reps.sqn ra
    obtain ⟨b, ws, rfl, h3, h4⟩ := Reps.sqn rb
    exact .inr (.inl (catA_of h.1 h.2 c ra rb k rfl rfl h1 h2 h3 h4))
  · exact pop_addU _ _ μ A G H va vb Qp Q h c ra rb k
theorem px_addV (ha : PX X W a ta) (hb : PX X W b tb) : PX X W (.BinOp a .Add b pos) (xOp pAddV ta tb) := px_op (op_or (op_or op_add op_add_str) (op_or op_catA op_cat)) pop_addV ha hb
def rMulS : R2 := fun x y H Q => ∃ z j, x = .str z ∧ y = .int j ∧ (0 ≤ j ∧ j ≤ 1000 ∧ z.length ≤ 1000) ∧ Q (.str (Txt.mul z j)) H
theorem mulOk_of {z : Str} {j : Int} (h : 0 ≤ j ∧ j ≤ 1000 ∧ z.length ≤ 1000) : MulOk z j := by
  obtain ⟨h0, h1, h2⟩ := h
  refine ⟨by simp; omega, fun h3 _ h4 => ?_, fun h3 _ => ?_⟩
  · have : (1000 : Int) ≤ (2 ^ 63 - 1) / j := (Int.le_ediv_iff_mul_le (by omega)).mpr (by omega)
    omega
  · have : z.length * j.toNat ≤ 1000 * 1000 := Nat.mul_le_mul h2 (by omega)
    unfold Builtin.Str.tooLong
    simp only [decide_eq_false_iff_not, sizeLine_eq]
    omega
theorem op_mul_strI : OpR X (binaryOp .Mult) rMulS := by
  intro pins s σ H x y v u Q I rx ry h
  obtain ⟨i, j, rfl, rfl, hz, q⟩ := h
  obtain ⟨t, rfl⟩ := rx
  obtain ⟨t', rfl⟩ := ry
  exact SB.mul (mulOk_of hz) fun t' k => ⟨.str (Txt.mul i j), H, I.tok _, ⟨_, rfl⟩, q⟩
def pMulW : SV → SV → Mem → VP → Prop := fun sa sb μ Q => match sa, sb with
  | .d (.str z), .d (.int j) => (0 ≤ j ∧ j ≤ 1000 ∧ z.length ≤ 1000) ∧ Q (.d (.str (Txt.mul z j))) μ
  | sa, sb => pMulV sa sb μ Q
theorem pop_mulW : POp X.K (fun x y H Q => ((rI CMul (fun i j => .int (i * j)) x y H Q ∨ rRep x y H Q) ∨ rRepT X.K x y H Q) ∨ rMulS x y H Q) pMulW := by
  intro sa sb μ A G H va vb Qp Q h c ra rb k
  unfold pMulW at h
  split at h
  · cases ra; cases rb
    exact .inr ⟨_, _, rfl, rfl, h.1, k _ _ _ _ _ _ h.2 c .refl (.str _)⟩
  · exact .inl (pop_mulV _ _ μ A G H va vb Qp Q h c ra rb k)
theorem px_mulW (ha : PX X W a ta) (hb : PX X W b tb) : PX X W (.BinOp a .Mult b pos) (xOp pMulW ta tb) := px_op (op_or (op_or (op_or op_mul op_rep) op_repT) op_mul_strI) pop_mulW ha hb
end
end PL
namespace PL
open PySem PySem.Spec PyProof.Rows L2
section
variable {X : Cx} {W : WX} {a b e : Expr} {ta tb : TX} {tL : TXA} {pos p : Pos}
end
end PL
namespace PL
open PySem PySem.Spec PyProof.Rows L2
/-- an end: a value, an exception, nothing known -/
inductive R (α : Type) where
  | ok (a : α) (μ : Mem)
  | ex (C : Str) (fs : List (Str × D)) (μ : Mem)
  | no
abbrev M (α : Type) := Mem → R α
def R.fin {α : Type} (r : R α) (x : XP) (Q : α → Mem → Prop) : Prop := match r with
  | .ok a μ => Q a μ
  | .ex C fs μ => x C fs μ
  | .no => False
def bnd {α β : Type} (m : M α) (k : α → M β) : M β := fun μ => match m μ with
  | .ok a μ' => k a μ'
  | .ex C fs μ' => .ex C fs μ'
  | .no => .no
theorem R.mono {α : Type} {r : R α} {x : XP} {Q Q' : α → Mem → Prop} (h : r.fin x Q) (i : ∀ a μ, Q a μ → Q' a μ) : r.fin x Q' := by
  cases r with
  | ok a μ => exact i _ _ h
  | ex C fs μ => exact h
  | no => exact h
theorem fin_bnd {α β : Type} {m : M α} {k : α → M β} {μ : Mem} {x : XP} {Q : β → Mem → Prop} : (bnd m k μ).fin x Q ↔ (m μ).fin x fun a μ' => (k a μ').fin x Q := by
  unfold bnd
  cases m μ <;> exact Iff.rfl
def ret {α : Type} (a : α) : M α := fun μ => .ok a μ
open Classical in
noncomputable def grd {α : Type} (c : Prop) (m : M α) : M α := fun μ => if c then m μ else .no
theorem grd_pos {α : Type} {c : Prop} {m : M α} {μ : Mem} (h : c) : grd c m μ = m μ := if_pos h
theorem fin_grd {α : Type} {c : Prop} {m : M α} {μ : Mem} {x : XP} {Q : α → Mem → Prop} (h : (grd c m μ).fin x Q) : c ∧ (m μ).fin x Q := by
  unfold grd at h
  split at h
  · rename_i e; exact ⟨e, h⟩
  · exact h.elim
abbrev FEnv := Nat → SV
def put (ρ : FEnv) (i : Nat) (s : SV) : FEnv := fun j => if j = i then s else ρ j
def wip (ρ : FEnv) : List Nat → FEnv
  | [] => ρ
  | v :: vs => put (wip ρ vs) v .un
abbrev FX := FEnv → M SV
abbrev FT := FEnv → M Bool
abbrev FA := FEnv → M (List SV)
abbrev FI := FEnv → M (List D)
abbrev FO := FEnv → M (Option Int)
abbrev FG := SV → FEnv → M FEnv
inductive Out where
  | nx (ρ : FEnv)
  | rt (v : SV)
  | bk (ρ : FEnv)
  | ct (ρ : FEnv)
abbrev FS := FEnv → M Out
def Out.fin (n : Nat) (E : EndsP) (μ : Mem) : Out → Prop
  | .nx ρ => E.nx ⟨n, ρ⟩ μ
  | .rt v => E.rt v μ
  | .bk ρ => E.bk ⟨n, ρ⟩ μ
  | .ct ρ => E.ct ⟨n, ρ⟩ μ
def toX (n : Nat) (f : FX) : TX := fun x ρ μ Q => ρ.n = n ∧ (f ρ.f μ).fin x Q
def toT (n : Nat) (f : FT) : TXT := fun x ρ μ Q => ρ.n = n ∧ (f ρ.f μ).fin x Q
def toA (n : Nat) (f : FA) : TXA := fun x ρ μ Q => ρ.n = n ∧ (f ρ.f μ).fin x Q
def toI (n : Nat) (f : FI) : TXI := fun x ρ μ Q => ρ.n = n ∧ (f ρ.f μ).fin x Q
def toO (n : Nat) (f : FO) : TXO := fun x ρ μ Q => ρ.n = n ∧ (f ρ.f μ).fin x Q
def toG (n : Nat) (g : FG) : TXG := fun x s ρ μ Q => ρ.n = n ∧ (g s ρ.f μ).fin x fun r μ' => Q ⟨n, r⟩ μ'
def toS (n : Nat) (f : FS) : TXS := fun E ρ μ => ρ.n = n ∧ (f ρ.f μ).fin E.ex fun o μ' => o.fin n E μ'

def fV (i : Nat) : FX := fun ρ μ => match ρ i with
  | .d a => .ok (.d a) μ
  | .c k => .ok (.c k) μ
  | .un => .no
def fC (d : D) : FX := fun _ => ret (.d d)
def fOp (g : SV → SV → M SV) (a b : FX) : FX := fun ρ => bnd (a ρ) fun s => bnd (b ρ) fun t => g s t
def fUn (g : SV → M SV) (a : FX) : FX := fun ρ => bnd (a ρ) g
def tr : SV → M Bool := fun s μ => match s with
  | .d (.bl b) => .ok b μ
  | _ => .no
def fT (a : FX) : FT := fun ρ => bnd (a ρ) tr
def fTAnd (a b : FT) : FT := fun ρ => bnd (a ρ) fun k => if k then b ρ else ret false
def fTOr (a b : FT) : FT := fun ρ => bnd (a ρ) fun k => if k then ret true else b ρ
def fTNot (a : FT) : FT := fun ρ => bnd (a ρ) fun k => ret (!k)
def fAnd (a b : FX) : FX := fun ρ => bnd (bnd (a ρ) tr) fun k => if k then b ρ else ret (.d (.bl false))
def fOr (a b : FX) : FX := fun ρ => bnd (bnd (a ρ) tr) fun k => if k then ret (.d (.bl true)) else b ρ
def fNot (a : FX) : FX := fun ρ => bnd (bnd (a ρ) tr) fun k => ret (.d (.bl (!k)))
def fIf (c : FT) (a b : FX) : FX := fun ρ => bnd (c ρ) fun k => if k then a ρ else b ρ
def fChain (g g' : SV → SV → M SV) (a b c : FX) : FX := fun ρ => bnd (a ρ) fun s => bnd (b ρ) fun t => bnd (bnd (g s t) tr) fun k => if k then bnd (c ρ) fun u => g' t u else ret (.d (.bl false))
def fNil : FA := fun _ => ret []
def fCons (a : FX) (r : FA) : FA := fun ρ => bnd (a ρ) fun s => bnd (r ρ) fun ss => ret (s :: ss)
def allM (o : Option (List D)) (q : List D → M SV) : M SV := match o with
  | some ds => q ds
  | none => fun _ => .no
noncomputable def fTup (t : FA) : FX := fun ρ => bnd (t ρ) fun ss => allM (allD ss) fun ds => grd (ds.length ≤ sizeLine) (ret (.d (.tup ds)))
noncomputable def fLst (t : FA) : FX := fun ρ => bnd (t ρ) fun ss => allM (allD ss) fun ds => grd (ds.length ≤ sizeLine) (ret (.d (.lst ds)))
noncomputable def fLstC (t : FA) : FX := fun ρ => bnd (t ρ) fun ss => allM (allD ss) fun ds => grd (ds.length ≤ sizeLine) fun μ => .ok (.c μ.length) (μ ++ [.lst ds])
def fCall (g : List SV → M SV) (t : FA) : FX := fun ρ => bnd (t ρ) g
def fNone : FO := fun _ => ret none
def asInt : SV → M (Option Int) := fun s μ => match s with
  | .d (.int i) => .ok (some i) μ
  | _ => .no
def fSome (a : FX) : FO := fun ρ => bnd (a ρ) asInt
def fSl (g : SV → Option Int → Option Int → M SV) (a : FX) (l h : FO) : FX := fun ρ => bnd (a ρ) fun s => bnd (l ρ) fun lo => bnd (h ρ) fun hi => g s lo hi
noncomputable def addF (a b : SV) : M SV := fun μ => match a, b with
  | .d (.int i), .d (.int j) => .ok (.d (.int (i + j))) μ
  | .d (.str i), .d (.str j) => grd (i.length + j.length ≤ sizeLine) (ret (.d (.str (i ++ j)))) μ
  | .d (.tup l), .d (.tup m) => grd (l.length + m.length ≤ sizeLine) (ret (.d (.tup (l ++ m)))) μ
  | .d (.ntp l), .d (.tup m) => grd (l.length + m.length ≤ sizeLine) (ret (.d (catT (.ntp l) (.tup m) l m))) μ
  | .d (.tup l), .d (.ntp m) => grd (l.length + m.length ≤ sizeLine) (ret (.d (catT (.tup l) (.ntp m) l m))) μ
  | .d (.ntp l), .d (.ntp m) => grd (l.length + m.length ≤ sizeLine) (ret (.d (catT (.ntp l) (.ntp m) l m))) μ
  | a, b => match lstOf a μ, lstOf b μ with
    | some l, some m => grd (l.length + m.length ≤ sizeLine) (ret (.d (.lst (l ++ m)))) μ
    | _, _ => .no
def subF (a b : SV) : M SV := fun μ => match a, b with
  | .d (.int i), .d (.int j) => .ok (.d (.int (i - j))) μ
  | _, _ => .no
noncomputable def mulF (a b : SV) : M SV := fun μ => match a, b with
  | .d (.int i), .d (.int j) => grd (CMul i j) (ret (.d (.int (i * j)))) μ
  | .d (.str z), .d (.int j) => grd (0 ≤ j ∧ j ≤ 1000 ∧ z.length ≤ 1000) (ret (.d (.str (Txt.mul z j)))) μ
  | .d (.tup l), .d (.int j) => grd (l ≠ [] ∧ 2 ≤ j ∧ j ≤ 1000 ∧ l.length ≤ 1000) (ret (.d (.tup (List.replicate j.toNat l).flatten))) μ
  | .d (.ntp l), .d (.int j) => grd (l ≠ [] ∧ 2 ≤ j ∧ j ≤ 1000 ∧ l.length ≤ 1000) (ret (.d (.tup (List.replicate j.toNat l).flatten))) μ
  | a, .d (.int j) => match lstOf a μ with
    | some l => grd (-(2 ^ 63) ≤ j ∧ j < 2 ^ 63 ∧ l.length * j.toNat ≤ sizeLine) (ret (.d (.lst (List.replicate j.toNat l).flatten))) μ
    | _ => .no
  | _, _ => .no
noncomputable def modF (a b : SV) : M SV := fun μ => match a, b with
  | .d (.int i), .d (.int j) => grd (0 < j) (ret (.d (.int (i % j)))) μ
  | _, _ => .no
noncomputable def divF (a b : SV) : M SV := fun μ => match a, b with
  | .d (.int i), .d (.int j) => grd (CDiv i j) (ret (.d (.int (i / j)))) μ
  | _, _ => .no
noncomputable def powF (a b : SV) : M SV := fun μ => match a, b with
  | .d (.int i), .d (.int j) => grd (CPow i j) (ret (.d (.int (i ^ j.toNat)))) μ
  | _, _ => .no
def negF (a : SV) : M SV := fun μ => match a with
  | .d (.int i) => .ok (.d (.int (-i))) μ
  | _ => .no
noncomputable def ltF (a b : SV) : M SV := fun μ => match a, b with
  | .d (.int i), .d (.int j) => .ok (.d (.bl (decide (i < j)))) μ
  | .d (.str i), .d (.str j) => .ok (.d (.bl (decide (i.cps.toList < j.cps.toList)))) μ
  | .d x, .d y => grd (isTp x = true ∧ isTp y = true ∧ okEq x = true ∧ okEq y = true ∧ alD x y = true) (ret (.d (.bl (ltD x y)))) μ
  | _, _ => .no
noncomputable def leF (a b : SV) : M SV := fun μ => match a, b with
  | .d (.int i), .d (.int j) => .ok (.d (.bl (decide (i ≤ j)))) μ
  | .d (.str i), .d (.str j) => .ok (.d (.bl (!decide (j.cps.toList < i.cps.toList)))) μ
  | .d x, .d y => grd (isTp x = true ∧ isTp y = true ∧ okEq x = true ∧ okEq y = true ∧ alD x y = true) (ret (.d (.bl (!ltD y x)))) μ
  | _, _ => .no
noncomputable def gtF (a b : SV) : M SV := fun μ => match a, b with
  | .d (.int i), .d (.int j) => .ok (.d (.bl (decide (j < i)))) μ
  | .d (.str i), .d (.str j) => .ok (.d (.bl (decide (j.cps.toList < i.cps.toList)))) μ
  | .d x, .d y => grd (isTp x = true ∧ isTp y = true ∧ okEq x = true ∧ okEq y = true ∧ alD x y = true) (ret (.d (.bl (ltD y x)))) μ
  | _, _ => .no
noncomputable def geF (a b : SV) : M SV := fun μ => match a, b with
  | .d (.int i), .d (.int j) => .ok (.d (.bl (decide (j ≤ i)))) μ
  | .d (.str i), .d (.str j) => .ok (.d (.bl (!decide (i.cps.toList < j.cps.toList)))) μ
  | .d x, .d y => grd (isTp x = true ∧ isTp y = true ∧ okEq x = true ∧ okEq y = true ∧ alD x y = true) (ret (.d (.bl (!ltD x y)))) μ
  | _, _ => .no
def iltF (a b : SV) : M SV := fun μ => match a, b with
  | .d (.int i), .d (.int j) => .ok (.d (.bl (decide (i < j)))) μ
  | _, _ => .no
def ileF (a b : SV) : M SV := fun μ => match a, b with
  | .d (.int i), .d (.int j) => .ok (.d (.bl (decide (i ≤ j)))) μ
  | _, _ => .no
noncomputable def eqF (a b : SV) : M SV := fun μ => match a, b with
  | .d (.int i), .d (.int j) => .ok (.d (.bl (decide (i = j)))) μ
  | .d (.bl i), .d (.bl j) => .ok (.d (.bl (i == j))) μ
  | .d x, .d y => grd (okEq x = true ∧ okEq y = true) (ret (.d (.bl (deq x y)))) μ
  | _, _ => .no
noncomputable def neF (a b : SV) : M SV := fun μ => match a, b with
  | .d (.int i), .d (.int j) => .ok (.d (.bl (!decide (i = j)))) μ
  | .d (.bl i), .d (.bl j) => .ok (.d (.bl (!(i == j)))) μ
  | .d x, .d y => grd (okEq x = true ∧ okEq y = true) (ret (.d (.bl (!deq x y)))) μ
  | _, _ => .no
/-- what `in` says of a value and a thing that holds values -/
noncomputable def inO (μ : Mem) (a b : SV) : R Bool := match a, b with
  | .d k, .d (.dic t ks vs) => grd (fitK t k = true) (ret (findD ks vs k).isSome) μ
  | .d k, .d (.tup l) => grd (okEq k = true ∧ okEq (.tup l) = true) (ret (inD k l)) μ
  | .d k, .d (.ntp l) => grd (okEq k = true ∧ okEq (.ntp l) = true) (ret (inD k l)) μ
  | .d k, .d (.lst l) => grd (okEq k = true ∧ okEq (.lst l) = true) (ret (inD k l)) μ
  | .d (.str x), .d (.str z) => match x.cps.toList with
    | [c] => .ok (decide (c ∈ z.cps.toList)) μ
    | _ => .no
  | .d k, .c j => match μ[j]? with
    | some (.lst l) => grd (okEq k = true ∧ okEq (.lst l) = true) (ret (inD k l)) μ
    | some (.dK ks vs) => grd (fitK false k = true) (ret (findD ks vs k).isSome) μ
    | some (.dT ks vs) => grd (fitK true k = true) (ret (findD ks vs k).isSome) μ
    | _ => .no
  | _, _ => .no
noncomputable def inF (a b : SV) : M SV := fun μ => match inO μ a b with
  | .ok k μ' => .ok (.d (.bl k)) μ'
  | .ex C fs μ' => .ex C fs μ'
  | .no => .no
noncomputable def niF (a b : SV) : M SV := fun μ => match inO μ a b with
  | .ok k μ' => .ok (.d (.bl (!k))) μ'
  | .ex C fs μ' => .ex C fs μ'
  | .no => .no
def isNF (a : SV) : M SV := fun μ => match a with
  | .d .non => .ok (.d (.bl true)) μ
  | .d _ => .ok (.d (.bl false)) μ
  | .c _ => .ok (.d (.bl false)) μ
  | .un => .no
def notNF (a : SV) : M SV := fun μ => match a with
  | .d .non => .ok (.d (.bl false)) μ
  | .d _ => .ok (.d (.bl true)) μ
  | .c _ => .ok (.d (.bl true)) μ
  | .un => .no
def isBF (a b : SV) : M SV := fun μ => match a, b with
  | .d (.bl x), .d (.bl y) => .ok (.d (.bl (decide (x = y)))) μ
  | _, _ => .no
def notBF (a b : SV) : M SV := fun μ => match a, b with
  | .d (.bl x), .d (.bl y) => .ok (.d (.bl (!decide (x = y)))) μ
  | _, _ => .no
def ixF (a b : SV) : M SV := fun μ => match b with
  | .d (.int i) => match ixOf a μ i with
    | some d => .ok (.d d) μ
    | none => .no
  | _ => .no
noncomputable def dgetF (a b : SV) : M SV := fun μ => match b with
  | .d k => match dicOf a μ with
    | some z => grd (fitK z.1 k = true) (fun μ => match findD z.2.1 z.2.2 k with
      | some d => .ok (.d d) μ
      | none => .no) μ
    | none => .no
  | _ => .no
noncomputable def slF (a : SV) (lo hi : Option Int) : M SV := fun μ => match a with
  | .d (.tup l) => .ok (.d (.tup (cutD l lo hi))) μ
  | .d (.ntp l) => .ok (.d (cutN l lo hi)) μ
  | .d (.scr l) => .ok (.d (.lst (cutD (l.map .int) lo hi))) μ
  | .d (.str z) => grd (z.length ≤ sizeLine) (ret (.d (.str (cutS z lo hi)))) μ
  | a => match lstOf a μ with
    | some l => .ok (.d (.lst (cutD l lo hi))) μ
    | none => .no
def lenF : List SV → M SV := fun ss μ => match ss with
  | [s] => match lenOf s μ with
    | some n => .ok (.d (.int (n : Nat))) μ
    | none => .no
  | _ => .no
def isiF (k : TyK) (s : SV) : M SV := fun μ => match isKs k s μ with
  | some b => .ok (.d (.bl b)) μ
  | none => .no
def allF : List SV → M SV := fun ss μ => match ss with
  | [s] => match (lstOf s μ).bind bools with
    | some bs => .ok (.d (.bl (bs.all id))) μ
    | none => .no
  | _ => .no
def anyF : List SV → M SV := fun ss μ => match ss with
  | [s] => match (lstOf s μ).bind bools with
    | some bs => .ok (.d (.bl (bs.any id))) μ
    | none => .no
  | _ => .no
def tupF : List SV → M SV := fun ss μ => match ss with
  | [s] => match lstOf s μ with
    | some l => .ok (.d (.ntp l)) μ
    | none => match tupOf s with
      | some _ => .ok s μ
      | none => .no
  | _ => .no
def listF : List SV → M SV := fun ss μ => match ss with
  | [s] => match (lstOf s μ).or (tupOf s) with
    | some l => .ok (.d (.lst l)) μ
    | none => .no
  | _ => .no
def listCF : List SV → M SV := fun ss μ => match ss with
  | [s] => match (lstOf s μ).or (tupOf s) with
    | some l => .ok (.c μ.length) (μ ++ [.lst l])
    | none => .no
  | _ => .no
noncomputable def sortedF : List SV → M SV := fun ss μ => match ss with
  | [s] => match lstOf s μ with
    | some l => grd (okSort l) (ret (.d (.lst (srtD l)))) μ
    | none => .no
  | _ => .no
def intF : List SV → M SV := fun ss μ => match ss with
  | [.d (.int i)] => .ok (.d (.int i)) μ
  | [.d (.bl b)] => .ok (.d (.int (if b then 1 else 0))) μ
  | _ => .no
def absF : List SV → M SV := fun ss μ => match ss with
  | [.d (.int i)] => .ok (.d (.int (if i < 0 then -i else i))) μ
  | _ => .no
noncomputable def divmodF : List SV → M SV := fun ss μ => match ss with
  | [.d (.int i), .d (.int j)] => grd (CDiv i j) (ret (.d (.tup [.int (i / j), .int (i % j)]))) μ
  | _ => .no
noncomputable def maxF : List SV → M SV := fun ss μ => match ss with
  | [.d (.int i), .d (.int j)] => .ok (.d (.int (if j > i then j else i))) μ
  | [.d (.str i), .d (.str j)] => grd (okEq (.str i) = true ∧ okEq (.str j) = true) (ret (.d (if ltD (.str i) (.str j) = true then .str j else .str i))) μ
  | [.d (.tup l), .d (.tup m)] => grd (okEq (.tup l) = true ∧ okEq (.tup m) = true ∧ alP (.tup l) (.tup m) = true) (ret (.d (if ltD (.tup l) (.tup m) = true then .tup m else .tup l))) μ
  | _ => .no
noncomputable def minF : List SV → M SV := fun ss μ => match ss with
  | [.d (.int i), .d (.int j)] => .ok (.d (.int (if j < i then j else i))) μ
  | [.d (.str i), .d (.str j)] => grd (okEq (.str i) = true ∧ okEq (.str j) = true) (ret (.d (if ltD (.str j) (.str i) = true then .str j else .str i))) μ
  | [.d (.tup l), .d (.tup m)] => grd (okEq (.tup l) = true ∧ okEq (.tup m) = true ∧ alP (.tup l) (.tup m) = true) (ret (.d (if ltD (.tup m) (.tup l) = true then .tup m else .tup l))) μ
  | _ => .no
def appendF (o : SV) (ss : List SV) : M SV := fun μ => match o, ss with
  | .c k, [.d y] => match μ[k]? with
    | some (.lst l) => if l.length < sizeLine then .ok (.d .non) (μ.set k (.lst (l ++ [y]))) else .no
    | _ => .no
  | _, _ => .no
def extendF (o : SV) (ss : List SV) : M SV := fun μ => match o, ss with
  | .c k, [s] => match μ[k]?, lstOf s μ with
    | some (.lst l), some m => if l.length + m.length ≤ sizeLine then .ok (.d .non) (μ.set k (.lst (l ++ m))) else .no
    | _, _ => .no
  | _, _ => .no
def joinF (o s : SV) : M SV := fun μ => match o with
  | .d (.str a) => match (lstOf s μ).or (tupOf s) with
    | some l => match txts l with
      | some ys => if (ys.map (·.length)).sum + ys.length * a.length ≤ 16777216 then .ok (.d (.str (Txt.join a ys))) μ else .no
      | none => .no
    | none => .no
  | _ => .no
/-- the first place of y -/
def firstIx (l : List D) (y : D) : Option Nat := l.findIdx? fun z => deq z y
noncomputable def indexF (o : SV) (ss : List SV) : M SV := fun μ => match o with
  | .d (.ntp l) => match ss with
    | [.d (.str z)] => match txts l with
      | some ys => match ys.findIdx? (fun y => decide (y = z)) with
        | some j => .ok (.d (.int (j : Nat))) μ
        | none => .no
      | none => .no
    | _ => .no
  | o => match ss with
    | [.d y] => match lstOf o μ with
      | some l => grd (okEq (.lst l) = true ∧ okEq y = true) (fun μ => match firstIx l y with
        | some j => .ok (.d (.int (j : Nat))) μ
        | none => .no) μ
      | none => .no
    | _ => .no

def itF (a : FX) : FI := fun ρ => bnd (a ρ) fun s μ => match s with
  | .d d => match itD d with
    | some l => .ok l μ
    | none => .no
  | _ => .no
def enumF (t : FA) : FI := fun ρ => bnd (t ρ) fun ss μ => match ss with
  | [.d (.tup l)] => .ok (enumD l) μ
  | [.d (.ntp l)] => .ok (enumD l) μ
  | [.d (.lst l)] => .ok (enumD l) μ
  | _ => .no
def zipF (t : FA) : FI := fun ρ => bnd (t ρ) fun ss μ => match ss with
  | [.d (.tup l), .d (.tup m)] => .ok (zipD l m) μ
  | [.d (.ntp l), .d (.tup m)] => .ok (zipD l m) μ
  | [.d (.tup l), .d (.ntp m)] => .ok (zipD l m) μ
  | [.d (.ntp l), .d (.ntp m)] => .ok (zipD l m) μ
  | [.d (.lst l), .d (.lst m)] => .ok (zipD l m) μ
  | _ => .no
noncomputable def rng1F (t : FA) : FI := fun ρ => bnd (t ρ) fun ss μ => match ss with
  | [.d (.int n)] => grd (-(2 ^ 62) ≤ n ∧ n < 2 ^ 62) (ret (rngD 0 n.toNat)) μ
  | _ => .no
noncomputable def rng2F (t : FA) : FI := fun ρ => bnd (t ρ) fun ss μ => match ss with
  | [.d (.int lo), .d (.int hi)] => grd (-(2 ^ 62) ≤ lo ∧ lo < 2 ^ 62 ∧ -(2 ^ 62) ≤ hi ∧ hi < 2 ^ 62) (ret (rngD lo (hi - lo).toNat)) μ
  | _ => .no
def gN (i : Nat) : FG := fun s ρ => ret (put ρ i s)
def gAll : List FG → List D → FEnv → M FEnv
  | [], [], ρ => ret ρ
  | g :: gs, d :: ds, ρ => bnd (g (.d d) ρ) fun ρ' => gAll gs ds ρ'
  | _, _, _ => fun _ => .no
def gT (gs : List FG) : FG := fun s ρ => match s with
  | .d (.tup ds) => if ds.length = gs.length then gAll gs ds ρ else fun _ => .no
  | _ => fun _ => .no
/-- l[i] = .. -/
def gSub (o i : FX) : FG := fun s ρ => bnd (o ρ) fun so => bnd (i ρ) fun si μ => match so, si, s with
  | .c k, .d (.int i), .d v => match μ[k]? with
    | some (.lst l) => match ixN l.length i with
      | some j => .ok ρ (μ.set k (.lst (l.set j v)))
      | none => .no
    | _ => .no
  | _, _, _ => .no

def fSkip : FS := fun ρ => ret (.nx ρ)
def fSeq (t u : FS) : FS := fun ρ => bnd (t ρ) fun o => match o with
  | .nx ρ' => u ρ'
  | o => ret o
def fBrk : FS := fun ρ => ret (.bk ρ)
def fCnt : FS := fun ρ => ret (.ct ρ)
def fExpr (a : FX) : FS := fun ρ => bnd (a ρ) fun _ => ret (.nx ρ)
def fRet (a : FX) : FS := fun ρ => bnd (a ρ) fun s => ret (.rt s)
def fRetN : FS := fun _ => ret (.rt (.d .non))
def fIfS (c : FT) (t u : FS) : FS := fun ρ => bnd (c ρ) fun k => if k then t ρ else u ρ
def fNever : FS := fun _ _ => .no
def fAsg (a : FX) (g : FG) : FS := fun ρ => bnd (a ρ) fun s => bnd (g s ρ) fun ρ' => ret (.nx ρ')
def fPar (i j : Nat) (t : FA) : FS := fun ρ => bnd (t ρ) fun ss => match ss with
  | [s, r] => ret (.nx (put (put ρ i s) j r))
  | _ => fun _ => .no
noncomputable def dputF (so si s : SV) : M Unit := fun μ => match so, si, s with
  | .c k, .d key, .d v => match μ[k]? with
    | some (.dK ks vs) => grd (fitK false key = true ∧ ks.length < sizeLine) (fun μ => .ok () (μ.set k (.dK (putKs ks key) (putVs ks vs key v)))) μ
    | some (.dT ks vs) => grd (fitK true key = true ∧ ks.length < sizeLine) (fun μ => .ok () (μ.set k (.dT (putKs ks key) (putVs ks vs key v)))) μ
    | _ => .no
  | _, _, _ => .no
noncomputable def fDPut (o i e : FX) : FS := fun ρ => bnd (e ρ) fun s => bnd (o ρ) fun so => bnd (i ρ) fun si => bnd (dputF so si s) fun _ => ret (.nx ρ)
def fNewK : FX := fun _ μ => .ok (.c μ.length) (μ ++ [.dK [] []])
def fNewT : FX := fun _ μ => .ok (.c μ.length) (μ ++ [.dT [] []])
/-- the turns of a for -/
def fLoop (step : SV → FS) : List D → FS
  | [], ρ => ret (.nx ρ)
  | d :: ds, ρ => bnd (step (.d d) ρ) fun o => match o with
    | .nx ρ' => fLoop step ds ρ'
    | .ct ρ' => fLoop step ds ρ'
    | .bk ρ' => ret (.nx ρ')
    | .rt v => ret (.rt v)
def fFor (it : FI) (g : FG) (b : FS) : FS := fun ρ => bnd (it ρ) fun ds => fLoop (fun d ρ => bnd (g d ρ) b) ds ρ
def wLoop (c : FT) (b : FS) : Nat → FS
  | 0, _ => fun _ => .no
  | n + 1, ρ => bnd (c ρ) fun k => if k then bnd (b ρ) fun o => match o with
      | .nx ρ' => wLoop c b n ρ'
      | .ct ρ' => wLoop c b n ρ'
      | .bk ρ' => ret (.nx ρ')
      | .rt v => ret (.rt v)
    else ret (.nx ρ)
open Classical in
noncomputable def fWhile (c : FT) (b : FS) : FS := fun ρ μ => if h : ∃ n, wLoop c b n ρ μ ≠ .no then wLoop c b (choose h) ρ μ else .no
/-- the turns of a comprehension -/
def cLoop (step : D → M (Option SV)) : List D → M (List D)
  | [], μ => .ok [] μ
  | d :: ds, μ => match step d μ with
    | .ok none μ' => cLoop step ds μ'
    | .ok (some (.d y)) μ' => match cLoop step ds μ' with
      | .ok r μ2 => .ok (y :: r) μ2
      | _ => .no
    | _ => .no
def cStep (g : FG) (c : FT) (e : FX) (vs : List Nat) (ρ : FEnv) (d : D) : M (Option SV) := bnd (g (.d d) (wip ρ vs)) fun ρ2 => bnd (c ρ2) fun k => if k then bnd (e ρ2) fun s => ret (some s) else ret none
def fYes : FT := fun _ => ret true
def finLF : List D → M SV := fun acc => ret (.d (.lst acc))
def finCF : List D → M SV := fun acc μ => .ok (.c μ.length) (μ ++ [.lst acc])
noncomputable def fLc (fin : List D → M SV) (it : FI) (g : FG) (c : FT) (e : FX) (vs : List Nat) : FX := fun ρ => bnd (it ρ) fun ds => grd (ds.length ≤ sizeLine) (bnd (cLoop (cStep g c e vs ρ) ds) fin)
/-- two generators -/
def cLoop2 (step : D → M (Option (List D))) : List D → M (List D)
  | [], μ => .ok [] μ
  | d :: ds, μ => match step d μ with
    | .ok none μ' => cLoop2 step ds μ'
    | .ok (some l) μ' => match cLoop2 step ds μ' with
      | .ok r μ2 => .ok (l ++ r) μ2
      | _ => .no
    | _ => .no
def cStep2 (g : FG) (c : FT) (it1 : FI) (g1 : FG) (c1 : FT) (e : FX) (vs vs1 : List Nat) (ρ : FEnv) (d : D) : M (Option (List D)) := bnd (g (.d d) (wip ρ vs)) fun ρ2 => bnd (c ρ2) fun k =>
  if k then bnd (it1 ρ2) fun es => bnd (cLoop (cStep g1 c1 e vs1 ρ2) es) fun l => ret (some l) else ret none
/-- the list stays small -/
noncomputable def fLc2 (fin : List D → M SV) (it : FI) (g : FG) (c : FT) (it1 : FI) (g1 : FG) (c1 : FT) (e : FX) (vs vs1 : List Nat) : FX := fun ρ => bnd (it ρ) fun ds => bnd (cLoop2 (cStep2 g c it1 g1 c1 e vs vs1 ρ) ds) fun l => grd (l.length ≤ sizeLine) (fin l)

/-- a cell that a call may take -/
def flC {α : Type} (c : Cell) (r : R α) : R α := match c with
  | .dC _ _ => .no
  | .inC _ _ _ => .no
  | .lsC _ => .no
  | .dN _ _ => .no
  | _ => r
def flR {α : Type} : Mem → R α → R α
  | [], r => r
  | c :: cs, r => flC c (flR cs r)
open Classical in
noncomputable def callM (f : List SV → M SV) (ss : List SV) : M SV := fun μ => if (cellsOf ss).Nodup then flR (picked μ (cellsOf ss)) (match f (relab 0 ss) (picked μ (cellsOf ss)) with
    | .ok (.d d) μ' => flR (μ'.take (cellsOf ss).length) (.ok (.d d) (merge μ (cellsOf ss) μ'))
    | .ok (.c j) μ' => flR (μ'.take (cellsOf ss).length) (if j < (cellsOf ss).length then .ok (.c ((cellsOf ss).getD j 0)) (merge μ (cellsOf ss) μ') else flC (μ'.getD j nocell) (.ok (.c μ.length) (merge μ (cellsOf ss) μ' ++ [μ'.getD j nocell])))
    | .ok .un _ => .no
    | .ex C fs μ' => flR (μ'.take (cellsOf ss).length) (.ex C fs (merge μ (cellsOf ss) μ'))
    | .no => .no)
  else .no
/-- .. a new list or dict is data from here on -/
noncomputable def callMF (f : List SV → M SV) (ss : List SV) : M SV := fun μ => grd (cellsOf ss).Nodup (fun μ => flR (picked μ (cellsOf ss)) (match f (relab 0 ss) (picked μ (cellsOf ss)) with
    | .ok (.d d) μ' => flR (μ'.take (cellsOf ss).length) (.ok (.d d) (merge μ (cellsOf ss) μ'))
    | .ok (.c j) μ' => flR (μ'.take (cellsOf ss).length) (match frzS (cellsOf ss).length μ' 3 (.c j) with
      | some d => .ok (.d d) (merge μ (cellsOf ss) μ')
      | none => .no)
    | .ok .un _ => .no
    | .ex C fs μ' => flR (μ'.take (cellsOf ss).length) (.ex C fs (merge μ (cellsOf ss) μ'))
    | .no => .no)) μ
def fstart (as : List SV) : FEnv := fun i => as.getD i .un
def fDef (k : Nat) (b : FS) : List SV → M SV := fun as μ => if as.length = k then match b (fstart as) μ with
    | .ok (.nx _) μ' => .ok (.d .non) μ'
    | .ok (.rt v) μ' => .ok v μ'
    | .ok _ _ => .no
    | .ex C fs μ' => .ex C fs μ'
    | .no => .no
  else .no
def pF (f : List SV → M SV) : PSp := fun x as μ Q => (f as μ).fin x Q
/-- keywords -/
def permM (perm : List Nat) (f : List SV → M SV) (n m : Nat) (t tk : FA) : FX := fun ρ => bnd (t ρ) fun ss => bnd (tk ρ) fun zs => if ss.length = n ∧ zs.length = m then f (permG .un perm ss zs) else fun _ => .no
end PL
namespace PL
open PySem PySem.Spec PyProof.Rows L2 RZ
section
variable {X : Cx} {W : WX} {a b c e o i tg iter elt tg1 iter1 : Expr} {es ifs ifs1 : List Expr} {t : TX} {tt : TXT} {tA : TXA} {tS : TXS} {n : Nat} {fa fb fc fe fo fi : FX} {ft fu : FT} {fl fk : FA} {pos p apos cpos tpos p2 pos' ppos : Pos} {x : Str} {st : Stmt} {rest : List Stmt} {kk : Nat} {elts : List Expr}
theorem PX.to (h : PX X W e t) (i : ∀ x ρ μ Q, toX n fa x ρ μ Q → t x ρ μ Q) : PX X W e (toX n fa) :=
  ⟨h.pe.imp fun σ H Q ⟨A, ρ, μ, G, Qp, xp, S, ht, hx, k⟩ => ⟨A, ρ, μ, G, Qp, xp, S, i _ _ _ _ ht, hx, k⟩⟩
theorem PXT.to (h : PXT X W e tt) (i : ∀ x ρ μ Q, toT n ft x ρ μ Q → tt x ρ μ Q) : PXT X W e (toT n ft) :=
  ⟨h.pt.imp fun σ H Q ⟨A, ρ, μ, G, Qp, xp, S, ht, hx, k⟩ => ⟨A, ρ, μ, G, Qp, xp, S, i _ _ _ _ ht, hx, k⟩⟩
theorem PXW.to (h : PXW X W e tt) (i : ∀ x ρ μ Q, toT n ft x ρ μ Q → tt x ρ μ Q) : PXW X W e (toT n ft) :=
  ⟨h.pw.imp fun σ H Q ⟨A, ρ, μ, G, Qp, xp, S, ht, hx, k⟩ => ⟨A, ρ, μ, G, Qp, xp, S, i _ _ _ _ ht, hx, k⟩⟩
theorem PXTs.to (h : PXTs X W es tt) (i : ∀ x ρ μ Q, toT n ft x ρ μ Q → tt x ρ μ Q) : PXTs X W es (toT n ft) :=
  ⟨h.pt.imp fun σ H Q ⟨A, ρ, μ, G, Qp, xp, S, ht, hx, k⟩ => ⟨A, ρ, μ, G, Qp, xp, S, i _ _ _ _ ht, hx, k⟩⟩
theorem PXA.to (h : PXA X W es tA) (i : ∀ x ρ μ Q, toA n fl x ρ μ Q → tA x ρ μ Q) : PXA X W es (toA n fl) :=
  ⟨h.pa.imp fun σ H Q ⟨A, ρ, μ, G, Qp, xp, S, ht, hx, k⟩ => ⟨A, ρ, μ, G, Qp, xp, S, i _ _ _ _ ht, hx, k⟩⟩
theorem PXK.to {kws : List Keyword} (h : PXK X W kws tA) (i : ∀ x ρ μ Q, toA n fl x ρ μ Q → tA x ρ μ Q) : PXK X W kws (toA n fl) :=
  ⟨h.pk.imp fun σ H Q ⟨A, ρ, μ, G, Qp, xp, S, ht, hx, k⟩ => ⟨A, ρ, μ, G, Qp, xp, S, i _ _ _ _ ht, hx, k⟩⟩
theorem PXO.to {e : Option Expr} {t : TXO} {f : FO} (h : PXO X W e t) (i : ∀ x ρ μ Q, toO n f x ρ μ Q → t x ρ μ Q) : PXO X W e (toO n f) :=
  ⟨h.po.imp fun σ H Q ⟨A, ρ, μ, G, Qp, xp, S, ht, hx, k⟩ => ⟨A, ρ, μ, G, Qp, xp, S, i _ _ _ _ ht, hx, k⟩⟩
theorem PXG.to {own : List Nat} {t : TXG} {f : FG} (h : PXG X W own e t) (i : ∀ x s ρ μ Q, toG n f x s ρ μ Q → t x s ρ μ Q) : PXG X W own e (toG n f) :=
  ⟨h.pg.imp fun v σ H Q ⟨A, ρ, μ, G, s, Qp, xp, S, r, ht, hx, k⟩ => ⟨A, ρ, μ, G, s, Qp, xp, S, r, i _ _ _ _ _ ht, hx, k⟩⟩
def toGs (n : Nat) (gs : List FG) : TXGs := fun x ds ρ μ Q => ρ.n = n ∧ (gAll gs ds ρ.f μ).fin x fun r μ' => Q ⟨n, r⟩ μ'
theorem PXGs.to {own : List Nat} {t : TXGs} {gs : List FG} (h : PXGs X W own es t) (i : ∀ x s ρ μ Q, toGs n gs x s ρ μ Q → t x s ρ μ Q) : PXGs X W own es (toGs n gs) :=
  ⟨h.pg.imp fun v σ H Q ⟨A, ρ, μ, G, s, Qp, xp, S, r, ht, hx, k⟩ => ⟨A, ρ, μ, G, s, Qp, xp, S, r, i _ _ _ _ _ ht, hx, k⟩⟩
theorem PXI.to {ti : TXI} {f : FI} (h : PXI X W tg iter ti) (i : ∀ x ρ μ Q, toI n f x ρ μ Q → ti x ρ μ Q) : PXI X W tg iter (toI n f) := by
  obtain ⟨wi, hp, hw⟩ := h.ex
  exact ⟨wi, hp, fun σ H R ⟨A, ρ, μ, G, Qp, xp, S, ht, hx, k⟩ => hw _ _ _ ⟨A, ρ, μ, G, Qp, xp, S, i _ _ _ _ ht, hx, k⟩⟩
theorem PXS.to {f : FS} (h : PXS X W st tS) (i : ∀ E ρ μ, toS n f E ρ μ → tS E ρ μ) : PXS X W st (toS n f) :=
  ⟨h.ps.imp fun D σ H ⟨A, ρ, μ, G, E, S, ht, k⟩ => ⟨A, ρ, μ, G, E, S, i _ _ _ ht, k⟩⟩
theorem PXSs.to {f : FS} (h : PXSs X W rest tS) (i : ∀ E ρ μ, toS n f E ρ μ → tS E ρ μ) : PXSs X W rest (toS n f) :=
  ⟨h.ps.imp fun D σ H ⟨A, ρ, μ, G, E, S, ht, k⟩ => ⟨A, ρ, μ, G, E, S, i _ _ _ ht, k⟩⟩
theorem pf_name (i : Nat) {x : Str} {pos : Pos} (hN : X.N[i]? = some x := by rfl) (hn : i < n := by decide) (hv : Vis X.env.scope x := by first | exact Or.inl rfl | exact Or.inr (Or.inl rfl) | exact Or.inr (Or.inr rfl)) (hd : (x == ("__debug__" : Str)) = false := by decide)
    (hcd : (x == ("__classdict__" : Str)) = false := by decide) : PX X W (.Name x pos) (toX n (fV i)) :=
  (px_name i hN hv hd hcd).to fun x ρ μ Q ⟨h, q⟩ => by
    refine ⟨by rw [h]; exact hn, ?_⟩
    unfold fV at q
    split at q
    · rename_i e; first | exact q | (rw [e]; exact q)
    · rename_i e; first | exact q | (rw [e]; exact q)
    · exact q.elim
theorem pf_c {d : D} (h : PX X W e (xC d)) : PX X W e (toX n (fC d)) := h.to fun x ρ μ Q ⟨_, q⟩ => q
theorem to_op {P : SV → SV → Mem → VP → Prop} {g : SV → SV → M SV} (hg : ∀ sa sb μ x Q, (g sa sb μ).fin x Q → P sa sb μ Q) (x : XP) (ρ : Env') (μ : Mem) (Q : VP) (h : toX n (fOp g fa fb) x ρ μ Q) : xOp P (toX n fa) (toX n fb) x ρ μ Q := by
  obtain ⟨hn, h⟩ := h
  exact ⟨hn, R.mono (fin_bnd.mp h) fun s μ1 h1 => ⟨hn, R.mono (fin_bnd.mp h1) fun t μ2 h2 => hg _ _ _ _ _ h2⟩⟩
theorem pf_op {P : SV → SV → Mem → VP → Prop} {g : SV → SV → M SV} (h : PX X W e (xOp P (toX n fa) (toX n fb))) (hg : ∀ sa sb μ x Q, (g sa sb μ).fin x Q → P sa sb μ Q) : PX X W e (toX n (fOp g fa fb)) := h.to (to_op hg)
theorem pf_opT {P : SV → SV → Mem → VP → Prop} {g : SV → SV → M SV} (h : PXT X W e (xTest (xOp P (toX n fa) (toX n fb)))) (hg : ∀ sa sb μ x Q, (g sa sb μ).fin x Q → P sa sb μ Q) : PXT X W e (toT n (fT (fOp g fa fb))) :=
  h.to fun x ρ μ Q h => by
    obtain ⟨hn, h⟩ := h
    refine to_op hg x ρ μ _ ⟨hn, R.mono (fin_bnd.mp h) fun s μ1 h1 => ?_⟩
    match s, h1 with
    | .d (.bl k), h1 => exact h1
theorem ok_add : ∀ sa sb μ x Q, (addF sa sb μ).fin x Q → pAddV sa sb μ Q := by
  intro sa sb μ x Q h
  unfold addF at h
  split at h
  · exact h
  · exact fin_grd h
  · exact fin_grd h
  · exact fin_grd h
  · exact fin_grd h
  · exact fin_grd h
  · rename_i h1 h2 h3 h4 h5 h6
    split at h
    · rename_i l m e1 e2
      have key : on (lstOf sa μ) fun l => on (lstOf sb μ) fun m => l.length + m.length ≤ sizeLine ∧ Q (.d (.lst (l ++ m))) μ := by
        rw [e1, e2]; exact fin_grd h
      cases sa with
      | un => exact key
      | c k => exact key
      | d a =>
        cases a <;> first | (cases e1; done) | skip
        all_goals (cases sb with
          | un => cases e2
          | c k => exact key
          | d b => cases b <;> first | (cases e2; done) | exact key)
    · exact h.elim
theorem ok_sub : ∀ sa sb μ x Q, (subF sa sb μ).fin x Q → pSubU sa sb μ Q := by
  intro sa sb μ x Q h
  unfold subF at h
  unfold pSubU
  split at h
  · exact h
  · exact h.elim
theorem ok_mul : ∀ sa sb μ x Q, (mulF sa sb μ).fin x Q → pMulW sa sb μ Q := by
  intro sa sb μ x Q h
  unfold mulF at h
  unfold pMulW pMulV pMulU
  split at h
  · exact fin_grd h
  · exact fin_grd h
  · exact fin_grd h
  · exact fin_grd h
  · rename_i j h1 h2 h3 h4
    have key : on (lstOf sa μ) fun l => (-(2 ^ 63) ≤ j ∧ j < 2 ^ 63 ∧ l.length * j.toNat ≤ sizeLine) ∧ Q (.d (.lst (List.replicate j.toNat l).flatten)) μ := by
      split at h
      · rename_i l e; rw [e]; exact fin_grd h
      · exact h.elim
    cases sa with
    | un => exact key
    | c k => exact key
    | d d => cases d <;> first | exact (h1 _ rfl).elim | exact (h2 _ rfl).elim | exact (h3 _ rfl).elim | exact (h4 _ rfl).elim | exact key
  · exact h.elim
theorem ok_mod : ∀ sa sb μ x Q, (modF sa sb μ).fin x Q → pModU sa sb μ Q := by
  intro sa sb μ x Q h
  unfold modF at h
  unfold pModU
  split at h
  · exact fin_grd h
  · exact h.elim
theorem ok_div : ∀ sa sb μ x Q, (divF sa sb μ).fin x Q → pDiv sa sb μ Q := by
  intro sa sb μ x Q h
  unfold divF at h
  unfold pDiv pII
  split at h
  · exact fin_grd h
  · exact h.elim
theorem ok_pow : ∀ sa sb μ x Q, (powF sa sb μ).fin x Q → pPow sa sb μ Q := by
  intro sa sb μ x Q h
  unfold powF at h
  unfold pPow pII
  split at h
  · exact fin_grd h
  · exact h.elim
theorem ok_lt : ∀ sa sb μ x Q, (ltF sa sb μ).fin x Q → pLtV sa sb μ Q := by
  intro sa sb μ x Q h
  unfold pLtV
  split
  · exact h
  · exact h
  · rename_i h1 h2
    unfold ltF at h
    split at h
    · rename_i e1 e2; injection e1 with e1; injection e2 with e2; exact (h1 _ _ e1 e2).elim
    · rename_i e1 e2; injection e1 with e1; injection e2 with e2; exact (h2 _ _ e1 e2).elim
    · rename_i e1 e2
      injection e1 with e1; injection e2 with e2
      subst e1; subst e2
      exact fin_grd h
    · exact h.elim
  · unfold ltF at h
    split at h
    · rename_i h4; exact (h4 _ _ rfl rfl).elim
    · rename_i h4; exact (h4 _ _ rfl rfl).elim
    · rename_i h4; exact (h4 _ _ rfl rfl).elim
    · exact h.elim
theorem ok_le : ∀ sa sb μ x Q, (leF sa sb μ).fin x Q → pLeV sa sb μ Q := by
  intro sa sb μ x Q h
  unfold pLeV
  split
  · exact h
  · exact h
  · rename_i h1 h2
    unfold leF at h
    split at h
    · rename_i e1 e2; injection e1 with e1; injection e2 with e2; exact (h1 _ _ e1 e2).elim
    · rename_i e1 e2; injection e1 with e1; injection e2 with e2; exact (h2 _ _ e1 e2).elim
    · rename_i e1 e2
      injection e1 with e1; injection e2 with e2
      subst e1; subst e2
      exact fin_grd h
    · exact h.elim
  · unfold leF at h
    split at h
    · rename_i h4; exact (h4 _ _ rfl rfl).elim
    · rename_i h4; exact (h4 _ _ rfl rfl).elim
    · rename_i h4; exact (h4 _ _ rfl rfl).elim
    · exact h.elim
theorem ok_gt : ∀ sa sb μ x Q, (gtF sa sb μ).fin x Q → pGtV sa sb μ Q := by
  intro sa sb μ x Q h
  unfold pGtV
  split
  · exact h
  · exact h
  · rename_i h1 h2
    unfold gtF at h
    split at h
    · rename_i e1 e2; injection e1 with e1; injection e2 with e2; exact (h1 _ _ e1 e2).elim
    · rename_i e1 e2; injection e1 with e1; injection e2 with e2; exact (h2 _ _ e1 e2).elim
    · rename_i e1 e2
      injection e1 with e1; injection e2 with e2
      subst e1; subst e2
      exact fin_grd h
    · exact h.elim
  · unfold gtF at h
    split at h
    · rename_i h4; exact (h4 _ _ rfl rfl).elim
    · rename_i h4; exact (h4 _ _ rfl rfl).elim
    · rename_i h4; exact (h4 _ _ rfl rfl).elim
    · exact h.elim
theorem ok_ge : ∀ sa sb μ x Q, (geF sa sb μ).fin x Q → pGeV sa sb μ Q := by
  intro sa sb μ x Q h
  unfold pGeV
  split
  · exact h
  · exact h
  · rename_i h1 h2
    unfold geF at h
    split at h
    · rename_i e1 e2; injection e1 with e1; injection e2 with e2; exact (h1 _ _ e1 e2).elim
    · rename_i e1 e2; injection e1 with e1; injection e2 with e2; exact (h2 _ _ e1 e2).elim
    · rename_i e1 e2
      injection e1 with e1; injection e2 with e2
      subst e1; subst e2
      exact fin_grd h
    · exact h.elim
  · unfold geF at h
    split at h
    · rename_i h4; exact (h4 _ _ rfl rfl).elim
    · rename_i h4; exact (h4 _ _ rfl rfl).elim
    · rename_i h4; exact (h4 _ _ rfl rfl).elim
    · exact h.elim
theorem ok_ile : ∀ sa sb μ x Q, (ileF sa sb μ).fin x Q → pLe sa sb μ Q := by
  intro sa sb μ x Q h
  unfold ileF at h
  unfold pLe pI0
  split at h <;> first | exact h | exact h.elim
theorem ok_eq : ∀ sa sb μ x Q, (eqF sa sb μ).fin x Q → pEqU sa sb μ Q := by
  intro sa sb μ x Q h
  unfold pEqU
  split
  · exact h
  · exact h
  · rename_i h1 h2
    unfold eqF at h
    split at h
    · rename_i e1 e2; injection e1 with e1; injection e2 with e2; exact (h1 _ _ e1 e2).elim
    · rename_i e1 e2; injection e1 with e1; injection e2 with e2; exact (h2 _ _ e1 e2).elim
    · rename_i e1 e2
      injection e1 with e1; injection e2 with e2
      subst e1; subst e2
      exact fin_grd h
    · exact h.elim
  · unfold eqF at h
    split at h
    · rename_i h4; exact (h4 _ _ rfl rfl).elim
    · rename_i h4; exact (h4 _ _ rfl rfl).elim
    · rename_i h4; exact (h4 _ _ rfl rfl).elim
    · exact h.elim
theorem ok_ne : ∀ sa sb μ x Q, (neF sa sb μ).fin x Q → pNeU sa sb μ Q := by
  intro sa sb μ x Q h
  unfold pNeU
  split
  · exact h
  · exact h
  · rename_i h1 h2
    unfold neF at h
    split at h
    · rename_i e1 e2; injection e1 with e1; injection e2 with e2; exact (h1 _ _ e1 e2).elim
    · rename_i e1 e2; injection e1 with e1; injection e2 with e2; exact (h2 _ _ e1 e2).elim
    · rename_i e1 e2
      injection e1 with e1; injection e2 with e2
      subst e1; subst e2
      exact fin_grd h
    · exact h.elim
  · unfold neF at h
    split at h
    · rename_i h4; exact (h4 _ _ rfl rfl).elim
    · rename_i h4; exact (h4 _ _ rfl rfl).elim
    · rename_i h4; exact (h4 _ _ rfl rfl).elim
    · exact h.elim
theorem ok_in : ∀ sa sb μ x Q, (inF sa sb μ).fin x Q → pInU sa sb μ Q := by
  intro sa sb μ x Q h
  have h : (inO μ sa sb).fin x fun k μ' => Q (.d (.bl k)) μ' := by
    unfold inF at h
    cases e : inO μ sa sb <;> rw [e] at h <;> exact h
  unfold inO at h
  unfold pInU
  split at h
  · exact fin_grd h
  · exact fin_grd h
  · exact fin_grd h
  · exact fin_grd h
  · rename_i x z _
    split at h
    · rename_i c e
      refine ⟨c, ?_, h⟩
      cases x with
      | mk cps => simp only at e; congr 1; exact Array.toList_inj.mp (by simpa using e)
    · exact h.elim
  · split at h
    · rename_i e; first | exact fin_grd h | (simp only [e]; exact fin_grd h)
    · rename_i e; first | exact fin_grd h | (simp only [e]; exact fin_grd h)
    · rename_i e; first | exact fin_grd h | (simp only [e]; exact fin_grd h)
    · exact h.elim
  · exact h.elim
theorem ok_ni : ∀ sa sb μ x Q, (niF sa sb μ).fin x Q → pNiU sa sb μ Q := by
  intro sa sb μ x Q h
  have h : (inO μ sa sb).fin x fun k μ' => Q (.d (.bl (!k))) μ' := by
    unfold niF at h
    cases e : inO μ sa sb <;> rw [e] at h <;> exact h
  unfold inO at h
  unfold pNiU
  split at h
  · exact fin_grd h
  · exact fin_grd h
  · exact fin_grd h
  · exact fin_grd h
  · rename_i x z _
    split at h
    · rename_i c e
      refine ⟨c, ?_, h⟩
      cases x with
      | mk cps => simp only at e; congr 1; exact Array.toList_inj.mp (by simpa using e)
    · exact h.elim
  · split at h
    · rename_i e; first | exact fin_grd h | (simp only [e]; exact fin_grd h)
    · rename_i e; first | exact fin_grd h | (simp only [e]; exact fin_grd h)
    · rename_i e; first | exact fin_grd h | (simp only [e]; exact fin_grd h)
    · exact h.elim
  · exact h.elim
theorem ok_ix : ∀ sa sb μ x Q, (ixF sa sb μ).fin x Q → pIx sa sb μ Q := by
  intro sa sb μ x Q h
  unfold ixF at h
  unfold pIx
  split at h
  · split at h
    · rename_i e; show on _ _; rw [e]; exact h
    · exact h.elim
  · exact h.elim
theorem ok_dget : ∀ sa sb μ x Q, (dgetF sa sb μ).fin x Q → pDGet sa sb μ Q := by
  intro sa sb μ x Q h
  unfold dgetF at h
  unfold pDGet
  split at h
  · split at h
    · rename_i e
      show on _ _
      rw [e]
      obtain ⟨h1, h2⟩ := fin_grd h
      refine ⟨h1, ?_⟩
      split at h2
      · rename_i e2; rw [e2]; exact h2
      · exact h2.elim
    · exact h.elim
  · exact h.elim
variable (ha : PX X W a (toX n fa)) (hb : PX X W b (toX n fb)) (hc : PX X W c (toX n fc))
include ha hb
theorem pf_add : PX X W (.BinOp a .Add b pos) (toX n (fOp addF fa fb)) := pf_op (px_addV ha hb) ok_add
theorem pf_sub : PX X W (.BinOp a .Sub b pos) (toX n (fOp subF fa fb)) := pf_op (px_subU ha hb) ok_sub
theorem pf_mul : PX X W (.BinOp a .Mult b pos) (toX n (fOp mulF fa fb)) := pf_op (px_mulW ha hb) ok_mul
theorem pf_mod : PX X W (.BinOp a .Mod b pos) (toX n (fOp modF fa fb)) := pf_op (px_modU ha hb) ok_mod
theorem pf_div : PX X W (.BinOp a .FloorDiv b pos) (toX n (fOp divF fa fb)) := pf_op (px_divI ha hb) ok_div
theorem pf_pow : PX X W (.BinOp a .Pow b pos) (toX n (fOp powF fa fb)) := pf_op (px_powI ha hb) ok_pow
theorem pf_lt (hu : X.A.units + 64 < cLine) : PX X W (.Compare a [.Lt] [b] pos) (toX n (fOp ltF fa fb)) := pf_op (px_ltV hu ha hb) ok_lt
theorem pf_gt (hu : X.A.units + 64 < cLine) : PX X W (.Compare a [.Gt] [b] pos) (toX n (fOp gtF fa fb)) := pf_op (px_gtV hu ha hb) ok_gt
theorem pf_ge (hu : X.A.units + 64 < cLine) : PX X W (.Compare a [.GtE] [b] pos) (toX n (fOp geF fa fb)) := pf_op (px_geV hu ha hb) ok_ge
theorem pf_eq (hu : X.A.units + 64 < cLine) : PX X W (.Compare a [.Eq] [b] pos) (toX n (fOp eqF fa fb)) := pf_op (px_eqU hu ha hb) ok_eq
theorem pf_in (hu : X.A.units + 64 < cLine) (hm : behindInMarks .In b = false := by first | exact nomark _ | rfl) : PX X W (.Compare a [.In] [b] pos) (toX n (fOp inF fa fb)) := pf_op (px_inU hu ha hb hm) ok_in
theorem pft_lt (hu : X.A.units + 64 < cLine) : PXT X W (.Compare a [.Lt] [b] pos) (toT n (fT (fOp ltF fa fb))) := pf_opT (pxt_ltV hu ha hb) ok_lt
theorem pft_le (hu : X.A.units + 64 < cLine) : PXT X W (.Compare a [.LtE] [b] pos) (toT n (fT (fOp leF fa fb))) := pf_opT (pxt_leV hu ha hb) ok_le
theorem pft_gt (hu : X.A.units + 64 < cLine) : PXT X W (.Compare a [.Gt] [b] pos) (toT n (fT (fOp gtF fa fb))) := pf_opT (pxt_gtV hu ha hb) ok_gt
theorem pft_ge (hu : X.A.units + 64 < cLine) : PXT X W (.Compare a [.GtE] [b] pos) (toT n (fT (fOp geF fa fb))) := pf_opT (pxt_geV hu ha hb) ok_ge
theorem pft_eq (hu : X.A.units + 64 < cLine) : PXT X W (.Compare a [.Eq] [b] pos) (toT n (fT (fOp eqF fa fb))) := pf_opT (pxt_eqU hu ha hb) ok_eq
theorem pft_ne (hu : X.A.units + 64 < cLine) : PXT X W (.Compare a [.NotEq] [b] pos) (toT n (fT (fOp neF fa fb))) := pf_opT (pxt_neU hu ha hb) ok_ne
theorem pft_notin (hu : X.A.units + 64 < cLine) (hm : behindInMarks .NotIn b = false := by first | exact nomark _ | rfl) : PXT X W (.Compare a [.NotIn] [b] pos) (toT n (fT (fOp niF fa fb))) := pf_opT (pxt_notinU hu ha hb hm) ok_ni
theorem pf_ix (hs : PlainIx b := by intro _ _; rfl) : PX X W (.Subscript a b pos) (toX n (fOp ixF fa fb)) := pf_op (px_ix ha hb hs) ok_ix
theorem pf_dget (hu : X.A.units + 1 < cLine) (hs : NoSl b := by intro _ _; rfl) : PX X W (.Subscript a b pos) (toX n (fOp dgetF fa fb)) := pf_op (px_dget hu ha hb hs) ok_dget
include hc
theorem to_chain {P P' : SV → SV → Mem → VP → Prop} {g g' : SV → SV → M SV} (hg : ∀ sa sb μ x Q, (g sa sb μ).fin x Q → P sa sb μ Q) (hg' : ∀ sa sb μ x Q, (g' sa sb μ).fin x Q → P' sa sb μ Q) (x : XP) (ρ : Env') (μ : Mem) (Q : VP) (h : toX n (fChain g g' fa fb fc) x ρ μ Q) : xChain P P' (toX n fa) (toX n fb) (toX n fc) x ρ μ Q := by
  obtain ⟨hn, h⟩ := h
  refine ⟨hn, R.mono (fin_bnd.mp h) fun s μ1 h1 => ⟨hn, R.mono (fin_bnd.mp h1) fun t μ2 h2 => hg _ _ _ _ _ (R.mono (fin_bnd.mp (fin_bnd.mp h2)) fun z μ3 h3 => ?_)⟩⟩
  match z, h3 with
  | .d (.bl true), h3 => exact ⟨hn, R.mono (fin_bnd.mp h3) fun u μ4 h4 => hg' _ _ _ _ _ h4⟩
  | .d (.bl false), h3 => exact h3
end
section
variable {X : Cx} {W : WX} {a b c e o i tg iter elt tg1 iter1 : Expr} {es ifs ifs1 : List Expr} {t : TX} {tt : TXT} {tA : TXA} {tS : TXS} {n : Nat} {fa fb fc fe fo fi : FX} {ft fu : FT} {fl fk : FA} {pos p apos cpos tpos p2 pos' ppos : Pos} {x : Str} {st : Stmt} {rest : List Stmt} {kk : Nat} {elts : List Expr}
theorem to_test {f : FX} {t : TX} (i : ∀ x ρ μ Q, toX n f x ρ μ Q → t x ρ μ Q) (x : XP) (ρ : Env') (μ : Mem) (Q : Bool → Mem → Prop) (h : toT n (fT f) x ρ μ Q) : xTest t x ρ μ Q := by
  obtain ⟨hn, h⟩ := h
  refine i _ _ _ _ ⟨hn, R.mono (fin_bnd.mp h) fun s μ1 h1 => ?_⟩
  match s, h1 with
  | .d (.bl k), h1 => exact h1
section
variable (ha : PX X W a (toX n fa)) (hb : PX X W b (toX n fb)) (hc : PX X W c (toX n fc))
include ha hb hc
theorem pf_lele (hm : lastMarks [.LtE, .LtE] [b, c] = false := by with_unfolding_all rfl) : PX X W (.Compare a [.LtE, .LtE] [b, c] pos) (toX n (fChain ileF ileF fa fb fc)) := (px_leleI ha hb hc hm).to (to_chain ha hb hc ok_ile ok_ile)
theorem pft_lele (hm : lastMarks [.LtE, .LtE] [b, c] = false := by with_unfolding_all rfl) : PXT X W (.Compare a [.LtE, .LtE] [b, c] pos) (toT n (fT (fChain ileF ileF fa fb fc))) := (pxt_leleI ha hb hc hm).to (to_test (to_chain ha hb hc ok_ile ok_ile))
end
end
end PL
namespace PL
open PySem PySem.Spec PyProof.Rows L2 RZ
section
variable {X : Cx} {W : WX} {a b c e o i tg iter elt tg1 iter1 : Expr} {es ifs ifs1 : List Expr} {t : TX} {tt : TXT} {tA : TXA} {tS : TXS} {n : Nat} {fa fb fc fe fo fi : FX} {ft fu : FT} {fl fk : FA} {pos p apos cpos tpos p2 pos' ppos : Pos} {x : Str} {st : Stmt} {rest : List Stmt} {kk : Nat} {elts : List Expr} {nm : Option Str} {kpos : Pos} {kws : List Keyword}
theorem pft_val (h : PX X W e (toX n fa)) (he : ∀ whole, isTrue e X.env whole = (do let v ← whole; standAt e.pos; holding [v] (truthy v)) := by intro _; rfl) : PXT X W e (toT n (fT fa)) :=
  (pxt_val h he).to (to_test fun _ _ _ _ h => h)
theorem pft_isN {j pos'} (ha : PX X W a (toX n fa)) : PXT X W (.Compare a [.Is] [.Constant .none j pos'] pos) (toT n (fT (fUn isNF fa))) :=
  (pxt_isN ha).to fun x ρ μ Q ⟨hn, h⟩ => ⟨hn, R.mono (fin_bnd.mp (fin_bnd.mp h)) fun s μ1 h1 => by
    cases s with
    | un => exact h1
    | c k => exact h1
    | d d => cases d <;> exact h1⟩
theorem pft_notN {j pos'} (ha : PX X W a (toX n fa)) : PXT X W (.Compare a [.IsNot] [.Constant .none j pos'] pos) (toT n (fT (fUn notNF fa))) :=
  (pxt_notN ha).to fun x ρ μ Q ⟨hn, h⟩ => ⟨hn, R.mono (fin_bnd.mp (fin_bnd.mp h)) fun s μ1 h1 => by
    cases s with
    | un => exact h1
    | c k => exact h1
    | d d => cases d <;> exact h1⟩
theorem pf_isN {j pos'} (ha : PX X W a (toX n fa)) : PX X W (.Compare a [.Is] [.Constant .none j pos'] pos) (toX n (fUn isNF fa)) :=
  (px_isN ha).to fun x ρ μ Q ⟨hn, h⟩ => ⟨hn, R.mono (fin_bnd.mp h) fun s μ1 h1 => by
    cases s with
    | un => exact h1
    | c k => exact h1
    | d d => cases d <;> exact h1⟩
theorem pfw_and1 (ha : PXT X W a (toT n ft)) : PXW X W (.BoolOp .And [a] pos) (toT n ft) := pxw_and1 ha
theorem pfw_or1 (ha : PXT X W a (toT n ft)) : PXW X W (.BoolOp .Or [a] pos) (toT n ft) := pxw_or1 ha
theorem pfw_and (ha : PXT X W a (toT n ft)) (hb : PXW X W (.BoolOp .And (b :: es) pos) (toT n fu)) : PXW X W (.BoolOp .And (a :: b :: es) pos) (toT n (fTAnd ft fu)) :=
  (pxw_and ha hb).to fun x ρ μ Q ⟨hn, h⟩ => ⟨hn, R.mono (fin_bnd.mp h) fun k μ1 h1 => by
    cases k with
    | true => exact ⟨hn, h1⟩
    | false => exact h1⟩
theorem pfw_or (ha : PXT X W a (toT n ft)) (hb : PXW X W (.BoolOp .Or (b :: es) pos) (toT n fu)) : PXW X W (.BoolOp .Or (a :: b :: es) pos) (toT n (fTOr ft fu)) :=
  (pxw_or ha hb).to fun x ρ μ Q ⟨hn, h⟩ => ⟨hn, R.mono (fin_bnd.mp h) fun k μ1 h1 => by
    cases k with
    | true => exact h1
    | false => exact ⟨hn, h1⟩⟩
theorem pft_not (ha : PXT X W a (toT n ft)) : PXT X W (.UnaryOp .Not a pos) (toT n (fTNot ft)) :=
  (pxt_not ha).to fun x ρ μ Q ⟨hn, h⟩ => ⟨hn, R.mono (fin_bnd.mp h) fun k μ1 h1 => h1⟩
theorem pf_one {op} (h : PX X W a (toX n fa)) : PX X W (.BoolOp op [a] pos) (toX n fa) := px_one h
theorem pf_and (ha : PX X W a (toX n fa)) (hb : PX X W (.BoolOp .And (b :: es) pos) (toX n fb)) : PX X W (.BoolOp .And (a :: b :: es) pos) (toX n (fAnd fa fb)) :=
  (px_and ha hb).to fun x ρ μ Q ⟨hn, h⟩ => ⟨hn, R.mono (fin_bnd.mp (fin_bnd.mp h)) fun s μ1 h1 => by
    match s, h1 with
    | .d (.bl true), h1 => exact ⟨hn, h1⟩
    | .d (.bl false), h1 => exact h1⟩
theorem pf_not (ha : PX X W a (toX n fa)) : PX X W (.UnaryOp .Not a pos) (toX n (fNot fa)) :=
  (px_not ha).to fun x ρ μ Q ⟨hn, h⟩ => ⟨hn, R.mono (fin_bnd.mp (fin_bnd.mp h)) fun s μ1 h1 => by
    match s, h1 with
    | .d (.bl k), h1 => exact h1⟩
theorem pf_if (hc : PXT X W c (toT n ft)) (ha : PX X W a (toX n fa)) (hb : PX X W b (toX n fb)) : PX X W (.IfExp c a b pos) (toX n (fIf ft fa fb)) :=
  (px_if hc ha hb).to fun x ρ μ Q ⟨hn, h⟩ => ⟨hn, R.mono (fin_bnd.mp h) fun k μ1 h1 => by
    cases k with
    | true => exact ⟨hn, h1⟩
    | false => exact ⟨hn, h1⟩⟩
theorem pfa_nil : PXA X W [] (toA n fNil) := pxa_nil.to fun x ρ μ Q ⟨hn, h⟩ => h
theorem pfa_cons (ha : PX X W e (toX n fa)) (hr : PXA X W es (toA n fl)) (hs : starEach (e :: es) X.env = (false, eval e X.env) :: starEach es X.env := by rfl) : PXA X W (e :: es) (toA n (fCons fa fl)) :=
  (pxa_cons ha hr hs).to fun x ρ μ Q ⟨hn, h⟩ => ⟨hn, R.mono (fin_bnd.mp h) fun s μ1 h1 => ⟨hn, R.mono (fin_bnd.mp h1) fun ss μ2 h2 => h2⟩⟩
theorem pfk_nil : PXK X W [] (toA n fNil) := pxk_nil.to fun x ρ μ Q ⟨hn, h⟩ => h
theorem pfk_cons (ha : PX X W e (toX n fa)) (hr : PXK X W kws (toA n fl)) : PXK X W (⟨nm, e, kpos⟩ :: kws) (toA n (fCons fa fl)) :=
  (pxk_cons ha hr).to fun x ρ μ Q ⟨hn, h⟩ => ⟨hn, R.mono (fin_bnd.mp h) fun s μ1 h1 => ⟨hn, R.mono (fin_bnd.mp h1) fun ss μ2 h2 => h2⟩⟩
theorem fin_allM {o : Option (List D)} {q : List D → M SV} {μ : Mem} {x : XP} {Q : VP} (h : (allM o q μ).fin x Q) : ∃ ds, o = some ds ∧ (q ds μ).fin x Q := by
  cases o with
  | none => exact h.elim
  | some ds => exact ⟨ds, rfl, h⟩
theorem pf_tup {x1} (h : PXA X W es (toA n fl)) : PX X W (.Tuple es x1 pos) (toX n (fTup fl)) :=
  (px_tup h).to fun x ρ μ Q ⟨hn, h⟩ => ⟨hn, R.mono (fin_bnd.mp h) fun ss μ1 h1 => by
    obtain ⟨ds, e, h2⟩ := fin_allM h1
    rw [e]; exact fin_grd h2⟩
theorem pf_lst (h : PXA X W es (toA n fl)) : PX X W (.List es pos) (toX n (fLst fl)) :=
  (px_lst h).to fun x ρ μ Q ⟨hn, h⟩ => ⟨hn, R.mono (fin_bnd.mp h) fun ss μ1 h1 => by
    obtain ⟨ds, e, h2⟩ := fin_allM h1
    rw [e]; exact fin_grd h2⟩
theorem pf_lstC (h : PXA X W es (toA n fl)) : PX X W (.List es pos) (toX n (fLstC fl)) :=
  (px_lstC h).to fun x ρ μ Q ⟨hn, h⟩ => ⟨hn, R.mono (fin_bnd.mp h) fun ss μ1 h1 => by
    obtain ⟨ds, e, h2⟩ := fin_allM h1
    rw [e]; exact fin_grd h2⟩
theorem pf_call {P : List SV → Mem → VP → Prop} {g : List SV → M SV} (h : PX X W e (xCall P (toA n fl))) (hg : ∀ ss μ x Q, (g ss μ).fin x Q → P ss μ Q) : PX X W e (toX n (fCall g fl)) :=
  h.to fun x ρ μ Q ⟨hn, h⟩ => ⟨hn, R.mono (fin_bnd.mp h) fun ss μ1 h1 => hg _ _ _ _ h1⟩
theorem ok_len : ∀ ss μ x Q, (lenF ss μ).fin x Q → pLen ss μ Q := by
  intro ss μ x Q h
  unfold lenF at h
  unfold pLen
  split at h
  · split at h
    · rename_i e; show on _ _; rw [e]; exact h
    · exact h.elim
  · exact h.elim
theorem ok_all : ∀ ss μ x Q, (allF ss μ).fin x Q → pAll ss μ Q := by
  intro ss μ x Q h
  unfold allF at h
  unfold pAll
  split at h
  · split at h
    · rename_i e; show on _ _; rw [e]; exact h
    · exact h.elim
  · exact h.elim
theorem ok_any : ∀ ss μ x Q, (anyF ss μ).fin x Q → pAny ss μ Q := by
  intro ss μ x Q h
  unfold anyF at h
  unfold pAny
  split at h
  · split at h
    · rename_i e; show on _ _; rw [e]; exact h
    · exact h.elim
  · exact h.elim
theorem ok_tup : ∀ ss μ x Q, (tupF ss μ).fin x Q → pTupN ss μ Q := by
  intro ss μ x Q h
  unfold tupF at h
  unfold pTupN
  split at h
  · split at h
    · rename_i e; first | exact h | (simp only [e]; exact h)
    · rename_i e
      try simp only [e]
      split at h
      · rename_i e2; rw [e2]; exact ⟨rfl, h⟩
      · exact h.elim
  · exact h.elim
theorem ok_int : ∀ ss μ x Q, (intF ss μ).fin x Q → pInt ss μ Q := by
  intro ss μ x Q h
  unfold intF at h
  unfold pInt
  split at h <;> first | exact h | exact h.elim
theorem ok_abs : ∀ ss μ x Q, (absF ss μ).fin x Q → pAbs ss μ Q := by
  intro ss μ x Q h
  unfold absF at h
  unfold pAbs
  split at h <;> first | exact h | exact h.elim
theorem ok_divmod : ∀ ss μ x Q, (divmodF ss μ).fin x Q → pDivmod ss μ Q := by
  intro ss μ x Q h
  unfold divmodF at h
  unfold pDivmod
  split at h <;> first | exact fin_grd h | exact h.elim
theorem ok_max : ∀ ss μ x Q, (maxF ss μ).fin x Q → pmaxU ss μ Q := by
  intro ss μ x Q h
  unfold maxF at h
  unfold pmaxU
  split at h <;> first | exact h | exact fin_grd h | exact h.elim
theorem ok_min : ∀ ss μ x Q, (minF ss μ).fin x Q → pminU ss μ Q := by
  intro ss μ x Q h
  unfold minF at h
  unfold pminU
  split at h <;> first | exact h | exact fin_grd h | exact h.elim
section
variable (hl : PXA X W [e] (toA n fl)) (he : starEach [e] X.env = (false, eval e X.env) :: starEach [] X.env := by rfl)
theorem pf_len (hg : Gl X "len") (hm : X.mg "len" = none) (hl : PXA X W [e] (toA n fl)) (he : starEach [e] X.env = (false, eval e X.env) :: starEach [] X.env := by rfl) : PX X W (.Call (.Name "len" p) [e] [] pos) (toX n (fCall lenF fl)) := pf_call (px_len hg hm hl he) ok_len
theorem pf_all (hc : X.calm = true) (hg : Gl X "all") (hm : X.mg "all" = none) (hl : PXA X W [e] (toA n fl)) (he : starEach [e] X.env = (false, eval e X.env) :: starEach [] X.env := by rfl) : PX X W (.Call (.Name "all" p) [e] [] pos) (toX n (fCall allF fl)) := pf_call (px_all hc hg hm hl he) ok_all
theorem pf_any (hc : X.calm = true) (hg : Gl X "any") (hm : X.mg "any" = none) (hl : PXA X W [e] (toA n fl)) (he : starEach [e] X.env = (false, eval e X.env) :: starEach [] X.env := by rfl) : PX X W (.Call (.Name "any" p) [e] [] pos) (toX n (fCall anyF fl)) := pf_call (px_any hc hg hm hl he) ok_any
theorem pf_tuple (hg : Gl X "tuple") (hm : X.mg "tuple" = none) (hl : PXA X W [e] (toA n fl)) (he : starEach [e] X.env = (false, eval e X.env) :: starEach [] X.env := by rfl) : PX X W (.Call (.Name "tuple" p) [e] [] pos) (toX n (fCall tupF fl)) := pf_call (px_tupleN hg hm hl he) ok_tup
theorem pf_intc (hg : Gl X "int") (hm : X.mg "int" = none) (hl : PXA X W [e] (toA n fl)) (he : starEach [e] X.env = (false, eval e X.env) :: starEach [] X.env := by rfl) : PX X W (.Call (.Name "int" p) [e] [] pos) (toX n (fCall intF fl)) := pf_call (px_intc hg hm hl he) ok_int
theorem pf_abs (hg : Gl X "abs") (hm : X.mg "abs" = none) (hl : PXA X W [e] (toA n fl)) (he : starEach [e] X.env = (false, eval e X.env) :: starEach [] X.env := by rfl) : PX X W (.Call (.Name "abs" p) [e] [] pos) (toX n (fCall absF fl)) := pf_call (px_abs hg hm hl he) ok_abs
end
theorem pf_divmod (hg : Gl X "divmod") (hm : X.mg "divmod" = none) (hl : PXA X W [a, b] (toA n fl)) (he : starEach [a, b] X.env = (false, eval a X.env) :: starEach [b] X.env := by rfl) (hpl : (backTo pos (starEach [b] X.env)).any (·.1) = false := by rfl) : PX X W (.Call (.Name "divmod" p) [a, b] [] pos) (toX n (fCall divmodF fl)) := pf_call (px_divmod hg hm hl he hpl) ok_divmod
theorem pf_max (hu : X.A.units + 64 < cLine) (hc : X.calm = true) (hg : Gl X "max") (hm : X.mg "max" = none) (hl : PXA X W [a, b] (toA n fl)) (he : starEach [a, b] X.env = (false, eval a X.env) :: starEach [b] X.env := by rfl) (hpl : (backTo pos (starEach [b] X.env)).any (·.1) = false := by rfl) : PX X W (.Call (.Name "max" p) [a, b] [] pos) (toX n (fCall maxF fl)) := pf_call (px_maxU hu hc hg hm hl he hpl) ok_max
theorem pf_min (hu : X.A.units + 64 < cLine) (hc : X.calm = true) (hg : Gl X "min") (hm : X.mg "min" = none) (hl : PXA X W [a, b] (toA n fl)) (he : starEach [a, b] X.env = (false, eval a X.env) :: starEach [b] X.env := by rfl) (hpl : (backTo pos (starEach [b] X.env)).any (·.1) = false := by rfl) : PX X W (.Call (.Name "min" p) [a, b] [] pos) (toX n (fCall minF fl)) := pf_call (px_minU hu hc hg hm hl he hpl) ok_min
theorem pf_isiK (k : TyK) {x : Str} {px' : Pos} (hg : Gl X "isinstance") (hm : X.mg "isinstance" = none) (hg2 : Gl X x) (hm2 : X.mg x = none) (hv : bootBuiltins x = some (.type k.nm)) (ha : PX X W a (toX n fa))
    (hn : x ≠ "__name__" := by decide) (hd : (x == ("__debug__" : Str)) = false := by decide)
    (he : starEach [a, .Name x px'] X.env = (false, eval a X.env) :: starEach [.Name x px'] X.env := by rfl) (he2 : starEach [.Name x px'] X.env = (false, eval (.Name x px') X.env) :: starEach [] X.env := by rfl) (hpl : (backTo pos (starEach [.Name x px'] X.env)).any (·.1) = false := by rfl) : PX X W (.Call (.Name "isinstance" p) [a, .Name x px'] [] pos) (toX n (fUn (isiF k) fa)) :=
  (px_isiK k hg hm hg2 hm2 hv ha hn hd he he2 hpl).to fun x ρ μ Q ⟨hn, h⟩ => ⟨hn, R.mono (fin_bnd.mp h) fun s μ1 h1 => by
    unfold isiF at h1
    unfold pIsK
    split at h1
    · rename_i e; rw [e]; exact h1
    · exact h1.elim⟩
theorem pfo_none : PXO X W none (toO n fNone) := pxo_none.to fun x ρ μ Q ⟨hn, h⟩ => h
theorem pfo_some (h : PX X W e (toX n fa)) : PXO X W (some e) (toO n (fSome fa)) :=
  (pxo_some h).to fun x ρ μ Q ⟨hn, h⟩ => ⟨hn, R.mono (fin_bnd.mp h) fun s μ1 h1 => by
    unfold asInt at h1
    split at h1 <;> first | exact h1 | exact h1.elim⟩
theorem pf_sl {lo hi : Option Expr} {f1 f2 : FO} (ha : PX X W a (toX n fa)) (hl : PXO X W lo (toO n f1)) (hh : PXO X W hi (toO n f2)) : PX X W (.Subscript a (.Slice lo hi none p2) pos) (toX n (fSl slF fa f1 f2)) :=
  (px_slV ha hl hh).to fun x ρ μ Q ⟨hn, h⟩ => ⟨hn, R.mono (fin_bnd.mp h) fun s μ1 h1 => ⟨hn, R.mono (fin_bnd.mp h1) fun l μ2 h2 => ⟨hn, R.mono (fin_bnd.mp h2) fun r μ3 h3 => by
    unfold slF at h3
    unfold pSlV
    split at h3
    · exact h3
    · exact h3
    · exact h3
    · exact fin_grd h3
    · rename_i g1 g2 g3 g4
      split at h3
      · rename_i e
        first
          | (split <;> first | exact (g1 _ rfl).elim | exact (g2 _ rfl).elim | exact (g3 _ rfl).elim | exact (g4 _ rfl).elim | (rw [e]; exact h3))
          | (rw [e]; exact h3)
      · exact h3.elim⟩⟩⟩
/-- the receiver is a list before the arguments are read and behind them -/
def fMethL (g : SV → List SV → M SV) (o : FX) (t : FA) : FX := fun ρ => bnd (o ρ) fun s μ => if (lstOf s μ).isSome = true then bnd (t ρ) (fun ss => g s ss) μ else .no
theorem pf_lmeth {P : SV → List SV → Mem → VP → Prop} {g : SV → List SV → M SV} (h : PX X W e (xMeth P (toX n fo) (toA n fl))) (hg : ∀ so ss μ x Q, (g so ss μ).fin x Q → P so ss μ Q) : PX X W e (toX n (fMethL g fo fl)) :=
  h.to fun x ρ μ Q ⟨hn, h⟩ => ⟨hn, R.mono (fin_bnd.mp h) fun s μ1 h1 => by
    split at h1
    · rename_i e
      exact ⟨e, hn, R.mono (fin_bnd.mp h1) fun ss μ2 h2 => hg _ _ _ _ _ h2⟩
    · exact h1.elim⟩
theorem ok_append : ∀ so ss μ x Q, (appendF so ss μ).fin x Q → pAppend so ss μ Q := by
  intro so ss μ x Q h
  unfold appendF at h
  unfold pAppend
  split at h
  · split at h
    · rename_i e
      try simp only [e]
      split at h
      · rename_i e2; exact ⟨e2, h⟩
      · exact h.elim
    · exact h.elim
  · exact h.elim
theorem ok_extend : ∀ so ss μ x Q, (extendF so ss μ).fin x Q → pExtend so ss μ Q := by
  intro so ss μ x Q h
  unfold extendF at h
  unfold pExtend
  split at h
  · split at h
    · rename_i e e1
      simp only [e, e1]
      split at h
      · rename_i e2; exact ⟨e2, h⟩
      · exact h.elim
    · exact h.elim
  · exact h.elim
theorem pf_append (ho : PX X W o (toX n fo)) (ha : PXA X W [e] (toA n fl)) (hbase : attributeBase o "append" X.env (eval o X.env) = eval o X.env := by rfl)
    (hfew : ((backTo cpos (starEach [e] X.env)).all (fun x => !x.1) && (backToKw cpos (keywordEach [] X.env)).all (fun x => x.1.isSome)
      && decide ([e].length + ([] : List Keyword).length + (if ([] : List Keyword).isEmpty then 0 else 1) < 30)) = true := by rfl)
    (hline : (apos.endLine == cpos.line) = true := by rfl) (hs : starEach [e] X.env = (false, eval e X.env) :: starEach [] X.env := by rfl) : PX X W (.Call (.Attribute o "append" apos) [e] [] cpos) (toX n (fMethL appendF fo fl)) :=
  pf_lmeth (px_append ho ha hbase hfew hline hs) ok_append
theorem pf_extend (ho : PX X W o (toX n fo)) (ha : PXA X W [e] (toA n fl)) (hbase : attributeBase o "extend" X.env (eval o X.env) = eval o X.env := by rfl)
    (hfew : ((backTo cpos (starEach [e] X.env)).all (fun x => !x.1) && (backToKw cpos (keywordEach [] X.env)).all (fun x => x.1.isSome)
      && decide ([e].length + ([] : List Keyword).length + (if ([] : List Keyword).isEmpty then 0 else 1) < 30)) = true := by rfl)
    (hline : (apos.endLine == cpos.line) = true := by rfl) (hs : starEach [e] X.env = (false, eval e X.env) :: starEach [] X.env := by rfl) : PX X W (.Call (.Attribute o "extend" apos) [e] [] cpos) (toX n (fMethL extendF fo fl)) :=
  pf_lmeth (px_extend ho ha hbase hfew hline hs) ok_extend
/-- a join: the text first -/
def fJoin (fo fe : FX) : FX := fun ρ => bnd (fo ρ) fun so => match so with
  | .d (.str a) => bnd (fe ρ) fun s => joinF (.d (.str a)) s
  | _ => fun _ => .no
theorem pfi_U (he : PX X W e (toX n fe)) : PXI X W tg e (toI n (itF fe)) :=
  (pxi_U he).to fun x ρ μ Q ⟨hn, h⟩ => ⟨hn, R.mono (fin_bnd.mp h) fun s μ1 h1 => by
    split at h1
    · split at h1
      · rename_i e; show on _ _; rw [e]; exact h1
      · exact h1.elim
    · exact h1.elim⟩
theorem pfi_enum (hg : Gl X "enumerate") (hm : X.mg "enumerate" = none) (ha : PXA X W [e] (toA n fl)) (hs : starEach [e] X.env = [(false, eval e X.env)] := by rfl) : PXI X W (.Tuple elts kk tpos) (.Call (.Name "enumerate" p) [e] [] pos) (toI n (enumF fl)) :=
  (pxi_enumU hg hm ha hs).to fun x ρ μ Q ⟨hn, h⟩ => ⟨hn, R.mono (fin_bnd.mp h) fun s μ1 h1 => by
    split at h1 <;> first | exact h1 | exact h1.elim⟩
theorem pfi_zip (hg : Gl X "zip") (hm : X.mg "zip" = none) (ha : PXA X W [a, b] (toA n fl)) (hs : starEach [a, b] X.env = (false, eval a X.env) :: starEach [b] X.env := by rfl) (hpl : (backTo pos (starEach [b] X.env)).any (·.1) = false := by rfl) : PXI X W (.Tuple elts kk tpos) (.Call (.Name "zip" p) [a, b] [] pos) (toI n (zipF fl)) :=
  (pxi_zipU hg hm ha hs hpl).to fun x ρ μ Q ⟨hn, h⟩ => ⟨hn, R.mono (fin_bnd.mp h) fun s μ1 h1 => by
    split at h1 <;> first | exact h1 | exact h1.elim⟩
theorem pfi_range1 (hg : Gl X "range") (hm : X.mg "range" = none) (ha : PXA X W [a] (toA n fl)) (hs : starEach [a] X.env = [(false, eval a X.env)] := by rfl) : PXI X W tg (.Call (.Name "range" p) [a] [] pos) (toI n (rng1F fl)) :=
  (pxi_range1 hg hm ha hs).to fun x ρ μ Q ⟨hn, h⟩ => ⟨hn, R.mono (fin_bnd.mp h) fun s μ1 h1 => by
    split at h1 <;> first | exact fin_grd h1 | exact h1.elim⟩
theorem pfi_range2 (hg : Gl X "range") (hm : X.mg "range" = none) (ha : PXA X W [a, b] (toA n fl)) (hs : starEach [a, b] X.env = [(false, eval a X.env), (false, eval b X.env)] := by rfl) (hs2 : starEach [b] X.env = [(false, eval b X.env)] := by rfl) : PXI X W tg (.Call (.Name "range" p) [a, b] [] pos) (toI n (rng2F fl)) :=
  (pxi_range2 hg hm ha hs hs2).to fun x ρ μ Q ⟨hn, h⟩ => ⟨hn, R.mono (fin_bnd.mp h) fun s μ1 h1 => by
    split at h1 <;> first | exact fin_grd h1 | exact h1.elim⟩
theorem set_put (ρ : Env') (i : Nat) (s : SV) (h : ρ.n = n) : (⟨n, put ρ.f i s⟩ : Env') = ρ.set i s := by
  cases ρ; subst h; rfl
theorem pfg_name {i : Nat} {own : List Nat} {x : Str} (ho : i ∈ own) (hN : X.N.Nodup) (hi : X.N[i]? = some x) (hx : Loc X.env.scope x) (hf : X.fn x = true ∨ X.env.scope.names.lookup x = some .local := by first | exact .inl rfl | exact .inr rfl | assumption) : PXG X W own (.Name x pos) (toG n (gN i)) :=
  (pxg_name ho hN hi hx hf).to fun x s ρ μ Q ⟨hn, h⟩ => by
    show Q (ρ.set _ s) μ
    rw [← set_put ρ _ s hn]; exact h
variable {gs : List FG} {g g1 : FG} {own : List Nat}
theorem pfgs_nil : PXGs X W own [] (toGs n []) := pxgs_nil.to fun x ds ρ μ Q ⟨hn, h⟩ => by
  cases ds with
  | nil => cases ρ; subst hn; exact h
  | cons d ds => exact h.elim
theorem pfgs_cons (h1 : PXG X W own e (toG n g)) (h2 : PXGs X W own es (toGs n gs)) (hs : (assignEach (e :: es) X.env).map (·.2) = assign e X.env :: (assignEach es X.env).map (·.2) := by rfl) : PXGs X W own (e :: es) (toGs n (g :: gs)) :=
  (pxgs_cons h1 h2 hs).to fun x ds ρ μ Q ⟨hn, h⟩ => by
    cases ds with
    | nil => exact h.elim
    | cons d ds => exact ⟨hn, R.mono (fin_bnd.mp h) fun r μ1 h1 => ⟨rfl, h1⟩⟩
theorem pfg_tup {k : Nat} (hc : X.calm = true) (h : PXGs X W own es (toGs n gs)) (hn : (assignEach es X.env).length = gs.length := by rfl) (hst : (assignEach es X.env).findIdx? (·.1) = none := by rfl) : PXG X W own (.Tuple es k pos) (toG n (gT gs)) :=
  (pxg_tup hc h hn hst).to fun x s ρ μ Q ⟨hn, h⟩ => by
    unfold gT at h
    split at h
    · split at h
      · rename_i e; exact ⟨e, hn, h⟩
      · exact h.elim
    · exact h.elim
theorem pfg_sub (ho : PX X W o (toX n fo)) (hi : PX X W i (toX n fi))
    (ha : ∀ v, assign (.Subscript o i pos) X.env v = (do
      let ov ← holding [v] (eval o X.env)
      let iv ← holding [v, ov] (eval i X.env)
      standAt pos
      holding [v, ov, iv] (setItem ov iv v)
      release [v, ov, iv] []) := by intro _; rfl) : PXG X W own (.Subscript o i pos) (toG n (gSub fo fi)) :=
  (pxg_sub ho hi ha).to fun x s ρ μ Q ⟨hn, h⟩ => ⟨hn, R.mono (fin_bnd.mp h) fun so μ1 h1 => ⟨hn, R.mono (fin_bnd.mp h1) fun si μ2 h2 => by
    have e : (⟨n, ρ.f⟩ : Env') = ρ := by cases ρ; subst hn; rfl
    split at h2
    · split at h2
      · rename_i e1
        try simp only [e1]
        split at h2
        · rename_i e2; rw [e2]; rw [← e]; exact h2
        · exact h2.elim
      · exact h2.elim
    · exact h2.elim⟩⟩
end
end PL
namespace PL
open PySem PySem.Spec PyProof.Rows L2 RZ
section
variable {X : Cx} {W : WX} {a b c e o i tg iter elt tg1 iter1 : Expr} {es ifs ifs1 : List Expr} {n : Nat} {fa fb fc fe fo fi : FX} {ft fu : FT} {fl fk : FA} {pos p apos cpos tpos p2 pos' ppos : Pos} {x : Str} {st : Stmt} {rest : List Stmt} {s u : FS} {g g1 : FG} {it it1 : FI} {own : List Nat}
theorem env_eq (ρ : Env') (h : ρ.n = n) : (⟨n, ρ.f⟩ : Env') = ρ := by cases ρ; subst h; rfl
theorem pfss_nil : PXSs X W [] (toS n fSkip) := pss_nil'.to fun E ρ μ ⟨hn, h⟩ => by
  show E.nx ρ μ
  rw [← env_eq ρ hn]; exact h
theorem pfss_cons (h1 : PXS X W st (toS n s)) (h2 : PXSs X W rest (toS n u)) : PXSs X W (st :: rest) (toS n (fSeq s u)) :=
  (pxs_cons h1 h2).to fun E ρ μ ⟨hn, h⟩ => ⟨hn, R.mono (fin_bnd.mp h) fun o μ1 h1 => by
    cases o with
    | nx ρ' => exact ⟨rfl, h1⟩
    | rt v => exact h1
    | bk ρ' => exact h1
    | ct ρ' => exact h1⟩
theorem pfss_one (h1 : PXS X W st (toS n s)) : PXSs X W [st] (toS n s) := pxs_one h1
theorem pfs_expr (he : PX X W e (toX n fe)) (hs : swapsWith e none pos.line X.env = pure false := by rfl) : PXS X W (.Expr e pos) (toS n (fExpr fe)) :=
  (psx_expr he hs).to fun E ρ μ ⟨hn, h⟩ => ⟨hn, R.mono (fin_bnd.mp h) fun _ μ1 h1 => by
    show E.nx ρ μ1
    rw [← env_eq ρ hn]; exact h1⟩
theorem pfs_ret (he : PX X W e (toX n fe)) : PXS X W (.Return (some e) pos) (toS n (fRet fe)) :=
  (psx_ret he).to fun E ρ μ ⟨hn, h⟩ => ⟨hn, R.mono (fin_bnd.mp h) fun _ μ1 h1 => h1⟩
theorem pfs_if {c : Expr} {a b : List Stmt} (hc : PXT X W c (toT n ft)) (ha : PXSs X W a (toS n s)) (hb : PXSs X W b (toS n u)) : PXS X W (.If c a b pos) (toS n (fIfS ft s u)) :=
  (psx_if hc ha hb).to fun E ρ μ ⟨hn, h⟩ => ⟨hn, R.mono (fin_bnd.mp h) fun k μ1 h1 => by
    cases k with
    | true => exact ⟨hn, h1⟩
    | false => exact ⟨hn, h1⟩⟩
theorem pfs_never : PXS X W st (toS n fNever) := psx_never.to fun E ρ μ ⟨_, h⟩ => h
theorem pfs_asg {tg : Expr} (he : PX X W e (toX n fe)) (hg : PXG X W own tg (toG n g)) (hs : swapsWithSole [tg] e pos.line X.env = pure false := by rfl) (hw : swappedStores [tg] e X.env = pure none := by rfl)
    (h1 : (assignEach [tg] X.env).map (·.2) = [assign tg X.env] := by rfl) : PXS X W (.Assign [tg] e pos) (toS n (fAsg fe g)) :=
  (psx_asg he hg hs hw h1).to fun E ρ μ ⟨hn, h⟩ => ⟨hn, R.mono (fin_bnd.mp h) fun z μ1 h1 => ⟨hn, R.mono (fin_bnd.mp h1) fun r μ2 h2 => h2⟩⟩
theorem to_set {i : Nat} {t : TX} (j : ∀ x ρ μ Q, toX n fe x ρ μ Q → t x ρ μ Q) (E : EndsP) (ρ : Env') (μ : Mem) (h : toS n (fAsg fe (gN i)) E ρ μ) : xAsg t (xName i) E ρ μ := by
  obtain ⟨hn, h⟩ := h
  refine j _ _ _ _ ⟨hn, R.mono (fin_bnd.mp h) fun z μ1 h1 => ?_⟩
  show E.nx (ρ.set i z) μ1
  rw [← set_put ρ _ z hn]; exact h1
theorem pfs_set {i : Nat} {x : Str} {pos' : Pos} (hN : X.N.Nodup) (hi : X.N[i]? = some x) (hx : Loc X.env.scope x) (he : PX X W e (toX n fe)) (hs : swapsWith e (some (.Name x pos')) pos.line X.env = pure false := by rfl) (hf : X.fn x = true ∨ X.env.scope.names.lookup x = some .local := by first | exact .inl rfl | exact .inr rfl | assumption) :
    PXS X W (.Assign [.Name x pos'] e pos) (toS n (fAsg fe (gN i))) :=
  (psx_set hN hi hx he hs hf).to (to_set fun _ _ _ _ h => h)
theorem pfs_par {i j : Nat} {x y : Str} {px py pt : Pos} {kt k2 pt2} (hc : X.calm = true) (hN : X.N.Nodup) (hi : X.N[i]? = some x) (hj : X.N[j]? = some y) (hij : i ≠ j)
    (hx : X.env.scope.names.lookup x = some .local) (hy : X.env.scope.names.lookup y = some .local) (ha : PXA X W [a, b] (toA n fl))
    (hw : swappedStores [.Tuple [.Name x px, .Name y py] kt pt] (.Tuple [a, b] k2 pt2) X.env = pure (some [x, y]))
    (hs : swapsWithSole [.Tuple [.Name x px, .Name y py] kt pt] (.Tuple [a, b] k2 pt2) pos.line X.env = pure false := by rfl) :
    PXS X W (.Assign [.Tuple [.Name x px, .Name y py] kt pt] (.Tuple [a, b] k2 pt2) pos) (toS n (fPar i j fl)) :=
  (psx_par hc hN hi hj hij hx hy ha hw hs).to fun E ρ μ ⟨hn, h⟩ => ⟨hn, R.mono (fin_bnd.mp h) fun ss μ1 h1 => by
    split at h1
    · rename_i s r
      show E.nx ((ρ.set i s).set j r) μ1
      rw [← set_put (n := n) (ρ.set i s) j r hn]
      exact h1
    · exact h1.elim⟩
theorem pfs_dput (hu : X.A.units + 1 < cLine) (ho : PX X W o (toX n fo)) (hi : PX X W i (toX n fi)) (he : PX X W e (toX n fe)) (hs : swapsWith e (some (.Subscript o i pos')) pos.line X.env = pure false := by rfl) : PXS X W (.Assign [.Subscript o i pos'] e pos) (toS n (fDPut fo fi fe)) :=
  (psx_dput hu ho hi he hs).to fun E ρ μ ⟨hn, h⟩ => ⟨hn, R.mono (fin_bnd.mp h) fun s μ1 h1 => ⟨hn, R.mono (fin_bnd.mp h1) fun so μ2 h2 => ⟨hn, R.mono (fin_bnd.mp h2) fun si μ3 h3 => by
    have e := env_eq ρ hn
    have h3 := fin_bnd.mp h3
    unfold dputF at h3
    unfold dputS
    split at h3
    · split at h3
      · rename_i e1; simp only [e1]; have h4 := fin_grd h3; exact ⟨h4.1, by rw [← e]; exact h4.2⟩
      · rename_i e1; simp only [e1]; have h4 := fin_grd h3; exact ⟨h4.1, by rw [← e]; exact h4.2⟩
      · exact h3.elim
    · exact h3.elim⟩⟩⟩
theorem pf_newK : PX X W (.Dict [] [] pos) (toX n fNewK) := px_newK.to fun x ρ μ Q ⟨_, h⟩ => h
theorem drop_at {α : Type} {l : List α} {i : Nat} {d : α} (h : l[i]? = some d) : l.drop i = d :: l.drop (i + 1) := by
  obtain ⟨h1, h2⟩ := List.getElem?_eq_some_iff.mp h
  rw [List.drop_eq_getElem_cons h1, h2]
theorem pfs_for {body : List Stmt} (hp : PassesOwn (model X.prog X.w) X.A X.env X.xe) (hc : X.calm = true) (hi : PXI X W tg iter (toI n it)) (hg : PXG X W own tg (toG n g)) (hb : PXSs X W body (toS n s))
    (hs : ∀ x, foldedSetIterable iter X.env x = pure x := by intro _; rfl) : PXS X W (.For tg iter body [] pos) (toS n (fFor it g s)) :=
  (psx_for hp hc hi hg hb hs).to fun E ρ μ ⟨hn, h⟩ => ⟨hn, R.mono (fin_bnd.mp h) fun ds μ1 h1 => by
    refine ⟨fun i ρ μ => ρ.n = n ∧ (fLoop (fun d ρ => bnd (g d ρ) s) (ds.drop i) ρ.f μ).fin E.ex fun o μ' => o.fin n E μ', ⟨hn, h1⟩, ?_, ?_⟩
    · rintro i d ρ μ hd ⟨hn, h2⟩
      rw [drop_at hd] at h2
      have h3 := fin_bnd.mp (fin_bnd.mp h2)
      refine ⟨hn, R.mono h3 fun r μ2 h4 => ⟨rfl, R.mono h4 fun o μ3 h5 => ?_⟩⟩
      cases o with
      | nx ρ' => exact ⟨rfl, h5⟩
      | rt v => exact h5
      | bk ρ' => exact h5
      | ct ρ' => exact ⟨rfl, h5⟩
    · rintro ρ μ ⟨hn, h2⟩
      rw [List.drop_length] at h2
      rw [← env_eq ρ hn]; exact h2⟩
theorem pfs_while {c : Expr} {body : List Stmt} (hp : PassesOwn (model X.prog X.w) X.A X.env X.xe) (hc : PXT X W c (toT n ft)) (hb : PXSs X W body (toS n s)) : PXS X W (.While c body [] pos) (toS n (fWhile ft s)) :=
  (psx_while hp hc hb).to fun E ρ μ ⟨hn, h⟩ => by
    unfold fWhile at h
    split at h
    · rename_i hz
      refine ⟨fun m ρ μ => ρ.n = n ∧ (wLoop ft s m ρ.f μ).fin E.ex fun o μ' => o.fin n E μ', ⟨_, hn, h⟩, ?_⟩
      rintro m ρ μ ⟨hn, h2⟩
      cases m with
      | zero => exact h2.elim
      | succ m =>
        refine ⟨hn, R.mono (fin_bnd.mp h2) fun k μ1 h3 => ?_⟩
        cases k with
        | false => show E.nx ρ μ1; rw [← env_eq ρ hn]; exact h3
        | true =>
          refine ⟨hn, R.mono (fin_bnd.mp h3) fun o μ2 h4 => ?_⟩
          cases o with
          | nx ρ' => exact ⟨m, Nat.lt_succ_self m, rfl, h4⟩
          | rt v => exact h4
          | bk ρ' => exact h4
          | ct ρ' => exact ⟨m, Nat.lt_succ_self m, rfl, h4⟩
    · exact h.elim
theorem wip_eq (ρ : Env') : ∀ vs : List Nat, wipeP ρ vs = ⟨ρ.n, wip ρ.f vs⟩
  | [] => rfl
  | v :: vs => by
    show (wipeP ρ vs).set v .un = _
    rw [wip_eq ρ vs]; rfl
theorem pfts_nil : PXTs X W [] (toT n fYes) := pxts_nil.to fun x ρ μ Q ⟨_, h⟩ => h
theorem pfts_one {c : Expr} (h : PXT X W c (toT n ft)) : PXTs X W [c] (toT n ft) := pxts_one h
/-- what is left of a comprehension -/
def cEnd (fin : List D → Mem → VP → Prop) (Q : VP) (acc : List D) : R (List D) → Prop
  | .ok r μ => fin (acc ++ r) μ Q
  | _ => False
theorem to_lc {fin : List D → Mem → VP → Prop} {finF : List D → M SV} (hf : ∀ l μ x Q, (finF l μ).fin x Q → fin l μ Q) {vs : List Nat} (x : XP) (ρ : Env') (μ : Mem) (Q : VP) (h : toX n (fLc finF it g ft fe vs) x ρ μ Q) : xLc (toI n it) (toG n g) (toT n ft) (toX n fe) vs fin x ρ μ Q := by
  obtain ⟨hn, h⟩ := h
  refine ⟨hn, R.mono (fin_bnd.mp h) fun ds μ1 h1 => ?_⟩
  obtain ⟨hz, h1⟩ := fin_grd h1
  refine ⟨hz, fun i acc μ => cEnd fin Q acc (cLoop (cStep g ft fe vs ρ.f) (ds.drop i) μ), ?_, ?_, ?_⟩
  · show cEnd fin Q [] (cLoop (cStep g ft fe vs ρ.f) ds μ1)
    have h1 := fin_bnd.mp h1
    have nx : ∀ (l : List D) (μ : Mem) C fs μ', cLoop (cStep g ft fe vs ρ.f) l μ ≠ .ex C fs μ' := by
      intro l
      induction l with
      | nil => intro μ C fs μ' q; cases q
      | cons d l ih =>
        intro μ C fs μ' q
        unfold cLoop at q
        split at q
        · exact ih _ _ _ _ q
        · split at q <;> cases q
        · cases q
    cases e : cLoop (cStep g ft fe vs ρ.f) ds μ1 with
    | ok r μ2 => rw [e] at h1; exact hf _ _ _ _ h1
    | ex C fs μ2 => exact absurd e (nx _ _ _ _ _)
    | no => rw [e] at h1; exact h1.elim
  · rintro i d acc μ hd h2
    rw [drop_at hd] at h2
    unfold cLoop at h2
    have key : (cStep g ft fe vs ρ.f d μ).fin xF fun o μ' => match o with
        | none => cEnd fin Q acc (cLoop (cStep g ft fe vs ρ.f) (ds.drop (i + 1)) μ')
        | some (.d y) => cEnd fin Q (acc ++ [y]) (cLoop (cStep g ft fe vs ρ.f) (ds.drop (i + 1)) μ')
        | _ => False := by
      split at h2
      · rename_i e; rw [e]; exact h2
      · rename_i y μ2 e
        rw [e]
        show cEnd fin Q (acc ++ [y]) _
        split at h2
        · rename_i e2; rw [e2]; unfold cEnd at h2 ⊢; simpa using h2
        · exact h2.elim
      · exact h2.elim
    unfold cStep at key
    rw [wip_eq]
    refine ⟨hn, R.mono (fin_bnd.mp key) fun ρ2 μ2 h3 => ⟨rfl, R.mono (fin_bnd.mp h3) fun k μ3 h4 => ?_⟩⟩
    cases k with
    | false => exact h4
    | true =>
      refine ⟨rfl, R.mono (fin_bnd.mp h4) fun z μ4 h5 => ?_⟩
      match z, h5 with
      | .d y, h5 => exact h5
  · intro acc μ h2
    rw [List.drop_length] at h2
    unfold cLoop cEnd at h2
    simpa using h2
section
variable {scope : Scope} {own : List (Str × Nat)}
theorem pf_lc (hc : X.calm = true) (hN : X.N.Nodup) (hi : PXI X W tg iter (toI n it)) (ok : BlkOk X.N X.env.scope scope own)
    (hg : ∀ (s : Shared) (H : Hp) (C : Addr) (cl : List (Str × Addr)) (fp : List Addr), PXG (X.blk s H scope (compEnvC scope cl C X.env) fp) wF (own.map (·.2)) tg (toG n g))
    (ht : ∀ (s : Shared) (H : Hp) (C : Addr) (cl : List (Str × Addr)) (fp : List Addr), PXTs (X.blk s H scope (compEnvC scope cl C X.env) fp) wF ifs (toT n ft))
    (he : ∀ (s : Shared) (H : Hp) (C : Addr) (cl : List (Str × Addr)) (fp : List Addr), PX (X.blk s H scope (compEnvC scope cl C X.env) fp) wF elt (toX n fe)) (hs : ∀ x, foldedSetIterable iter X.env x = pure x := by intro _; rfl) :
    PX X W (.ListComp elt [⟨tg, iter, ifs, 0⟩] scope pos) (toX n (fLc finLF it g ft fe (own.map (·.2)))) := (px_lc hc hN hi ok hg ht he hs).to (to_lc fun _ _ _ _ h => h)
theorem pfs_setLc {i : Nat} {y : Str} {py : Pos} (hc : X.calm = true) (hN : X.N.Nodup) (hy : X.N[i]? = some y) (hyl : X.env.scope.names.lookup y = some .local)
    (hsw : swapsWith (.ListComp elt [⟨tg, iter, ifs, 0⟩] scope p) (some (.Name y py)) pos.line X.env = pure true) (hi : PXI X W tg iter (toI n it)) (ok : BlkOk X.N X.env.scope scope own)
    (hg : ∀ (s : Shared) (H : Hp) (C : Addr) (cl : List (Str × Addr)) (fp : List Addr), PXG (X.blk s H scope (compEnvC scope cl C X.env) fp) wF (own.map (·.2)) tg (toG n g))
    (ht : ∀ (s : Shared) (H : Hp) (C : Addr) (cl : List (Str × Addr)) (fp : List Addr), PXTs (X.blk s H scope (compEnvC scope cl C X.env) fp) wF ifs (toT n ft))
    (he : ∀ (s : Shared) (H : Hp) (C : Addr) (cl : List (Str × Addr)) (fp : List Addr), PX (X.blk s H scope (compEnvC scope cl C X.env) fp) wF elt (toX n fe)) (hs : ∀ x, foldedSetIterable iter X.env x = pure x := by intro _; rfl) :
    PXS X W (.Assign [.Name y py] (.ListComp elt [⟨tg, iter, ifs, 0⟩] scope p) pos) (toS n (fAsg (fLc finLF it g ft fe (own.map (·.2))) (gN i))) :=
  (psx_setLc hc hN hy hyl hsw hi ok hg ht he hs).to (to_set (to_lc fun _ _ _ _ h => h))
end
theorem nx_cLoop (step : D → M (Option SV)) : ∀ (l : List D) (μ : Mem) C fs μ', cLoop step l μ ≠ .ex C fs μ' := by
  intro l
  induction l with
  | nil => intro μ C fs μ' q; cases q
  | cons d l ih =>
    intro μ C fs μ' q
    unfold cLoop at q
    split at q
    · exact ih _ _ _ _ q
    · split at q <;> cases q
    · cases q
theorem nx_cLoop2 (step : D → M (Option (List D))) : ∀ (l : List D) (μ : Mem) C fs μ', cLoop2 step l μ ≠ .ex C fs μ' := by
  intro l
  induction l with
  | nil => intro μ C fs μ' q; cases q
  | cons d l ih =>
    intro μ C fs μ' q
    unfold cLoop2 at q
    split at q
    · exact ih _ _ _ _ q
    · split at q <;> cases q
    · cases q
/-- what is left of a comprehension with two generators -/
def cEnd2 (fin : List D → Mem → VP → Prop) (Q : VP) (acc : List D) : R (List D) → Prop
  | .ok r μ => acc.length + r.length ≤ sizeLine ∧ fin (acc ++ r) μ Q
  | _ => False
theorem cEnd2_app {fin : List D → Mem → VP → Prop} {Q : VP} {acc l : List D} {r : List D} {μ : Mem} (h : cEnd2 fin Q acc (.ok (l ++ r) μ)) : cEnd2 fin Q (acc ++ l) (.ok r μ) := by
  obtain ⟨h1, h2⟩ := h
  refine ⟨by simp at h1 ⊢; omega, by simpa using h2⟩
theorem to_lc2 {fin : List D → Mem → VP → Prop} {finF : List D → M SV} (hf : ∀ l μ x Q, (finF l μ).fin x Q → fin l μ Q) {vs vs1 : List Nat} (x : XP) (ρ : Env') (μ : Mem) (Q : VP) (h : toX n (fLc2 finF it g ft it1 g1 fu fe vs vs1) x ρ μ Q) : xLc2 (toI n it) (toG n g) (toT n ft) (toI n it1) (toG n g1) (toT n fu) (toX n fe) vs vs1 fin x ρ μ Q := by
  obtain ⟨hn, h⟩ := h
  refine ⟨hn, R.mono (fin_bnd.mp h) fun ds μ1 h1 => ?_⟩
  refine ⟨fun i acc μ => cEnd2 fin Q acc (cLoop2 (cStep2 g ft it1 g1 fu fe vs vs1 ρ.f) (ds.drop i) μ), ?_, ?_, ?_⟩
  · show cEnd2 fin Q [] (cLoop2 (cStep2 g ft it1 g1 fu fe vs vs1 ρ.f) ds μ1)
    have h1 := fin_bnd.mp h1
    cases e : cLoop2 (cStep2 g ft it1 g1 fu fe vs vs1 ρ.f) ds μ1 with
    | ok r μ2 => rw [e] at h1; have h2 := fin_grd h1; exact ⟨by simpa using h2.1, hf _ _ _ _ h2.2⟩
    | ex C fs μ2 => exact absurd e (nx_cLoop2 _ _ _ _ _ _)
    | no => rw [e] at h1; exact h1.elim
  · rintro i d acc μ hd h2
    rw [drop_at hd] at h2
    unfold cLoop2 at h2
    have key : (cStep2 g ft it1 g1 fu fe vs vs1 ρ.f d μ).fin xF fun o μ' => match o with
        | none => cEnd2 fin Q acc (cLoop2 (cStep2 g ft it1 g1 fu fe vs vs1 ρ.f) (ds.drop (i + 1)) μ')
        | some l => cEnd2 fin Q (acc ++ l) (cLoop2 (cStep2 g ft it1 g1 fu fe vs vs1 ρ.f) (ds.drop (i + 1)) μ') ∧ acc.length + l.length ≤ sizeLine := by
      split at h2
      · rename_i e; rw [e]; exact h2
      · rename_i l μ2 e
        rw [e]
        show cEnd2 fin Q (acc ++ l) _ ∧ _
        split at h2
        · rename_i e2; rw [e2]; exact ⟨cEnd2_app h2, by have := h2.1; simp at this; omega⟩
        · exact h2.elim
      · exact h2.elim
    unfold cStep2 at key
    rw [wip_eq]
    refine ⟨hn, R.mono (fin_bnd.mp key) fun ρ2 μ2 h3 => ⟨rfl, R.mono (fin_bnd.mp h3) fun k μ3 h4 => ?_⟩⟩
    cases k with
    | false => exact h4
    | true =>
      refine ⟨rfl, R.mono (fin_bnd.mp h4) fun es μ4 h5 => ?_⟩
      have h6 := fin_bnd.mp h5
      refine ⟨fun j acc' μ => ∃ r μ', cLoop (cStep g1 fu fe vs1 ρ2) (es.drop j) μ = .ok r μ' ∧ cEnd2 fin Q (acc' ++ r) (cLoop2 (cStep2 g ft it1 g1 fu fe vs vs1 ρ.f) (ds.drop (i + 1)) μ') ∧ acc'.length + r.length ≤ sizeLine, ?_, ?_, ?_⟩
      · show ∃ r μ', cLoop _ es μ4 = _ ∧ _
        cases e : cLoop (cStep g1 fu fe vs1 ρ2) es μ4 with
        | ok r μ5 => rw [e] at h6; exact ⟨r, μ5, rfl, h6⟩
        | ex C fs μ5 => exact absurd e (nx_cLoop _ _ _ _ _ _)
        | no => rw [e] at h6; exact h6.elim
      · rintro j d' acc' μ5 hd' ⟨r, μ6, e6, h7, h8⟩
        rw [drop_at hd'] at e6
        unfold cLoop at e6
        have key2 : (cStep g1 fu fe vs1 ρ2 d' μ5).fin xF fun o μ' => match o with
            | none => ∃ r μ2, cLoop (cStep g1 fu fe vs1 ρ2) (es.drop (j + 1)) μ' = .ok r μ2 ∧ cEnd2 fin Q (acc' ++ r) (cLoop2 (cStep2 g ft it1 g1 fu fe vs vs1 ρ.f) (ds.drop (i + 1)) μ2) ∧ acc'.length + r.length ≤ sizeLine
            | some (.d y) => acc'.length < sizeLine ∧ ∃ r μ2, cLoop (cStep g1 fu fe vs1 ρ2) (es.drop (j + 1)) μ' = .ok r μ2 ∧ cEnd2 fin Q ((acc' ++ [y]) ++ r) (cLoop2 (cStep2 g ft it1 g1 fu fe vs vs1 ρ.f) (ds.drop (i + 1)) μ2) ∧ (acc' ++ [y]).length + r.length ≤ sizeLine
            | _ => False := by
          split at e6
          · rename_i e; rw [e]; exact ⟨r, μ6, e6, h7, h8⟩
          · rename_i y μ7 e
            rw [e]
            split at e6
            · rename_i r2 μ8 e8
              cases e6
              refine ⟨by simp at h8; omega, r2, μ6, e8, by simpa using h7, by simp at h8 ⊢; omega⟩
            · cases e6
          · cases e6
        unfold cStep at key2
        rw [wip_eq]
        refine ⟨rfl, R.mono (fin_bnd.mp key2) fun ρ5 μ7 h9 => ⟨rfl, R.mono (fin_bnd.mp h9) fun k μ8 h10 => ?_⟩⟩
        cases k with
        | false => exact h10
        | true =>
          refine ⟨rfl, R.mono (fin_bnd.mp h10) fun z μ9 h11 => ?_⟩
          match z, h11 with
          | .d y, h11 => exact h11
      · rintro acc' μ5 ⟨r, μ6, e6, h7, _⟩
        rw [List.drop_length] at e6
        unfold cLoop at e6
        cases e6
        simpa using h7
  · intro acc μ h2
    rw [List.drop_length] at h2
    unfold cLoop2 cEnd2 at h2
    simpa using h2.2
section
variable {scope : Scope} {own : List (Str × Nat)}
theorem pf_lc2 (vs1 : List Nat) (hc : X.calm = true) (hN : X.N.Nodup) (hi : PXI X W tg iter (toI n it)) (ok : BlkOk X.N X.env.scope scope own) (hv : ∀ i ∈ vs1, i ∈ own.map (·.2))
    (hg : ∀ (s : Shared) (H : Hp) (C : Addr) (cl : List (Str × Addr)) (fp : List Addr), PXG (X.blk s H scope (compEnvC scope cl C X.env) fp) wF (own.map (·.2)) tg (toG n g))
    (ht : ∀ (s : Shared) (H : Hp) (C : Addr) (cl : List (Str × Addr)) (fp : List Addr), PXTs (X.blk s H scope (compEnvC scope cl C X.env) fp) wF ifs (toT n ft))
    (hi1 : ∀ (s : Shared) (H : Hp) (C : Addr) (cl : List (Str × Addr)) (fp : List Addr), PXI (X.blk s H scope (compEnvC scope cl C X.env) fp) wF tg1 iter1 (toI n it1))
    (hg1 : ∀ (s : Shared) (H : Hp) (C : Addr) (cl : List (Str × Addr)) (fp : List Addr), PXG (X.blk s H scope (compEnvC scope cl C X.env) fp) wF vs1 tg1 (toG n g1))
    (ht1 : ∀ (s : Shared) (H : Hp) (C : Addr) (cl : List (Str × Addr)) (fp : List Addr), PXTs (X.blk s H scope (compEnvC scope cl C X.env) fp) wF ifs1 (toT n fu))
    (he : ∀ (s : Shared) (H : Hp) (C : Addr) (cl : List (Str × Addr)) (fp : List Addr), PX (X.blk s H scope (compEnvC scope cl C X.env) fp) wF elt (toX n fe)) (hs : ∀ x, foldedSetIterable iter X.env x = pure x := by intro _; rfl) (hs1 : ∀ env x, foldedSetIterable iter1 env x = pure x := by intro _ _; rfl) :
    PX X W (.ListComp elt [⟨tg, iter, ifs, 0⟩, ⟨tg1, iter1, ifs1, 0⟩] scope pos) (toX n (fLc2 finLF it g ft it1 g1 fu fe (own.map (·.2)) vs1)) := (px_lc2 vs1 hc hN hi ok hv hg ht hi1 hg1 ht1 he hs hs1).to (to_lc2 fun _ _ _ _ h => h)
end
theorem ndP_in {ks : List Nat} {A : Prop} (nd : ks.Nodup) (h : A) : ndP ks A := by
  match ks with
  | [] => exact h
  | [_] => exact h
  | _ :: _ :: _ => exact ⟨nd, h⟩
theorem flC_fin {α : Type} {c : Cell} {r : R α} {x : XP} {Q : α → Mem → Prop} (h : (flC c r).fin x Q) : flat1 c = true ∧ r.fin x Q := by
  cases c <;> first | exact ⟨rfl, h⟩ | exact h.elim
theorem flR_fin {α : Type} {r : R α} {x : XP} {Q : α → Mem → Prop} : ∀ {cs : Mem}, (flR cs r).fin x Q → flP cs (r.fin x Q)
  | [], h => h
  | c :: cs, h => ⟨(flC_fin h).1, flR_fin (flC_fin h).2⟩
theorem flP_mono {A B : Prop} (i : A → B) : ∀ {cs : Mem}, flP cs A → flP cs B
  | [], h => i h
  | _ :: _, ⟨h1, h2⟩ => ⟨h1, flP_mono i h2⟩
theorem callM_ok {f : List SV → M SV} {ss : List SV} {μ : Mem} {x : XP} {Q : VP} (h : (callM f ss μ).fin x Q) : callP (pF f) x ss μ Q := by
  unfold callM at h
  split at h
  · rename_i nd
    refine ndP_in nd (flP_mono (fun h => ?_) (flR_fin h))
    show (f (relab 0 ss) (picked μ (cellsOf ss))).fin _ _
    split at h
    · rename_i e; rw [e]; exact flR_fin h
    · rename_i e
      rw [e]
      refine flP_mono (fun h => ?_) (flR_fin h)
      split at h
      · rename_i hj; show (if _ then _ else _); rw [if_pos hj]; exact h
      · rename_i hj; show (if _ then _ else _); rw [if_neg hj]; exact flC_fin h
    · exact h.elim
    · rename_i e; rw [e]; exact flR_fin h
    · exact h.elim
  · exact h.elim
theorem callMF_ok {f : List SV → M SV} {ss : List SV} {μ : Mem} {x : XP} {Q : VP} (h : (callMF f ss μ).fin x Q) : callPF (pF f) x ss μ Q := by
  unfold callMF at h
  obtain ⟨nd, h⟩ := fin_grd h
  refine ndP_in nd (flP_mono (fun h => ?_) (flR_fin h))
  show (f (relab 0 ss) (picked μ (cellsOf ss))).fin _ _
  split at h
  · rename_i e; rw [e]; exact flR_fin h
  · rename_i e
    rw [e]
    refine flP_mono (fun h => ?_) (flR_fin h)
    split at h
    · rename_i e2
      show on _ _
      rw [e2]; exact h
    · exact h.elim
  · exact h.elim
  · rename_i e; rw [e]; exact flR_fin h
  · exact h.elim
variable {k k' : Nat} {ps : List Str} {f : List SV → M SV} {kws : List Keyword}
theorem pf_user (h : Has X.prog X.w X.K X.mg X.base k x ps (pF f)) (tk : Takes X W) (hr : Room k' X.A) (hle : k ≤ k') (hg : Gl X x) (ha : PXA X W (e :: es) (toA n fl)) (hdb : (x == ("__debug__" : Str)) = false := by decide) (he : starEach (e :: es) X.env = (false, eval e X.env) :: starEach es X.env := by rfl) (hpl : (backTo pos (starEach es X.env)).any (·.1) = false := by rfl) :
    PX X W (.Call (.Name x ppos) (e :: es) [] pos) (toX n (fCall (callM f) fl)) :=
  (px_callH h tk hr hle hg ha hdb he hpl).to fun x ρ μ Q ⟨hn, h⟩ => ⟨hn, R.mono (fin_bnd.mp h) fun ss μ1 h1 => callM_ok h1⟩
theorem pf_userF (h : Has X.prog X.w X.K X.mg X.base k x ps (pF f)) (tk : Takes X W) (hr : Room k' X.A) (hle : k ≤ k') (hg : Gl X x) (ha : PXA X W (e :: es) (toA n fl)) (hdb : (x == ("__debug__" : Str)) = false := by decide) (he : starEach (e :: es) X.env = (false, eval e X.env) :: starEach es X.env := by rfl) (hpl : (backTo pos (starEach es X.env)).any (·.1) = false := by rfl) :
    PX X W (.Call (.Name x ppos) (e :: es) [] pos) (toX n (fCall (callMF f) fl)) :=
  (px_callHF h tk hr hle hg ha hdb he hpl).to fun x ρ μ Q ⟨hn, h⟩ => ⟨hn, R.mono (fin_bnd.mp h) fun ss μ1 h1 => callMF_ok h1⟩
theorem pf_userK0 {ks : List Str} {perm : List Nat} {st : Stmt} (h : HasK X.prog X.w X.K X.mg X.base k x st ps (pF f)) (tk : Takes X W) (hr : Room k' X.A) (hle : k ≤ k') (hg : Gl X x)
    (hb : BindK x ps 0 ks perm st) (hkw : PXK X W kws (toA n fk)) (hall : (backToKw pos (keywordEach kws X.env)).all (·.1.isSome) = true := by rfl) (hks : (backToKw pos (keywordEach kws X.env)).filterMap (·.1) = ks := by rfl)
    (hdb : (x == ("__debug__" : Str)) = false := by decide)
    (hpl : ((backTo pos (starEach [] X.env)).any (·.1) || (backToKw pos (keywordEach kws X.env)).any (·.1.isNone)) = false := by rfl) : PX X W (.Call (.Name x ppos) [] kws pos) (toX n (permM perm (callM f) 0 ks.length fNil fk)) :=
  (px_callHK0 h tk hr hle hg hb hkw hall hks hdb hpl).to fun x ρ μ Q ⟨hn, h⟩ => by
    have h1 : (bnd (fk ρ.f) (fun zs => if ([] : List SV).length = 0 ∧ zs.length = ks.length then callM f (permG .un perm [] zs) else fun _ => .no) μ).fin x Q := h
    refine ⟨hn, R.mono (fin_bnd.mp h1) fun zs μ2 h2 => ?_⟩
    split at h2
    · rename_i e1; exact ⟨e1, callM_ok h2⟩
    · exact h2.elim
end
section
variable {P : Program} {w : World} {K : PySem.W.Frag} {mg : Str → Option Value} {base : Heap}
theorem has_f {x nm : Str} {st : Stmt} {N ps : List Str} {k n q : Nat} {b : FS} (D : DefN K mg x nm st) (S : FnScope N ps (defScope st)) (B : BindN nm st ps) (hn : N.length = n) (hq : ps.length = q) (hl : q ≤ n)
    (hb : ∀ (f : Addr) (cdv : Value) (A : Around) (outer : List Env) (s : Shared) (H : Hp) (E : XK), Room k (A.deeper (envOfC nm (defScope st) s.heap.objs.size f cdv)) →
      PXSs (cxOf (L2.CX P w) P w K mg base N nm (defScope st) f cdv A outer s H E) (fun cls d _ H => E cls d H) (defBody st) (toS n b)) : Has P w K mg base (k + 1) x ps (pF (fDef q b)) := by
  refine has_p D S B (fun x as μ Q h => ?_) hb fun x as μ Q h => ?_
  · unfold pF fDef at h
    split at h
    · rename_i e; exact e.trans hq.symm
    · exact h.elim
  · unfold pF fDef at h
    split at h
    · rename_i e
      refine ⟨by show as.length + (N.length - as.length) = n; rw [hn, e]; omega, ?_⟩
      show (b (fstart as) μ).fin x _
      split at h
      · rename_i e2; rw [e2]; exact h
      · rename_i e2; rw [e2]; exact h
      · exact h.elim
      · rename_i e2; rw [e2]; exact h
      · exact h.elim
    · exact h.elim
end
end PL
namespace PL
open PySem PySem.Spec PyProof.Rows L2 RZ
section
variable {X : Cx} {W : WX} {a b c e o i tg iter elt tg1 iter1 : Expr} {es ifs ifs1 : List Expr} {n : Nat} {fa fb fc fe fo fi : FX} {ft fu : FT} {fl fk : FA} {pos p apos cpos tpos p2 pos' ppos : Pos} {x : Str} {st : Stmt} {rest : List Stmt} {s u : FS} {g g1 : FG} {it it1 : FI} {own : List Nat}
/-- x.index(y) -/
noncomputable def fIndex (fo : FX) (fl : FA) : FX := fun ρ => bnd (fo ρ) fun s μ => match s with
    | .d (.ntp _) => bnd (fl ρ) (indexF s) μ
    | _ => if (lstOf s μ).isSome = true then bnd (fl ρ) (indexF s) μ else .no
abbrev Tab := Str → Option (List SV → M SV)
def tab0 : Tab := fun _ => none
def tabC (x : Str) (f : List SV → M SV) (T : Tab) : Tab := fun y => if y = x then some f else T y
noncomputable def fLocal (i : Nat) (T : Tab) (fl : FA) : FX := fun ρ => match ρ i with
  | .d (.fn f) => match T f with
    | some p => bnd (fl ρ) (callM p)
    | none => fun _ => .no
  | _ => fun _ => .no
/-- all of the table at level k -/
def TabOk (P : Program) (w : World) (K : PySem.W.Frag) (mg : Str → Option Value) (base : Heap) (k : Nat) (T : Tab) : Prop := ∀ f p, T f = some p → HeldP P w K mg base k (He.ga K f) (pF p)
theorem HeldP.up {P : Program} {w : World} {K : PySem.W.Frag} {mg : Str → Option Value} {base : Heap} {k k' : Nat} {f : Addr} {p : PSp} (h : HeldP P w K mg base k f p) (le : k ≤ k') : HeldP P w K mg base k' f p := by
  obtain ⟨fd, ps, F, r⟩ := h.ex
  exact ⟨fd, ps, ⟨F.1, fun A outer s H args us vs Q E hr e b r z => F.run A outer s H args us vs Q E (hr.mono le) e b r z⟩, r⟩
theorem tabOk0 {P : Program} {w : World} {K : PySem.W.Frag} {mg : Str → Option Value} {base : Heap} {k : Nat} : TabOk P w K mg base k tab0 := fun _ _ h => by cases h
theorem tabOkC {P : Program} {w : World} {K : PySem.W.Frag} {mg : Str → Option Value} {base : Heap} {k k' : Nat} {x : Str} {ps : List Str} {f : List SV → M SV} {T : Tab} (h : Has P w K mg base k' x ps (pF f)) (le : k' ≤ k) (t : TabOk P w K mg base k T) : TabOk P w K mg base k (tabC x f T) := by
  intro y p e
  unfold tabC at e
  split at e
  · rename_i q
    subst q
    cases e
    exact h.held.up le
  · exact t y p e
theorem pf_local {i k k' : Nat} {T : Tab} (tk : Takes X W) (hT : TabOk X.prog X.w X.K X.mg X.base k T) (hr : Room k' X.A) (hle : k ≤ k') (hN : X.N[i]? = some x) (hn : i < n) (hv : Vis X.env.scope x) (ha : PXA X W (e :: es) (toA n fl))
    (hdb : (x == ("__debug__" : Str)) = false := by decide) (hcd : (x == ("__classdict__" : Str)) = false := by decide)
    (he : starEach (e :: es) X.env = (false, eval e X.env) :: starEach es X.env := by rfl) (hpl : (backTo pos (starEach es X.env)).any (·.1) = false := by rfl) : PX X W (.Call (.Name x ppos) (e :: es) [] pos) (toX n (fLocal i T fl)) :=
  (px_local (T := fun f => (T f).map pF) tk (fun f p h => by
    obtain ⟨q, h1, rfl⟩ := Option.map_eq_some_iff.mp h
    exact hT f q h1) (hr.mono hle) hN hv ha hdb hcd he hpl).to fun x ρ μ Q ⟨hn', h⟩ => by
    refine ⟨by rw [hn']; exact hn, ?_⟩
    have h : (fLocal i T fl ρ.f μ).fin x Q := h
    unfold fLocal at h
    cases e1 : ρ.f i with
    | un => rw [e1] at h; exact h.elim
    | c k => rw [e1] at h; exact h.elim
    | d dd =>
      rw [e1] at h
      cases dd with
      | fn f =>
        cases e2 : T f with
        | none => simp only [e2] at h; exact h.elim
        | some p =>
          simp only [e2] at h
          show on ((T f).map pF) _
          rw [e2]
          exact ⟨hn', R.mono (fin_bnd.mp h) fun ss μ1 h1 => callM_ok h1⟩
      | _ => exact h.elim
end
end PL
namespace PL
open PySem PySem.Spec PyProof.Rows L2
/-- what simp leaves alone: another argument hangs on it -/
class TgC (u : Type) : Type where
instance : TgC Unit := ⟨⟩
@[reducible] def TgU {α : Sort _} (_ : α) : Type := Unit
/-- what follows a value -/
def bR {α β : Type} (r : R α) (k : α → M β) [TgC (TgU k)] : R β := match r with
  | .ok a μ => k a μ
  | .ex C fs μ => .ex C fs μ
  | .no => .no
@[simp ↓] theorem bR_ok {α β : Type} {a : α} {μ : Mem} {k : α → M β} {t : TgC (TgU k)} : @bR α β (.ok a μ) k t = k a μ := rfl
@[simp] theorem bR_ex {α β : Type} {C : Str} {fs : List (Str × D)} {μ : Mem} {k : α → M β} {t : TgC (TgU k)} : @bR α β (.ex C fs μ) k t = .ex C fs μ := rfl
@[simp] theorem bR_no {α β : Type} {k : α → M β} {t : TgC (TgU k)} : @bR α β .no k t = .no := rfl
@[simp ↓] theorem bnd_s {α β : Type} {m : M α} {k : α → M β} {μ : Mem} : bnd m k μ = bR (m μ) k := by unfold bnd bR; cases m μ <;> rfl
@[simp ↓] theorem ret_s {α : Type} {a : α} {μ : Mem} : ret a μ = .ok a μ := rfl
theorem bR_k {α β : Type} {r : R α} {k k' : α → M β} (h : k = k') : bR r k = bR r k' := by subst h; rfl
@[simp] theorem put_same {ρ : FEnv} {i : Nat} {s : SV} : put ρ i s i = s := if_pos rfl
@[simp] theorem put_ne {ρ : FEnv} {i j : Nat} {s : SV} (h : j ≠ i) : put ρ i s j = ρ j := if_neg h
@[simp] theorem fstart_s {as : List SV} {i : Nat} : fstart as i = as.getD i .un := rfl
@[simp] theorem wip_nil {ρ : FEnv} : wip ρ [] = ρ := rfl
@[simp] theorem wip_cons {ρ : FEnv} {v : Nat} {vs : List Nat} : wip ρ (v :: vs) = put (wip ρ vs) v .un := rfl
/-- a slot's value -/
def vR (s : SV) (μ : Mem) : R SV := match s with
  | .d a => .ok (.d a) μ
  | .c k => .ok (.c k) μ
  | .un => .no
@[simp ↓] theorem fV_s {i : Nat} {ρ : FEnv} {μ : Mem} : fV i ρ μ = vR (ρ i) μ := rfl
@[simp] theorem vR_d {a : D} {μ : Mem} : vR (.d a) μ = .ok (.d a) μ := rfl
@[simp] theorem vR_c {k : Nat} {μ : Mem} : vR (.c k) μ = .ok (.c k) μ := rfl
@[simp ↓] theorem fC_s {d : D} {ρ : FEnv} {μ : Mem} : fC d ρ μ = .ok (.d d) μ := rfl
@[simp ↓] theorem fOp_s {g : SV → SV → M SV} {a b : FX} {ρ : FEnv} {μ : Mem} : fOp g a b ρ μ = bR (a ρ μ) fun s => bnd (b ρ) fun t => g s t := bnd_s
@[simp ↓] theorem fUn_s {g : SV → M SV} {a : FX} {ρ : FEnv} {μ : Mem} : fUn g a ρ μ = bR (a ρ μ) g := bnd_s
@[simp] theorem tr_s {b : Bool} {μ : Mem} : tr (.d (.bl b)) μ = .ok b μ := rfl
@[simp ↓] theorem fT_s {a : FX} {ρ : FEnv} {μ : Mem} : fT a ρ μ = bR (a ρ μ) tr := bnd_s
/-- the one or the other -/
def kI {α : Type} (b : Bool) (m m' : M α) [TgC (TgU m)] [TgC (TgU m')] (μ : Mem) : R α := if b = true then m μ else m' μ
@[simp ↓] theorem kI_t {α : Type} {m m' : M α} {μ : Mem} {t : TgC (TgU m)} {t' : TgC (TgU m')} : @kI α true m m' t t' μ = m μ := rfl
@[simp ↓] theorem kI_f {α : Type} {m m' : M α} {μ : Mem} {t : TgC (TgU m)} {t' : TgC (TgU m')} : @kI α false m m' t t' μ = m' μ := rfl
@[simp ↓] theorem fTAnd_s {a b : FT} {ρ : FEnv} {μ : Mem} : fTAnd a b ρ μ = bR (a ρ μ) fun k => kI k (b ρ) (ret false) := by
  unfold fTAnd; rw [bnd_s]; refine bR_k ?_; funext k μ; unfold kI; split <;> rfl
@[simp ↓] theorem fTOr_s {a b : FT} {ρ : FEnv} {μ : Mem} : fTOr a b ρ μ = bR (a ρ μ) fun k => kI k (ret true) (b ρ) := by
  unfold fTOr; rw [bnd_s]; refine bR_k ?_; funext k μ; unfold kI; split <;> rfl
@[simp ↓] theorem fTNot_s {a : FT} {ρ : FEnv} {μ : Mem} : fTNot a ρ μ = bR (a ρ μ) fun k => ret (!k) := bnd_s
@[simp ↓] theorem fAnd_s {a b : FX} {ρ : FEnv} {μ : Mem} : fAnd a b ρ μ = bR (bR (a ρ μ) tr) fun k => kI k (b ρ) (ret (.d (.bl false))) := by
  unfold fAnd; rw [bnd_s, bnd_s]; refine bR_k ?_; funext k μ; unfold kI; split <;> rfl
@[simp ↓] theorem fOr_s {a b : FX} {ρ : FEnv} {μ : Mem} : fOr a b ρ μ = bR (bR (a ρ μ) tr) fun k => kI k (ret (.d (.bl true))) (b ρ) := by
  unfold fOr; rw [bnd_s, bnd_s]; refine bR_k ?_; funext k μ; unfold kI; split <;> rfl
@[simp ↓] theorem fNot_s {a : FX} {ρ : FEnv} {μ : Mem} : fNot a ρ μ = bR (bR (a ρ μ) tr) fun k => ret (.d (.bl (!k))) := by unfold fNot; rw [bnd_s, bnd_s]
@[simp ↓] theorem fIf_s {c : FT} {a b : FX} {ρ : FEnv} {μ : Mem} : fIf c a b ρ μ = bR (c ρ μ) fun k => kI k (a ρ) (b ρ) := by
  unfold fIf; rw [bnd_s]; refine bR_k ?_; funext k μ; unfold kI; split <;> rfl
@[simp ↓] theorem fChain_s {g g' : SV → SV → M SV} {a b c : FX} {ρ : FEnv} {μ : Mem} : fChain g g' a b c ρ μ = bR (a ρ μ) fun s => bnd (b ρ) fun t => bnd (bnd (g s t) tr) fun k => kI k (bnd (c ρ) fun u => g' t u) (ret (.d (.bl false))) := by
  unfold fChain; rw [bnd_s]; refine bR_k ?_; funext s; congr; funext t; congr; funext k μ; unfold kI; split <;> rfl
@[simp ↓] theorem fNil_s {ρ : FEnv} {μ : Mem} : fNil ρ μ = .ok [] μ := rfl
@[simp ↓] theorem fCons_s {a : FX} {r : FA} {ρ : FEnv} {μ : Mem} : fCons a r ρ μ = bR (a ρ μ) fun s => bnd (r ρ) fun ss => ret (s :: ss) := bnd_s
@[simp] theorem allD_nil : allD [] = some [] := rfl
@[simp] theorem allD_cons {x : D} {r : List SV} : allD (.d x :: r) = (allD r).map (x :: ·) := rfl
@[simp] theorem allM_some {ds : List D} {q : List D → M SV} {μ : Mem} : allM (some ds) q μ = q ds μ := rfl
/-- a guard -/
@[simp ↓] theorem grd_s {α : Type} {c : Prop} {m : M α} {μ : Mem} (h : c) : grd c m μ = m μ := if_pos h
@[simp] theorem fTup_s {t : FA} {ρ : FEnv} {μ : Mem} : fTup t ρ μ = bR (t ρ μ) fun ss => allM (allD ss) fun ds => grd (ds.length ≤ sizeLine) (ret (.d (.tup ds))) := bnd_s
@[simp] theorem fLst_s {t : FA} {ρ : FEnv} {μ : Mem} : fLst t ρ μ = bR (t ρ μ) fun ss => allM (allD ss) fun ds => grd (ds.length ≤ sizeLine) (ret (.d (.lst ds))) := bnd_s
@[simp] theorem fLstC_s {t : FA} {ρ : FEnv} {μ : Mem} : fLstC t ρ μ = bR (t ρ μ) fun ss => allM (allD ss) fun ds => grd (ds.length ≤ sizeLine) fun μ => .ok (.c μ.length) (μ ++ [.lst ds]) := bnd_s
@[simp ↓] theorem fCall_s {g : List SV → M SV} {t : FA} {ρ : FEnv} {μ : Mem} : fCall g t ρ μ = bR (t ρ μ) g := bnd_s
@[simp ↓] theorem fNone_s {ρ : FEnv} {μ : Mem} : fNone ρ μ = .ok none μ := rfl
@[simp] theorem asInt_s {i : Int} {μ : Mem} : asInt (.d (.int i)) μ = .ok (some i) μ := rfl
@[simp ↓] theorem fSome_s {a : FX} {ρ : FEnv} {μ : Mem} : fSome a ρ μ = bR (a ρ μ) asInt := bnd_s
@[simp ↓] theorem fSl_s {g : SV → Option Int → Option Int → M SV} {a : FX} {l h : FO} {ρ : FEnv} {μ : Mem} : fSl g a l h ρ μ = bR (a ρ μ) fun s => bnd (l ρ) fun lo => bnd (h ρ) fun hi => g s lo hi := bnd_s
/-- what follows a statement -/
def sK (u : FS) [TgC (TgU u)] (o : Out) : M Out := match o with
  | .nx ρ => u ρ
  | o => ret o
@[simp ↓] theorem sK_nx {u : FS} {ρ : FEnv} {μ : Mem} {t : TgC (TgU u)} : @sK u t (.nx ρ) μ = u ρ μ := rfl
@[simp ↓] theorem sK_rt {u : FS} {v : SV} {μ : Mem} {t : TgC (TgU u)} : @sK u t (.rt v) μ = .ok (.rt v) μ := rfl
@[simp ↓] theorem sK_bk {u : FS} {ρ : FEnv} {μ : Mem} {t : TgC (TgU u)} : @sK u t (.bk ρ) μ = .ok (.bk ρ) μ := rfl
@[simp ↓] theorem sK_ct {u : FS} {ρ : FEnv} {μ : Mem} {t : TgC (TgU u)} : @sK u t (.ct ρ) μ = .ok (.ct ρ) μ := rfl
@[simp ↓] theorem fSeq_s {t u : FS} {ρ : FEnv} {μ : Mem} : fSeq t u ρ μ = bR (t ρ μ) (sK u) := by
  unfold fSeq; rw [bnd_s]; first | done | rfl | (congr; done) | (congr; funext o; cases o <;> rfl)
@[simp ↓] theorem fSkip_s {ρ : FEnv} {μ : Mem} : fSkip ρ μ = .ok (.nx ρ) μ := rfl
@[simp ↓] theorem fBrk_s {ρ : FEnv} {μ : Mem} : fBrk ρ μ = .ok (.bk ρ) μ := rfl
@[simp ↓] theorem fCnt_s {ρ : FEnv} {μ : Mem} : fCnt ρ μ = .ok (.ct ρ) μ := rfl
@[simp ↓] theorem fExpr_s {a : FX} {ρ : FEnv} {μ : Mem} : fExpr a ρ μ = bR (a ρ μ) fun _ => ret (.nx ρ) := bnd_s
@[simp ↓] theorem fRet_s {a : FX} {ρ : FEnv} {μ : Mem} : fRet a ρ μ = bR (a ρ μ) fun s => ret (.rt s) := bnd_s
@[simp ↓] theorem fRetN_s {ρ : FEnv} {μ : Mem} : fRetN ρ μ = .ok (.rt (.d .non)) μ := rfl
@[simp ↓] theorem fIfS_s {c : FT} {a b : FS} {ρ : FEnv} {μ : Mem} : fIfS c a b ρ μ = bR (c ρ μ) fun k => kI k (a ρ) (b ρ) := by
  unfold fIfS; rw [bnd_s]; refine bR_k ?_; funext k μ; unfold kI; split <;> rfl
@[simp] theorem fNever_s {ρ : FEnv} {μ : Mem} : fNever ρ μ = .no := rfl
@[simp ↓] theorem fAsg_s {a : FX} {g : FG} {ρ : FEnv} {μ : Mem} : fAsg a g ρ μ = bR (a ρ μ) fun s => bnd (g s ρ) fun ρ' => ret (.nx ρ') := bnd_s
@[simp ↓] theorem gN_s {i : Nat} {s : SV} {ρ : FEnv} {μ : Mem} : gN i s ρ μ = .ok (put ρ i s) μ := rfl
@[simp] theorem gT_s {gs : List FG} {ds : List D} {ρ : FEnv} {μ : Mem} (h : ds.length = gs.length) : gT gs (.d (.tup ds)) ρ μ = gAll gs ds ρ μ := by simp only [gT, h, if_true]
@[simp] theorem gAll_nil {ρ : FEnv} {μ : Mem} : gAll [] [] ρ μ = .ok ρ μ := rfl
@[simp] theorem gAll_cons {g : FG} {gs : List FG} {d : D} {ds : List D} {ρ : FEnv} {μ : Mem} : gAll (g :: gs) (d :: ds) ρ μ = bR (g (.d d) ρ μ) fun ρ' => gAll gs ds ρ' := bnd_s
def parK (i j : Nat) (ρ : FEnv) (ss : List SV) : M Out := match ss with
  | [s, r] => ret (.nx (put (put ρ i s) j r))
  | _ => fun _ => .no
@[simp] theorem parK_s {i j : Nat} {ρ : FEnv} {s r : SV} {μ : Mem} : parK i j ρ [s, r] μ = .ok (.nx (put (put ρ i s) j r)) μ := rfl
@[simp ↓] theorem fPar_s {i j : Nat} {t : FA} {ρ : FEnv} {μ : Mem} : fPar i j t ρ μ = bR (t ρ μ) (parK i j ρ) := by
  unfold fPar; rw [bnd_s]; rfl
@[simp ↓] theorem fDPut_s {o i e : FX} {ρ : FEnv} {μ : Mem} : fDPut o i e ρ μ = bR (e ρ μ) fun s => bnd (o ρ) fun so => bnd (i ρ) fun si => bnd (dputF so si s) fun _ => ret (.nx ρ) := bnd_s
@[simp ↓] theorem fNewK_s {ρ : FEnv} {μ : Mem} : fNewK ρ μ = .ok (.c μ.length) (μ ++ [.dK [] []]) := rfl
@[simp ↓] theorem fNewT_s {ρ : FEnv} {μ : Mem} : fNewT ρ μ = .ok (.c μ.length) (μ ++ [.dT [] []]) := rfl
def lK (step : SV → FS) (ds : List D) [TgC (TgU step)] [TgC (TgU ds)] (o : Out) : M Out := match o with
  | .nx ρ' => fLoop step ds ρ'
  | .ct ρ' => fLoop step ds ρ'
  | .bk ρ' => ret (.nx ρ')
  | .rt v => ret (.rt v)
@[simp ↓] theorem lK_nx {step : SV → FS} {ds : List D} {ρ : FEnv} {μ : Mem} {t : TgC (TgU step)} {t' : TgC (TgU ds)} : @lK step ds t t' (.nx ρ) μ = fLoop step ds ρ μ := rfl
@[simp ↓] theorem lK_ct {step : SV → FS} {ds : List D} {ρ : FEnv} {μ : Mem} {t : TgC (TgU step)} {t' : TgC (TgU ds)} : @lK step ds t t' (.ct ρ) μ = fLoop step ds ρ μ := rfl
@[simp ↓] theorem lK_bk {step : SV → FS} {ds : List D} {ρ : FEnv} {μ : Mem} {t : TgC (TgU step)} {t' : TgC (TgU ds)} : @lK step ds t t' (.bk ρ) μ = .ok (.nx ρ) μ := rfl
@[simp ↓] theorem lK_rt {step : SV → FS} {ds : List D} {v : SV} {μ : Mem} {t : TgC (TgU step)} {t' : TgC (TgU ds)} : @lK step ds t t' (.rt v) μ = .ok (.rt v) μ := rfl
@[simp] theorem fLoop_nil {step : SV → FS} {ρ : FEnv} {μ : Mem} : fLoop step [] ρ μ = .ok (.nx ρ) μ := rfl
theorem fLoop_cons {step : SV → FS} {d : D} {ds : List D} {ρ : FEnv} {μ : Mem} : fLoop step (d :: ds) ρ μ = bR (step (.d d) ρ μ) (lK step ds) := by
  unfold fLoop; rw [bnd_s]; first | done | rfl | (congr; done) | (congr; funext o; cases o <;> rfl)
/-- the body of a for -/
def bF (g : FG) (b : FS) : SV → FS := fun d ρ => bnd (g d ρ) b
@[simp ↓] theorem bF_s {g : FG} {b : FS} {s : SV} {ρ : FEnv} {μ : Mem} : bF g b s ρ μ = bR (g s ρ μ) b := bnd_s
@[simp ↓] theorem fFor_s {it : FI} {g : FG} {b : FS} {ρ : FEnv} {μ : Mem} : fFor it g b ρ μ = bR (it ρ μ) fun ds => fLoop (bF g b) ds ρ := bnd_s
def wK (c : FT) (b : FS) (n : Nat) (o : Out) : M Out := match o with
  | .nx ρ' => wLoop c b n ρ'
  | .ct ρ' => wLoop c b n ρ'
  | .bk ρ' => ret (.nx ρ')
  | .rt v => ret (.rt v)
theorem wLoop_s {c : FT} {b : FS} {n : Nat} {ρ : FEnv} {μ : Mem} : wLoop c b (n + 1) ρ μ = bR (c ρ μ) fun k => kI k (bnd (b ρ) (wK c b n)) (ret (.nx ρ)) := by
  unfold wLoop; rw [bnd_s]; refine bR_k ?_; funext k μ; unfold kI; split
  · simp only [if_true, bnd_s]; first | done | rfl | (congr; done) | (congr; funext o; cases o <;> rfl)
  · rename_i h; first | done | rfl | (simp only [h]; rfl)
theorem wLoop_mono {c : FT} {b : FS} : ∀ {n m : Nat} {ρ : FEnv} {μ : Mem}, n ≤ m → wLoop c b n ρ μ ≠ .no → wLoop c b m ρ μ = wLoop c b n ρ μ
  | 0, _, _, _, _, h => absurd rfl h
  | n + 1, m, ρ, μ, le, h => by
    obtain ⟨m, rfl⟩ : ∃ k, m = k + 1 := ⟨m - 1, by omega⟩
    rw [wLoop_s] at h
    rw [wLoop_s, wLoop_s]
    cases e : c ρ μ with
    | ex C fs μ1 => rfl
    | no => rfl
    | ok k μ1 =>
      cases k with
      | false => rfl
      | true =>
        rw [e] at h
        simp only [bR_ok, kI_t, bnd_s] at h ⊢
        cases e2 : b ρ μ1 with
        | ex C fs μ2 => rfl
        | no => rfl
        | ok o μ2 =>
          rw [e2] at h
          simp only [bR_ok] at h ⊢
          cases o with
          | nx ρ' => exact wLoop_mono (by omega) h
          | ct ρ' => exact wLoop_mono (by omega) h
          | bk ρ' => rfl
          | rt v => rfl
theorem fWhile_of {c : FT} {b : FS} {n : Nat} {ρ : FEnv} {μ : Mem} {r : R Out} (h : wLoop c b n ρ μ = r) (hr : r ≠ .no) : fWhile c b ρ μ = r := by
  have hz : ∃ n, wLoop c b n ρ μ ≠ .no := ⟨n, by rw [h]; exact hr⟩
  unfold fWhile
  rw [dif_pos hz]
  have h2 := Classical.choose_spec hz
  generalize Classical.choose hz = m at h2 ⊢
  rcases Nat.le_total n m with le | le
  · rw [wLoop_mono le (by rw [h]; exact hr), h]
  · rw [← wLoop_mono le h2, h]
@[simp] theorem fYes_s {ρ : FEnv} {μ : Mem} : fYes ρ μ = .ok true μ := rfl
@[simp ↓] theorem cStep_s {g : FG} {c : FT} {e : FX} {vs : List Nat} {ρ : FEnv} {d : D} {μ : Mem} : cStep g c e vs ρ d μ = bR (g (.d d) (wip ρ vs) μ) fun ρ2 => bnd (c ρ2) fun k => kI k (bnd (e ρ2) fun s => ret (some s)) (ret none) := by
  unfold cStep; rw [bnd_s]; refine bR_k ?_; funext ρ2; congr; funext k μ; unfold kI; split <;> rfl
@[simp ↓] theorem cStep2_s {g : FG} {c : FT} {it1 : FI} {g1 : FG} {c1 : FT} {e : FX} {vs vs1 : List Nat} {ρ : FEnv} {d : D} {μ : Mem} : cStep2 g c it1 g1 c1 e vs vs1 ρ d μ = bR (g (.d d) (wip ρ vs) μ) fun ρ2 => bnd (c ρ2) fun k => kI k (bnd (it1 ρ2) fun es => bnd (cLoop (cStep g1 c1 e vs1 ρ2) es) fun l => ret (some l)) (ret none) := by
  unfold cStep2; rw [bnd_s]; refine bR_k ?_; funext ρ2; congr; funext k μ; unfold kI; split <;> rfl
@[simp] theorem finLF_s {acc : List D} {μ : Mem} : finLF acc μ = .ok (.d (.lst acc)) μ := rfl
@[simp] theorem finCF_s {acc : List D} {μ : Mem} : finCF acc μ = .ok (.c μ.length) (μ ++ [.lst acc]) := rfl
@[simp ↓] theorem fLc_s {fin : List D → M SV} {it : FI} {g : FG} {c : FT} {e : FX} {vs : List Nat} {ρ : FEnv} {μ : Mem} : fLc fin it g c e vs ρ μ = bR (it ρ μ) fun ds => grd (ds.length ≤ sizeLine) (bnd (cLoop (cStep g c e vs ρ) ds) fin) := bnd_s
@[simp ↓] theorem fLc2_s {fin : List D → M SV} {it : FI} {g : FG} {c : FT} {it1 : FI} {g1 : FG} {c1 : FT} {e : FX} {vs vs1 : List Nat} {ρ : FEnv} {μ : Mem} : fLc2 fin it g c it1 g1 c1 e vs vs1 ρ μ = bR (it ρ μ) fun ds => bnd (cLoop2 (cStep2 g c it1 g1 c1 e vs vs1 ρ) ds) fun l => grd (l.length ≤ sizeLine) (fin l) := bnd_s
@[simp] theorem cLoop_nil {step : D → M (Option SV)} {μ : Mem} : cLoop step [] μ = .ok [] μ := rfl
def cK (step : D → M (Option SV)) (ds : List D) (o : Option SV) : M (List D) := fun μ' => match o with
  | none => cLoop step ds μ'
  | some (.d y) => match cLoop step ds μ' with
    | .ok r μ2 => .ok (y :: r) μ2
    | _ => .no
  | _ => .no
theorem cLoop_cons {step : D → M (Option SV)} {d : D} {ds : List D} {μ : Mem} {o : Option SV} {μ' : Mem} (h : step d μ = .ok o μ') : cLoop step (d :: ds) μ = cK step ds o μ' := by
  show (match step d μ with
    | .ok none μ' => cLoop step ds μ'
    | .ok (some (.d y)) μ' => _
    | _ => .no) = _
  rw [h]
  cases o with
  | none => rfl
  | some s => cases s <;> rfl
/-- a comprehension without a condition, of what leaves the cells alone -/
theorem cLoop_map {step : D → M (Option SV)} {μ : Mem} (f : D → D) : ∀ {ds : List D}, (∀ d ∈ ds, step d μ = .ok (some (.d (f d))) μ) → cLoop step ds μ = .ok (ds.map f) μ
  | [], _ => rfl
  | d :: ds, h => by
    rw [cLoop_cons (h d List.mem_cons_self)]
    show (match cLoop step ds μ with
      | .ok r μ2 => R.ok (f d :: r) μ2
      | _ => .no) = _
    rw [cLoop_map f fun x hx => h x (List.mem_cons_of_mem _ hx)]
    rfl
/-- .. over typed things -/
theorem cLoop_mapT {α : Type} {step : D → M (Option SV)} {μ : Mem} {l : List α} {en : α → D} (f : α → D) (h : ∀ a ∈ l, step (en a) μ = .ok (some (.d (f a))) μ) : cLoop step (l.map en) μ = .ok (l.map f) μ := by
  induction l with
  | nil => rfl
  | cons a l ih =>
    rw [List.map_cons, cLoop_cons (h a List.mem_cons_self)]
    show (match cLoop step (l.map en) μ with
      | .ok r μ2 => R.ok (f a :: r) μ2
      | _ => .no) = _
    rw [ih fun x hx => h x (List.mem_cons_of_mem _ hx)]
    rfl
theorem cLoop_filterT {α : Type} {step : D → M (Option SV)} {μ : Mem} {l : List α} {en : α → D} (f : α → Option D) (h : ∀ a ∈ l, step (en a) μ = .ok ((f a).map .d) μ) : cLoop step (l.map en) μ = .ok (l.filterMap f) μ := by
  induction l with
  | nil => rfl
  | cons a l ih =>
    rw [List.map_cons, cLoop_cons (h a List.mem_cons_self)]
    have ih := ih fun x hx => h x (List.mem_cons_of_mem _ hx)
    cases e : f a with
    | none => simp only [Option.map_none, cK, List.filterMap_cons, e]; exact ih
    | some y => simp only [Option.map_some, cK, List.filterMap_cons, e, ih]
/-- two generators, over typed things -/
theorem cLoop2_mapT {α : Type} {step : D → M (Option (List D))} {μ : Mem} {l : List α} {en : α → D} (f : α → List D) (h : ∀ a ∈ l, step (en a) μ = .ok (some (f a)) μ) : cLoop2 step (l.map en) μ = .ok (l.flatMap f) μ := by
  induction l with
  | nil => rfl
  | cons a l ih =>
    show (match step (en a) μ with
      | .ok none μ' => cLoop2 step (l.map en) μ'
      | .ok (some l') μ' => _
      | _ => .no) = _
    rw [h a List.mem_cons_self]
    show (match cLoop2 step (l.map en) μ with
      | .ok r μ2 => R.ok (f a ++ r) μ2
      | _ => .no) = _
    rw [ih fun x hx => h x (List.mem_cons_of_mem _ hx)]
    rfl
/-- what a def hands back -/
def oR (r : R Out) : R SV := match r with
  | .ok (.nx _) μ' => .ok (.d .non) μ'
  | .ok (.rt v) μ' => .ok v μ'
  | .ok _ _ => .no
  | .ex C fs μ' => .ex C fs μ'
  | .no => .no
@[simp] theorem oR_nx {ρ : FEnv} {μ : Mem} : oR (.ok (.nx ρ) μ) = .ok (.d .non) μ := rfl
@[simp] theorem oR_rt {v : SV} {μ : Mem} : oR (.ok (.rt v) μ) = .ok v μ := rfl
@[simp] theorem oR_ex {C : Str} {fs : List (Str × D)} {μ : Mem} : oR (.ex C fs μ) = .ex C fs μ := rfl
@[simp ↓] theorem fDef_s {k : Nat} {b : FS} {as : List SV} {μ : Mem} (h : as.length = k) : fDef k b as μ = oR (b (fstart as) μ) := by
  unfold fDef; rw [if_pos h]; rfl
@[simp ↓] theorem flR_nil {α : Type} {r : R α} : flR [] r = r := rfl
@[simp ↓] theorem flR_cons {α : Type} {c : Cell} {cs : Mem} {r : R α} : flR (c :: cs) r = flC c (flR cs r) := rfl
@[simp ↓] theorem flC_lst {α : Type} {l : List D} {r : R α} : flC (.lst l) r = r := rfl
@[simp ↓] theorem flC_dK {α : Type} {k l : List D} {r : R α} : flC (.dK k l) r = r := rfl
@[simp ↓] theorem flC_dT {α : Type} {k l : List D} {r : R α} : flC (.dT k l) r = r := rfl
@[simp ↓] theorem flC_ins {α : Type} {C : Str} {n : List Str} {l : List D} {r : R α} : flC (.ins C n l) r = r := rfl
@[simp] theorem nocell_s : nocell = .lst [] := rfl
/-- what a call hands back -/
def callR (μ : Mem) (ks : List Nat) (r : R SV) : R SV := match r with
    | .ok (.d d) μ' => flR (μ'.take ks.length) (.ok (.d d) (merge μ ks μ'))
    | .ok (.c j) μ' => flR (μ'.take ks.length) (if j < ks.length then .ok (.c (ks.getD j 0)) (merge μ ks μ') else flC (μ'.getD j nocell) (.ok (.c μ.length) (merge μ ks μ' ++ [μ'.getD j nocell])))
    | .ok .un _ => .no
    | .ex C fs μ' => flR (μ'.take ks.length) (.ex C fs (merge μ ks μ'))
    | .no => .no
@[simp] theorem callR_d {μ μ' : Mem} {ks : List Nat} {d : D} : callR μ ks (.ok (.d d) μ') = flR (μ'.take ks.length) (.ok (.d d) (merge μ ks μ')) := rfl
@[simp] theorem callR_c {μ μ' : Mem} {ks : List Nat} {j : Nat} : callR μ ks (.ok (.c j) μ') = flR (μ'.take ks.length) (if j < ks.length then .ok (.c (ks.getD j 0)) (merge μ ks μ') else flC (μ'.getD j nocell) (.ok (.c μ.length) (merge μ ks μ' ++ [μ'.getD j nocell]))) := rfl
@[simp] theorem callR_ex {μ μ' : Mem} {ks : List Nat} {C : Str} {fs : List (Str × D)} : callR μ ks (.ex C fs μ') = flR (μ'.take ks.length) (.ex C fs (merge μ ks μ')) := rfl
/-- .. of a def whose cells are told apart -/
def ndR {α : Type} (ks : List Nat) (r : R α) : R α := match ks with
  | [] => r
  | [_] => r
  | ks => if ks.Nodup then r else .no
@[simp ↓] theorem ndR_nil {α : Type} {r : R α} : ndR [] r = r := rfl
@[simp ↓] theorem ndR_one {α : Type} {r : R α} {k : Nat} : ndR [k] r = r := rfl
theorem ndR_eq {α : Type} {ks : List Nat} {r : R α} : ndR ks r = if ks.Nodup then r else .no := by
  match ks with
  | [] => simp
  | [_] => simp
  | _ :: _ :: _ => rfl
@[simp ↓] theorem callM_s {f : List SV → M SV} {ss : List SV} {μ : Mem} : callM f ss μ = ndR (cellsOf ss) (flR (picked μ (cellsOf ss)) (callR μ (cellsOf ss) (f (relab 0 ss) (picked μ (cellsOf ss))))) := by
  rw [ndR_eq]; unfold callM
  by_cases h : (cellsOf ss).Nodup
  · rw [if_pos h, if_pos h]; rfl
  · rw [if_neg h, if_neg h]
def callRF (μ : Mem) (ks : List Nat) (r : R SV) : R SV := match r with
    | .ok (.d d) μ' => flR (μ'.take ks.length) (.ok (.d d) (merge μ ks μ'))
    | .ok (.c j) μ' => flR (μ'.take ks.length) (match frzS ks.length μ' 3 (.c j) with
      | some d => .ok (.d d) (merge μ ks μ')
      | none => .no)
    | .ok .un _ => .no
    | .ex C fs μ' => flR (μ'.take ks.length) (.ex C fs (merge μ ks μ'))
    | .no => .no
@[simp] theorem callRF_d {μ μ' : Mem} {ks : List Nat} {d : D} : callRF μ ks (.ok (.d d) μ') = flR (μ'.take ks.length) (.ok (.d d) (merge μ ks μ')) := rfl
theorem callRF_c {μ μ' : Mem} {ks : List Nat} {j : Nat} {d : D} (h : frzS ks.length μ' 3 (.c j) = some d) : callRF μ ks (.ok (.c j) μ') = flR (μ'.take ks.length) (.ok (.d d) (merge μ ks μ')) := by
  unfold callRF; simp only [h]
theorem frzS_lst {n0 j n : Nat} {μ : Mem} {l : List D} (hj : n0 ≤ j) (h : μ[j]? = some (.lst l)) : frzS n0 μ n (.c j) = some (.lst l) := by
  unfold frzS; simp only [if_pos hj, h]
@[simp ↓] theorem callMF_s {f : List SV → M SV} {ss : List SV} {μ : Mem} : callMF f ss μ = ndR (cellsOf ss) (flR (picked μ (cellsOf ss)) (callRF μ (cellsOf ss) (f (relab 0 ss) (picked μ (cellsOf ss))))) := by
  rw [ndR_eq]; unfold callMF grd
  by_cases h : (cellsOf ss).Nodup
  · rw [if_pos h, if_pos h]; rfl
  · rw [if_neg h, if_neg h]
@[simp] theorem cellsOf_nil : cellsOf [] = [] := rfl
@[simp] theorem cellsOf_c {k : Nat} {r : List SV} : cellsOf (.c k :: r) = k :: cellsOf r := rfl
@[simp] theorem cellsOf_d {d : D} {r : List SV} : cellsOf (.d d :: r) = cellsOf r := rfl
@[simp] theorem relab_nil {n : Nat} : relab n [] = [] := rfl
@[simp] theorem relab_c {n k : Nat} {r : List SV} : relab n (.c k :: r) = .c n :: relab (n + 1) r := rfl
@[simp] theorem relab_d {n : Nat} {d : D} {r : List SV} : relab n (.d d :: r) = .d d :: relab n r := rfl
@[simp] theorem picked_nil {μ : Mem} : picked μ [] = [] := rfl
@[simp] theorem picked_cons {μ : Mem} {k : Nat} {ks : List Nat} : picked μ (k :: ks) = μ.getD k nocell :: picked μ ks := rfl
@[simp] theorem merge_nil {μ cs : Mem} : merge μ [] cs = μ := by cases cs <;> rfl
@[simp] theorem merge_cons {μ cs : Mem} {k : Nat} {ks : List Nat} {c : Cell} : merge μ (k :: ks) (c :: cs) = merge (μ.set k c) ks cs := rfl
def permK (perm : List Nat) (f : List SV → M SV) (n m : Nat) (ss zs : List SV) : M SV := if ss.length = n ∧ zs.length = m then f (permG .un perm ss zs) else fun _ => .no
@[simp] theorem permK_s {perm : List Nat} {f : List SV → M SV} {n m : Nat} {ss zs : List SV} {μ : Mem} (h : ss.length = n) (h2 : zs.length = m) : permK perm f n m ss zs μ = f (permG .un perm ss zs) μ := by unfold permK; rw [if_pos ⟨h, h2⟩]
@[simp ↓] theorem permM_s {perm : List Nat} {f : List SV → M SV} {n m : Nat} {t tk : FA} {ρ : FEnv} {μ : Mem} : permM perm f n m t tk ρ μ = bR (t ρ μ) fun ss => bnd (tk ρ) fun zs => permK perm f n m ss zs := bnd_s
@[simp] theorem permG_nil {us ws : List SV} : permG SV.un [] us ws = [] := rfl
@[simp] theorem permG_cons {i : Nat} {perm : List Nat} {us ws : List SV} : permG SV.un (i :: perm) us ws = (us ++ ws).getD i .un :: permG SV.un perm us ws := rfl
@[simp] theorem tabC_same {x : Str} {f : List SV → M SV} {T : Tab} : tabC x f T x = some f := if_pos rfl
noncomputable def lcK (T : Tab) (fl : FA) (ρ : FEnv) (s : SV) : M SV := match s with
  | .d (.fn f) => match T f with
    | some p => bnd (fl ρ) (callM p)
    | none => fun _ => .no
  | _ => fun _ => .no
@[simp ↓] theorem fLocal_s {i : Nat} {T : Tab} {fl : FA} {ρ : FEnv} {μ : Mem} : fLocal i T fl ρ μ = lcK T fl ρ (ρ i) μ := rfl
theorem lcK_fn {T : Tab} {fl : FA} {ρ : FEnv} {f : Str} {p : List SV → M SV} {μ : Mem} (h : T f = some p) : lcK T fl ρ (.d (.fn f)) μ = bR (fl ρ μ) (callM p) := by
  unfold lcK; simp only [h]; exact bnd_s
section
variable {i j : Int} {x y : Str} {l m : List D} {μ : Mem} {b b' : Bool} {k : Nat} {d : D}
@[simp] theorem addF_i : addF (.d (.int i)) (.d (.int j)) μ = .ok (.d (.int (i + j))) μ := rfl
@[simp] theorem addF_s : addF (.d (.str x)) (.d (.str y)) μ = grd (x.length + y.length ≤ sizeLine) (ret (.d (.str (x ++ y)))) μ := rfl
@[simp] theorem addF_t : addF (.d (.tup l)) (.d (.tup m)) μ = grd (l.length + m.length ≤ sizeLine) (ret (.d (.tup (l ++ m)))) μ := rfl
@[simp] theorem addF_l : addF (.d (.lst l)) (.d (.lst m)) μ = grd (l.length + m.length ≤ sizeLine) (ret (.d (.lst (l ++ m)))) μ := rfl
@[simp] theorem subF_i : subF (.d (.int i)) (.d (.int j)) μ = .ok (.d (.int (i - j))) μ := rfl
@[simp] theorem mulF_i : mulF (.d (.int i)) (.d (.int j)) μ = grd (CMul i j) (ret (.d (.int (i * j)))) μ := rfl
@[simp] theorem modF_i : modF (.d (.int i)) (.d (.int j)) μ = grd (0 < j) (ret (.d (.int (i % j)))) μ := rfl
@[simp] theorem divF_i : divF (.d (.int i)) (.d (.int j)) μ = grd (CDiv i j) (ret (.d (.int (i / j)))) μ := rfl
@[simp] theorem powF_i : powF (.d (.int i)) (.d (.int j)) μ = grd (CPow i j) (ret (.d (.int (i ^ j.toNat)))) μ := rfl
@[simp] theorem negF_i : negF (.d (.int i)) μ = .ok (.d (.int (-i))) μ := rfl
@[simp] theorem ltF_i : ltF (.d (.int i)) (.d (.int j)) μ = .ok (.d (.bl (decide (i < j)))) μ := rfl
@[simp] theorem ltF_s : ltF (.d (.str x)) (.d (.str y)) μ = .ok (.d (.bl (decide (x.cps.toList < y.cps.toList)))) μ := rfl
@[simp] theorem leF_i : leF (.d (.int i)) (.d (.int j)) μ = .ok (.d (.bl (decide (i ≤ j)))) μ := rfl
@[simp] theorem leF_s : leF (.d (.str x)) (.d (.str y)) μ = .ok (.d (.bl (!decide (y.cps.toList < x.cps.toList)))) μ := rfl
@[simp] theorem gtF_i : gtF (.d (.int i)) (.d (.int j)) μ = .ok (.d (.bl (decide (j < i)))) μ := rfl
@[simp] theorem gtF_s : gtF (.d (.str x)) (.d (.str y)) μ = .ok (.d (.bl (decide (y.cps.toList < x.cps.toList)))) μ := rfl
@[simp] theorem geF_i : geF (.d (.int i)) (.d (.int j)) μ = .ok (.d (.bl (decide (j ≤ i)))) μ := rfl
@[simp] theorem geF_s : geF (.d (.str x)) (.d (.str y)) μ = .ok (.d (.bl (!decide (x.cps.toList < y.cps.toList)))) μ := rfl
theorem ltF_t {u v : D} (hu : isTp u = true) (hv : isTp v = true) : ltF (.d u) (.d v) μ = grd (isTp u = true ∧ isTp v = true ∧ okEq u = true ∧ okEq v = true ∧ alD u v = true) (ret (.d (.bl (ltD u v)))) μ := by
  cases u <;> simp [isTp] at hu <;> cases v <;> simp [isTp] at hv <;> rfl
theorem leF_t {u v : D} (hu : isTp u = true) (hv : isTp v = true) : leF (.d u) (.d v) μ = grd (isTp u = true ∧ isTp v = true ∧ okEq u = true ∧ okEq v = true ∧ alD u v = true) (ret (.d (.bl (!ltD v u)))) μ := by
  cases u <;> simp [isTp] at hu <;> cases v <;> simp [isTp] at hv <;> rfl
@[simp] theorem iltF_i : iltF (.d (.int i)) (.d (.int j)) μ = .ok (.d (.bl (decide (i < j)))) μ := rfl
@[simp] theorem ileF_i : ileF (.d (.int i)) (.d (.int j)) μ = .ok (.d (.bl (decide (i ≤ j)))) μ := rfl
@[simp] theorem eqF_i : eqF (.d (.int i)) (.d (.int j)) μ = .ok (.d (.bl (decide (i = j)))) μ := rfl
@[simp] theorem eqF_b : eqF (.d (.bl b)) (.d (.bl b')) μ = .ok (.d (.bl (b == b'))) μ := rfl
@[simp] theorem neF_i : neF (.d (.int i)) (.d (.int j)) μ = .ok (.d (.bl (!decide (i = j)))) μ := rfl
@[simp] theorem neF_b : neF (.d (.bl b)) (.d (.bl b')) μ = .ok (.d (.bl (!(b == b')))) μ := rfl
theorem eqF_d {u v : D} (hu : okEq u = true) (hv : okEq v = true) : eqF (.d u) (.d v) μ = .ok (.d (.bl (deq u v))) μ := by
  unfold eqF
  split
  · rename_i e1 e2; injection e1 with e1; injection e2 with e2; subst e1; subst e2; rw [deq_int]
  · rename_i e1 e2; injection e1 with e1; injection e2 with e2; subst e1; subst e2; rw [deq_bl]
  · rename_i e1 e2; injection e1 with e1; injection e2 with e2; subst e1; subst e2; exact grd_pos ⟨hu, hv⟩
  · rename_i h; exact (h _ _ rfl rfl).elim
theorem neF_d {u v : D} (hu : okEq u = true) (hv : okEq v = true) : neF (.d u) (.d v) μ = .ok (.d (.bl (!deq u v))) μ := by
  unfold neF
  split
  · rename_i e1 e2; injection e1 with e1; injection e2 with e2; subst e1; subst e2; rw [deq_int]
  · rename_i e1 e2; injection e1 with e1; injection e2 with e2; subst e1; subst e2; rw [deq_bl]
  · rename_i e1 e2; injection e1 with e1; injection e2 with e2; subst e1; subst e2; exact grd_pos ⟨hu, hv⟩
  · rename_i h; exact (h _ _ rfl rfl).elim
@[simp] theorem isNF_non : isNF (.d .non) μ = .ok (.d (.bl true)) μ := rfl
@[simp] theorem isNF_bl : isNF (.d (.bl b)) μ = .ok (.d (.bl false)) μ := rfl
@[simp] theorem isNF_int : isNF (.d (.int i)) μ = .ok (.d (.bl false)) μ := rfl
@[simp] theorem isNF_str : isNF (.d (.str x)) μ = .ok (.d (.bl false)) μ := rfl
@[simp] theorem isNF_tup : isNF (.d (.tup l)) μ = .ok (.d (.bl false)) μ := rfl
@[simp] theorem isNF_ntp : isNF (.d (.ntp l)) μ = .ok (.d (.bl false)) μ := rfl
@[simp] theorem isNF_lst : isNF (.d (.lst l)) μ = .ok (.d (.bl false)) μ := rfl
@[simp] theorem isNF_c : isNF (.c k) μ = .ok (.d (.bl false)) μ := rfl
@[simp] theorem notNF_non : notNF (.d .non) μ = .ok (.d (.bl false)) μ := rfl
@[simp] theorem notNF_bl : notNF (.d (.bl b)) μ = .ok (.d (.bl true)) μ := rfl
@[simp] theorem notNF_int : notNF (.d (.int i)) μ = .ok (.d (.bl true)) μ := rfl
@[simp] theorem notNF_str : notNF (.d (.str x)) μ = .ok (.d (.bl true)) μ := rfl
@[simp] theorem notNF_tup : notNF (.d (.tup l)) μ = .ok (.d (.bl true)) μ := rfl
@[simp] theorem notNF_ntp : notNF (.d (.ntp l)) μ = .ok (.d (.bl true)) μ := rfl
@[simp] theorem notNF_lst : notNF (.d (.lst l)) μ = .ok (.d (.bl true)) μ := rfl
@[simp] theorem notNF_c : notNF (.c k) μ = .ok (.d (.bl true)) μ := rfl
@[simp] theorem isBF_b : isBF (.d (.bl b)) (.d (.bl b')) μ = .ok (.d (.bl (decide (b = b')))) μ := rfl
@[simp] theorem notBF_b : notBF (.d (.bl b)) (.d (.bl b')) μ = .ok (.d (.bl (!decide (b = b')))) μ := rfl
/-- what comes at an index -/
def oD (o : Option D) (μ : Mem) : R SV := match o with
  | some d => .ok (.d d) μ
  | none => .no
@[simp] theorem oD_some : oD (some d) μ = .ok (.d d) μ := rfl
@[simp] theorem ixF_s {a : SV} : ixF a (.d (.int i)) μ = oD (ixOf a μ i) μ := by
  show (match ixOf a μ i with | some d => _ | none => _) = _
  cases ixOf a μ i <;> rfl
@[simp] theorem ixOf_t : ixOf (.d (.tup l)) μ i = atI l i := rfl
@[simp] theorem ixOf_n : ixOf (.d (.ntp l)) μ i = atI l i := rfl
@[simp] theorem ixOf_l : ixOf (.d (.lst l)) μ i = atI l i := rfl
@[simp] theorem ixOf_sc {z : List Int} : ixOf (.d (.scr z)) μ i = (atI z i).map .int := rfl
theorem ixOf_c (h : μ[k]? = some (.lst l)) : ixOf (.c k) μ i = atI l i := by simp only [ixOf, h]
theorem lstOf_c (h : μ[k]? = some (.lst l)) : lstOf (.c k) μ = some l := by simp only [lstOf, h]
@[simp] theorem atI_zero {α : Type} {a : α} {r : List α} : atI (a :: r) 0 = some a := by
  have := atI_nat (l := a :: r) (i := 0); simpa using this
@[simp] theorem atI_one {α : Type} {a a' : α} {r : List α} : atI (a :: a' :: r) 1 = some a' := by
  have := atI_nat (l := a :: a' :: r) (i := 1); simpa using this
@[simp] theorem atI_two {α : Type} {a a' a2 : α} {r : List α} : atI (a :: a' :: a2 :: r) 2 = some a2 := by
  have := atI_nat (l := a :: a' :: a2 :: r) (i := 2); simpa using this
@[simp] theorem atI_three {α : Type} {a a' a2 a3 : α} {r : List α} : atI (a :: a' :: a2 :: a3 :: r) 3 = some a3 := by
  have := atI_nat (l := a :: a' :: a2 :: a3 :: r) (i := 3); simpa using this
@[simp] theorem atI_n {α : Type} {r : List α} {n : Nat} : atI r (n : Int) = r[n]? := atI_nat
@[simp] theorem lenOf_t : lenOf (.d (.tup l)) μ = some l.length := rfl
@[simp] theorem lenOf_n : lenOf (.d (.ntp l)) μ = some l.length := rfl
@[simp] theorem lenOf_l : lenOf (.d (.lst l)) μ = some l.length := rfl
@[simp] theorem lenOf_sc {z : List Int} : lenOf (.d (.scr z)) μ = some z.length := rfl
theorem lenOf_c (h : μ[k]? = some (.lst l)) : lenOf (.c k) μ = some l.length := by simp only [lenOf, h]
@[simp] theorem strD_length : (strD x).length = x.length := by simp [strD, Str.length]
def oN (o : Option Nat) (μ : Mem) : R SV := match o with
  | some n => .ok (.d (.int (n : Nat))) μ
  | none => .no
@[simp] theorem oN_some {n : Nat} : oN (some n) μ = .ok (.d (.int n)) μ := rfl
@[simp] theorem lenF_s {s : SV} : lenF [s] μ = oN (lenOf s μ) μ := by
  show (match lenOf s μ with | some n => _ | none => _) = _
  cases lenOf s μ <;> rfl
def oB (o : Option Bool) (μ : Mem) : R SV := match o with
  | some n => .ok (.d (.bl n)) μ
  | none => .no
@[simp] theorem oB_some : oB (some b) μ = .ok (.d (.bl b)) μ := rfl
@[simp] theorem isiF_s {t : TyK} {s : SV} : isiF t s μ = oB (isKs t s μ) μ := by
  show (match isKs t s μ with | some n => _ | none => _) = _
  cases isKs t s μ <;> rfl
@[simp] theorem isKs_d {t : TyK} : isKs t (.d d) μ = isK t d := rfl
def oL (f : List Bool → Bool) (o : Option (List Bool)) (μ : Mem) : R SV := match o with
  | some bs => .ok (.d (.bl (f bs))) μ
  | none => .no
@[simp] theorem oL_some {f : List Bool → Bool} {bs : List Bool} : oL f (some bs) μ = .ok (.d (.bl (f bs))) μ := rfl
@[simp] theorem allF_s {s : SV} : allF [s] μ = oL (·.all id) ((lstOf s μ).bind bools) μ := by
  show (match (lstOf s μ).bind bools with | some n => _ | none => _) = _
  cases (lstOf s μ).bind bools <;> rfl
@[simp] theorem anyF_s {s : SV} : anyF [s] μ = oL (·.any id) ((lstOf s μ).bind bools) μ := by
  show (match (lstOf s μ).bind bools with | some n => _ | none => _) = _
  cases (lstOf s μ).bind bools <;> rfl
@[simp] theorem lstOf_l : lstOf (.d (.lst l)) μ = some l := rfl
@[simp] theorem lstOf_t : lstOf (.d (.tup l)) μ = none := rfl
@[simp] theorem lstOf_n : lstOf (.d (.ntp l)) μ = none := rfl
@[simp] theorem tupOf_t : tupOf (.d (.tup l)) = some l := rfl
@[simp] theorem tupOf_n : tupOf (.d (.ntp l)) = some l := rfl
@[simp] theorem bools_map_s {α : Type} (g : α → Bool) (l : List α) : bools (l.map fun d => .bl (g d)) = some (l.map g) := bools_map g l
@[simp] theorem tupF_l : tupF [.d (.lst l)] μ = .ok (.d (.ntp l)) μ := rfl
@[simp] theorem tupF_t : tupF [.d (.tup l)] μ = .ok (.d (.tup l)) μ := rfl
@[simp] theorem tupF_n : tupF [.d (.ntp l)] μ = .ok (.d (.ntp l)) μ := rfl
@[simp] theorem listF_l : listF [.d (.lst l)] μ = .ok (.d (.lst l)) μ := rfl
@[simp] theorem listF_t : listF [.d (.tup l)] μ = .ok (.d (.lst l)) μ := rfl
@[simp] theorem listF_n : listF [.d (.ntp l)] μ = .ok (.d (.lst l)) μ := rfl
@[simp] theorem listCF_l : listCF [.d (.lst l)] μ = .ok (.c μ.length) (μ ++ [.lst l]) := rfl
@[simp] theorem listCF_t : listCF [.d (.tup l)] μ = .ok (.c μ.length) (μ ++ [.lst l]) := rfl
@[simp] theorem listCF_n : listCF [.d (.ntp l)] μ = .ok (.c μ.length) (μ ++ [.lst l]) := rfl
@[simp] theorem sortedF_l : sortedF [.d (.lst l)] μ = grd (okSort l) (ret (.d (.lst (srtD l)))) μ := rfl
@[simp] theorem intF_i : intF [.d (.int i)] μ = .ok (.d (.int i)) μ := rfl
@[simp] theorem intF_b : intF [.d (.bl b)] μ = .ok (.d (.int (if b then 1 else 0))) μ := rfl
@[simp] theorem absF_i : absF [.d (.int i)] μ = .ok (.d (.int (if i < 0 then -i else i))) μ := rfl
@[simp] theorem divmodF_i : divmodF [.d (.int i), .d (.int j)] μ = grd (CDiv i j) (ret (.d (.tup [.int (i / j), .int (i % j)]))) μ := rfl
@[simp] theorem maxF_i : maxF [.d (.int i), .d (.int j)] μ = .ok (.d (.int (if j > i then j else i))) μ := rfl
@[simp] theorem minF_i : minF [.d (.int i), .d (.int j)] μ = .ok (.d (.int (if j < i then j else i))) μ := rfl
@[simp] theorem fMethL_s {g : SV → List SV → M SV} {o : FX} {t : FA} {ρ : FEnv} : fMethL g o t ρ μ = bR (o ρ μ) fun s μ => if (lstOf s μ).isSome = true then bnd (t ρ) (fun ss => g s ss) μ else .no := bnd_s
theorem appendF_c {y : D} (h : μ[k]? = some (.lst l)) (hz : l.length < sizeLine) : appendF (.c k) [.d y] μ = .ok (.d .non) (μ.set k (.lst (l ++ [y]))) := by
  unfold appendF; simp only [h, hz, if_true]
def iD (o : Option (List D)) (μ : Mem) : R (List D) := match o with
  | some l => .ok l μ
  | none => .no
@[simp] theorem iD_some : iD (some l) μ = .ok l μ := rfl
def itK (s : SV) (μ : Mem) : R (List D) := match s with
  | .d d => iD (itD d) μ
  | _ => .no
@[simp] theorem itK_s : itK (.d d) μ = iD (itD d) μ := rfl
@[simp ↓] theorem itF_s {a : FX} {ρ : FEnv} : itF a ρ μ = bR (a ρ μ) itK := by
  unfold itF; rw [bnd_s]; congr
@[simp] theorem itD_t : itD (.tup l) = some l := rfl
@[simp] theorem itD_n : itD (.ntp l) = some l := rfl
@[simp] theorem itD_l : itD (.lst l) = some l := rfl
@[simp] theorem itD_s : itD (.scr z) = some (z.map .int) := rfl
@[simp] theorem itD_str : itD (.str x) = some (strD x) := rfl
@[simp] theorem itD_dic {t : Bool} {ks vs : List D} : itD (.dic t ks vs) = some ks := rfl
def enK (ss : List SV) (μ : Mem) : R (List D) := match ss with
  | [.d (.tup l)] => .ok (enumD l) μ
  | [.d (.ntp l)] => .ok (enumD l) μ
  | [.d (.lst l)] => .ok (enumD l) μ
  | _ => .no
@[simp] theorem enK_t : enK [.d (.tup l)] μ = .ok (enumD l) μ := rfl
@[simp] theorem enK_n : enK [.d (.ntp l)] μ = .ok (enumD l) μ := rfl
@[simp] theorem enK_l : enK [.d (.lst l)] μ = .ok (enumD l) μ := rfl
@[simp ↓] theorem enumF_s {t : FA} {ρ : FEnv} : enumF t ρ μ = bR (t ρ μ) enK := bnd_s
def ziK (ss : List SV) (μ : Mem) : R (List D) := match ss with
  | [.d (.tup l), .d (.tup m)] => .ok (zipD l m) μ
  | [.d (.ntp l), .d (.tup m)] => .ok (zipD l m) μ
  | [.d (.tup l), .d (.ntp m)] => .ok (zipD l m) μ
  | [.d (.ntp l), .d (.ntp m)] => .ok (zipD l m) μ
  | [.d (.lst l), .d (.lst m)] => .ok (zipD l m) μ
  | _ => .no
@[simp] theorem ziK_tt : ziK [.d (.tup l), .d (.tup m)] μ = .ok (zipD l m) μ := rfl
@[simp] theorem ziK_nt : ziK [.d (.ntp l), .d (.tup m)] μ = .ok (zipD l m) μ := rfl
@[simp] theorem ziK_tn : ziK [.d (.tup l), .d (.ntp m)] μ = .ok (zipD l m) μ := rfl
@[simp] theorem ziK_nn : ziK [.d (.ntp l), .d (.ntp m)] μ = .ok (zipD l m) μ := rfl
@[simp] theorem ziK_ll : ziK [.d (.lst l), .d (.lst m)] μ = .ok (zipD l m) μ := rfl
@[simp ↓] theorem zipF_s {t : FA} {ρ : FEnv} : zipF t ρ μ = bR (t ρ μ) ziK := bnd_s
noncomputable def r1K (ss : List SV) (μ : Mem) : R (List D) := match ss with
  | [.d (.int n)] => grd (-(2 ^ 62) ≤ n ∧ n < 2 ^ 62) (ret (rngD 0 n.toNat)) μ
  | _ => .no
@[simp] theorem r1K_s : r1K [.d (.int i)] μ = grd (-(2 ^ 62) ≤ i ∧ i < 2 ^ 62) (ret (rngD 0 i.toNat)) μ := rfl
@[simp ↓] theorem rng1F_s {t : FA} {ρ : FEnv} : rng1F t ρ μ = bR (t ρ μ) r1K := bnd_s
noncomputable def r2K (ss : List SV) (μ : Mem) : R (List D) := match ss with
  | [.d (.int lo), .d (.int hi)] => grd (-(2 ^ 62) ≤ lo ∧ lo < 2 ^ 62 ∧ -(2 ^ 62) ≤ hi ∧ hi < 2 ^ 62) (ret (rngD lo (hi - lo).toNat)) μ
  | _ => .no
@[simp] theorem r2K_s : r2K [.d (.int i), .d (.int j)] μ = grd (-(2 ^ 62) ≤ i ∧ i < 2 ^ 62 ∧ -(2 ^ 62) ≤ j ∧ j < 2 ^ 62) (ret (rngD i (j - i).toNat)) μ := rfl
@[simp ↓] theorem rng2F_s {t : FA} {ρ : FEnv} : rng2F t ρ μ = bR (t ρ μ) r2K := bnd_s
@[simp] theorem slF_t {lo hi : Option Int} : slF (.d (.tup l)) lo hi μ = .ok (.d (.tup (cutD l lo hi))) μ := rfl
@[simp] theorem slF_n {lo hi : Option Int} : slF (.d (.ntp l)) lo hi μ = .ok (.d (cutN l lo hi)) μ := rfl
@[simp] theorem slF_l {lo hi : Option Int} : slF (.d (.lst l)) lo hi μ = .ok (.d (.lst (cutD l lo hi))) μ := rfl
@[simp] theorem slF_sc {lo hi : Option Int} {z : List Int} : slF (.d (.scr z)) lo hi μ = .ok (.d (.lst (cutD (z.map .int) lo hi))) μ := rfl
@[simp ↓] theorem gSub_s {o i : FX} {s : SV} {ρ : FEnv} : gSub o i s ρ μ = bR (o ρ μ) fun so => bnd (i ρ) fun si μ => match so, si, s with
  | .c k, .d (.int i), .d v => match μ[k]? with
    | some (.lst l) => match ixN l.length i with
      | some j => .ok ρ (μ.set k (.lst (l.set j v)))
      | none => .no
    | _ => .no
  | _, _, _ => .no := bnd_s
end
end PL
namespace PL
open PySem PySem.Spec PyProof.Rows L2 RZ
section
variable {X : Cx} {W : WX} {a b c e o i tg iter elt tg1 iter1 : Expr} {es ifs ifs1 : List Expr} {n : Nat} {fa fb fc fe fo fi : FX} {ft fu : FT} {fl fk : FA} {pos p apos cpos tpos p1 p2 p3 pos' ppos : Pos} {x : Str} {st : Stmt} {rest : List Stmt} {s u : FS} {g g1 : FG} {it it1 : FI} {own : List Nat} {kk : Nat}
def revF (s : SV) : M SV := fun μ => match s with
  | .d (.tup l) => .ok (.d (.tup l.reverse)) μ
  | .d (.ntp l) => .ok (.d (.tup l.reverse)) μ
  | s => match lstOf s μ with
    | some l => .ok (.d (.lst l.reverse)) μ
    | none => .no
@[simp] theorem revF_t {l : List D} {μ : Mem} : revF (.d (.tup l)) μ = .ok (.d (.tup l.reverse)) μ := rfl
@[simp] theorem revF_n {l : List D} {μ : Mem} : revF (.d (.ntp l)) μ = .ok (.d (.tup l.reverse)) μ := rfl
@[simp] theorem revF_l {l : List D} {μ : Mem} : revF (.d (.lst l)) μ = .ok (.d (.lst l.reverse)) μ := rfl
theorem pf_rev (he : PX X W e (toX n fe)) : PX X W (.Subscript e (.Slice none none (some (.UnaryOp .USub (.Constant (.int 1) kk p1) p2)) p3) pos) (toX n (fUn revF fe)) :=
  (px_rev he).to fun x ρ μ Q ⟨hn, h⟩ => ⟨hn, R.mono (fin_bnd.mp h) fun s μ1 h1 => by
    unfold revF at h1
    split at h1
    · exact h1
    · exact h1
    · rename_i g1 g2
      split at h1
      · rename_i l e
        first
          | (split <;> first | exact (g1 _ rfl).elim | exact (g2 _ rfl).elim | (rw [e]; exact h1))
          | (rw [e]; exact h1)
      · exact h1.elim⟩
def upperF (s : SV) : M SV := fun μ => match s with
  | .d (.str z) => if z.length ≤ 5592405 then .ok (.d (.str (Txt.upper z))) μ else .no
  | _ => .no
@[simp] theorem upperF_s {z : Str} {μ : Mem} : upperF (.d (.str z)) μ = if z.length ≤ 5592405 then .ok (.d (.str (Txt.upper z))) μ else .no := rfl
def strF (ss : List SV) : M SV := fun μ => match ss with
  | [.d (.int i)] => if i.natAbs.log2 < 1920 then .ok (.d (.str (toString i))) μ else .no
  | _ => .no
@[simp] theorem strF_i {i : Int} {μ : Mem} : strF [.d (.int i)] μ = if i.natAbs.log2 < 1920 then .ok (.d (.str (toString i))) μ else .no := rfl
abbrev FPs := FEnv → M (List (D × D))
def fpNil : FPs := fun _ => ret []
def pairM (k v : SV) (ps : List (D × D)) : M (List (D × D)) := fun μ => match k, v with
  | .d a, .d b => .ok ((a, b) :: ps) μ
  | _, _ => .no
@[simp] theorem pairM_s {a b : D} {ps : List (D × D)} {μ : Mem} : pairM (.d a) (.d b) ps μ = .ok ((a, b) :: ps) μ := rfl
def fpCons (k v : FX) (r : FPs) : FPs := fun ρ => bnd (k ρ) fun a => bnd (v ρ) fun b => bnd (r ρ) fun ps => pairM a b ps
noncomputable def fDisp (r : FPs) : FX := fun ρ => bnd (r ρ) fun ps => grd ((∀ p ∈ ps, fitK false p.1 = true) ∧ ps.length ≤ 15) (ret (.d (.dic false (mergeD [] [] ps).1 (mergeD [] [] ps).2)))
@[simp ↓] theorem fpNil_s {ρ : FEnv} {μ : Mem} : fpNil ρ μ = .ok [] μ := rfl
@[simp ↓] theorem fpCons_s {k v : FX} {r : FPs} {ρ : FEnv} {μ : Mem} : fpCons k v r ρ μ = bR (k ρ μ) fun a => bnd (v ρ) fun b => bnd (r ρ) fun ps => pairM a b ps := bnd_s
@[simp ↓] theorem fDisp_s {r : FPs} {ρ : FEnv} {μ : Mem} : fDisp r ρ μ = bR (r ρ μ) fun ps => grd ((∀ p ∈ ps, fitK false p.1 = true) ∧ ps.length ≤ 15) (ret (.d (.dic false (mergeD [] [] ps).1 (mergeD [] [] ps).2))) := bnd_s
end
end PL
namespace PL
open PySem PySem.Spec PyProof.Rows L2 RZ
section
variable {X : Cx} {W : WX} {a b : Expr} {fl : FA} {n : Nat} {pos : Pos}
end
end PL
namespace PL
open PySem PySem.Spec PyProof.Rows L2 RZ
section
variable {X : Cx} {W : WX} {a b e : Expr} {fa fb : FX} {fl : FA} {n : Nat} {pos p : Pos}
noncomputable def addCF (s t : SV) : M SV := fun μ => match lstOf s μ, lstOf t μ with
  | some l, some m => grd (l.length + m.length ≤ sizeLine) (fun μ => .ok (.c μ.length) (μ ++ [.lst (l ++ m)])) μ
  | _, _ => .no
noncomputable def mulCF (s t : SV) : M SV := fun μ => match t with
  | .d (.int j) => match lstOf s μ with
    | some l => grd (-(2 ^ 63) ≤ j ∧ j < 2 ^ 63 ∧ l.length * j.toNat ≤ sizeLine) (fun μ => .ok (.c μ.length) (μ ++ [.lst (List.replicate j.toNat l).flatten])) μ
    | none => .no
  | _ => .no
noncomputable def sortedCF : List SV → M SV := fun ss μ => match ss with
  | [s] => match lstOf s μ with
    | some l => grd (okSort l) (fun μ => .ok (.c μ.length) (μ ++ [.lst (srtD l)])) μ
    | none => .no
  | _ => .no
section
variable {l m : List D} {μ : Mem} {j : Int} {k i : Nat}
@[simp] theorem addCF_l : addCF (.d (.lst l)) (.d (.lst m)) μ = grd (l.length + m.length ≤ sizeLine) (fun μ => .ok (.c μ.length) (μ ++ [.lst (l ++ m)])) μ := rfl
@[simp] theorem mulCF_l : mulCF (.d (.lst l)) (.d (.int j)) μ = grd (-(2 ^ 63) ≤ j ∧ j < 2 ^ 63 ∧ l.length * j.toNat ≤ sizeLine) (fun μ => .ok (.c μ.length) (μ ++ [.lst (List.replicate j.toNat l).flatten])) μ := rfl
@[simp] theorem sortedCF_l : sortedCF [.d (.lst l)] μ = grd (okSort l) (fun μ => .ok (.c μ.length) (μ ++ [.lst (srtD l)])) μ := rfl
end
end
end PL
namespace PL
open PySem PySem.Spec PyProof.Rows L2
open Classical in
noncomputable def findS : List D → List SV → D → Option SV
  | k :: ks, v :: vs, x => if k = x then some v else findS ks vs x
  | _, _, _ => none
open Classical in
noncomputable def putSs (ks : List D) (vs : List SV) (k : D) (v : SV) : List SV := if k ∈ ks then List.zipWith (fun k' v' => if k' = k then v else v') ks vs else vs ++ [v]
section
variable {κ : Type} [DecidableEq κ] {kd : κ → D} {K : PySem.W.Frag} {A : List Addr} {G : Hp}
theorem findS_rep (inj : ∀ a b, kd a = kd b → a = b) (k : κ) : ∀ {kvs : List (κ × V)} {vs : List SV}, RepsS K A G vs (kvs.map Prod.snd) → ∀ v, valV kvs k = some v → ∃ d, findS (kvs.map fun p => kd p.1) vs (kd k) = some d ∧ RepS K A G d v
  | [], _, .nil, v, h => by cases h
  | p :: kvs, _, .cons r t, v, h => by
    by_cases e : p.1 = k
    · rw [valV_pos e] at h
      cases h
      exact ⟨_, by simp only [List.map_cons, findS]; rw [if_pos (by rw [e])], r⟩
    · have e' : ¬ kd p.1 = kd k := fun z => e (inj _ _ z)
      rw [valV_neg e] at h
      obtain ⟨d, q, r'⟩ := findS_rep inj k t v h
      exact ⟨d, by simp only [List.map_cons, findS]; rw [if_neg e']; exact q, r'⟩
theorem findS_none (inj : ∀ a b, kd a = kd b → a = b) (k : κ) : ∀ {kvs : List (κ × V)} {vs : List SV}, RepsS K A G vs (kvs.map Prod.snd) → valV kvs k = none → findS (kvs.map fun p => kd p.1) vs (kd k) = none
  | [], _, .nil, h => rfl
  | p :: kvs, _, .cons r t, h => by
    by_cases e : p.1 = k
    · rw [valV_pos e] at h; cases h
    · have e' : ¬ kd p.1 = kd k := fun z => e (inj _ _ z)
      rw [valV_neg e] at h
      simp only [List.map_cons, findS]; rw [if_neg e']; exact findS_none inj k t h
theorem put_valsS (inj : ∀ a b, kd a = kd b → a = b) {kvs : List (κ × V)} {vs : List SV} (r : RepsS K A G vs (kvs.map Prod.snd)) (k : κ) {d : SV} {v : V} (rv : RepS K A G d v) : RepsS K A G (putSs (kvs.map fun p => kd p.1) vs (kd k) d) ((putK kvs k v).map Prod.snd) := by
  unfold putK putSs
  by_cases h : (kvs.any fun kv => decide (kv.1 = k)) = true
  · rw [if_pos h, if_pos ((any_mem inj k kvs).mp h)]
    clear h
    induction kvs generalizing vs with
    | nil => cases r; exact .nil
    | cons p kvs ih =>
      cases r with
      | cons r t =>
        refine .cons ?_ (ih t)
        show RepS K A G (@ite SV (kd p.1 = kd k) (Classical.propDecidable _) d _) (if p.1 = k then (p.1, v) else p).2
        by_cases e : p.1 = k
        · rw [if_pos e, if_pos (by rw [e])]; exact rv
        · rw [if_neg e, if_neg (fun z => e (inj _ _ z))]; exact r
  · rw [if_neg h, if_neg (fun z => h ((any_mem inj k kvs).mpr z)), List.map_append]
    exact r.app (.cons rv .nil)
end
section
variable {X : Cx} {W : WX} {a b c e o i : Expr} {ta tb tc te to ti : TX} {tL : TXA} {pos apos cpos pos' : Pos}
def pCGet : SV → SV → Mem → VP → Prop := fun sd sk μ Q => match sd, sk with
  | .c j, .d k => match μ[j]? with
    | some (.dC ks vs) => fitK true k = true ∧ on (findS ks vs k) fun s => Q s μ
    | _ => False
  | _, _ => False
theorem pop_cget {K : PySem.W.Frag} : POp K rDGet pCGet := by
  intro sa sb μ A G H va vb Qp Q h c ra rb k
  match sa, sb, h, ra, rb with
  | .c j, .d key, h, ⟨a, ha, hva⟩, rb =>
    subst hva
    unfold pCGet at h
    simp only at h
    split at h
    · rename_i ks vs hk
      obtain ⟨hf, h⟩ := h
      obtain ⟨s, hs, q⟩ := on_of h
      obtain ⟨kvs, h1, rfl, h3⟩ := c.ok _ _ _ ha hk
      obtain ⟨k', rfl⟩ := fitT hf
      obtain ⟨b, rfl, hb⟩ := tupKey_val c.le rb
      have inj : ∀ a b : List Key, D.tup (a.map keyD) = .tup (b.map keyD) → a = b := fun _ _ z => tupKey_inj z
      cases e : valV kvs k' with
      | none => rw [findS_none (kd := fun ks : List Key => D.tup (ks.map keyD)) inj k' h3 e] at hs; cases hs
      | some v =>
        obtain ⟨s', e1, r⟩ := findS_rep (kd := fun ks : List Key => D.tup (ks.map keyD)) inj k' h3 v e
        have e2 : s' = s := Option.some.inj (e1.symm.trans hs)
        subst e2
        exact ⟨a, v, rfl, .inr ⟨kvs, k', b, .inl h1, rfl, hb, e.symm⟩, k _ _ _ _ _ _ q c .refl r⟩
    · exact h.elim
theorem px_cget (hu : X.A.units + 1 < cLine) (ha : PX X W a ta) (hb : PX X W b tb) (hs : NoSl b := by intro _ _; rfl) : PX X W (.Subscript a b pos) (xOp pCGet ta tb) :=
  ⟨(pe_dget hu ha.pe hb.pe hs).imp fun _ _ _ h => lift_op pop_cget h⟩
/-- d[k] = v, d a dict whose values may be cells -/
def cputS (so si s : SV) (μ : Mem) (q : Mem → Prop) : Prop := match so, si with
  | .c k, .d key => match μ[k]? with
    | some (.dC ks vs) => (fitK true key = true ∧ ks.length < sizeLine ∧ s ≠ .un) ∧ q (μ.set k (.dC (putKs ks key) (putSs ks vs key s)))
    | _ => False
  | _, _ => False
theorem cput_of {K : PySem.W.Frag} {A : List Addr} {μ : Mem} {G H : Hp} {so si s : SV} {vo vi v : V} {q : Mem → Prop} (h : cputS so si s μ q) (c : Cells K A μ G H) (r1 : RepS K A G so vo) (r2 : RepS K A G si vi) (r : RepS K A G s v) :
    ∃ a H' μ', vo = .ref a ∧ DPut H a vi v H' ∧ q μ' ∧ Cells K A μ' G H' ∧ Step A G H A G H' := by
  match so, si, h, r1, r2 with
  | .c kk, .d key, h, ⟨a, ha, hvo⟩, r2 =>
    subst hvo
    simp only [cputS] at h
    split at h
    · rename_i ks vs hk
      obtain ⟨⟨hf, hz, hn⟩, h⟩ := h
      obtain ⟨kvs, h1, rfl, h3⟩ := c.ok _ _ _ ha hk
      obtain ⟨k', rfl⟩ := fitT hf
      obtain ⟨b, rfl, hb⟩ := tupKey_val c.le r2
      obtain ⟨c3, s3⟩ := c.write (o := .dT (putK kvs k' v)) (cl := .dC (putKs (kvs.map fun p => .tup (p.1.map keyD)) (.tup (k'.map keyD))) (putSs (kvs.map fun p => .tup (p.1.map keyD)) vs (.tup (k'.map keyD)) s)) ha
        ⟨_, upd_same, (put_keys (kd := fun ks : List Key => D.tup (ks.map keyD)) (fun _ _ z => tupKey_inj z) kvs k' v).symm, put_valsS (kd := fun ks : List Key => D.tup (ks.map keyD)) (fun _ _ z => tupKey_inj z) h3 k' r⟩
      exact ⟨a, _, _, rfl, .inr ⟨kvs, k', b, h1, rfl, hb, by simpa using hz, rfl⟩, h, c3, s3⟩
    · exact h.elim
def findF {α : Type} (f : Str) : List Str → List α → Option α
  | n :: ns, v :: vs => if f == n then some v else findF f ns vs
  | _, _ => none
def putFn (f : Str) : List Str → List Str
  | [] => [f]
  | g :: r => if g = f then g :: r else g :: putFn f r
def putFv {α : Type} (f : Str) (v : α) : List Str → List α → List α
  | [], _ => [v]
  | g :: r, x :: xs => if g = f then v :: xs else x :: putFv f v r xs
  | _ :: _, [] => []
theorem findF_look {f : Str} : ∀ {fs : List (Str × V)}, fs.lookup f = findF f (fs.map Prod.fst) (fs.map Prod.snd)
  | [] => rfl
  | (g, v) :: fs => by
    rw [List.lookup_cons]
    simp only [List.map_cons, findF]
    cases f == g with
    | true => rfl
    | false => exact findF_look
theorem findF_reps {K : PySem.W.Frag} {A : List Addr} {G : Hp} {f : Str} : ∀ {ns : List Str} {vs : List SV} {us : List V} {s : SV}, RepsS K A G vs us → findF f ns vs = some s → ∃ v, findF f ns us = some v ∧ RepS K A G s v
  | [], _, _, _, _, h => by simp [findF] at h
  | n :: ns, _, _, _, .nil, h => by simp [findF] at h
  | n :: ns, _, _, s, .cons r t, h => by
    unfold findF at h ⊢
    cases e : f == n with
    | true => rw [e] at h; simp only [if_true] at h ⊢; cases h; exact ⟨_, rfl, r⟩
    | false => rw [e] at h; simp only [Bool.false_eq_true, if_false] at h ⊢; exact findF_reps t h
theorem findF_repd {K : PySem.W.Frag} {G : Hp} {f : Str} : ∀ {ns : List Str} {vs : List D} {us : List V} {s : D}, Reps K G vs us → findF f ns vs = some s → ∃ v, findF f ns us = some v ∧ Rep K G s v
  | [], _, _, _, _, h => by simp [findF] at h
  | n :: ns, _, _, _, .nil, h => by simp [findF] at h
  | n :: ns, _, _, s, .cons r t, h => by
    unfold findF at h ⊢
    cases e : f == n with
    | true => rw [e] at h; simp only [if_true] at h ⊢; cases h; exact ⟨_, rfl, r⟩
    | false => rw [e] at h; simp only [Bool.false_eq_true, if_false] at h ⊢; exact findF_repd t h
theorem putFn_eq {f : Str} {v : V} : ∀ fs : List (Str × V), putFn f (fs.map Prod.fst) = (putF f v fs).map Prod.fst
  | [] => rfl
  | (g, x) :: fs => by
    simp only [List.map_cons, putFn, putF]
    by_cases h : g = f
    · rw [if_pos h, if_pos h]; rfl
    · rw [if_neg h, if_neg h, putFn_eq fs]; rfl
theorem putFv_reps {K : PySem.W.Frag} {A : List Addr} {G : Hp} {f : Str} {s : SV} {v : V} (r : RepS K A G s v) : ∀ {fs : List (Str × V)} {vs : List SV}, RepsS K A G vs (fs.map Prod.snd) → RepsS K A G (putFv f s (fs.map Prod.fst) vs) ((putF f v fs).map Prod.snd)
  | [], _, .nil => .cons r .nil
  | (g, x) :: fs, _, .cons q t => by
    simp only [List.map_cons, putFv, putF]
    by_cases h : g = f
    · rw [if_pos h, if_pos h]; exact .cons r t
    · rw [if_neg h, if_neg h]; exact .cons q (putFv_reps r t)
/-- o.f -/
def xAttr (C : Str) (f : Str) (te : TX) : TX := fun x ρ μ Q => te x ρ μ fun s μ1 => match s with
  | .d (.obj C' ns vs) => C' = C ∧ on (findF f ns vs) fun d => Q (.d d) μ1
  | .c j => match μ1[j]? with
    | some (.inC C' ns vs) => C' = C ∧ on (findF f ns vs) fun s => Q s μ1
    | _ => False
  | _ => False
theorem px_attr {C f : Str} (hC : Cls X.K (He.ga X.K C)) (hN : NoAttr X.K (He.ga X.K C) f) (he : PX X W e te) (hb : attributeBase e f X.env (eval e X.env) = eval e X.env := by rfl) : PX X W (.Attribute e f pos) (xAttr C f te) := by
  refine ⟨(pe_fld he.pe hb).imp fun σ H Q h => ?_⟩
  obtain ⟨A, ρ, μ, G, Qp, xp, S, ht, hx, k⟩ := h
  refine ⟨A, ρ, μ, G, _, xp, S, ht, hx, fun s μ1 A1 G1 H1 v q c1 s1 r1 => ?_⟩
  match s, q, r1 with
  | .d (.obj C' ns vs), q1, r1 =>
    obtain ⟨hc, q2⟩ := q1
    subst hc
    obtain ⟨d, hd, q3⟩ := on_of q2
    cases r1 with
    | obj h hn hs =>
      subst hn
      obtain ⟨u, e1, r⟩ := findF_repd hs hd
      exact ⟨_, _, _, _, u, rfl, c1.le _ _ h, hC, hN, findF_look.trans e1, k (.d d) _ _ _ _ _ q3 c1 s1 r⟩
  | .c j, q1, ⟨a, ha, hv⟩ =>
    subst hv
    simp only at q1
    split at q1
    · rename_i C' ns vs hk
      obtain ⟨hc, q2⟩ := q1
      subst hc
      obtain ⟨s, hs, q3⟩ := on_of q2
      obtain ⟨dx, fs, h1, h2, h3⟩ := c1.ok _ _ _ ha hk
      subst h2
      obtain ⟨u, e1, r⟩ := findF_reps h3 hs
      exact ⟨_, _, _, _, u, rfl, h1, hC, hN, findF_look.trans e1, k _ _ _ _ _ _ q3 c1 s1 r⟩
    · exact q1.elim
/-- o.f = e, o an instance of one's own -/
def xFld (C f : Str) (to te : TX) : TXS := fun E ρ μ => te E.ex ρ μ fun s μ1 => to E.ex ρ μ1 fun so μ2 => match so with
  | .c j => match μ2[j]? with
    | some (.inC C' ns vs) => (C' = C ∧ ns.length < 1000 ∧ s ≠ .un) ∧ E.nx ρ (μ2.set j (.inC C (putFn f ns) (putFv f s ns vs)))
    | _ => False
  | _ => False
theorem psx_fld {C f : Str} (hC : Cls X.K (He.ga X.K C)) (hN : NoAttr X.K (He.ga X.K C) f) (ho : PX X W o to) (he : PX X W e te) (hs : swapsWith e (some (.Attribute o f pos')) pos.line X.env = pure false := by rfl) : PXS X W (.Assign [.Attribute o f pos'] e pos) (xFld C f to te) := by
  refine ⟨(ps_fld ho.pe he.pe hs).imp fun D σ H h => ?_⟩
  obtain ⟨A, ρ, μ, G, E, S, ht, k⟩ := h
  refine ⟨A, ρ, μ, G, _, _, S, ht, k.ex, fun s μ1 A1 G1 H1 v q c1 s1 r1 => ?_⟩
  refine ⟨A1, ρ, μ1, G1, _, _, S.after s1 c1, q, k.ex.after s1, fun so μ2 A2 G2 H2 vo q2 c2 s2 r2 => ?_⟩
  have s12 := s1.trans s2
  match so, q2, r2 with
  | .c j, q, ⟨a, ha, hv⟩ =>
    subst hv
    simp only at q
    split at q
    · rename_i C' ns vs hk
      obtain ⟨⟨hc, hz, hn⟩, q⟩ := q
      subst hc
      obtain ⟨dx, fs, h1, h2, h3⟩ := c2.ok _ _ _ ha hk
      subst h2
      obtain ⟨c3, s3⟩ := c2.write (o := .ins (He.ga X.K C') dx (putF f v fs)) (cl := .inC C' (putFn f (fs.map Prod.fst)) (putFv f s (fs.map Prod.fst) vs)) ha
        ⟨dx, _, upd_same, putFn_eq fs, putFv_reps (r1.mono s2.pre s2.le) h3⟩
      exact ⟨a, _, dx, fs, rfl, h1, hC, hN, by simpa using hz, k.nx _ _ _ _ _ _ q (S.after (s12.trans s3) c3) (s12.trans s3)⟩
    · exact q.elim
end
end PL
namespace PL
open PySem PySem.Spec PyProof.Rows L2
/-- the method m of the class C stands -/
structure MDef (K : PySem.W.Frag) (C m qual : Str) (st : Stmt) : Prop where
  ex : ∃ fd, FunD K m qual (defArgs st) (defBody st) (defScope st) [] [] (He.fAd K (C, some m)) fd
/-- .. and keeps p -/
structure HasM (P : Program) (w : World) (K : PySem.W.Frag) (mg : Str → Option Value) (base : Heap) (k : Nat) (C m : Str) (ps : List Str) (p : PSp) : Prop where
  ex : ∃ fd, FnOk P w K mg base (L2.CX P w) k (He.fAd K (C, some m)) fd ps (low K p) ∧ Binds K fd ps []
theorem _root_.L2.FunD.funM {K : PySem.W.Frag} {x qual : Str} {st : Stmt} {f : Addr} {fd : FuncData} (F : FunD K x qual (defArgs st) (defBody st) (defScope st) [] [] f fd) : Fun K x qual st f fd := by
  obtain ⟨oc, od, dV, kV, doc, pm, an, cdv, ct, osl, rfl, lk, hcd, hD, hK⟩ := F.ex
  rcases hD with ⟨_, rfl⟩ | ⟨e, _⟩
  · exact ⟨⟨oc, od, kV, doc, pm, an, cdv, ct, osl, rfl, lk, hcd⟩, F.kp⟩
  · exact absurd rfl e
def BindM (m qual : Str) (st : Stmt) (ps : List Str) : Prop := ∀ (kV doc pm : Value) (an : Option Addr) (cdv ct : Value) (us : List Value), us.length = ps.length → bindArgs (PySem.W.fnOf m qual (defArgs st) (defBody st) (defScope st) .none kV doc pm an cdv ct) ⟨us, []⟩ = pure (ps.zip us)
section
variable {P : Program} {w : World} {K : PySem.W.Frag} {mg : Str → Option Value} {base : Heap}
theorem hasM_p {C m qual : Str} {st : Stmt} {N ps : List Str} {k : Nat} {p : PSp} {t : TXS} (D : MDef K C m qual st) (S : FnScope N ps (defScope st)) (B : BindM m qual st ps) (len : ∀ x as μ Q, p x as μ Q → as.length = ps.length)
    (hb : ∀ (f : Addr) (cdv : Value) (A : Around) (outer : List Env) (s : Shared) (H : Hp) (E : XK), Room k (A.deeper (envOfC qual (defScope st) s.heap.objs.size f cdv)) →
      PXSs (cxOf (L2.CX P w) P w K mg base N qual (defScope st) f cdv A outer s H E) (fun cls d _ H => E cls d H) (defBody st) t)
    (hp : ∀ x as μ Q, p x as μ Q → t { nx := fun _ μ => Q (.d .non) μ, rt := Q, ex := x } (startP N.length as) μ) : HasM P w K mg base (k + 1) C m ps p := by
  obtain ⟨fd, F⟩ := D.ex
  exact ⟨fd, fn_p F.funM S len hp (hb _), FunD.bindsN F B⟩
end
/-- C(..): the new instance is data behind its __init__ -/
def callPM (C : Str) (p : PSp) (ss : List SV) (μ : Mem) (Q : VP) : Prop := cellsOf ss = [] ∧
  p (fun _ _ _ => False) (.c 0 :: ss) [.inC C [] []] fun r μ' => r = .d .non ∧ on (frzS 0 μ' 3 (.c 0)) fun d => Q (.d d) μ
theorem flat_reps {K : PySem.W.Frag} {A B : List Addr} {G : Hp} : ∀ {ss : List SV} {vs : List V}, cellsOf ss = [] → RepsS K A G ss vs → RepsS K B G ss vs
  | [], _, _, .nil => .nil
  | .d x :: ss, _, h, .cons r t => .cons r (flat_reps h t)
  | .un :: ss, _, h, .cons r t => .cons r (flat_reps h t)
  | .c k :: ss, _, h, _ => by simp [cellsOf] at h
theorem make_low {K : PySem.W.Frag} {C : Str} {p : PSp} {ss : List SV} {vs : List V} {A : List Addr} {μ : Mem} {G H : Hp} {Qp : VP} {Q : VK} {E : XK} {x dx : Addr} (h : callPM C p ss μ Qp) (c : Cells K A μ G H) (r : RepsS K A G ss vs) (hx : H x = none) (hd : H dx = none) (ne : dx ≠ x)
    (k : ∀ r μ' A' G' H' v, Qp r μ' → Cells K A' μ' G' H' → Step A G H A' G' H' → RepS K A' G' r v → Q v H') :
    low K p (.ref x :: vs) (upd (upd H dx (.own x)) x (.ins (He.ga K C) dx [])) (fun v H2 => v = .non ∧ Q (.ref x) H2) E := by
  obtain ⟨fl, h⟩ := h
  have gx := c.gnone hx
  have gd := c.gnone hd
  have e0 : ∀ a, a ≠ x → a ≠ dx → upd (upd H dx (.own x)) x (.ins (He.ga K C) dx []) a = H a := fun a h1 h2 => by rw [upd_ne h1, upd_ne h2]
  have cN : Cells K [x] [.inC C [] []] G (upd (upd H dx (.own x)) x (.ins (He.ga K C) dx [])) := by
    refine ⟨fun a o e => ?_, rfl, by simp, fun a ha => ?_, fun i a cl h1 h2 => ?_⟩
    · rw [e0 a (ne_of_none e gx) (ne_of_none e gd)]; exact c.le a o e
    · simp at ha; subst ha; exact gx
    · cases i with
      | zero => simp at h1 h2; subst h1; subst h2; exact ⟨dx, [], upd_same, rfl, .nil⟩
      | succ i => simp at h1
  refine ⟨[x], .c 0 :: ss, [.inC C [] []], G, _, _, cN, .cons ⟨x, rfl, rfl⟩ (flat_reps fl r), h, fun _ _ _ _ _ _ _ z => z.elim, fun r' μ' A' G' H' v q c' s' rr => ?_⟩
  obtain ⟨hr, q⟩ := q
  subst hr
  obtain ⟨d, hd', q⟩ := on_of q
  cases rr
  refine ⟨rfl, ?_⟩
  have hA0 : A'[0]? = some x := by
    obtain ⟨B, rfl⟩ := s'.pre; rfl
  obtain ⟨G2, g1, g2, g3, g4, g5⟩ := (show Cells K ([] ++ A') μ' G' H' from c').frz
  have hrep := frzS_rep (A := []) (B := A') c' g1 g4 3 (.c 0) (.ref x) d hd' ⟨x, hA0, rfl⟩
  have hasH : ∀ a ∈ A, H a ≠ none := fun a ha z => c.ne_of_lt ha z rfl
  have hn : ∀ a, upd (upd H dx (.own x)) x (.ins (He.ga K C) dx []) a = none → H a = none := fun a e => by
    by_cases z : a = x
    · rw [z]; exact hx
    · by_cases z2 : a = dx
      · rw [z2]; exact hd
      · rw [← e0 a z z2]; exact e
  have fresh : ∀ a ∈ A', H a = none := fun a ha => by
    rcases s'.cells a ha with z | z
    · simp at z; rw [z]; exact hx
    · exact hn a z
  have nA : ∀ a ∈ A, a ∉ A' := fun a ha z => hasH a ha (fresh a z)
  have nx : ∀ a ∈ A, a ≠ x ∧ a ≠ dx := fun a ha => ⟨c.ne_of_lt ha hx, c.ne_of_lt ha hd⟩
  have gA : ∀ a ∈ A, G' a = none := fun a ha => by
    cases q : G' a with
    | none => rfl
    | some o =>
      rcases s'.new a (by rw [q]; simp) with z | z | ⟨xs, z⟩
      · exact absurd (c.free a ha) z
      · exact absurd (hn a z) (hasH a ha)
      · rw [e0 a (nx a ha).1 (nx a ha).2] at z
        obtain ⟨i, hi⟩ := List.mem_iff_getElem?.mp ha
        have hl : i < μ.length := by rw [← c.len]; exact (List.getElem?_eq_some_iff.mp hi).1
        exact absurd z (c.ok i a _ hi (List.getElem?_eq_getElem hl)).notup
  have keepA : ∀ a ∈ A, H' a = H a := fun a ha => by
    cases e : H a with
    | none => exact absurd e (hasH a ha)
    | some o =>
      rcases s'.keep a o (by rw [e0 a (nx a ha).1 (nx a ha).2]; exact e) (by simp; exact (nx a ha).1) with z | ⟨z, _⟩
      · exact z
      · rw [c.free a ha] at z; cases z
  refine k (.d d) μ A G2 H' (.ref x) q ⟨g2, c.len, c.nd, fun a ha => by rw [g5 a (nA a ha)]; exact gA a ha, fun i a cl h1 h2 => (c.ok i a cl h1 h2).mono (List.prefix_refl _) (s'.le.trans g1) (keepA a (List.mem_of_getElem? h1))⟩ ⟨List.prefix_refl _, s'.le.trans g1, fun a o e n => ?_, fun a e => ?_, fun a xs e => ?_, fun a ha => .inl ha, fun a e => ?_⟩ hrep
  · exact s'.keep a o (by rw [e0 a (ne_of_none e hx) (ne_of_none e hd)]; exact e) (by simp; exact ne_of_none e hx)
  · rcases g3 a e with z | z
    · rcases s'.new a z with z | z | ⟨xs, z⟩
      · exact .inl z
      · exact .inr (.inl (hn a z))
      · by_cases y : a = x
        · rw [y, upd_same] at z; cases z
        · by_cases y2 : a = dx
          · rw [y2, upd_ne ne, upd_same] at z; cases z
          · rw [e0 a y y2] at z; exact .inr (.inr ⟨xs, z⟩)
    · exact .inr (.inl (fresh a z))
  · rcases s'.tups a xs e with z | z
    · exact .inl (hn a z)
    · by_cases y : a = x
      · rw [y, upd_same] at z; cases z
      · by_cases y2 : a = dx
        · rw [y2, upd_ne ne, upd_same] at z; cases z
        · rw [e0 a y y2] at z; exact .inr z
  · refine s'.there a fun z => e (hn a z)
section
variable {X : Cx} {W : WX} {a b c e o : Expr} {es : List Expr} {ta tb te to : TX} {tL : TXA} {pos apos ppos : Pos} {ps : List Str} {p : PSp} {k k' : Nat} {C m : Str}
def xMake (C : Str) (p : PSp) (t : TXA) : TX := fun x ρ μ Q => t x ρ μ fun ss μ1 => callPM C p ss μ1 Q
theorem px_make (h : HasM X.prog X.w X.K X.mg X.base k C "__init__" ps p) (M : Mk X.K (He.ga X.K C) (He.fAd X.K (C, some "__init__"))) (hm : X.mg C = some (.ref (He.ga X.K C))) (tk : Takes X W) (hr : Room k' X.A) (hle : k + 1 ≤ k') (hg : Gl X C)
    (ha : PXA X W (e :: es) tL) (hdb : (C == ("__debug__" : Str)) = false := by decide) (he : starEach (e :: es) X.env = (false, eval e X.env) :: starEach es X.env := by rfl) (hpl : (backTo pos (starEach es X.env)).any (·.1) = false := by rfl) :
    PX X W (.Call (.Name C ppos) (e :: es) [] pos) (xMake C p tL) := by
  obtain ⟨fd, F, hb⟩ := h.ex
  refine ⟨(pe_make M F (hr.mono hle) hg hm hb .nil (E := fun cls d H' => ∀ σ, W cls d σ H') (passes_call tk fun _ _ σ _ h => h σ) ha.pa hdb he hpl).imp fun σ H Q h => ?_⟩
  obtain ⟨A, ρ, μ, G, Qp, xp, S, ht, hx, kk⟩ := h
  refine ⟨A, ρ, μ, G, _, xp, S, ht, hx, fun ss μ1 A1 G1 H1 vs q c1 s1 r1 => ?_⟩
  intro x dx nx nd ne
  show low X.K p (V.ref x :: (vs ++ [])) _ _ _
  rw [List.append_nil]
  exact make_low q c1 r1 nx nd ne fun r μ' A' G' H' v q3 c3 s3 r3 => kk r μ' A' G' H' v q3 c3 (s1.trans s3) r3
theorem findF_none {K : PySem.W.Frag} {G : Hp} {f : Str} : ∀ {ns : List Str} {vs : List D} {us : List V}, ns.length = vs.length → Reps K G vs us → findF f ns vs = none → findF f ns us = none
  | [], _, _, _, _, _ => by simp [findF]
  | n :: ns, _, _, hl, .nil, h => by simp at hl
  | n :: ns, _, _, hl, .cons r t, h => by
    unfold findF at h ⊢
    cases e : f == n with
    | true => rw [e] at h; simp at h
    | false => rw [e] at h; simp only [Bool.false_eq_true, if_false] at h ⊢; exact findF_none (by simpa using hl) t h
/-- o.m(..), o data -/
def xMethO (F : Bool) (C m : Str) (p : PSp) (to : TX) (t : TXA) : TX := fun x ρ μ Q => to x ρ μ fun s μ1 => match s with
  | .d (.obj C' ns vs) => (C' = C ∧ findF m ns vs = none) ∧ t x ρ μ1 fun ss μ2 => if F = true then callPF p x (s :: ss) μ2 Q else callP p x (s :: ss) μ2 Q
  | _ => False
theorem obj_len {K : PySem.W.Frag} {G : Hp} {C : Str} {ns : List Str} {vs : List D} {v : V} (r : Rep K G (.obj C ns vs) v) : ∃ a dx fs, v = .ref a ∧ G a = some (.ins (He.ga K C) dx fs) ∧ ns = fs.map Prod.fst ∧ Reps K G vs (fs.map Prod.snd) := by
  cases r with
  | obj h hn hs => exact ⟨_, _, _, rfl, h, hn, hs⟩
theorem px_meth {F : Bool} {pl : Sem Bool} (h : HasM X.prog X.w X.K X.mg X.base k C m ps p) (hC : Cls X.K (He.ga X.K C)) (hM : Meth X.K (He.ga X.K C) m (He.fAd X.K (C, some m))) (tk : Takes X W) (hr : Room k' X.A) (hle : k ≤ k') (ho : PX X W o to)
    (ha : PXA X W (e :: es) tL) (hst : starEach (e :: es) X.env = (false, eval e X.env) :: starEach es X.env := by rfl) (hpl : (backTo pos (starEach es X.env)).any (·.1) = false := by rfl)
    (ht : eval (.Call (.Attribute o m apos) (e :: es) [] pos) X.env = (do
      let ov ← eval o X.env
      standAt apos.atName
      let (f, first) ← holding [ov] (getMethod ov m pl)
      callWith pos f first (backTo pos (starEach (e :: es) X.env)) (backToKw pos (keywordEach [] X.env))) := by rfl) :
    PX X W (.Call (.Attribute o m apos) (e :: es) [] pos) (xMethO F C m p to tL) := by
  obtain ⟨fd, Fn, hb⟩ := h.ex
  refine ⟨(pe_meth (pl := pl) ho.pe hC hM Fn (hr.mono hle) hb .nil (E := fun cls d H' => ∀ σ, W cls d σ H') (passes_call tk fun _ _ σ _ h => h σ) ha.pa hst hpl ht).imp fun σ H Q h => ?_⟩
  obtain ⟨A, ρ, μ, G, Qp, xp, S, ht, hx, kk⟩ := h
  refine ⟨A, ρ, μ, G, _, xp, S, ht, hx, fun s μ1 A1 G1 H1 v q c1 s1 r1 => ?_⟩
  match s, q, r1 with
  | .d (.obj C' ns vs), q1, r1 =>
    obtain ⟨⟨hc, hn⟩, qq⟩ := q1
    subst hc
    obtain ⟨a, dx, fs, rfl, ha', hns, hvs⟩ := obj_len (K := X.K) (G := G1) r1
    refine ⟨a, dx, fs, rfl, c1.le _ _ ha', ?_, A1, ρ, μ1, G1, _, xp, S.after s1 c1, qq, hx.after s1, fun ss μ2 A2 G2 H2 us q2 c2 s2 r2 => ?_⟩
    · rw [findF_look, ← hns]
      exact findF_none (by rw [hns, List.length_map, hvs.length, List.length_map]) hvs hn
    · have s12 := s1.trans s2
      have r3 : RepsS X.K A2 G2 (.d (.obj C' ns vs) :: ss) (V.ref a :: us) := .cons (RepS.mono s2.pre s2.le (s := .d (.obj C' ns vs)) r1) r2
      show low X.K p (V.ref a :: (us ++ [])) _ _ _
      rw [List.append_nil]
      cases F with
      | true => exact call_lowF q2 c2 r3 (hx.after s12) fun r μ' A' G' H' v q3 c3 s3 r3 => kk r μ' A' G' H' v q3 c3 (s12.trans s3) r3
      | false => exact call_low q2 c2 r3 (hx.after s12) fun r μ' A' G' H' v q3 c3 s3 r3 => kk r μ' A' G' H' v q3 c3 (s12.trans s3) r3
end
end PL
namespace PL
open PySem PySem.Spec PyProof.Rows L2 RZ
section
variable {P : Program} {w : World} {A : Around} {E : Value → Shared → Prop} {s : Shared} {z TI TO i1 i2 l1 l2 T : Addr} {f : Bool} {oT : Obj} {k m : Nat} {xs ys : Array Value} {Q : Option Value → Shared → Prop}
end
/-- such a zip: nothing given out yet, or its first pair still held -/
def ZSt (z TI TO i1 i2 a b : Addr) (k : Nat) (ts : List Addr) (h : Heap) : Prop :=
  IsPair h TI (.ref i1) (.ref i2) ∧ h.IsTupleIter i1 a k ∧ h.IsTupleIter i2 b k ∧ match ts with
    | [] => IsZip h z TI TO .none ∧ ∃ u v, IsPair h TO u v
    | T :: _ => ∃ f, IsZipHeld h z TI TO T f
theorem ZSt.keep {z TI TO i1 i2 a b : Addr} {k : Nat} {ts : List Addr} {h g : Heap} (Z : ZSt z TI TO i1 i2 a b k ts h) (kp : ∀ c ∈ [z, TI, TO, i1, i2], ∀ o, h.get? c = some o → g.get? c = some o) : ZSt z TI TO i1 i2 a b k ts g := by
  obtain ⟨p, x, y, w⟩ := Z
  refine ⟨kp TI (by simp) _ p, x.at fun o => kp i1 (by simp) o, y.at fun o => kp i2 (by simp) o, ?_⟩
  cases ts with
  | nil =>
    obtain ⟨w1, u, v, w2⟩ := w
    exact ⟨kp z (by simp) _ w1, u, v, kp TO (by simp) _ w2⟩
  | cons T r =>
    obtain ⟨f, w⟩ := w
    exact ⟨f, kp z (by simp) _ w⟩
end PL
namespace PL
open PySem PySem.Spec PyProof.Rows L2 RZ
section
variable {X : Cx} {W : WX} {a b : Expr} {tL : TXA} {pos pos2 p p2 : Pos}
end
end PL
namespace PL
open PySem PySem.Spec PyProof.Rows L2 RZ
end PL
namespace PL
open PySem PySem.Spec PyProof.Rows L2 RZ
end PL
namespace PL
open PySem PySem.Spec PyProof.Rows L2
section
variable {X : Cx} {W : WX} {a b : Expr} {tL : TXA} {pos pos2 p p2 : Pos}
end
end PL
namespace PL
open PySem PySem.Spec PyProof.Rows L2 RZ
section
variable {X : Cx} {W : WX} {a b e : Expr} {fl : FA} {n : Nat} {pos p pos2 p2 : Pos}
def lzipF : List SV → M SV := fun ss μ => match ss with
  | [s, t] => match tupOf s, tupOf t with
    | some l, some m => .ok (.d (.lst (zipD l m))) μ
    | _, _ => .no
  | _ => .no
/-- unlike texts or numbers, as many as the values -/
def KeysOf (l m : List D) : Prop := (l.Nodup ∧ l.length = m.length) ∧ ∀ d ∈ l, fitK false d = true
noncomputable def dzipF : List SV → M SV := fun ss μ => match ss with
  | [s, t] => match tupOf s, tupOf t with
    | some l, some m => grd (KeysOf l m) (ret (.d (.dic false l m))) μ
    | _, _ => .no
  | _ => .no
end
section
variable {l m : List D} {μ : Mem}
@[simp] theorem lzipF_tt : lzipF [.d (.tup l), .d (.tup m)] μ = .ok (.d (.lst (zipD l m))) μ := rfl
@[simp] theorem lzipF_nt : lzipF [.d (.ntp l), .d (.tup m)] μ = .ok (.d (.lst (zipD l m))) μ := rfl
@[simp] theorem dzipF_tt : dzipF [.d (.tup l), .d (.tup m)] μ = grd (KeysOf l m) (ret (.d (.dic false l m))) μ := rfl
@[simp] theorem dzipF_nt : dzipF [.d (.ntp l), .d (.tup m)] μ = grd (KeysOf l m) (ret (.d (.dic false l m))) μ := rfl
end
end PL
namespace PL
open PySem PySem.Spec PyProof.Rows L2
section
variable {X : Cx} {σ τ : L2.St} {vs : List Nat} {fp : List Addr} {tn : Nat → Heap → Prop} {W : Nat → Nat → Hp → Prop}
/-- an item goes into a dict of ours -/
theorem item_in {pins : List (Addr × Obj)} {H H' : Hp} {s : Shared} {E : Value → Shared → Prop} {D : Addr} {y v : V} {u r : Value} {Q : Unit → Shared → Prop} (room : X.A.units < cLine) (I : Inv X pins σ H s) (put : DPut H D y v H')
    (ru : RelV y u) (rr : RelV v r) (next : ∀ s', Inv X pins σ H' s' → Q () s') : wpAny (model X.prog X.w) X.A (dictSet D u r) Q E s := by
  rcases put with ⟨kvs, k, at_, rfl, few, rfl⟩ | ⟨kvs, k, b, at_, rfl, kb, few, rfl⟩
  · exact d_dictSet I at_ few ru rr next
  · obtain rfl : u = .ref b := ru
    obtain ⟨_, sys, old, pr, is⟩ := dt_of I.hok at_
    have n1 := Paired.length pr
    have n2 := length_putK kvs k v
    have few' : old.length ≤ sizeLine := by omega
    refine wpAny_dictSet_heap (knd := tupleKind (mixKind X.prog X.w)) (hsz := few') room (key_of I.hok kb) is fun h2 is2 same => next _ ?_
    have keep : ∀ c ys, H c = some (.tup ys) → upd H D (.dT (putK kvs k v)) c = some (.tup ys) := fun c ys ec => (upd_ne (ne_of ec at_ (fun z => nomatch z))).trans ec
    obtain ⟨o2, es, ep, there, rest⟩ := is2
    exact d_write I (by rw [at_]; exact True.intro) same ⟨o2, there⟩ ⟨by omega, sys, _, (pr.put k kb rr).keeps keep, o2, es, ep, there, rest.1, rest.2.1, rest.2.2.1, rest.2.2.2.2⟩
/-- between two laps of a block: its own names unset, the iterator in its place, nothing of it tracked -/
def Between (Y : Cx) (τ : L2.St) (fp : List Addr) (tn : Nat → Heap → Prop) (W : Nat → Nat → Hp → Prop) (left : Nat) (s : Shared) : Prop :=
  ∃ (i : Nat) (H : Hp), W i left H ∧ tn i s.heap ∧ Inv Y [] τ H s ∧ ∀ b ∈ fp, H b = none
theorem between_next {Y : Cx} {tg : Expr} {J : It} {it : Addr} {i left : Nat} {H' : Hp} {s s' : Shared} (T : Turn Y.prog Y.w Y.K tg J fp it tn) (st : tn (i + 1) s.heap) (I : Inv Y ([] ++ pinsAt fp s.heap) τ H' s') (same : L2.wipe τ vs = L2.wipe σ vs)
    (w : ∃ m, m < left ∧ W (i + 1) m H') : ∃ m, m < left ∧ Between Y (L2.wipe σ vs) fp tn W m s' := by
  obtain ⟨m, less, w⟩ := w
  have held : ∀ b o, b ∈ fp → s.heap.get? b = some o → s'.heap.get? b = some o ∧ H' b = none := fun b o hb e => by
    have := I.pin (b, o) (List.mem_append_right _ (List.mem_append_right _ (mem_pinsAt hb e)))
    exact ⟨this.1, this.2.1⟩
  refine ⟨m, less, i + 1, H', w, T.keep _ _ _ st fun b hb o e => (held b o hb e).1, ?_, fun b hb => ?_⟩
  · have len : (L2.wipe σ vs).length = τ.length := by rw [← same, wipe_length]
    refine I.unpinned.weak len fun j v e => ?_
    rw [← same] at e
    exact (wipe_some e).1
  · obtain ⟨o, e, -⟩ := T.obj _ _ st b hb
    exact (held b o hb e).2
/-- what the walk asks of {k: v for target in iter if ..}; o0: the dict when it is new -/
def tDcAny (o0 : HO) (wi : TI) (g : TG) (tt : TT) (tk tv : TE) (vs : List Nat) : TE := fun σ H Q => wi σ H fun J H1 => ∀ D, H1 D = none → ∃ W : Nat → Nat → Hp → Prop, (∃ m, W 0 m (upd H1 D o0)) ∧ ∀ i m H2, W i m H2 →
  (J.stop i H2 ∧ Q (.ref D) H2) ∨ (J.go i H2 ∧ ∀ x H3, J.yld i H2 x H3 → g x (L2.wipe σ vs) H3 fun σ4 H4 => L2.wipe σ4 vs = L2.wipe σ vs ∧ tt σ4 H4 fun b H5 =>
    if b = true then tk σ4 H5 fun y H6 => tv σ4 H6 fun z H7 => ∃ H8, DPut H7 D y z H8 ∧ ∃ m', m' < m ∧ W (i + 1) m' H8 else ∃ m', m' < m ∧ W (i + 1) m' H5)
section
variable {sB : Shared} {HB : Hp} {scope : Scope} {ce : Env} {tg iter kx vx : Expr} {ifs : List Expr} {g : TG} {tt : TT} {tk tv : TE} {J : It} {it D : Addr} {pos : Pos}
theorem fp_untouched {σ' : L2.St} {H' : Hp} {s' : Shared} (I : Inv (X.blk sB HB scope ce fp) [] σ' H' s') (no : ∀ b ∈ fp, H' b = none) : ∀ b ∈ fp, FpOk (X.blk sB HB scope ce fp) [] H' b := fun b hb => by
  have z := I.ok.exf b hb
  exact ⟨no b hb, z.1, I.ok.exfs b hb, Or.inl hb, fun x c e => z.2 x c e, fun p hp => by simp at hp⟩
/-- the loop of the block -/
theorem laps {Stop : Hp → Prop} {R : Result → Shared → Prop} (calm : X.calm = true) (room : X.A.units < cLine) (T : Turn X.prog X.w X.K tg J fp it tn) (pg : PG (X.blk sB HB scope ce fp) tg g) (pt : PTs (X.blk sB HB scope ce fp) ifs tt)
    (pk : PE (X.blk sB HB scope ce fp) kx tk) (pv : PE (X.blk sB HB scope ce fp) vx tv)
    (ask : ∀ i m H2, W i m H2 → (J.stop i H2 ∧ Stop H2) ∨ (J.go i H2 ∧ ∀ x H3, J.yld i H2 x H3 → g x (L2.wipe σ vs) H3 fun σ4 H4 => L2.wipe σ4 vs = L2.wipe σ vs ∧ tt σ4 H4 fun b H5 =>
      if b = true then tk σ4 H5 fun y H6 => tv σ4 H6 fun z H7 => ∃ H8, DPut H7 D y z H8 ∧ ∃ m', m' < m ∧ W (i + 1) m' H8 else ∃ m', m' < m ∧ W (i + 1) m' H5))
    (fin : ∀ s' H', Stop H' → Inv (X.blk sB HB scope ce fp) [] (L2.wipe σ vs) H' s' → R (.ok .next) s') {n : Nat} {s : Shared} (b0 : Between (X.blk sB HB scope ce fp) (L2.wipe σ vs) fp tn W n s) :
    codeAny (model X.prog X.w) X.A (.compLoop (.DictComp kx vx [⟨tg, iter, ifs, 0⟩] scope pos) 0 (.ref it) (.ref D) ce) R s := by
  refine compLoop_anyD (Between (X.blk sB HB scope ce fp) (L2.wipe σ vs) fp tn W) (fun left sL b1 => ?_) n b0
  obtain ⟨i, HL, w, st, IL, no⟩ := b1
  rcases ask i left HL w with ⟨ends, q⟩ | ⟨goes, lap⟩
  · refine thnF (T.done (X.blk sB HB scope ce fp) rfl rfl rfl calm i [] sL _ HL (fun _ _ => False) IL (fp_untouched IL no) st ends) fun o s1 h1 => ?_
    obtain ⟨none_, I1⟩ := h1
    subst none_
    exact fin s1 HL q I1
  · refine thnF (T.item (X.blk sB HB scope ce fp) rfl rfl rfl calm i [] sL _ HL (fun _ _ => False) IL (fp_untouched IL no) st goes) fun o s1 h1 => ?_
    obtain ⟨u, some_, h1⟩ := h1
    subst some_
    refine thnF h1 fun _ s2 h2 => ?_
    obtain ⟨x, H2, I2, rx, yx, st2, no2⟩ := h2
    have held := I2.pinned (fp_untouched I2 no2) (T.obj _ _ st2)
    refine thnF (pg.run _ _ _ _ _ _ _ held rx (lap x H2 yx)) fun _ s3 h3 => ?_
    obtain ⟨σ3, H3, I3, same, h3⟩ := h3
    refine thnF (pt.run _ _ _ _ _ I3 h3) fun b s4 h4 => ?_
    obtain ⟨H4, I4, h4⟩ := h4
    cases b
    · exact between_next (Y := X.blk sB HB scope ce fp) T st2 I4 same h4
    · refine thnF (pk.run _ _ _ _ _ I4 h4) fun a s5 h5 => ?_
      obtain ⟨y, H5, I5, ry, h5⟩ := h5
      refine thnF (pv.run _ _ _ _ _ I5 h5) fun c s6 h6 => ?_
      obtain ⟨z, H6, I6, rz, H7, put, w'⟩ := h6
      exact item_in (X := X.blk sB HB scope ce fp) room I6 put ry rz fun s7 I7 => between_next (Y := X.blk sB HB scope ce fp) T st2 I7 same w'
end
section
variable {tg iter kx vx : Expr} {ifs : List Expr} {scope : Scope} {own : List (Str × Nat)} {pos : Pos} {wi : TI} {g : TG} {tt : TT} {tk tv : TE} {o0 : HO}
theorem new_ok {P : Program} {w : World} {H : Hp} (o : o0 = .dK [] ∨ o0 = .dT []) (h : Heap) (big : sysModules < h.objs.size) : ObjOk P w H (h.push { cls := .type "dict", data := .dict #[] }) h.objs.size o0 := by
  rcases o with rfl | rfl
  · exact dk_empty h big
  · exact dt_empty h big
theorem pe_dcAny (o : o0 = .dK [] ∨ o0 = .dT []) (calm : X.calm = true) (room : X.A.units < cLine) (nodup : X.N.Nodup) (hi : PI X tg iter wi) (ok : BlkOk X.N X.env.scope scope own)
    (hg : ∀ (s : Shared) (H : Hp) (C : Addr) (cl : List (Str × Addr)) (fp : List Addr), PG (X.blk s H scope (compEnvC scope cl C X.env) fp) tg g)
    (ht : ∀ (s : Shared) (H : Hp) (C : Addr) (cl : List (Str × Addr)) (fp : List Addr), PTs (X.blk s H scope (compEnvC scope cl C X.env) fp) ifs tt)
    (hk : ∀ (s : Shared) (H : Hp) (C : Addr) (cl : List (Str × Addr)) (fp : List Addr), PE (X.blk s H scope (compEnvC scope cl C X.env) fp) kx tk)
    (hv : ∀ (s : Shared) (H : Hp) (C : Addr) (cl : List (Str × Addr)) (fp : List Addr), PE (X.blk s H scope (compEnvC scope cl C X.env) fp) vx tv)
    (hs : ∀ x, foldedSetIterable iter X.env x = pure x := by intro _; rfl) : PE X (.DictComp kx vx [⟨tg, iter, ifs, 0⟩] scope pos) (tDcAny o0 wi g tt tk tv (own.map (·.2))) := by
  constructor
  intro pins s σ H Q I asked
  rw [arm_eval_DictComp]
  have clo : closureFor scope X.env = pure (cloFrom X.env.cells scope.names []) := closure_ok fun y hy e => (ok.free y hy e).elim (fun k => I.ok.has _ (.inl k)) fun k => I.ok.has _ (.inr k)
  have uniq : ∀ y ∈ scope.names, y.2 = .local → scope.names.lookup y.1 = some .local := fun y hy e => (ok.uniq y hy).trans (congrArg some e)
  refine wpAny_comprehension_free (use := none) rfl hs clo ok.kind uniq (thn (hi.run pins s σ H _ I asked) fun xv s1 came => thn came fun itv s2 iterates => ?_)
  obtain ⟨it, fp, tn, J, H2, rfl, I2, T, st2, fresh2, asked⟩ := iterates
  refine wpAny_newObj_type (newEnv_comp ?_)
  have none2 : H2 s2.heap.objs.size = none := I2.hok.fresh (Nat.le_refl _)
  obtain ⟨W, ⟨m0, w0⟩, asked⟩ := asked _ none2
  have I3 := I2.laid (t' := s2.toks) (o := o0) (fun b u e => Heap.get?_push_of_some { cls := .type "dict", data := .dict #[] } e) (Nat.le_refl _) (new_ok o s2.heap I2.big)
  have older : ∀ b ∈ fp, b < s2.heap.objs.size := fun b hb => by
    obtain ⟨u, e, -⟩ := T.obj _ _ st2 b hb
    exact Heap.lt_size e
  generalize hD : s2.heap.objs.size = D at *
  generalize hh3 : s2.heap.push { cls := .type "dict", data := .dict #[] } = h3 at *
  have kept3 : ∀ b u, s2.heap.get? b = some u → h3.get? b = some u := fun b u e => by rw [← hh3]; exact Heap.get?_push_of_some _ e
  have size3 : h3.objs.size = D + 1 := by rw [← hh3, Heap.size_push, hD]
  have fresh3 : ∀ b ∈ fp, FpOk X pins (upd H2 D o0) b ∧ b < h3.objs.size := fun b hb => by
    have lt := older b hb
    have f := fresh2 b hb
    exact ⟨⟨(upd_ne (Nat.ne_of_lt lt)).trans f.1, f.2⟩, Nat.lt_of_lt_of_le lt (by rw [size3]; exact Nat.le_succ _)⟩
  have I4 := block_start I3 ok nodup fresh3
  have st4 : tn 0 (pushCells (h3.push { cls := .type "dict", data := .dict #[] }) scope.names) := T.keep _ _ _ st2 fun b _ u e => pushCells_keeps _ _ _ _ (Heap.get?_push_of_some _ (kept3 b u e))
  have b0 : Between (X.blk { s2 with heap := h3, toks := s2.toks } (upd H2 D o0) scope (compEnvC scope (cellsFrom (h3.objs.size + 1) scope.names (cloFrom X.env.cells scope.names [])) h3.objs.size X.env) fp) (L2.wipe σ (own.map (·.2))) fp tn W m0
      { s2 with heap := pushCells (h3.push { cls := .type "dict", data := .dict #[] }) scope.names } := ⟨0, _, w0, st4, I4, fun b hb => (fresh3 b hb).1.1⟩
  have loop := laps (R := compPost (model X.prog X.w) X.A X.xe none (EP X pins σ Q) (.ref D) h3.objs.size) (Stop := Q (.ref D)) (iter := iter) (pos := pos) calm room T (hg _ _ _ _ _) (ht _ _ _ _ _) (hk _ _ _ _ _) (hv _ _ _ _ _) asked (fun s' H' q I' => ?_) b0
  · exact codeAny_compStart_dict loop (T.self X.A 0 _ _ _ st4 loop)
  · have back : Inv X pins σ H' s' := I3.call' (ch := fp) I'.os I'.base I'.hok I'.bare fun b hb => by
      obtain ⟨⟨-, f1, -, f3, f4, f5⟩, -⟩ := fresh3 b hb
      exact ⟨f3, f1, f4, f5⟩
    have gone : H' h3.objs.size = none := I'.free
    obtain ⟨f0, f1, f2, f3, f4, f5⟩ := I3.fpOk (H' := H') (Nat.le_refl _) gone
    obtain ⟨m, ns, -⟩ := I'.loc
    exact ⟨m, ns, fun h'' only => ⟨.ref D, H', back.turned (t' := s'.toks) (fun b u hb e => (only.2 b hb).trans e) f0 f1 f3 f4 f5, rfl, q⟩⟩
end
end
end PL
namespace PL
open PySem PySem.Spec PyProof.Rows L2
section
variable {X : Cx} {W : WX} {tg iter kx vx : Expr} {ifs : List Expr} {scope : Scope} {own : List (Str × Nat)} {pos : Pos} {ti : TXI} {g : TXG} {tt : TXT} {tk tv : TX}
def xDcC (ti : TXI) (g : TXG) (tt : TXT) (tk tv : TX) (vs : List Nat) : TX := fun x ρ μ Q => ti x ρ μ fun ds μ1 => ∃ I : Nat → Mem → Prop, I 0 (μ1 ++ [.dC [] []]) ∧
  (∀ i d μ2, ds[i]? = some d → I i μ2 → g xF (.d d) (wipeP ρ vs) μ2 fun ρ3 μ3 => tt xF ρ3 μ3 fun b μ4 => Br b (tk xF ρ3 μ4 fun sk μ5 => tv xF ρ3 μ5 fun sv μ6 => cputS (.c μ1.length) sk sv μ6 (I (i + 1))) (I (i + 1) μ4)) ∧
  ∀ μ2, I ds.length μ2 → Q (.c μ1.length) μ2
theorem at_pre {A B : List Addr} {D : Addr} {k : Nat} (h : A ++ [D] <+: B) (e : A.length = k) : B[k]? = some D := by
  obtain ⟨C, rfl⟩ := h
  subst e
  simp
theorem px_dcC (calm : X.calm = true) (room : X.A.units < cLine) (hN : X.N.Nodup) (hi : PXI X W tg iter ti) (ok : BlkOk X.N X.env.scope scope own)
    (hg : ∀ (s : Shared) (H : Hp) (C : Addr) (cl : List (Str × Addr)) (fp : List Addr), PXG (X.blk s H scope (compEnvC scope cl C X.env) fp) wF (own.map (·.2)) tg g)
    (ht : ∀ (s : Shared) (H : Hp) (C : Addr) (cl : List (Str × Addr)) (fp : List Addr), PXTs (X.blk s H scope (compEnvC scope cl C X.env) fp) wF ifs tt)
    (hk : ∀ (s : Shared) (H : Hp) (C : Addr) (cl : List (Str × Addr)) (fp : List Addr), PX (X.blk s H scope (compEnvC scope cl C X.env) fp) wF kx tk)
    (hv : ∀ (s : Shared) (H : Hp) (C : Addr) (cl : List (Str × Addr)) (fp : List Addr), PX (X.blk s H scope (compEnvC scope cl C X.env) fp) wF vx tv)
    (hs : ∀ x, foldedSetIterable iter X.env x = pure x := by intro _; rfl) : PX X W (.DictComp kx vx [⟨tg, iter, ifs, 0⟩] scope pos) (xDcC ti g tt tk tv (own.map (·.2))) := by
  obtain ⟨wi, hpi, hti⟩ := hi.ex
  refine ⟨(pe_dcAny (o0 := .dT []) (g := liftG X.K wF (own.map (·.2)) g) (tt := liftT X.K wF tt) (tk := lift X.K wF tk) (tv := lift X.K wF tv) (.inr rfl) calm room hN hpi ok (fun s H C cl fp => (hg s H C cl fp).pg) (fun s H C cl fp => (ht s H C cl fp).pt)
    (fun s H C cl fp => (hk s H C cl fp).pe) (fun s H C cl fp => (hv s H C cl fp).pe) hs).imp fun σ H Q h => ?_⟩
  obtain ⟨A, ρ, μ, G, Qp, x, S, ht, hx, k⟩ := h
  refine hti _ _ _ ⟨A, ρ, μ, G, _, x, S, ht, hx, fun ds μ1 A1 G1 H1 J ⟨I, i0, turn, done⟩ c1 s1 w D hD => ?_⟩
  have S1 := S.after s1 c1
  obtain ⟨c2, s2⟩ := S1.toCells.cell (o := .dT []) (cl := .dC [] []) hD ⟨[], upd_same, rfl, .nil⟩
  refine ⟨fun i m H => m = ds.length - i ∧ i ≤ ds.length ∧ ∃ A' G' μ', I i μ' ∧ Cells X.K A' μ' G' H ∧ Step (A1 ++ [D]) G1 (upd H1 D (.dT [])) A' G' H, ⟨ds.length, by simp, Nat.zero_le _, _, _, _, i0, c2, .refl⟩, ?_⟩
  rintro i m H' ⟨rfl, hi, A2, G2, μ2, i2, c2', s2'⟩
  have s12 := s2.trans s2'
  have gz : LeZ G1 H' := s2'.le.trans c2'.le.z
  by_cases hlt : i < ds.length
  · refine .inr ⟨w.goes i H' hlt gz, fun x H3 y => ?_⟩
    obtain ⟨d, G3, e, r, c3, s3⟩ := yd_begin s12.le c2' (w.yields i H' x H3 hlt gz y)
    have S3 : Sim X.K A2 (L2.wipe σ (own.map (·.2))) (wipeP ρ (own.map (·.2))) μ2 G3 H3 := (S1.wipe _).after (s12.trans s3) c3
    refine ⟨A2, _, μ2, G3, .d d, _, xF, S3, r, turn i d μ2 e i2, exF, fun ρ4 μ4 A4 σ4 G4 H4 q4 S4 s4 kp => ⟨Eq.trans kp (wipe_wipe σ _), ?_⟩⟩
    refine ⟨A4, ρ4, μ4, G4, _, xF, S4, q4, exF, fun b μ5 A5 G5 H5 q5 c5 s5 => ?_⟩
    have s35 := ((s2'.trans s3).trans s4).trans s5
    cases b with
    | false => exact ite_ff ⟨_, by omega, rfl, by omega, A5, G5, μ5, q5, c5, s35⟩
    | true =>
      refine ite_tt ⟨A5, ρ4, μ5, G5, _, xF, S4.after s5 c5, q5, exF, fun sk μ6 A6 G6 H6 vk q6 c6 s6 r6 => ?_⟩
      refine ⟨A6, ρ4, μ6, G6, _, xF, S4.after (s5.trans s6) c6, q6, exF, fun sv μ7 A7 G7 H7 vv q7 c7 s7 r7 => ?_⟩
      have s37 := (s35.trans s6).trans s7
      obtain ⟨a, H8, μ8, e1, put, q8, c8, s8⟩ := cput_of q7 c7 ⟨D, at_pre s37.pre c1.len, rfl⟩ (r6.mono s7.pre s7.le) r7
      cases e1
      exact ⟨H8, put, _, by omega, rfl, by omega, A7, G7, μ8, q8, c8, s37.trans s8⟩
  · have e : i = ds.length := by omega
    subst e
    exact .inl ⟨w.stops H' gz, k (.c μ1.length) μ2 A2 G2 H' (.ref D) (done _ i2) c2' (s1.trans s12) ⟨D, at_pre s2'.pre c1.len, rfl⟩⟩
end
end PL
namespace PL
open PySem PySem.Spec PyProof.Rows L2 RZ
def attrK (C f : Str) (s : SV) : M SV := fun μ => match s with
  | .d (.obj C' ns vs) => if C' = C then match findF f ns vs with
    | some d => .ok (.d d) μ
    | none => .no
    else .no
  | .c j => match μ[j]? with
    | some (.inC C' ns vs) => if C' = C then match findF f ns vs with
      | some s => .ok s μ
      | none => .no
      else .no
    | _ => .no
  | _ => .no
def fAttr (C f : Str) (o : FX) : FX := fun ρ => bnd (o ρ) (attrK C f)
open Classical in
noncomputable def fldK (C f : Str) (s so : SV) : M Unit := fun μ => match so with
  | .c j => match μ[j]? with
    | some (.inC C' ns vs) => if (C' = C ∧ ns.length < 1000 ∧ s ≠ .un) then .ok () (μ.set j (.inC C (putFn f ns) (putFv f s ns vs))) else .no
    | _ => .no
  | _ => .no
noncomputable def fFld (C f : Str) (o e : FX) : FS := fun ρ => bnd (e ρ) fun s => bnd (o ρ) fun so => bnd (fldK C f s so) fun _ => ret (.nx ρ)
noncomputable def cgetF (a b : SV) : M SV := fun μ => match a, b with
  | .c j, .d k => match μ[j]? with
    | some (.dC ks vs) => if fitK true k = true then match findS ks vs k with
      | some s => .ok s μ
      | none => .no
      else .no
    | _ => .no
  | _, _ => .no
open Classical in
noncomputable def cputM (j : Nat) (sk s : SV) : M Unit := fun μ => match sk, μ[j]? with
  | .d key, some (.dC ks vs) => if (fitK true key = true ∧ ks.length < sizeLine ∧ s ≠ .un) then .ok () (μ.set j (.dC (putKs ks key) (putSs ks vs key s))) else .no
  | _, _ => .no
noncomputable def dcStep (g : FG) (c : FT) (ek ev : FX) (vs : List Nat) (ρ : FEnv) (j : Nat) (d : D) : M Unit := bnd (g (.d d) (wip ρ vs)) fun ρ2 => bnd (c ρ2) fun k => if k then bnd (ek ρ2) fun sk => bnd (ev ρ2) fun sv => cputM j sk sv else ret ()
def dcLoop (step : D → M Unit) : List D → M Unit
  | [] => fun μ => .ok () μ
  | d :: ds => fun μ => match step d μ with
    | .ok _ μ' => dcLoop step ds μ'
    | _ => .no
noncomputable def fDcC (it : FI) (g : FG) (c : FT) (ek ev : FX) (vs : List Nat) : FX := fun ρ => bnd (it ρ) fun ds μ => match dcLoop (dcStep g c ek ev vs ρ μ.length) ds (μ ++ [.dC [] []]) with
  | .ok _ μ' => .ok (.c μ.length) μ'
  | _ => .no
/-- C(..) -/
noncomputable def makeF (C : Str) (f : List SV → M SV) : List SV → M SV := fun ss μ => if cellsOf ss = [] then match f (.c 0 :: ss) [.inC C [] []] with
  | .ok (.d .non) μ' => match frzS 0 μ' 3 (.c 0) with
    | some d => .ok (.d d) μ
    | none => .no
  | _ => .no
  else .no
def methK (C m : Str) (f : SV → M SV) (s : SV) : M SV := match s with
  | .d (.obj C' ns vs) => if C' = C ∧ (findF m ns vs).isNone = true then f s else fun _ => .no
  | _ => fun _ => .no
noncomputable def fMethO (C m : Str) (f : List SV → M SV) (o : FX) (fl : FA) : FX := fun ρ => bnd (o ρ) (methK C m fun s => bnd (fl ρ) fun ss => callM f (s :: ss))
noncomputable def fMethOF (C m : Str) (f : List SV → M SV) (o : FX) (fl : FA) : FX := fun ρ => bnd (o ρ) (methK C m fun s => bnd (fl ρ) fun ss => callMF f (s :: ss))
section
variable {X : Cx} {W : WX} {a b c e o i tg iter kx vx : Expr} {es ifs : List Expr} {fo fe fi fk fv : FX} {fl : FA} {n : Nat} {pos apos ppos pos' : Pos} {C f m : Str} {g : FG} {ft : FT} {it : FI}
theorem pf_attr (hC : Cls X.K (He.ga X.K C)) (hN : NoAttr X.K (He.ga X.K C) f) (he : PX X W e (toX n fe)) (hb : attributeBase e f X.env (eval e X.env) = eval e X.env := by rfl) : PX X W (.Attribute e f pos) (toX n (fAttr C f fe)) :=
  (px_attr hC hN he hb).to fun x ρ μ Q ⟨hn, h⟩ => ⟨hn, R.mono (fin_bnd.mp h) fun s μ1 h1 => by
    unfold attrK at h1
    split at h1
    · split at h1
      · rename_i e1
        split at h1
        · rename_i e2; subst e1; exact ⟨rfl, by show on _ _; rw [e2]; exact h1⟩
        · exact h1.elim
      · exact h1.elim
    · split at h1
      · rename_i hk
        try simp only [hk]
        split at h1
        · rename_i e1
          split at h1
          · rename_i e2; subst e1; exact ⟨rfl, by show on _ _; rw [e2]; exact h1⟩
          · exact h1.elim
        · exact h1.elim
      · exact h1.elim
    · exact h1.elim⟩
theorem pfs_fld (hC : Cls X.K (He.ga X.K C)) (hN : NoAttr X.K (He.ga X.K C) f) (ho : PX X W o (toX n fo)) (he : PX X W e (toX n fe)) (hs : swapsWith e (some (.Attribute o f pos')) pos.line X.env = pure false := by rfl) : PXS X W (.Assign [.Attribute o f pos'] e pos) (toS n (fFld C f fo fe)) :=
  (psx_fld hC hN ho he hs).to fun E ρ μ ⟨hn, h⟩ => ⟨hn, R.mono (fin_bnd.mp h) fun s μ1 h1 => ⟨hn, R.mono (fin_bnd.mp h1) fun so μ2 h2 => by
    have h2 := fin_bnd.mp h2
    unfold fldK at h2
    split at h2
    · split at h2
      · rename_i hk
        split at h2
        · rename_i q
          try simp only [hk]
          refine ⟨q, ?_⟩
          rw [← env_eq ρ hn]
          exact h2
        · exact h2.elim
      · exact h2.elim
    · exact h2.elim⟩⟩
theorem pf_cget (hu : X.A.units + 1 < cLine) (ha : PX X W a (toX n fo)) (hb : PX X W b (toX n fi)) (hs : NoSl b := by intro _ _; rfl) : PX X W (.Subscript a b pos) (toX n (fOp cgetF fo fi)) :=
  pf_op (px_cget hu ha hb hs) (fun sa sb μ x Q h1 => by
    unfold cgetF at h1
    split at h1
    · split at h1
      · rename_i hk
        split at h1
        · rename_i q
          split at h1
          · rename_i e2
            unfold pCGet
            try simp only [hk]
            exact ⟨q, by show on _ _; rw [e2]; exact h1⟩
          · exact h1.elim
        · exact h1.elim
      · exact h1.elim
    · exact h1.elim)
theorem cputM_ok {j : Nat} {sk s : SV} {μ : Mem} {x : XP} {q : Unit → Mem → Prop} (h : (cputM j sk s μ).fin x q) : cputS (.c j) sk s μ (q ()) := by
  unfold cputM at h
  split at h
  · rename_i hk
    split at h
    · rename_i z
      unfold cputS
      try simp only [hk]
      exact ⟨z, h⟩
    · exact h.elim
  · exact h.elim
def dcEnd (Q : Mem → Prop) : R Unit → Prop
  | .ok _ μ => Q μ
  | _ => False
theorem to_dcC {vs : List Nat} (x : XP) (ρ : Env') (μ : Mem) (Q : VP) (h : toX n (fDcC it g ft fk fv vs) x ρ μ Q) : xDcC (toI n it) (toG n g) (toT n ft) (toX n fk) (toX n fv) vs x ρ μ Q := by
  obtain ⟨hn, h⟩ := h
  refine ⟨hn, R.mono (fin_bnd.mp h) fun ds μ1 h1 => ?_⟩
  refine ⟨fun i μ => dcEnd (Q (.c μ1.length)) (dcLoop (dcStep g ft fk fv vs ρ.f μ1.length) (ds.drop i) μ), ?_, ?_, ?_⟩
  · show dcEnd _ (dcLoop _ ds _)
    revert h1
    show ((match dcLoop (dcStep g ft fk fv vs ρ.f μ1.length) ds (μ1 ++ [.dC [] []]) with
      | .ok _ μ' => .ok (.c μ1.length) μ'
      | _ => .no : R SV).fin x Q) → _
    intro h1
    split at h1
    · rename_i e; rw [e]; exact h1
    · exact h1.elim
  · rintro i d μ hd h2
    rw [drop_at hd] at h2
    unfold dcLoop at h2
    have key : (dcStep g ft fk fv vs ρ.f μ1.length d μ).fin xF fun _ μ' => dcEnd (Q (.c μ1.length)) (dcLoop (dcStep g ft fk fv vs ρ.f μ1.length) (ds.drop (i + 1)) μ') := by
      revert h2
      show dcEnd _ (match dcStep g ft fk fv vs ρ.f μ1.length d μ with
        | .ok _ μ' => dcLoop (dcStep g ft fk fv vs ρ.f μ1.length) (ds.drop (i + 1)) μ'
        | _ => .no) → _
      intro h2
      split at h2
      · rename_i e; rw [e]; exact h2
      · exact h2.elim
    unfold dcStep at key
    rw [wip_eq]
    refine ⟨hn, R.mono (fin_bnd.mp key) fun ρ2 μ2 h3 => ⟨rfl, R.mono (fin_bnd.mp h3) fun k μ3 h4 => ?_⟩⟩
    cases k with
    | false => exact h4
    | true => exact ⟨rfl, R.mono (fin_bnd.mp h4) fun sk μ4 h5 => ⟨rfl, R.mono (fin_bnd.mp h5) fun sv μ5 h6 => cputM_ok h6⟩⟩
  · intro μ h2
    rw [List.drop_length] at h2
    exact h2
theorem pf_dcC {scope : Scope} {own : List (Str × Nat)} (calm : X.calm = true) (room : X.A.units < cLine) (hN : X.N.Nodup) (hi : PXI X W tg iter (toI n it)) (ok : BlkOk X.N X.env.scope scope own)
    (hg : ∀ (s : Shared) (H : Hp) (C : Addr) (cl : List (Str × Addr)) (fp : List Addr), PXG (X.blk s H scope (compEnvC scope cl C X.env) fp) wF (own.map (·.2)) tg (toG n g))
    (ht : ∀ (s : Shared) (H : Hp) (C : Addr) (cl : List (Str × Addr)) (fp : List Addr), PXTs (X.blk s H scope (compEnvC scope cl C X.env) fp) wF ifs (toT n ft))
    (hk : ∀ (s : Shared) (H : Hp) (C : Addr) (cl : List (Str × Addr)) (fp : List Addr), PX (X.blk s H scope (compEnvC scope cl C X.env) fp) wF kx (toX n fk))
    (hv : ∀ (s : Shared) (H : Hp) (C : Addr) (cl : List (Str × Addr)) (fp : List Addr), PX (X.blk s H scope (compEnvC scope cl C X.env) fp) wF vx (toX n fv))
    (hs : ∀ x, foldedSetIterable iter X.env x = pure x := by intro _; rfl) : PX X W (.DictComp kx vx [⟨tg, iter, ifs, 0⟩] scope pos) (toX n (fDcC it g ft fk fv (own.map (·.2)))) := (px_dcC calm room hN hi ok hg ht hk hv hs).to to_dcC
variable {k k' : Nat} {ps : List Str} {p : List SV → M SV}
theorem pf_make (h : HasM X.prog X.w X.K X.mg X.base k C "__init__" ps (pF p)) (M : Mk X.K (He.ga X.K C) (He.fAd X.K (C, some "__init__"))) (hm : X.mg C = some (.ref (He.ga X.K C))) (tk : Takes X W) (hr : Room k' X.A) (hle : k + 1 ≤ k') (hg : Gl X C)
    (ha : PXA X W (e :: es) (toA n fl)) (hdb : (C == ("__debug__" : Str)) = false := by decide) (he : starEach (e :: es) X.env = (false, eval e X.env) :: starEach es X.env := by rfl) (hpl : (backTo pos (starEach es X.env)).any (·.1) = false := by rfl) :
    PX X W (.Call (.Name C ppos) (e :: es) [] pos) (toX n (fCall (makeF C p) fl)) :=
  (px_make h M hm tk hr hle hg ha hdb he hpl).to fun x ρ μ Q ⟨hn, h⟩ => ⟨hn, R.mono (fin_bnd.mp h) fun ss μ1 h1 => by
    unfold makeF at h1
    split at h1
    · rename_i e1
      refine ⟨e1, ?_⟩
      show (p _ _).fin _ _
      split at h1
      · rename_i e2
        rw [e2]
        refine ⟨rfl, ?_⟩
        show on _ _
        split at h1
        · rename_i e3; rw [e3]; exact h1
        · exact h1.elim
      · exact h1.elim
    · exact h1.elim⟩
theorem methK_ok {F : SV → M SV} {s : SV} {μ : Mem} {x : XP} {Q : VP} (h : (methK C m F s μ).fin x Q) : ∃ ns vs, s = .d (.obj C ns vs) ∧ findF m ns vs = none ∧ (F s μ).fin x Q := by
  unfold methK at h
  split at h
  · split at h
    · rename_i q
      obtain ⟨rfl, q⟩ := q
      exact ⟨_, _, rfl, Option.isNone_iff_eq_none.mp q, h⟩
    · exact h.elim
  · exact h.elim
theorem pf_meth {pl : Sem Bool} (h : HasM X.prog X.w X.K X.mg X.base k C m ps (pF p)) (hC : Cls X.K (He.ga X.K C)) (hM : Meth X.K (He.ga X.K C) m (He.fAd X.K (C, some m))) (tk : Takes X W) (hr : Room k' X.A) (hle : k ≤ k') (ho : PX X W o (toX n fo))
    (ha : PXA X W (e :: es) (toA n fl)) (hst : starEach (e :: es) X.env = (false, eval e X.env) :: starEach es X.env := by rfl) (hpl : (backTo pos (starEach es X.env)).any (·.1) = false := by rfl)
    (ht : eval (.Call (.Attribute o m apos) (e :: es) [] pos) X.env = (do
      let ov ← eval o X.env
      standAt apos.atName
      let (f, first) ← holding [ov] (getMethod ov m pl)
      callWith pos f first (backTo pos (starEach (e :: es) X.env)) (backToKw pos (keywordEach [] X.env))) := by rfl) :
    PX X W (.Call (.Attribute o m apos) (e :: es) [] pos) (toX n (fMethO C m p fo fl)) :=
  (px_meth (F := false) h hC hM tk hr hle ho ha hst hpl ht).to fun x ρ μ Q ⟨hn, h⟩ => ⟨hn, R.mono (fin_bnd.mp h) fun s μ1 h1 => by
    obtain ⟨ns, vs, rfl, e1, h2⟩ := methK_ok h1
    exact ⟨⟨rfl, e1⟩, hn, R.mono (fin_bnd.mp h2) fun ss μ2 h3 => callM_ok h3⟩⟩
theorem pf_methF {pl : Sem Bool} (h : HasM X.prog X.w X.K X.mg X.base k C m ps (pF p)) (hC : Cls X.K (He.ga X.K C)) (hM : Meth X.K (He.ga X.K C) m (He.fAd X.K (C, some m))) (tk : Takes X W) (hr : Room k' X.A) (hle : k ≤ k') (ho : PX X W o (toX n fo))
    (ha : PXA X W (e :: es) (toA n fl)) (hst : starEach (e :: es) X.env = (false, eval e X.env) :: starEach es X.env := by rfl) (hpl : (backTo pos (starEach es X.env)).any (·.1) = false := by rfl)
    (ht : eval (.Call (.Attribute o m apos) (e :: es) [] pos) X.env = (do
      let ov ← eval o X.env
      standAt apos.atName
      let (f, first) ← holding [ov] (getMethod ov m pl)
      callWith pos f first (backTo pos (starEach (e :: es) X.env)) (backToKw pos (keywordEach [] X.env))) := by rfl) :
    PX X W (.Call (.Attribute o m apos) (e :: es) [] pos) (toX n (fMethOF C m p fo fl)) :=
  (px_meth (F := true) h hC hM tk hr hle ho ha hst hpl ht).to fun x ρ μ Q ⟨hn, h⟩ => ⟨hn, R.mono (fin_bnd.mp h) fun s μ1 h1 => by
    obtain ⟨ns, vs, rfl, e1, h2⟩ := methK_ok h1
    exact ⟨⟨rfl, e1⟩, hn, R.mono (fin_bnd.mp h2) fun ss μ2 h3 => callMF_ok h3⟩⟩
end
section
variable {P : Program} {w : World} {K : PySem.W.Frag} {mg : Str → Option Value} {base : Heap}
theorem hasM_f {C m qual : Str} {st : Stmt} {N ps : List Str} {k n q : Nat} {b : FS} (D : MDef K C m qual st) (S : FnScope N ps (defScope st)) (B : BindM m qual st ps) (hn : N.length = n) (hq : ps.length = q) (hl : q ≤ n)
    (hb : ∀ (f : Addr) (cdv : Value) (A : Around) (outer : List Env) (s : Shared) (H : Hp) (E : XK), Room k (A.deeper (envOfC qual (defScope st) s.heap.objs.size f cdv)) →
      PXSs (cxOf (L2.CX P w) P w K mg base N qual (defScope st) f cdv A outer s H E) (fun cls d _ H => E cls d H) (defBody st) (toS n b)) : HasM P w K mg base (k + 1) C m ps (pF (fDef q b)) := by
  refine hasM_p D S B (fun x as μ Q h => ?_) hb fun x as μ Q h => ?_
  · unfold pF fDef at h
    split at h
    · rename_i e; exact e.trans hq.symm
    · exact h.elim
  · unfold pF fDef at h
    split at h
    · rename_i e
      refine ⟨by show as.length + (N.length - as.length) = n; rw [hn, e]; omega, ?_⟩
      show (b (fstart as) μ).fin x _
      split at h
      · rename_i e2; rw [e2]; exact h
      · rename_i e2; rw [e2]; exact h
      · exact h.elim
      · rename_i e2; rw [e2]; exact h
      · exact h.elim
    · exact h.elim
end
section
variable {C f m : Str} {o e : FX} {fl : FA} {ρ : FEnv} {μ μ' : Mem} {ns : List Str} {vs : List D} {ss us : List SV} {s : SV} {j : Nat} {d : D} {ks : List D}
@[simp ↓] theorem fAttr_s : fAttr C f o ρ μ = bR (o ρ μ) (attrK C f) := bnd_s
theorem attrK_d (h : findF f ns vs = some d) : attrK C f (.d (.obj C ns vs)) μ = .ok (.d d) μ := by simp only [attrK, if_true, h]
theorem attrK_c (h : μ[j]? = some (.inC C ns us)) (h2 : findF f ns us = some s) : attrK C f (.c j) μ = .ok s μ := by simp only [attrK, h, if_true, h2]
@[simp ↓] theorem fFld_s : fFld C f o e ρ μ = bR (e ρ μ) fun s => bnd (o ρ) fun so => bnd (fldK C f s so) fun _ => ret (.nx ρ) := bnd_s
theorem fldK_c (h : μ[j]? = some (.inC C ns us)) (hz : ns.length < 1000) (hs : s ≠ .un) : fldK C f s (.c j) μ = .ok () (μ.set j (.inC C (putFn f ns) (putFv f s ns us))) := by
  simp only [fldK, h]
  rw [if_pos ⟨rfl, hz, hs⟩]
theorem cgetF_c (h : μ[j]? = some (.dC ks us)) (hf : fitK true d = true) (h2 : findS ks us d = some s) : cgetF (.c j) (.d d) μ = .ok s μ := by simp only [cgetF, h, hf, if_true, h2]
theorem cputM_c (h : μ[j]? = some (.dC ks us)) (hf : fitK true d = true) (hz : ks.length < sizeLine) (hs : s ≠ .un) : cputM j (.d d) s μ = .ok () (μ.set j (.dC (putKs ks d) (putSs ks us d s))) := by
  simp only [cputM, h]
  rw [if_pos ⟨hf, hz, hs⟩]
noncomputable def dcK (step : Nat → D → M Unit) (ds : List D) : M SV := fun μ => match dcLoop (step μ.length) ds (μ ++ [.dC [] []]) with
  | .ok _ μ' => .ok (.c μ.length) μ'
  | _ => .no
@[simp ↓] theorem fDcC_s {it : FI} {g : FG} {c : FT} {ek ev : FX} {vs : List Nat} : fDcC it g c ek ev vs ρ μ = bR (it ρ μ) (dcK (dcStep g c ek ev vs ρ)) := bnd_s
theorem makeF_ok {f : List SV → M SV} (h : cellsOf ss = []) (h2 : f (.c 0 :: ss) [.inC C [] []] = .ok (.d .non) μ') (h3 : frzS 0 μ' 3 (.c 0) = some d) : makeF C f ss μ = .ok (.d d) μ := by
  simp only [makeF, h, if_true, h2, h3]
@[simp ↓] theorem fMethO_s {f : List SV → M SV} : fMethO C m f o fl ρ μ = bR (o ρ μ) (methK C m fun s => bnd (fl ρ) fun ss => callM f (s :: ss)) := bnd_s
@[simp ↓] theorem fMethOF_s {f : List SV → M SV} : fMethOF C m f o fl ρ μ = bR (o ρ μ) (methK C m fun s => bnd (fl ρ) fun ss => callMF f (s :: ss)) := bnd_s
theorem methK_d {F : SV → M SV} (h : (findF m ns vs).isNone = true) : methK C m F (.d (.obj C ns vs)) μ = F (.d (.obj C ns vs)) μ := by
  simp only [methK]
  rw [if_pos ⟨trivial, h⟩]
end
end PL
namespace PL
open PySem PySem.Spec PyProof.Rows L2
section
variable {X : Cx} {W : WX} {a b c e o tg iter elt tg1 iter1 k v : Expr} {es ifs ifs1 : List Expr} {ta tb tc te to tk tv : TX} {tL : TXA} {pos p : Pos} {g g1 : TXG} {ti ti1 : TXI} {tt tt1 : TXT}
/-- a, b, c = .. -/
def xPar3 (i j l : Nat) (t : TXA) : TXS := fun E ρ μ => t E.ex ρ μ fun ss μ1 => match ss with
  | [s, r, q] => E.nx (((ρ.set i s).set j r).set l q) μ1
  | _ => False
theorem psx_par3 {i j l : Nat} {x y z : Str} {px py pz pt : Pos} {kt k2 pt2} (hc : X.calm = true) (hN : X.N.Nodup) (hi : X.N[i]? = some x) (hj : X.N[j]? = some y) (hl : X.N[l]? = some z) (hij : i ≠ j) (hil : i ≠ l) (hjl : j ≠ l)
    (hx : X.env.scope.names.lookup x = some .local) (hy : X.env.scope.names.lookup y = some .local) (hz : X.env.scope.names.lookup z = some .local) (ha : PXA X W [a, b, c] tL)
    (hw : swappedStores [.Tuple [.Name x px, .Name y py, .Name z pz] kt pt] (.Tuple [a, b, c] k2 pt2) X.env = pure (some [x, y, z]))
    (hs : swapsWithSole [.Tuple [.Name x px, .Name y py, .Name z pz] kt pt] (.Tuple [a, b, c] k2 pt2) pos.line X.env = pure false := by rfl) :
    PXS X W (.Assign [.Tuple [.Name x px, .Name y py, .Name z pz] kt pt] (.Tuple [a, b, c] k2 pt2) pos) (xPar3 i j l tL) := by
  refine ⟨(ps_par3 hc hN hi hj hl hij hil hjl hx hy hz ha.pa hw hs).imp fun D σ H h => ?_⟩
  obtain ⟨A, ρ, μ, G, E, S, ht, k⟩ := h
  refine ⟨A, ρ, μ, G, _, _, S, ht, k.ex, fun ss μ1 A1 G1 H1 vs q c1 s1 r1 => ?_⟩
  match ss, r1, q with
  | [s, r, t], .cons h1 (.cons h2 (.cons h3 .nil)), q => exact ⟨_, _, _, rfl, k.nx _ _ _ _ _ _ q ((((S.after s1 c1).set i h1).set j h2).set l h3) s1⟩
def tOne (o0 : HO) (tk tv : TE) : TE := fun σ H Q => ∀ p, H p = none → tk σ (upd H p o0) fun x H1 => tv σ H1 fun y H2 => ∃ H3, DPut H2 p x y H3 ∧ Q (.ref p) H3
theorem pe_one {o0 : HO} {tk tv : TE} (o : o0 = .dK [] ∨ o0 = .dT []) (room : X.A.units < cLine) (hk : PE X k tk) (hv : PE X v tv) : PE X (.Dict [some k] [v] pos) (tOne o0 tk tv) := by
  constructor
  intro pins s σ H Q I asked
  rw [arm_eval_Dict, zip_pairTrees [some k] [v] X.env pos rfl rfl, dictDisplay_pairs _ (by simp [pairTrees]) (by simp [pairTrees])]
  refine wpAny_bind (wpAny_standAt (wpAny_bind ?_))
  unfold subDict
  refine wpAny_bind (wpAny_alloc (wpAny_bind (wpAny_holding ?_)))
  rw [if_pos (by simp [pairTrees])]
  have I1 := I.laid (t' := s.toks) (o := o0) (fun b u e => Heap.get?_push_of_some { cls := .type "dict", data := .dict #[] } e) (Nat.le_refl _) (new_ok o s.heap I.big)
  refine wpAny_bind (pairTrees_cons_walk (thn (hk.run _ _ _ _ _ I1 (asked _ (I.hok.fresh (Nat.le_refl _)))) fun kv s2 h2 => ?_))
  obtain ⟨x, H2, I2, rx, h2⟩ := h2
  refine thn (hv.run _ _ _ _ _ I2 h2) fun vv s3 h3 => ?_
  obtain ⟨y, H3, I3, ry, H4, put, q⟩ := h3
  refine pairTrees_nil_walk (wpAny_holding ?_)
  rw [List.forIn_cons]
  refine wpAny_bind (wpAny_bind ?_)
  show wpAny _ _ (dictSet s.heap.objs.size kv vv >>= fun _ => pure (ForInStep.yield PUnit.unit)) _ _ _
  refine wpAny_bind (item_in room I3 put rx ry fun s4 I4 => wpAny_pure ?_)
  exact wpAny_pure (wpAny_pure (wpAny_pure (wpAny_pure ⟨.ref s.heap.objs.size, H4, I4, rfl, q⟩)))
/-- .. a dict of one's own, data under tuples -/
def xOneT (tk tv : TX) : TX := fun x ρ μ Q => tk x ρ (μ ++ [.dT [] []]) fun sk μ1 => tv x ρ μ1 fun sv μ2 => match sk, sv, μ2[μ.length]? with
  | .d key, .d d, some (.dT [] []) => fitK true key = true ∧ Q (.c μ.length) (μ2.set μ.length (.dT [key] [d]))
  | _, _, _ => False
theorem px_oneT (room : X.A.units < cLine) (hk : PX X W k tk) (hv : PX X W v tv) : PX X W (.Dict [some k] [v] pos) (xOneT tk tv) := by
  refine ⟨(pe_one (o0 := .dT []) (.inr rfl) room hk.pe hv.pe).imp fun σ H Q h => ?_⟩
  obtain ⟨A, ρ, μ, G, Qp, xp, S, ht, hx, kk⟩ := h
  intro p hp
  obtain ⟨c1, s1⟩ := S.toCells.cell (o := .dT []) (cl := .dT [] []) hp ⟨[], upd_same, rfl, .nil⟩
  refine ⟨_, ρ, _, G, _, xp, S.after s1 c1, ht, hx.after s1, fun sk μ1 A1 G1 H1 y q1 c2 s2 r1 => ?_⟩
  have s12 := s1.trans s2
  refine ⟨A1, ρ, μ1, G1, _, xp, S.after s12 c2, q1, hx.after s12, fun sv μ2 A2 G2 H2 z q2 c3 s3 r2 => ?_⟩
  have s13 := s12.trans s3
  have hA : A2[μ.length]? = some p := at_pre ((s2.trans s3).pre) S.toCells.len
  match sk, sv, hm : μ2[μ.length]?, q2, r1, r2 with
  | .d key, .d d, some (.dT [] []), q, r1, r2 =>
    obtain ⟨hf, q⟩ := q
    obtain ⟨kvs, h1, h2, -⟩ := c3.ok _ _ _ hA hm
    obtain rfl : kvs = [] := by cases kvs with
      | nil => rfl
      | cons a l => simp at h2
    obtain ⟨k', rfl⟩ := fitT hf
    obtain ⟨b, rfl, hb⟩ := tupKey_val c3.le (RepS.mono s3.pre s3.le (s := .d _) r1)
    obtain ⟨c4, s4⟩ := c3.write (o := .dT [(k', z)]) (cl := .dT [.tup (k'.map keyD)] [d]) hA ⟨[(k', z)], upd_same, rfl, .cons r2 .nil⟩
    refine ⟨_, .inr ⟨[], k', b, h1, rfl, hb, by rw [sizeLine_eq]; simp, rfl⟩, kk (.c μ.length) _ A2 G2 _ (.ref p) q c4 (s13.trans s4) ⟨p, hA, rfl⟩⟩
end
end PL
namespace PL
open PySem PySem.Spec PyProof.Rows L2 RZ
def parK3 (i j l : Nat) (ρ : FEnv) (ss : List SV) : M Out := match ss with
  | [s, r, q] => ret (.nx (put (put (put ρ i s) j r) l q))
  | _ => fun _ => .no
def fPar3 (i j l : Nat) (t : FA) : FS := fun ρ => bnd (t ρ) (parK3 i j l ρ)
def oneK (j : Nat) (sk sv : SV) : M SV := fun μ => match sk, sv, μ[j]? with
  | .d key, .d d, some (.dT [] []) => if fitK true key = true then .ok (.c j) (μ.set j (.dT [key] [d])) else .no
  | _, _, _ => .no
def fOneT (fk fv : FX) : FX := fun ρ μ => bnd (fk ρ) (fun sk => bnd (fv ρ) fun sv => oneK μ.length sk sv) (μ ++ [.dT [] []])
section
variable {X : Cx} {W : WX} {a b c e o tg iter elt tg1 iter1 k v : Expr} {ifs ifs1 : List Expr} {fe fk fv : FX} {fl : FA} {n : Nat} {pos p : Pos} {g g1 : FG} {ft fu : FT} {it it1 : FI}
theorem pfs_par3 {i j l : Nat} {x y z : Str} {px py pz pt : Pos} {kt k2 pt2} (hc : X.calm = true) (hN : X.N.Nodup) (hi : X.N[i]? = some x) (hj : X.N[j]? = some y) (hl : X.N[l]? = some z) (hij : i ≠ j) (hil : i ≠ l) (hjl : j ≠ l)
    (hx : X.env.scope.names.lookup x = some .local) (hy : X.env.scope.names.lookup y = some .local) (hz : X.env.scope.names.lookup z = some .local) (ha : PXA X W [a, b, c] (toA n fl))
    (hw : swappedStores [.Tuple [.Name x px, .Name y py, .Name z pz] kt pt] (.Tuple [a, b, c] k2 pt2) X.env = pure (some [x, y, z]))
    (hs : swapsWithSole [.Tuple [.Name x px, .Name y py, .Name z pz] kt pt] (.Tuple [a, b, c] k2 pt2) pos.line X.env = pure false := by rfl) :
    PXS X W (.Assign [.Tuple [.Name x px, .Name y py, .Name z pz] kt pt] (.Tuple [a, b, c] k2 pt2) pos) (toS n (fPar3 i j l fl)) :=
  (psx_par3 hc hN hi hj hl hij hil hjl hx hy hz ha hw hs).to fun E ρ μ ⟨hn, h⟩ => ⟨hn, R.mono (fin_bnd.mp h) fun ss μ1 h1 => by
    match ss, h1 with
    | [s, r, q], h1 =>
      show E.nx (((ρ.set i s).set j r).set l q) μ1
      rw [← set_put _ _ q (by exact hn), ← set_put _ _ r (by exact hn), ← set_put ρ _ s hn]
      exact h1⟩
theorem pf_oneT (room : X.A.units < cLine) (hk : PX X W k (toX n fk)) (hv : PX X W v (toX n fv)) : PX X W (.Dict [some k] [v] pos) (toX n (fOneT fk fv)) :=
  (px_oneT room hk hv).to fun x ρ μ Q ⟨hn, h⟩ => ⟨hn, R.mono (fin_bnd.mp h) fun sk μ1 h1 => ⟨hn, R.mono (fin_bnd.mp h1) fun sv μ2 h2 => by
    unfold oneK at h2
    split at h2
    · rename_i hk
      try simp only [hk]
      split at h2
      · rename_i q; exact ⟨q, h2⟩
      · exact h2.elim
    · exact h2.elim⟩⟩
end
section
variable {ρ : FEnv} {μ : Mem} {fk fv : FX} {t : FA} {i j l : Nat} {key d : D} {s r q : SV}
@[simp ↓] theorem fPar3_s : fPar3 i j l t ρ μ = bR (t ρ μ) (parK3 i j l ρ) := bnd_s
@[simp] theorem parK3_s : parK3 i j l ρ [s, r, q] μ = .ok (.nx (put (put (put ρ i s) j r) l q)) μ := rfl
@[simp ↓] theorem fOneT_s : fOneT fk fv ρ μ = bR (fk ρ (μ ++ [.dT [] []])) (fun sk => bnd (fv ρ) fun sv => oneK μ.length sk sv) := bnd_s
theorem oneK_s (h : μ[j]? = some (.dT [] [])) (hf : fitK true key = true) : oneK j (.d key) (.d d) μ = .ok (.c j) (μ.set j (.dT [key] [d])) := by
  simp only [oneK, h, hf, if_true]
end
end PL
namespace PL
open PySem PySem.Spec PyProof.Rows L2 RZ
def fNewC : FX := fun _ μ => .ok (.c μ.length) (μ ++ [.dC [] []])
noncomputable def cputK (so si s : SV) : M Unit := match so with
  | .c k => cputM k si s
  | _ => fun _ => .no
noncomputable def fCPut (o i e : FX) : FS := fun ρ => bnd (e ρ) fun s => bnd (o ρ) fun so => bnd (i ρ) fun si => bnd (cputK so si s) fun _ => ret (.nx ρ)
section
variable {X : Cx} {W : WX} {o i e : Expr} {fo fi fe : FX} {n : Nat} {pos pos' : Pos}
end
section
variable {ρ : FEnv} {μ : Mem} {o i e : FX} {k : Nat} {si s : SV}
@[simp ↓] theorem fNewC_s : fNewC ρ μ = .ok (.c μ.length) (μ ++ [.dC [] []]) := rfl
@[simp ↓] theorem fCPut_s : fCPut o i e ρ μ = bR (e ρ μ) fun s => bnd (o ρ) fun so => bnd (i ρ) fun si => bnd (cputK so si s) fun _ => ret (.nx ρ) := bnd_s
@[simp] theorem cputK_c : cputK (.c k) si s = cputM k si s := rfl
end
end PL
namespace PL
open PySem PySem.Spec PyProof.Rows L2
section
variable {X : Cx} {W : WX} {a b : Expr} {ta tb : TX} {pos : Pos}
end
end PL
namespace PL
open PySem PySem.Spec PyProof.Rows L2 RZ
noncomputable def mulEF (a b : SV) : M SV := fun μ => match a, b with
  | .d (.tup []), .d (.int j) => grd (0 ≤ j ∧ j ≤ 1000) (ret a) μ
  | .d (.ntp []), .d (.int j) => grd (0 ≤ j ∧ j ≤ 1000) (ret a) μ
  | a, b => mulF a b μ
section
variable {X : Cx} {W : WX} {a b : Expr} {fa fb : FX} {n : Nat} {pos : Pos}
variable {l : List D} {j : Int} {μ : Mem}
@[simp] theorem mulEF_n0 : mulEF (.d (.ntp [])) (.d (.int j)) μ = grd (0 ≤ j ∧ j ≤ 1000) (ret (.d (.ntp []))) μ := rfl
@[simp] theorem mulEF_t0 : mulEF (.d (.tup [])) (.d (.int j)) μ = grd (0 ≤ j ∧ j ≤ 1000) (ret (.d (.tup []))) μ := rfl
end
end PL
namespace PL
open PySem PySem.Spec PyProof.Rows L2
section
variable {X : Cx} {W : WX} {o e f : Expr} {to te tf : TX} {pos apos cpos : Pos} {ps : List Str} {p : PSp} {k k' : Nat} {C m : Str}
theorem isD_of {K : PySem.W.Frag} {G H : Hp} {a : Addr} : ∀ {z : Bool × List D × List D}, DicAt K G H a z → IsD H a
  | (false, _, _), ⟨kvs, h, _⟩ => .inl ⟨kvs, h⟩
  | (true, _, _), ⟨kvs, h, _⟩ => .inr ⟨kvs, h⟩
end
end PL
namespace PL
open PySem PySem.Spec PyProof.Rows L2 RZ
noncomputable def get2K (sd sk sx : SV) : M SV := fun μ => match sk with
  | .d key => match dicOf sd μ with
    | some z => grd (fitK z.1 key = true) (ret (match findD z.2.1 z.2.2 key with
      | some d => .d d
      | none => sx)) μ
    | none => .no
  | _ => .no
def isDicK (s : SV) (m : M SV) : M SV := fun μ => if (dicOf s μ).isSome = true then m μ else .no
noncomputable def fGet2 (o e f : FX) : FX := fun ρ => bnd (o ρ) fun s => isDicK s (bnd (e ρ) fun t => bnd (f ρ) fun u => get2K s t u)
noncomputable def fMeth0 (C m : Str) (f : List SV → M SV) (o : FX) : FX := fun ρ => bnd (o ρ) (methK C m fun s => callM f [s])
section
variable {X : Cx} {W : WX} {o e f : Expr} {fo fe ff : FX} {n : Nat} {pos apos cpos : Pos} {ps : List Str} {p : List SV → M SV} {k k' : Nat} {C m : Str}
end
section
variable {ρ : FEnv} {μ : Mem} {o e f : FX} {s sx : SV} {key d : D} {ks vs : List D} {t : Bool} {C m : Str}
@[simp ↓] theorem fGet2_s : fGet2 o e f ρ μ = bR (o ρ μ) fun s => isDicK s (bnd (e ρ) fun t => bnd (f ρ) fun u => get2K s t u) := bnd_s
theorem isDicK_s {m : M SV} (h : (dicOf s μ).isSome = true) : isDicK s m μ = m μ := by unfold isDicK; rw [if_pos h]
@[simp ↓] theorem fMeth0_s {p : List SV → M SV} : fMeth0 C m p o ρ μ = bR (o ρ μ) (methK C m fun s => callM p [s]) := bnd_s
end
end PL
namespace PL
open PySem PySem.Spec PyProof.Rows L2
section
variable {X : Cx} {W : WX} {e : Expr} {tL : TXA} {p pos : Pos}
end
end PL
namespace PL
open PySem PySem.Spec PyProof.Rows L2 RZ
def lenWF : List SV → M SV := fun ss μ => match ss with
  | [s] => match dicOf s μ with
    | some z => .ok (.d (.int (z.2.1.length : Nat))) μ
    | none => .no
  | _ => .no
section
variable {X : Cx} {W : WX} {e : Expr} {fl : FA} {n : Nat} {p pos : Pos}
variable {μ : Mem} {t : Bool} {ks vs : List D} {s : SV}
@[simp] theorem lenWF_d : lenWF [.d (.dic t ks vs)] μ = .ok (.d (.int ks.length)) μ := rfl
end
end PL
namespace PL
open PySem PySem.Spec PyProof.Rows L2 RZ
section
variable {K : PySem.W.Frag} {A1 A2 : List Addr} {G H H' : Hp} {μ : Mem} {kc : Nat} {ac : Addr} {ds : List D}
end
section
variable {X : Cx} {W : WX} {a b c e tg : Expr} {es : List Expr} {ta tb tc te : TX} {tL : TXA} {pos p tpos : Pos} {elts : List Expr} {kk : Nat}
variable {own : List Nat} {tA : TXT} {g : TXG} {t : TXS} {ti : TXI} {iter : Expr} {body : List Stmt}
variable {ifs : List Expr} {elt : Expr} {tt : TXT}
end
end PL
namespace PL
open PySem PySem.Spec PyProof.Rows L2 RZ
/-- the cell is as it was behind m -/
noncomputable def chk {α : Type} (kc : Nat) (l : List D) (m : M α) : M α := bnd m fun a μ => grd (μ[kc]? = some (.lst l)) (ret a) μ
noncomputable def chkS (kc : Nat) (l : List D) (step : SV → FS) : SV → FS := fun d ρ => chk kc l (step d ρ)
noncomputable def forKK (step : SV → FS) (ρ : FEnv) (s : SV) : M Out := fun μ => match s with
  | .c kc => match μ[kc]? with
    | some (.lst l) => fLoop (chkS kc l step) l ρ μ
    | _ => .no
  | _ => .no
noncomputable def fForK (tc : FX) (g : FG) (b : FS) : FS := fun ρ => bnd (tc ρ) fun s => forKK (fun d ρ => bnd (g d ρ) b) ρ s
noncomputable def chkC (kc : Nat) (l : List D) (step : D → M (Option SV)) : D → M (Option SV) := fun d => chk kc l (step d)
noncomputable def lcKK (fin : List D → M SV) (step : D → M (Option SV)) (s : SV) : M SV := fun μ => match s with
  | .c kc => match μ[kc]? with
    | some (.lst l) => grd (l.length ≤ sizeLine) (bnd (cLoop (chkC kc l step) l) fin) μ
    | _ => .no
  | _ => .no
noncomputable def fLcK (fin : List D → M SV) (tc : FX) (g : FG) (c : FT) (e : FX) (vs : List Nat) : FX := fun ρ => bnd (tc ρ) fun s => lcKK fin (cStep g c e vs ρ) s
section
variable {X : Cx} {W : WX} {a b c e tg elt iter : Expr} {ifs : List Expr} {fc fe : FX} {ft : FT} {g : FG} {s : FS} {n : Nat} {pos p : Pos}
section
variable {own : List Nat}
end
section
variable {scope : Scope} {own : List (Str × Nat)}
end
end
section
variable {ρ : FEnv} {μ : Mem} {kc : Nat} {l : List D} {fc e : FX} {g : FG} {c : FT} {b : FS} {vs : List Nat} {fin : List D → M SV} {step : SV → FS} {cs : D → M (Option SV)}
@[simp ↓] theorem chk_s {α : Type} {m : M α} : chk kc l m μ = bR (m μ) fun a μ => grd (μ[kc]? = some (.lst l)) (ret a) μ := bnd_s
@[simp ↓] theorem chkS_s {d : SV} : chkS kc l step d ρ μ = bR (step d ρ μ) fun a μ => grd (μ[kc]? = some (.lst l)) (ret a) μ := bnd_s
@[simp ↓] theorem chkC_s {d : D} : chkC kc l cs d μ = bR (cs d μ) fun a μ => grd (μ[kc]? = some (.lst l)) (ret a) μ := bnd_s
@[simp ↓] theorem fForK_s : fForK fc g b ρ μ = bR (fc ρ μ) (forKK (bF g b) ρ) := bnd_s
@[simp ↓] theorem fLcK_s : fLcK fin fc g c e vs ρ μ = bR (fc ρ μ) (lcKK fin (cStep g c e vs ρ)) := bnd_s
end
end PL

namespace PL
open PySem PySem.Spec PyProof.Rows L2 RZ
section
variable {X : Cx} {W : WX} {e o : Expr} {to : TX} {tL : TXA} {apos cpos : Pos}
end
end PL
namespace PL
open PySem PySem.Spec PyProof.Rows L2 RZ
section
variable {X : Cx} {W : WX} {e o : Expr} {n : Nat} {fo : FX} {fl : FA} {apos cpos : Pos}
noncomputable def indexN (l : List D) (ss : List SV) : M SV := match ss with
  | [.d y] => grd (okEq (.ntp l) = true ∧ okEq y = true) (fun μ => match firstIx l y with
    | some j => .ok (.d (.int (j : Nat))) μ
    | none => .no)
  | _ => fun _ => .no
noncomputable def indexNK (m : M (List SV)) : SV → M SV := fun s => match s with
  | .d (.ntp l) => bnd m (indexN l)
  | _ => fun _ => .no
noncomputable def fIndexN (fo : FX) (fl : FA) : FX := fun ρ => bnd (fo ρ) (indexNK (fl ρ))
@[simp ↓] theorem fIndexN_s {ρ : FEnv} {μ : Mem} : fIndexN fo fl ρ μ = bR (fo ρ μ) (indexNK (fl ρ)) := bnd_s
@[simp] theorem indexNK_n {m : M (List SV)} {l : List D} {μ : Mem} : indexNK m (.d (.ntp l)) μ = bR (m μ) (indexN l) := bnd_s
end
end PL
namespace PL
open PySem PySem.Spec PyProof.Rows L2 RZ
theorem KT.all {H : Hp} {more : List (List Key × V)} {prs : List (List Key × Addr × Value)} (t : KT H more prs) : ∀ {kvs : List (List Key × V)} {xs : List (List Key × Addr × Value)}, KT H kvs xs → KT H (more.foldl (fun acc kv => putK acc kv.1 kv.2) kvs) (storedAllH xs prs) := by
  induction t with
  | nil => exact fun r => r
  | @cons p q ps qs h t ih =>
    intro kvs xs r
    obtain ⟨k, b, u⟩ := q
    obtain ⟨h1, h2, h3⟩ := h
    simp only at h1 h2 h3
    subst h1
    exact ih (KT.put r p.1 h2 h3)
section
variable {X : Cx}
end
def pairsD : List D → Option (List (D × D))
  | [] => some []
  | .tup [k, v] :: l => (pairsD l).map ((k, v) :: ·)
  | _ => none
section
variable {X : Cx} {W : WX} {e : Expr} {tL : TXA} {p pos : Pos}
end
end PL
namespace PL
open PySem PySem.Spec PyProof.Rows L2 RZ
section
variable {X : Cx} {W : WX} {e : Expr} {fl : FA} {n : Nat} {p pos : Pos}
end
theorem pairsD_map {α : Type} {k v : α → D} : ∀ {l : List α}, pairsD (l.map fun a => .tup [k a, v a]) = some (l.map fun a => (k a, v a))
  | [] => rfl
  | a :: l => by simp [pairsD, pairsD_map (l := l)]
end PL
namespace PL
open PySem PySem.Spec PyProof.Rows L2 RZ
def tDUpd (td ty : TE) : TE := fun σ H Q => td σ H fun x H1 => ∃ a, x = .ref a ∧ IsD H1 a ∧ ty σ H1 fun y H2 => ∃ kvs c more, H2 a = some (.dK kvs) ∧ y = .ref c ∧ Rd H2 c (.dK more) ∧ a ≠ c ∧ kvs.length + more.length ≤ sizeLine ∧ Q .non (upd H2 a (.dK (mergeK kvs more)))
section
variable {X : Cx} {o e : Expr} {apos cpos : Pos} {td ty : TE}
theorem d_update {pins : List (Addr × Obj)} {σ : L2.St} {H : Hp} {s : Shared} {A : Around} {E : Value → Shared → Prop} {a c : Addr} {kvs more : List (Key × V)} {Q : Value → Shared → Prop} (I : Inv X pins σ H s) (e : H a = some (.dK kvs)) (e2 : Rd H c (.dK more)) (ne : a ≠ c) (hz : kvs.length + more.length ≤ sizeLine)
    (h : ∀ s', Inv X pins σ (upd H a (.dK (mergeK kvs more))) s' → Q .none s') : wpAny (model X.prog X.w) A (call (.builtin "dict.update") [.ref a, .ref c]) Q E s := by
  obtain ⟨z, hd, vs, rel, dd⟩ := dk_of I.hok e
  obtain ⟨z2, hd2, ws, rel2, dd2⟩ := dk_rd I.hok e2
  refine call_meetsIn PySem.F.slot_dict_update dd.typeIs PySem.F.entry_dict_update (PySem.F.args_dict_update_2 _ _) (meets_dict_update (mixKind X.prog X.w) a c ne hd2) ⟨vs, ws, dd, dd2, by rw [← rel.length, ← rel2.length]; exact hz, fun h' dd' _ hs => h _ ?_⟩
  have he : ∃ q, h'.get? a = some q := let ⟨q, _, _, hq, _⟩ := dd'; ⟨q, hq⟩
  exact d_write I (by rw [e]; exact True.intro) hs he (dk_new (Nat.le_trans (length_mergeK more kvs) hz) hd (KV.merge rel2 rel) dd')
theorem pe_dupd (ho : PE X o td) (he : PE X e ty) (m : M1 X o "update" apos e cpos) : PE X (.Call (.Attribute o "update" apos) [e] [] cpos) (tDUpd td ty) := by
  refine ⟨fun pins s σ H Q I h => ?_⟩
  refine wpAny_Call_method m.base m.few m.line PySem.F.plainAttrs_dict PySem.F.slot_dict_update PySem.F.type_dict_update (thn (ho.run pins s σ H _ I h) fun u s1 ⟨x, H1, I1, rx, a, ex, d, q1⟩ => ?_)
  subst ex
  obtain rfl : u = Value.ref a := rx
  obtain ⟨t1, t2, _⟩ := isD_at I1 d
  refine ⟨t1, t2, ?_⟩
  rw [m.trees]
  refine Calls.callWith_builtin rfl (Calls.evalArgs_plain (Calls.spliced_cons (thn (he.run pins s1 σ H1 _ I1 q1) fun iv s2 ⟨y, H2, I2, ry, kvs, c, more, ea, ey, e2, ne, hz, q2⟩ => Calls.spliced_nil ?_)))
  subst ey
  cases (show iv = Value.ref c from ry)
  exact d_update I2 ea e2 ne hz fun s3 I3 => ⟨.non, _, I3, rfl, q2⟩
end
/-- the pairs of a dict put into another one -/
theorem merge_dic {K : PySem.W.Frag} {G : Hp} : ∀ {more acc : List (Key × V)} {ws vs : List D}, Reps K G ws (more.map Prod.snd) → Reps K G vs (acc.map Prod.snd) →
    (mergeD (acc.map fun p => keyD p.1) vs ((more.map fun p => keyD p.1).zip ws)).1 = (mergeK acc more).map (fun p => keyD p.1) ∧ Reps K G (mergeD (acc.map fun p => keyD p.1) vs ((more.map fun p => keyD p.1).zip ws)).2 ((mergeK acc more).map Prod.snd)
  | [], acc, _, vs, .nil, r0 => ⟨rfl, r0⟩
  | (k, v) :: more, acc, _, vs, .cons rv r, r0 => by
    have e1 := put_keys (kd := keyD) (fun _ _ z => keyD_inj z) acc k v
    have e2 := put_vals (kd := keyD) (fun _ _ z => keyD_inj z) r0 k rv
    have := merge_dic (acc := putK acc k v) r e2
    rw [e1] at this
    exact this
def xUpd (to te : TX) : TX := fun x ρ μ Q => to x ρ μ fun sd μ1 => match sd with
  | .c k => (dicOf (.c k) μ1).isSome = true ∧ te x ρ μ1 fun so μ2 => match so with
    | .d (.dic false ks2 vs2) => match μ2[k]? with
      | some (.dK ks vs) => ks.length + ks2.length ≤ sizeLine ∧ Q (.d .non) (μ2.set k (.dK (mergeD ks vs (ks2.zip vs2)).1 (mergeD ks vs (ks2.zip vs2)).2))
      | _ => False
    | _ => False
  | _ => False
section
variable {X : Cx} {W : WX} {o e : Expr} {to te : TX} {apos cpos : Pos}
theorem px_update (ho : PX X W o to) (he : PX X W e te) (m : M1 X o "update" apos e cpos := by exact ⟨rfl, rfl, rfl, rfl⟩) : PX X W (.Call (.Attribute o "update" apos) [e] [] cpos) (xUpd to te) := by
  refine ⟨(pe_dupd ho.pe he.pe m).imp fun σ H Q h => ?_⟩
  obtain ⟨A, ρ, μ, G, Qp, xp, S, ht, hx, kk⟩ := h
  refine ⟨A, ρ, μ, G, _, xp, S, ht, hx, fun sd μ1 A1 G1 H1 vd q1 c1 s1 r1 => ?_⟩
  match sd, q1, r1 with
  | .c k, ⟨hz, q1⟩, r1 =>
    obtain ⟨z, hz⟩ := Option.isSome_iff_exists.mp hz
    obtain ⟨a, rfl, hd⟩ := dicOf_rep hz c1 r1
    refine ⟨a, rfl, isD_of hd, A1, ρ, μ1, G1, _, xp, S.after s1 c1, q1, hx.after s1, fun so μ2 A2 G2 H2 vk q2 c2 s2 r2 => ?_⟩
    have s12 := s1.trans s2
    match so, q2, r2 with
    | .d (.dic false ks2 vs2), q2, r2 =>
      have r2 : Rep X.K G2 (.dic false ks2 vs2) vk := r2
      simp only at q2
      split at q2
      · rename_i ks vs hk
        obtain ⟨hl, q⟩ := q2
        have r1' : RepS X.K A2 G2 (.c k) (.ref a) := r1.mono s2.pre s2.le
        obtain ⟨a', ha', ea⟩ := r1'
        cases ea
        obtain ⟨kvs, h1, h2, h3⟩ := c2.ok _ _ _ ha' hk
        cases r2 with
        | @dicK c more _ _ g1 g2 g3 =>
        subst g2 h2
        have ne : a ≠ c := fun z => by
          subst z
          have := c2.free a (List.mem_of_getElem? ha')
          rcases g1 with g | ⟨ob, g⟩ <;> rw [this] at g <;> cases g
        obtain ⟨m1, m2⟩ := merge_dic g3 h3
        refine ⟨kvs, c, more, h1, rfl, c2.le.rd g1, ne, by simpa using hl, ?_⟩
        obtain ⟨c3, s3⟩ := c2.write (o := .dK (mergeK kvs more)) (cl := .dK (mergeD (kvs.map fun p => keyD p.1) vs ((more.map fun p => keyD p.1).zip vs2)).1 (mergeD (kvs.map fun p => keyD p.1) vs ((more.map fun p => keyD p.1).zip vs2)).2) ha' ⟨_, upd_same, m1, m2⟩
        exact kk _ _ _ _ _ _ q c3 (s12.trans s3) .non
      · exact q2.elim
end
section
variable {X : Cx} {W : WX} {e : Expr} {tL : TXA} {p pos : Pos}
def rDictCopy : List V → Hp → VK → Prop := fun xs H Q => ∃ a kvs, xs = [.ref a] ∧ Rd H a (.dK kvs) ∧ ∀ p, H p = none → Q (.ref p) (upd H p (.dK kvs))
theorem call_dictCopy : CallR X (.type "dict") rDictCopy := by
  intro pins s σ H xs us Q I r q
  obtain ⟨a, kvs, ex, e, q⟩ := q
  subst ex
  obtain ⟨u, eu, rx⟩ := vals1 r
  subst eu
  cases rx
  exact d_copyOf I e fun p s' hp I' => ⟨.ref p, _, I', rfl, q p hp⟩
def pDictCopy : List SV → Mem → VP → Prop := fun ss μ Q => match ss with
  | [s] => on (dicOf s μ) fun z => z.1 = false ∧ Q (.c μ.length) (μ ++ [.dK z.2.1 z.2.2])
  | _ => False
theorem pcall_dictCopy {K : PySem.W.Frag} : PCall K rDictCopy pDictCopy := by
  intro ss μ A G H vs Qp Q h c rs k
  match ss, h, rs with
  | [s], h, .cons r .nil =>
    obtain ⟨⟨t, ks, vs⟩, e, ht, q⟩ := on_of h
    simp only at ht
    subst ht
    obtain ⟨a, rfl, kvs, g1, g2, g3⟩ := dicOf_rep e c r
    refine ⟨a, kvs, rfl, g1, fun p hp => ?_⟩
    obtain ⟨c2, s2⟩ := c.cell (o := .dK kvs) (cl := .dK ks vs) hp ⟨kvs, upd_same, g2, g3⟩
    exact k (.c μ.length) _ _ _ _ _ q c2 s2 ⟨p, by rw [← c.len]; simp, rfl⟩
theorem px_dictCopy (hg : Gl X "dict") (hm : X.mg "dict" = none) (ha : PXA X W [e] tL) (he : starEach [e] X.env = (false, eval e X.env) :: starEach [] X.env := by rfl) : PX X W (.Call (.Name "dict" p) [e] [] pos) (xCall pDictCopy tL) :=
  px_callTy call_dictCopy pcall_dictCopy hg hm (by decide +kernel) ha (by decide) (by decide) he rfl
theorem pairs_repK {K : PySem.W.Frag} {G H : Hp} (le : Le G H) : ∀ {l : List D} {ps : List (D × D)} {us : List V}, pairsD l = some ps → Reps K G l us → (∀ p ∈ ps, fitK false p.1 = true) →
    ∃ (as : List Addr) (kvs : List (Key × V)), us = as.map V.ref ∧ Paired (fun p kv => SqT K H p [kV kv.1, kv.2]) as kvs ∧
      ∀ {acc : List (Key × V)} {vs : List D}, Reps K G vs (acc.map Prod.snd) → (mergeD (acc.map fun p => keyD p.1) vs ps).1 = (mergeK acc kvs).map (fun p => keyD p.1) ∧
        Reps K G (mergeD (acc.map fun p => keyD p.1) vs ps).2 ((mergeK acc kvs).map Prod.snd)
  | [], ps, _, e, .nil, f => by
    simp only [pairsD, Option.some.injEq] at e
    subst e
    exact ⟨[], [], rfl, .nil, fun r => ⟨rfl, r⟩⟩
  | d :: l, ps, _, e, .cons r rs, f => by
    match d, e, r with
    | .tup [k, v], e, r =>
      simp only [pairsD] at e
      obtain ⟨qs, e1, rfl⟩ := Option.map_eq_some_iff.mp e
      obtain ⟨as, kvs, rfl, pd, mg⟩ := pairs_repK le e1 rs fun p hp => f p (List.mem_cons_of_mem _ hp)
      obtain ⟨kk, rfl⟩ := fitF (f (k, v) List.mem_cons_self)
      cases r with
      | tup h hs =>
        rename_i a ws
        cases hs with
        | cons rk rt =>
          cases rt with
          | cons rv rn =>
            cases rn
            rename_i vk vv
            obtain rfl := keyD_val rk
            refine ⟨a :: as, (kk, vv) :: kvs, rfl, .cons (.inl (.inl (le _ _ h))) pd, fun {acc vs} ra => ?_⟩
            have e1 := put_keys (kd := keyD) (fun _ _ z => keyD_inj z) acc kk vv
            have e2 := put_vals (kd := keyD) (fun _ _ z => keyD_inj z) ra kk rv
            have := mg (acc := putK acc kk vv) e2
            rw [e1] at this
            exact this
def rDictP (K : PySem.W.Frag) : List V → Hp → VK → Prop := fun xs H Q => ∃ (a : Addr) (ps : List Addr) (kvs : List (Key × V)), xs = [.ref a] ∧ SqL K H a (ps.map V.ref) ∧ Paired (fun p kv => SqT K H p [kV kv.1, kv.2]) ps kvs ∧ ∀ p, H p = none → Q (.ref p) (upd H p (.dK (mergeK [] kvs)))
noncomputable def pDictPK : List SV → Mem → VP → Prop := fun ss μ Q => match ss with
  | [s] => on (lstOf s μ) fun l => on (pairsD l) fun ps => (∀ p ∈ ps, fitK false p.1 = true) ∧ Q (.d (.dic false (mergeD [] [] ps).1 (mergeD [] [] ps).2)) μ
  | _ => False
theorem pcall_dictPK {K : PySem.W.Frag} : PCall K (rDictP K) pDictPK := by
  intro ss μ A G H vs Qp Q h c rs k
  match ss, h, rs with
  | [s], h, .cons r .nil =>
    obtain ⟨l, e1, h⟩ := on_of h
    obtain ⟨ps, e2, f, q⟩ := on_of h
    obtain ⟨a, us, rfl, h1, h2⟩ := lstOf_rep e1 c r
    obtain ⟨as, kvs, rfl, pd, mg⟩ := pairs_repK c.le e2 h2 f
    refine ⟨a, as, kvs, rfl, SqL.of h1, pd, fun p hp => ?_⟩
    obtain ⟨g1, g2⟩ := mg (acc := []) .nil
    obtain ⟨c2, s2⟩ := c.laid (o := .dK (mergeK [] kvs)) hp
    exact k _ _ _ _ _ _ q c2 s2 (Rep.dicK (.inl upd_same) g1 (g2.mono s2.le))
theorem px_dictPK (hc : X.calm = true) (hg : Gl X "dict") (hm : X.mg "dict" = none) (ha : PXA X W [e] tL) (he : starEach [e] X.env = (false, eval e X.env) :: starEach [] X.env := by rfl) : PX X W (.Call (.Name "dict" p) [e] [] pos) (xCall pDictPK tL) :=
  px_callTy (call_dictP hc) pcall_dictPK hg hm (by decide +kernel) ha (by decide) (by decide) he rfl
end
end PL
namespace PL
open PySem PySem.Spec PyProof.Rows L2 RZ
noncomputable def dictPKF : List SV → M SV := fun ss μ => match ss with
  | [s] => match lstOf s μ with
    | some l => match pairsD l with
      | some ps => grd (∀ p ∈ ps, fitK false p.1 = true) (ret (.d (.dic false (mergeD [] [] ps).1 (mergeD [] [] ps).2))) μ
      | none => .no
    | none => .no
  | _ => .no
theorem ok_dictPK : ∀ ss μ x Q, (dictPKF ss μ).fin x Q → pDictPK ss μ Q := by
  intro ss μ x Q h
  unfold dictPKF at h
  unfold pDictPK
  split at h
  · split at h
    · rename_i e
      split at h
      · rename_i e2
        have h2 := fin_grd h
        show on (lstOf _ _) _
        rw [e]
        show on (pairsD _) _
        rw [e2]
        exact h2
      · exact h.elim
    · exact h.elim
  · exact h.elim
def dictCopyF : List SV → M SV := fun ss μ => match ss with
  | [s] => match dicOf s μ with
    | some (false, ks, vs) => .ok (.c μ.length) (μ ++ [.dK ks vs])
    | _ => .no
  | _ => .no
theorem ok_dictCopy : ∀ ss μ x Q, (dictCopyF ss μ).fin x Q → pDictCopy ss μ Q := by
  intro ss μ x Q h
  unfold dictCopyF at h
  unfold pDictCopy
  split at h
  · split at h
    · rename_i e
      show on (dicOf _ _) _
      rw [e]
      exact ⟨rfl, h⟩
    · exact h.elim
  · exact h.elim
noncomputable def updK (k : Nat) (so : SV) : M SV := fun μ => match so with
  | .d (.dic false ks2 vs2) => match μ[k]? with
    | some (.dK ks vs) => grd (ks.length + ks2.length ≤ sizeLine) (fun _ => .ok (.d .non) (μ.set k (.dK (mergeD ks vs (ks2.zip vs2)).1 (mergeD ks vs (ks2.zip vs2)).2))) μ
    | _ => .no
  | _ => .no
noncomputable def updF (m : M SV) (s : SV) : M SV := match s with
  | .c k => isDicK (.c k) (bnd m (updK k))
  | _ => fun _ => .no
noncomputable def fUpd (o e : FX) : FX := fun ρ => bnd (o ρ) (updF (e ρ))
section
variable {X : Cx} {W : WX} {o e : Expr} {fo fe : FX} {fl : FA} {n : Nat} {p pos apos cpos : Pos}
theorem pf_dictPK (hc : X.calm = true) (hg : Gl X "dict") (hm : X.mg "dict" = none) (hl : PXA X W [e] (toA n fl)) (he : starEach [e] X.env = (false, eval e X.env) :: starEach [] X.env := by rfl) :
    PX X W (.Call (.Name "dict" p) [e] [] pos) (toX n (fCall dictPKF fl)) := pf_call (px_dictPK hc hg hm hl he) ok_dictPK
theorem pf_dictCopy (hg : Gl X "dict") (hm : X.mg "dict" = none) (hl : PXA X W [e] (toA n fl)) (he : starEach [e] X.env = (false, eval e X.env) :: starEach [] X.env := by rfl) :
    PX X W (.Call (.Name "dict" p) [e] [] pos) (toX n (fCall dictCopyF fl)) := pf_call (px_dictCopy hg hm hl he) ok_dictCopy
theorem pf_update (ho : PX X W o (toX n fo)) (he : PX X W e (toX n fe)) (m : M1 X o "update" apos e cpos := by exact ⟨rfl, rfl, rfl, rfl⟩) : PX X W (.Call (.Attribute o "update" apos) [e] [] cpos) (toX n (fUpd fo fe)) :=
  (px_update ho he m).to fun x ρ μ Q ⟨hn, h⟩ => ⟨hn, R.mono (fin_bnd.mp h) fun s μ1 h1 => by
    unfold updF at h1
    split at h1
    · unfold isDicK at h1
      split at h1
      · rename_i hd
        refine ⟨hd, hn, R.mono (fin_bnd.mp h1) fun t μ2 h2 => ?_⟩
        unfold updK at h2
        split at h2
        · split at h2
          · rename_i hk
            obtain ⟨g1, g2⟩ := fin_grd h2
            try simp only [hk]
            exact ⟨g1, g2⟩
          · exact h2.elim
        · exact h2.elim
      · exact h1.elim
    · exact h1.elim⟩
@[simp ↓] theorem fUpd_s {ρ : FEnv} {μ : Mem} : fUpd fo fe ρ μ = bR (fo ρ μ) (updF (fe ρ)) := bnd_s
theorem updF_c {m : M SV} {k : Nat} {μ : Mem} (h : (dicOf (.c k) μ).isSome = true) : updF m (.c k) μ = bR (m μ) (updK k) := by
  show isDicK (.c k) (bnd m (updK k)) μ = _
  rw [isDicK_s h]
  exact bnd_s
theorem updK_d {k : Nat} {ks vs ks2 vs2 : List D} {μ : Mem} (h : μ[k]? = some (.dK ks vs)) (hz : ks.length + ks2.length ≤ sizeLine) : updK k (.d (.dic false ks2 vs2)) μ = .ok (.d .non) (μ.set k (.dK (mergeD ks vs (ks2.zip vs2)).1 (mergeD ks vs (ks2.zip vs2)).2)) := by
  simp only [updK, h]
  rw [grd_pos hz]
end
theorem dictPKF_l {l : List D} {ps : List (D × D)} {s : SV} {μ : Mem} (e : lstOf s μ = some l) (e2 : pairsD l = some ps) (hf : ∀ p ∈ ps, fitK false p.1 = true) : dictPKF [s] μ = .ok (.d (.dic false (mergeD [] [] ps).1 (mergeD [] [] ps).2)) μ := by
  simp only [dictPKF, e, e2]
  rw [grd_pos hf]
  rfl
end PL

namespace PySem.W
open PySem PyProof.Rows PySem.SeqAt
end PySem.W
namespace PL
open PySem PySem.Spec PyProof.Rows L2 RZ
end PL

namespace PySem.W
open PySem PyProof.Rows PySem.SeqAt
end PySem.W
namespace PL
open PySem PySem.Spec PyProof.Rows L2 RZ
end PL

namespace PL
open PySem PySem.Spec PyProof.Rows L2 RZ
end PL
namespace PL
open PySem PySem.Spec PyProof.Rows L2 RZ
def is2K (o1 o2 : Option Bool) : M SV := match o1, o2 with
  | some b1, some b2 => ret (.d (.bl (b1 || b2)))
  | _, _ => fun _ => .no
def is2F (k1 k2 : TyK) : List SV → M SV := fun ss μ => match ss with
  | [s, .d (.tup [.ty U1, .ty U2])] => if U1 = k1.nm ∧ U2 = k2.nm then is2K (isKs k1 s μ) (isKs k2 s μ) μ else .no
  | _ => .no
section
variable {X : Cx} {W : WX} {a b e o : Expr} {fo : FX} {fl : FA} {n : Nat} {p pos apos cpos : Pos}
end
section
variable {μ : Mem} {d : D} {l : List D} {k : Nat}
@[simp] theorem is2F_tl : is2F .tuple .list [.d d, .d (.tup [.ty "tuple", .ty "list"])] μ = is2K (isK .tuple d) (isK .list d) μ := by
  simp only [is2F, isKs]
  rfl
@[simp] theorem is2K_s {b1 b2 : Bool} : is2K (some b1) (some b2) μ = .ok (.d (.bl (b1 || b2))) μ := rfl
end
end PL
namespace PL
open PySem PySem.Spec PyProof.Rows L2
section
variable {P : Program} {w : World}
/-- v is no statement of a class, n levels down -/
def NoCls (P : Program) (w : World) (n : Nat) (s : Shared) (v : Value) : Prop := ∀ (A : Around) (E : Value → Shared → Prop) (Q : Bool → Shared → Prop), Q false s → wpAny (model P w) A (ofAClassStatement n v) Q E s
/-- whether v's hash goes by its value is answered -/
def HashAns (P : Program) (w : World) (n : Nat) (s : Shared) (v : Value) : Prop := ∀ (A : Around) (E : Value → Shared → Prop) (Q : Bool → Shared → Prop), (∀ b, Q b s) → wpAny (model P w) A (hashByValue n v) Q E s
theorem noCls_pure {n : Nat} {s : Shared} {v : Value} (h : ofAClassStatement n v = pure false) : NoCls P w n s v := fun A E Q q => by
  rw [h]; exact wpAny_pure q
theorem hashAns_pure {n : Nat} {s : Shared} {v : Value} {b : Bool} (h : hashByValue n v = pure b) : HashAns P w n s v := fun A E Q q => by
  rw [h]; exact wpAny_pure (q b)
theorem noCls_tup {n : Nat} {s : Shared} {a : Addr} {o : Obj} {vs : Array Value} {m : Nat} (ho : s.heap.get? a = some o) (hc : o.cls = .type "tuple") (hd : o.data = .seq vs m) (hq : ∀ v ∈ vs.toList, NoCls P w n s v) : NoCls P w (n + 1) s (.ref a) := fun A E Q q => by
  unfold ofAClassStatement
  refine wpAny_bind (wpAny_typeOf ⟨o, ho, hc⟩ ?_)
  dsimp only
  rw [if_pos (show (("tuple" : String) == "tuple") = true by decide)]
  refine wpAny_bind (wpAny_pure ?_)
  simp only [Bool.not_true, Bool.false_eq_true, if_false]
  refine wpAny_bind (wpAny_seqItems ho hd (wpAny_bind ?_))
  rw [← Array.forIn_toList]
  refine wpAny_forIn_list _ (fun l r s1 => s1 = s ∧ r.1 = none ∧ ∀ v ∈ l, NoCls P w n s v) _ ?_ ?_ _ _ ⟨rfl, rfl, hq⟩
  · intro v l r s1 ⟨e1, e2, all⟩
    subst e1
    refine wpAny_bind (all v List.mem_cons_self _ _ _ ?_)
    rw [if_neg (by decide)]
    exact wpAny_pure ⟨rfl, rfl, fun u hu => all u (List.mem_cons_of_mem _ hu)⟩
  · intro r s1 ⟨e1, e2, _⟩
    subst e1
    obtain ⟨r1, r2⟩ := r
    cases e2
    exact wpAny_pure q
theorem hashAns_tup {n : Nat} {s : Shared} {a : Addr} {o : Obj} {vs : Array Value} {m : Nat} (ho : s.heap.get? a = some o) (hc : o.cls = .type "tuple") (hd : o.data = .seq vs m) (hq : ∀ v ∈ vs.toList, HashAns P w n s v) : HashAns P w (n + 1) s (.ref a) := fun A E Q q => by
  unfold hashByValue
  refine wpAny_bind (wpAny_specialOf (T := "tuple") ⟨o, ho, hc⟩ F.slot_tuple_hash.lookup ?_)
  show wpAny _ _ (seqItems? (.ref a) >>= _) _ _ s
  refine wpAny_bind (wpAny_seqItems ho hd (wpAny_bind ?_))
  show wpAny _ _ (forIn vs _ _) _ _ s
  rw [← Array.forIn_toList]
  refine wpAny_forIn_list _ (fun l r s1 => s1 = s ∧ ∀ v ∈ l, HashAns P w n s v) _ ?_ ?_ _ _ ⟨rfl, hq⟩
  · intro v l r s1 ⟨e1, all⟩
    subst e1
    refine wpAny_bind (all v List.mem_cons_self _ _ _ fun b => ?_)
    cases b with
    | true =>
      rw [if_neg (by decide)]
      exact wpAny_pure ⟨rfl, fun u hu => all u (List.mem_cons_of_mem _ hu)⟩
    | false =>
      rw [if_pos (by decide)]
      exact wpAny_pure (wpAny_pure (q false))
  · intro r s1 ⟨e1, _⟩
    subst e1
    obtain ⟨r1, r2⟩ := r
    cases r1 with
    | none => exact wpAny_pure (q true)
    | some b => exact wpAny_pure (q b)
mutual
theorem noCls_key : ∀ (k : NestedKey) (v : Value) (n : Nat) (s : Shared), NestedIs s.heap k v → k.depth ≤ n → NoCls P w n s v
  | .none, _, n, s, h, _ => by cases h; exact noCls_pure (by cases n <;> rfl)
  | .num i, _, n, s, h, _ => by cases h <;> exact noCls_pure (by cases n <;> rfl)
  | .text x, _, n, s, h, _ => by cases h; exact noCls_pure (by cases n <;> rfl)
  | .tup ks, _, n, s, h, hn => by
    cases h with
    | tup h1 h2 h3 h4 =>
      unfold NestedKey.depth at hn
      obtain ⟨n, rfl⟩ : ∃ m, n = m + 1 := ⟨n - 1, by omega⟩
      exact noCls_tup h1 h2 h3 (noCls_keys ks _ n s h4 (by omega))
theorem noCls_keys : ∀ (ks : List NestedKey) (vs : List Value) (n : Nat) (s : Shared), NestedAll s.heap ks vs → NestedKey.depthAll ks ≤ n → ∀ v ∈ vs, NoCls P w n s v
  | [], _, n, s, h, _, v, hv => by cases h; cases hv
  | k :: ks, _, n, s, h, hn, v, hv => by
    cases h with
    | cons h1 h2 =>
      unfold NestedKey.depthAll at hn
      cases hv with
      | head => exact noCls_key k _ n s h1 (by omega)
      | tail _ hv => exact noCls_keys ks _ n s h2 (by omega) v hv
end
mutual
theorem hashAns_key : ∀ (k : NestedKey) (v : Value) (n : Nat) (s : Shared), NestedIs s.heap k v → k.depth ≤ n → HashAns P w n s v
  | .none, _, n, s, h, _ => by cases h; exact hashAns_pure (b := true) (by cases n <;> rfl)
  | .num i, _, n, s, h, _ => by cases h <;> exact hashAns_pure (b := true) (by cases n <;> rfl)
  | .text x, _, n, s, h, _ => by cases h; exact hashAns_pure (b := false) (by cases n <;> rfl)
  | .tup ks, _, n, s, h, hn => by
    cases h with
    | tup h1 h2 h3 h4 =>
      unfold NestedKey.depth at hn
      obtain ⟨n, rfl⟩ : ∃ m, n = m + 1 := ⟨n - 1, by omega⟩
      exact hashAns_tup h1 h2 h3 (hashAns_keys ks _ n s h4 (by omega))
theorem hashAns_keys : ∀ (ks : List NestedKey) (vs : List Value) (n : Nat) (s : Shared), NestedAll s.heap ks vs → NestedKey.depthAll ks ≤ n → ∀ v ∈ vs, HashAns P w n s v
  | [], _, n, s, h, _, v, hv => by cases h; cases hv
  | k :: ks, _, n, s, h, hn, v, hv => by
    cases h with
    | cons h1 h2 =>
      unfold NestedKey.depthAll at hn
      cases hv with
      | head => exact hashAns_key k _ n s h1 (by omega)
      | tail _ hv => exact hashAns_keys ks _ n s h2 (by omega) v hv
end
/-- a key of the set -/
abbrev NKey (P : Program) (w : World) (h : Heap) (k : NestedKey) (a : Addr) : Prop := (nestedKind P w).is h k a
theorem nkey_cls {A : Around} {E : Value → Shared → Prop} {s : Shared} {k : NestedKey} {a : Addr} {Q : Bool → Shared → Prop} (h : NKey P w s.heap k a) (q : Q false s) : wpAny (model P w) A (ofAClassStatement 8 (.ref a)) Q E s := noCls_key k _ 8 s h.1 h.2 A E Q q
theorem nkey_byv {A : Around} {E : Value → Shared → Prop} {s : Shared} {k : NestedKey} {a : Addr} {Q : Bool → Shared → Prop} (h : NKey P w s.heap k a) (q : ∀ b, Q b s) : wpAny (model P w) A (hashByValue 8 (.ref a)) Q E s := hashAns_key k _ 8 s h.1 h.2 A E Q q
/-- the search among keys shows nothing -/
theorem nkey_seen {A : Around} {E : Value → Shared → Prop} {s : Shared} {k : NestedKey} {a : Addr} {Q : Bool → Shared → Prop} (h : NKey P w s.heap k a) {ys : List Value} (hy : ∀ y ∈ ys, ∃ k' c, y = .ref c ∧ NKey P w s.heap k' c) (q : Q false s) :
    wpAny (model P w) A (searchCouldBeSeen (.ref a) ys) Q E s := by
  unfold searchCouldBeSeen
  refine wpAny_bind (wpAny_forIn_list _ (fun l r s1 => s1 = s ∧ r.1 = none ∧ ∀ y ∈ l, ∃ k' c, y = .ref c ∧ NKey P w s.heap k' c) _ ?_ ?_ _ _ ⟨rfl, rfl, hy⟩)
  · intro v l r s1 ⟨e1, e2, all⟩
    subst e1
    obtain ⟨k', c, rfl, hc⟩ := all v List.mem_cons_self
    have more : ∀ y ∈ l, ∃ k' c, y = .ref c ∧ NKey P w s1.heap k' c := fun u hu => all u (List.mem_cons_of_mem _ hu)
    dsimp only
    by_cases same : (a == c || (carriedByValue (.ref a) && carriedByValue (.ref c))) = true
    · exact wp_if_pos same (wpAny_pure ⟨rfl, rfl, more⟩)
    · refine wp_if_neg same (wpAny_bind ((nestedKind P w).quiet h ?_))
      simp only [Bool.not_true, Bool.false_eq_true, if_false]
      refine wpAny_bind ((nestedKind P w).quiet hc ?_)
      simp only [Bool.not_true, Bool.false_eq_true, if_false]
      refine wpAny_bind (nkey_cls h (wp_if_neg (by decide) (wpAny_bind (nkey_cls hc (wp_if_neg (by decide) (wpAny_pure ⟨rfl, rfl, more⟩))))))
  · intro r s1 ⟨e1, e2, _⟩
    subst e1
    obtain ⟨r1, r2⟩ := r
    cases e2
    exact wpAny_pure q
end
end PL
namespace PL
open PySem PySem.Spec PyProof.Rows L2
def Msk (m : Nat) : Prop := m = 7 ∨ m = 31 ∨ m = 127 ∨ m = 511
/-- so many turns of the round, from x on -/
def orbit : Nat → Nat → List Nat
  | 0, _ => []
  | n + 1, x => x :: orbit n ((x * 5 + 1) % 512)
theorem lcgI_front (m : Nat) : ∀ (k i : Nat), lcgI m ((i * 5 + 1) % (m + 1)) k = lcgI m i (k + 1)
  | 0, _ => rfl
  | k + 1, i => by
    show (lcgI m ((i * 5 + 1) % (m + 1)) k * 5 + 1) % (m + 1) = _
    rw [lcgI_front m k i]
    rfl
theorem mem_orbit : ∀ {n x j : Nat}, j ∈ orbit n x → ∃ k, k < n ∧ lcgI 511 x k = j
  | 0, _, _, h => by simp [orbit] at h
  | n + 1, x, j, h => by
    rcases List.mem_cons.mp h with rfl | h
    · exact ⟨0, by omega, rfl⟩
    · obtain ⟨k, hk, e⟩ := mem_orbit h
      refine ⟨k + 1, by omega, ?_⟩
      rw [← e, ← lcgI_front]
theorem orbit_all : ((List.range 512).all fun j => (orbit 512 0).contains j) = true := by decide +kernel
theorem round511 : lcgI 511 0 512 = 0 := by decide +kernel
theorem lcgI_two (m i a : Nat) : ∀ k, lcgI m (lcgI m i a) k = lcgI m i (a + k)
  | 0 => rfl
  | k + 1 => by
    show (lcgI m (lcgI m i a) k * 5 + 1) % (m + 1) = (lcgI m i (a + k) * 5 + 1) % (m + 1)
    rw [lcgI_two m i a k]
/-- from any slot each slot is come to -/
theorem msk_all {m : Nat} (hm : Msk m) {i j : Nat} (hi : i ≤ m) (hj : j ≤ m) : ∃ k, k ≤ m ∧ lcgI m i k = j := by
  rcases hm with rfl | rfl | rfl | rfl
  · exact lcgI_all (.inl rfl) hi hj
  · exact lcgI_all (.inr (.inl rfl)) hi hj
  · exact lcgI_all (.inr (.inr rfl)) hi hj
  · have on : ∀ x, x ≤ 511 → ∃ k, k < 512 ∧ lcgI 511 0 k = x := fun x hx => mem_orbit (List.contains_iff_mem.mp (List.all_eq_true.mp orbit_all x (List.mem_range.mpr (by omega))))
    obtain ⟨a, ha, rfl⟩ := on i hi
    obtain ⟨c, hc, rfl⟩ := on j hj
    by_cases h : a ≤ c
    · refine ⟨c - a, by omega, ?_⟩
      rw [lcgI_two, show a + (c - a) = c by omega]
    · refine ⟨c + 512 - a, by omega, ?_⟩
      rw [lcgI_two, show a + (c + 512 - a) = 512 + c by omega, ← lcgI_two, round511]
theorem msk_run {m : Nat} (hm : Msk m) (h : Int) {j : Nat} (hj : j ≤ m) : ∃ n, n ≤ m + 12 ∧ runI m (SetTable.bits h) n = j := by
  obtain ⟨k, hk, e⟩ := msk_all hm (runI_le m (SetTable.bits h) 12) hj
  refine ⟨12 + k, by omega, ?_⟩
  rw [runI_tail (bits_lt h), e]
theorem msk_way {m : Nat} (hm : Msk m) (h : Int) {j : Nat} (hj : j ≤ m) : ∃ k, k < 10 * SetTable.turns m ∧ way m h k = j := by
  obtain ⟨n, hn, rfl⟩ := msk_run hm h hj
  obtain ⟨k, hk, e⟩ := run_nth m (SetTable.bits h) n
  refine ⟨k, by unfold SetTable.turns; omega, ?_⟩
  unfold way
  rw [e]
  rfl
theorem way_in {m : Nat} {h : Int} {k : Nat} : way m h k ≤ m := by
  have hi : SetTable.bits h % (m + 1) ≤ m := Nat.le_of_lt_succ (Nat.mod_lt _ (Nat.succ_pos _))
  have r := runEnd_bd hi
  have q := nth_in k (runAt m (SetTable.bits h % (m + 1)) (SetTable.bits h)) (by
    show SetTable.bits h % (m + 1) + (SetTable.runEnd m (SetTable.bits h % (m + 1)) - SetTable.bits h % (m + 1)) ≤ m
    omega)
  exact Nat.le_trans (Nat.le_add_right _ _) q
/-- each slot of the table is come to from the hash that sits there -/
structure TabM (t : SetTable) (hs : List Int) : Prop where
  ris : Ris t.place.toList
  dm : t.dummies = #[]
  sz : t.place.size = hs.length
  mok : Msk t.mask
  bd : ∀ x ∈ t.place.toList, x ≤ t.mask
  reach : ∀ (i : Nat) (h : Int) (j : Nat), hs[i]? = some h → t.place.toList[i]? = some j → ∃ k, way t.mask h k = j ∧ ∀ k', k' < k → way t.mask h k' ∈ t.place.toList
theorem msk_odd {m : Nat} (h : Msk m) : m % 2 = 1 := by
  rcases h with rfl | rfl | rfl | rfl <;> rfl
theorem TabM.len {t : SetTable} {hs : List Int} (T : TabM t hs) : t.place.toList.length = hs.length := by
  rw [Array.length_toList, T.sz]
theorem TabM.first {t : SetTable} {hs : List Int} (T : TabM t hs) (hl : hs.length ≤ t.mask) (h : Int) : ∃ K, K < 10 * SetTable.turns t.mask ∧ way t.mask h K ∉ t.place.toList ∧ ∀ k, k < K → way t.mask h k ∈ t.place.toList := by
  obtain ⟨j, hj, hn⟩ := st_missing t.place.toList (t.mask + 1) (by rw [T.len]; omega)
  obtain ⟨k, hk, e⟩ := msk_way T.mok h (Nat.le_of_lt_succ hj)
  obtain ⟨K, h1, h2, h3⟩ := st_least (p := fun k => way t.mask h k ∉ t.place.toList) k (fun z => hn (e ▸ z))
  exact ⟨K, by omega, h2, fun k' hk' => Classical.not_not.mp (h3 k' hk')⟩
theorem TabM.before {t : SetTable} {hs : List Int} (T : TabM t hs) {h : Int} {K i j : Nat} (hK : way t.mask h K ∉ t.place.toList) (hi : hs[i]? = some h) (hj : t.place.toList[i]? = some j) : ∃ k, k < K ∧ way t.mask h k = j := by
  obtain ⟨k, e, hb⟩ := T.reach i h j hi hj
  refine ⟨k, Classical.byContradiction fun c => ?_, e⟩
  by_cases g : k = K
  · subst g
    exact hK (e ▸ List.mem_of_getElem? hj)
  · exact hK (hb K (by omega))
theorem TabM.put {t : SetTable} {hs : List Int} (T : TabM t hs) {h : Int} {K : Nat} (hK : way t.mask h K ∉ t.place.toList) (hb : ∀ k, k < K → way t.mask h k ∈ t.place.toList) :
    (t.put (way t.mask h K)).2 = SetTable.below t.place (way t.mask h K) ∧ SetTable.below t.place (way t.mask h K) ≤ hs.length ∧
    TabM (t.put (way t.mask h K)).1 (hs.take (SetTable.below t.place (way t.mask h K)) ++ h :: hs.drop (SetTable.below t.place (way t.mask h K))) ∧
    (t.put (way t.mask h K)).1.mask = t.mask ∧ (t.put (way t.mask h K)).1.led = t.led ∧ (t.put (way t.mask h K)).1.fill = hs.length + 1 := by
  have hin : way t.mask h K ≤ t.mask := way_in
  have hw : ∃ j, way t.mask h K = j := ⟨_, rfl⟩
  obtain ⟨j, hj⟩ := hw
  have cut := (below_cut T.ris j).1
  rw [hj] at hK hin ⊢
  generalize hp : SetTable.below t.place j = p at cut ⊢
  have p1 : p ≤ hs.length := by rw [← T.sz]; exact cut
  have p2 : p ≤ t.place.toList.length := by rw [T.len]; exact p1
  have pl := put_place t j
  rw [hp] at pl
  have sub : ∀ x, x ∈ t.place.toList → x ∈ (t.put j).1.place.toList := fun x hx => by
    rw [pl]
    exact mem_ins.mpr (.inr hx)
  have sz : (t.put j).1.place.size = hs.length + 1 := by rw [← Array.length_toList, pl, len_ins _ p2, T.len]
  refine ⟨hp, p1, {
    ris := ris_insert T.ris fun e => hK (List.mem_of_getElem? (by rw [Array.getElem?_toList]; exact e))
    dm := put_dm T.dm j
    sz := by rw [sz, len_ins _ p1]
    mok := T.mok
    bd := fun x hx => by
      rw [pl] at hx
      rcases mem_ins.mp hx with rfl | hx
      · exact hin
      · exact T.bd x hx
    reach := fun i h' j' e1 e2 => ?_ }, rfl, rfl, ?_⟩
  · rw [tins_get hs p1] at e1
    rw [pl, tins_get _ p2] at e2
    have old : ∀ q, hs[q]? = some h' → t.place.toList[q]? = some j' → ∃ k, way t.mask h' k = j' ∧ ∀ k', k' < k → way t.mask h' k' ∈ (t.put j).1.place.toList := fun q a1 a2 => by
      obtain ⟨k, b1, b2⟩ := T.reach q h' j' a1 a2
      exact ⟨k, b1, fun k' hk' => sub _ (b2 k' hk')⟩
    by_cases c : i < p
    · rw [if_pos c] at e1 e2
      exact old i e1 e2
    · rw [if_neg c] at e1 e2
      by_cases d : i = p
      · rw [if_pos d] at e1 e2
        obtain rfl := Option.some.inj e1
        obtain rfl := Option.some.inj e2
        exact ⟨K, hj, fun k' hk' => sub _ (hb k' hk')⟩
      · rw [if_neg d] at e1 e2
        exact old _ e1 e2
  · show (t.put j).1.place.size + (t.put j).1.dummies.size = hs.length + 1
    rw [sz, put_dm T.dm j]
    rfl
theorem free_at {m : Nat} (hm : Msk m) (owner : Array (Option Nat)) (h : Int) {j : Nat} (hj : j ≤ m) (hf : oAt owner j = none) :
    ∃ K, SetTable.layClean.free m owner (SetTable.turns m) (SetTable.bits h % (m + 1)) (SetTable.bits h) = some (way m h K) ∧ oAt owner (way m h K) = none ∧ ∀ k, k < K → oAt owner (way m h k) ≠ none := by
  obtain ⟨n, hn, e⟩ := msk_run hm h hj
  have there : oAt owner (way m h (off m (SetTable.bits h % (m + 1)) (SetTable.bits h) n)) = none := by
    have : way m h (off m (SetTable.bits h % (m + 1)) (SetTable.bits h) n) = j := by
      unfold way
      rw [nth_off, itL_run]
      exact e
    rw [this, hf]
  obtain ⟨K, k1, k2, k3⟩ := st_least (p := fun k => oAt owner (way m h k) = none) _ there
  have some' : ∀ k, k < K → (oAt owner (way m h k)).isNone = false := fun k hk => by
    cases z : oAt owner (way m h k) with
    | none => exact absurd z (k3 k hk)
    | some _ => rfl
  exact ⟨K, free_spec m owner (SetTable.turns m) n _ _ K (by unfold SetTable.turns; omega) k1 some' (by rw [show oAt owner (nth m (runAt m (SetTable.bits h % (m + 1)) (SetTable.bits h)) K).j = none from k2]; rfl), k2, k3⟩
theorem own_step {m : Nat} (hm : Msk m) {done : List Int} {owner : Array (Option Nat)} (W : Own m done owner) (hl : done.length ≤ m) (h : Int) :
    ∃ j, SetTable.layClean.free m owner (SetTable.turns m) (SetTable.bits h % (m + 1)) (SetTable.bits h) = some j ∧ Own m (done ++ [h]) (owner.setIfInBounds j (some done.length)) := by
  obtain ⟨ps, pl, pin⟩ := W.ps
  obtain ⟨j0, b0, n0⟩ := st_missing ps (m + 1) (by omega)
  have f0 : oAt owner j0 = none := Classical.byContradiction fun z => n0 (pin j0 (Nat.le_of_lt_succ b0) z)
  obtain ⟨K, q1, q2, q3⟩ := free_at hm owner h (Nat.le_of_lt_succ b0) f0
  have jm : way m h K ≤ m := way_in
  generalize hj : way m h K = j at q1 q2 jm
  have self : oAt (owner.setIfInBounds j (some done.length)) j = some done.length := oAt_set_self _ (by rw [W.sz]; omega)
  have keep : ∀ i, oAt owner i ≠ none → oAt (owner.setIfInBounds j (some done.length)) i ≠ none := fun i hi => by
    by_cases c : i = j
    · rw [c, self]
      simp
    · rw [oAt_set_ne _ c]
      exact hi
  refine ⟨j, q1, {
    sz := by rw [Array.size_setIfInBounds]; exact W.sz
    at_ := fun i k hi e => ?_
    all := fun k hk => ?_
    ps := ⟨j :: ps, by simp [pl], fun i hi e => ?_⟩ }⟩
  · by_cases c : i = j
    · rw [c, self] at e
      refine ⟨h, K, ?_, by rw [c]; exact hj, fun k' hk' => keep _ (q3 k' hk')⟩
      rw [← Option.some.inj e]
      simp
    · rw [oAt_set_ne _ c] at e
      obtain ⟨h', K', a1, a2, a3⟩ := W.at_ i k hi e
      exact ⟨h', K', by rw [List.getElem?_append_left (List.getElem?_eq_some_iff.mp a1).1]; exact a1, a2, fun k' hk' => keep _ (a3 k' hk')⟩
  · by_cases c : k < done.length
    · obtain ⟨i, hi, e⟩ := W.all k c
      refine ⟨i, hi, ?_⟩
      rw [oAt_set_ne _ fun z => by rw [z, q2] at e; cases e]
      exact e
    · have : k = done.length := by simp at hk; omega
      exact ⟨j, jm, by rw [this]; exact self⟩
  · by_cases c : i = j
    · rw [c]
      exact List.mem_cons_self
    · rw [oAt_set_ne _ c] at e
      exact List.mem_cons_of_mem _ (pin i hi e)
theorem own_fold {m : Nat} (hm : Msk m) : ∀ (rest done : List Int) (owner : Array (Option Nat)), Own m done owner → done.length + rest.length ≤ m →
    ∃ owner', rest.foldl (stepF m) (some (owner, done.length)) = some (owner', (done ++ rest).length) ∧ Own m (done ++ rest) owner' := by
  intro rest
  induction rest with
  | nil => exact fun done owner W _ => ⟨owner, by simp, by simpa using W⟩
  | cons h rest ih =>
    intro done owner W hl
    simp only [List.length_cons] at hl
    obtain ⟨j, e, W1⟩ := own_step hm W (by omega) h
    obtain ⟨owner', f, W2⟩ := ih (done ++ [h]) _ W1 (by simp; omega)
    rw [List.append_assoc] at f W2
    refine ⟨owner', ?_, W2⟩
    rw [List.foldl_cons, stepF_some e]
    simpa using f
theorem lay_ok {m : Nat} (hm : Msk m) {hs : Array Int} (hn : hs.size ≤ m) : ∃ owner, SetTable.layClean m hs = some owner ∧ Own m hs.toList owner := by
  obtain ⟨owner, f, W⟩ := own_fold hm hs.toList [] _ (Own.init m) (by simpa using hn)
  refine ⟨owner, ?_, W⟩
  have f : hs.toList.foldl (stepF m) (some (Array.replicate (m + 1) none, 0)) = some (owner, ([] ++ hs.toList).length) := f
  rw [layClean_eq, f]
  rfl
theorem relay_ok (t : SetTable) {hs : Array Int} {wanted M : Nat} (hw : SetTable.sizeAbove wanted - 1 = M) (hM : Msk M) (hn : hs.size ≤ M) :
    ∃ t' order, t.relaid hs wanted = some (t', order) ∧ order.toList.Perm (List.range hs.size) ∧ TabM t' (order.toList.map fun i => hs.getD i 0) ∧ t'.mask = M ∧ t'.led = t.led ∧ t'.plain = t.plain ∧ t'.dummies = #[] := by
  obtain ⟨owner, e, W⟩ := lay_ok hM hn
  have hr : t.relaid hs wanted = some (tabOf t M owner, ((liveOf M owner).map (·.2)).toArray) := by
    rw [relaid_eq, hw, e]
    rfl
  have ris := ris_live (fun j => owner.getD j none) (List.range (M + 1)) (by unfold Ris; exact List.pairwise_lt_range)
  have r1 : Ris ((liveOf M owner).map (·.1)) := ris.1
  have r2 : ∀ x ∈ (liveOf M owner).map (·.1), x ∈ List.range (M + 1) := ris.2
  have nd : ((liveOf M owner).map (·.1)).Nodup := r1.imp fun h => Nat.ne_of_lt h
  have has : ∀ k, k < hs.size → k ∈ (liveOf M owner).map (·.2) := fun k hk => by
    obtain ⟨j, b1, b2⟩ := W.all k (by simpa using hk)
    exact List.mem_map.mpr ⟨(j, k), (mem_live W.sz).mpr ⟨b1, b2⟩, rfl⟩
  have len : (liveOf M owner).length = hs.size := by
    obtain ⟨ps, p1, p2⟩ := W.ps
    have a := nat_nodup_len ((liveOf M owner).map (·.1)) ps nd fun x hx => by
      obtain ⟨⟨y, k⟩, hq, rfl⟩ := List.mem_map.mp hx
      obtain ⟨b1, b2⟩ := (mem_live W.sz).mp hq
      exact p2 y b1 (by rw [b2]; simp)
    have c := nat_nodup_len (List.range hs.size) ((liveOf M owner).map (·.2)) List.nodup_range fun k hk => has k (List.mem_range.mp hk)
    simp only [List.length_map, List.length_range, Array.length_toList] at a c p1
    omega
  refine ⟨tabOf t M owner, ((liveOf M owner).map (·.2)).toArray, hr, perm_range hs.size _ (by simpa using len) has, {
    ris := r1
    dm := rfl
    sz := by
      show ((liveOf M owner).map (·.1)).toArray.size = (((liveOf M owner).map (·.2)).map fun i => hs.getD i 0).length
      simp
    mok := hM
    bd := fun x hx => Nat.le_of_lt_succ (List.mem_range.mp (r2 x hx))
    reach := fun i h j e1 e2 => ?_ }, rfl, rfl, rfl, rfl⟩
  have e1 : (((liveOf M owner).map (·.2)).map fun i => hs.getD i 0)[i]? = some h := e1
  have e2 : ((liveOf M owner).map (·.1))[i]? = some j := e2
  rw [List.getElem?_map] at e2
  obtain ⟨⟨y, k⟩, hq, rfl⟩ := Option.map_eq_some_iff.mp e2
  rw [List.map_map, List.getElem?_map, hq] at e1
  have eh : hs.getD k 0 = h := Option.some.inj e1
  obtain ⟨b1, b2⟩ := (mem_live W.sz).mp (List.mem_of_getElem? hq)
  obtain ⟨h0, K, a1, a2, a3⟩ := W.at_ y k b1 b2
  have e0 : h0 = h := by
    rw [← eh, Array.getD_eq_getD_getElem?, ← Array.getElem?_toList, a1]
    rfl
  subst e0
  refine ⟨K, a2, fun k' hk' => ?_⟩
  cases z : oAt owner (way M h0 k') with
  | none => exact absurd z (a3 k' hk')
  | some k2 => exact List.mem_map.mpr ⟨(way M h0 k', k2), (mem_live W.sz).mpr ⟨way_in, z⟩, rfl⟩
theorem size_308 : SetTable.sizeAbove (SetTable.grown 77) = 512 := by decide +kernel
end PL
namespace PL
open PySem PySem.Spec PyProof.Rows L2
/-- the members with their places in the heap -/
abbrev NL := List (Addr × NestedKey)
abbrev hashesOf (w : World) (L : NL) : List Int := L.map fun p => p.2.hash w
abbrev entriesOf (w : World) (L : NL) : List (Int × Value) := L.map fun p => (p.2.hash w, Value.ref p.1)
structure NSet (P : Program) (w : World) (h : Heap) (a : Addr) (L : NL) (es : Array (Int × Value)) (ep : Nat) (t : SetTable) : Prop where
  ob : ∃ o, h.get? a = some o ∧ o.ExactSet ∧ o.data = .set es ep t
  rows : es.toList = entriesOf w L
  tab : TabM t (hashesOf w L)
  nd : (L.map Prod.snd).Nodup
  keys : ∀ p ∈ L, NKey P w h p.2 p.1
  led : w.params.followText "set-order" = true ∨ t.led = true
  room : L.length * 5 < t.mask * 3
section
variable {P : Program} {w : World} {A : Around} {E : Value → Shared → Prop} {s : Shared} {h : Heap} {a x : Addr} {L : NL} {es : Array (Int × Value)} {ep : Nat} {t : SetTable} {k : NestedKey}
theorem NSet.size (R : NSet P w h a L es ep t) : es.size = L.length := by
  rw [← Array.length_toList, R.rows, List.length_map]
theorem NSet.places (R : NSet P w h a L es ep t) : t.place.size = L.length := by
  rw [R.tab.sz, List.length_map]
theorem NSet.fits (R : NSet P w h a L es ep t) : t.fits es.size = true := by
  have h1 := R.places
  have h2 := R.size
  have h3 := R.room
  simp only [SetTable.fits, SetTable.fill, R.tab.dm, Bool.and_eq_true, beq_iff_eq, decide_eq_true_eq]
  exact ⟨by omega, by simp; omega⟩
theorem NSet.entry (R : NSet P w h a L es ep t) {i : Nat} {p : Addr × NestedKey} (hp : L[i]? = some p) : es[i]? = some (p.2.hash w, .ref p.1) := by
  have e : es.toList[i]? = some (p.2.hash w, .ref p.1) := by rw [R.rows, List.getElem?_map, hp]; rfl
  rwa [Array.getElem?_toList] at e
theorem NSet.odd (R : NSet P w h a L es ep t) : ¬ t.gaveWay = true := by
  simp only [SetTable.gaveWay, msk_odd R.tab.mok]
  decide
/-- the c-th probe of a hash -/
abbrev prb (t : SetTable) (g : Int) (c : Nat) : SetTable.Probe := nth t.mask (t.probeStart g) c
theorem prb_j (t : SetTable) (g : Int) (c q : Nat) : (nth t.mask (prb t g c) q).j = way t.mask g (c + q) := by
  unfold prb
  rw [← nth_add]
  rfl
theorem prb_more (t : SetTable) (g : Int) (c q : Nat) : nth t.mask (prb t g c) q = prb t g (c + q) := (nth_add ..).symm
theorem nth_dummy (m : Nat) : ∀ (n : Nat) (p : SetTable.Probe), p.dummy = none → (nth m p n).dummy = none
  | 0, _, e => e
  | n + 1, p, e => nth_dummy m n (adv m p) (by unfold adv; split <;> exact e)
theorem prb_dummy (t : SetTable) (g : Int) (c : Nat) : (prb t g c).dummy = none := nth_dummy t.mask c _ rfl
/-- what the search finds: from the c-th place on -/
theorem nsearch (R : NSet P w s.heap a L es ep t) (hx : NKey P w s.heap k x) (hu : A.units + 8 < cLine) {K : Nat} (hK : way t.mask (k.hash w) K ∉ t.place.toList) (hb : ∀ c, c < K → way t.mask (k.hash w) c ∈ t.place.toList) (hf : K < 10 * SetTable.turns t.mask)
    {Q : SetFound → Shared → Prop} (yes : k ∈ L.map Prod.snd → Q (.there none) s) (no : k ∉ L.map Prod.snd → Q (.free (way t.mask (k.hash w) K) false) s) :
    ∀ (n c f : Nat) (stand : Option SetTable.Probe), K - c ≤ n → c ≤ K → n < f → stand.getD (t.probeStart (k.hash w)) = prb t (k.hash w) c →
      (∀ (i : Nat) (p : Addr × NestedKey), L[i]? = some p → p.2 = k → ∃ c', c ≤ c' ∧ c' < K ∧ t.place.toList[i]? = some (way t.mask (k.hash w) c')) →
      wpAny (model P w) A (setSearchFrom a (.ref x) (k.hash w) true f stand) Q E s := by
  intro n
  induction n using Nat.strongRecOn with
  | ind n ih =>
    intro c f stand h1 h2 h3 h4 h5
    obtain ⟨f, rfl⟩ : ∃ f', f = f' + 1 := ⟨f - 1, by omega⟩
    obtain ⟨o, ho, hex, hd⟩ := R.ob
    rw [setSearchFrom_succ]
    refine wpAny_bind (wpAny_setState_of ho hd R.fits ?_)
    dsimp only
    refine wp_if_neg R.odd ?_
    have hash_at : ∀ (i : Nat) (p : Addr × NestedKey), L[i]? = some p → (es[i]?.map (·.1)).getD 0 = p.2.hash w := fun i p hp => by rw [R.entry hp]; rfl
    have spec := go_spec t R.tab.ris R.tab.dm (fun i => (es[i]?.map (·.1)).getD 0) (k.hash w) (10 * SetTable.turns t.mask) (K - c) (prb t (k.hash w) c) (prb_dummy t _ c) (by omega)
      (fun q hq => by rw [prb_j]; exact hb _ (by omega)) (by rw [prb_j, Nat.add_sub_cancel' h2]; exact hK)
    rcases spec with ⟨q, i, hq, hi, hh, hno, hpr⟩ | ⟨hno, hpr⟩
    · rw [prb_j] at hi
      have e : t.probe (fun i => (es[i]?.map (·.1)).getD 0) (k.hash w) (stand.getD (t.probeStart (k.hash w))) = some (.candidate (way t.mask (k.hash w) (c + q)) i (prb t (k.hash w) (c + (q + 1)))) := by
        rw [h4, ← prb_j, ← prb_more]; exact hpr
      have il : i < L.length := by
        have := (List.getElem?_eq_some_iff.mp hi).1
        rw [Array.length_toList, R.places] at this
        exact this
      obtain ⟨p, hp⟩ : ∃ p, L[i]? = some p := ⟨_, List.getElem?_eq_getElem il⟩
      have pm := List.mem_of_getElem? hp
      have pk := R.keys p pm
      have live : t.slot (way t.mask (k.hash w) (c + q)) = .live i := slot_live R.tab.ris hi
      have main : wpAny (model P w) A (searchRest a (.ref x) (k.hash w) true f es t (way t.mask (k.hash w) (c + q)) i (prb t (k.hash w) (c + (q + 1)))) Q E s := by
        unfold searchRest
        rw [R.entry hp]
        dsimp only
        refine wpAny_bind (wpAny_holding ((nestedKind P w).eqBool hu pk hx ?_))
        refine wpAny_bind (wpAny_setState_of ho hd R.fits ?_)
        dsimp only
        by_cases hk : p.2 = k
        · exact wp_if_pos (by simp [hk]) (wpAny_pure (yes (List.mem_map.mpr ⟨p, pm, hk⟩)))
        · refine wp_if_neg (by simp [hk]) ?_
          rw [sameMem]
          dsimp only
          simp only [if_true, live, R.entry hp]
          refine wpAny_bind (wpAny_isSame_ref_self (wpAny_bind (wpAny_pure ?_)))
          simp only [if_true]
          refine wp_if_neg (by simp [hk]) ?_
          refine ih (K - (c + (q + 1))) (by omega) (c + (q + 1)) f _ (Nat.le_refl _) (by omega) (by omega) rfl fun j p' hj hk' => ?_
          obtain ⟨c', b1, b2, b3⟩ := h5 j p' hj hk'
          refine ⟨c', ?_, b2, b3⟩
          have ne1 : ¬ c' < c + q := fun z => hno (c' - c) j (by omega) (by rw [prb_j, Nat.add_sub_cancel' b1]; exact b3) (by rw [hash_at j p' hj, hk'])
          have ne2 : c' ≠ c + q := fun z => by
            rw [z] at b3
            have l2 := slot_live R.tab.ris b3
            rw [live] at l2
            injection l2 with l2
            subst l2
            rw [hp] at hj
            cases hj
            exact hk hk'
          omega
      rw [e]
      dsimp only
      by_cases hl : t.led = true
      · exact wp_if_neg (by simp [hl]) main
      · refine wp_if_pos (by simp [hl]) (wpAny_bind (nkey_seen hx (fun y hy => ?_) (wp_if_neg (by decide) main)))
        obtain ⟨r, hr, rfl⟩ := List.mem_map.mp hy
        have hr2 : r ∈ es.toList := by
          have := Array.mem_toList_iff.mp hr
          rw [Array.mem_filter] at this
          exact Array.mem_toList_iff.mpr this.1
        rw [R.rows] at hr2
        obtain ⟨p', hp', rfl⟩ := List.mem_map.mp hr2
        exact ⟨p'.2, p'.1, rfl, R.keys p' hp'⟩
    · have e : t.probe (fun i => (es[i]?.map (·.1)).getD 0) (k.hash w) (stand.getD (t.probeStart (k.hash w))) = some (.empty (way t.mask (k.hash w) K) none) := by
        rw [h4, show way t.mask (k.hash w) K = (nth t.mask (prb t (k.hash w) c) (K - c)).j by rw [prb_j, Nat.add_sub_cancel' h2]]; exact hpr
      rw [e]
      dsimp only
      refine wpAny_pure (no fun hm => ?_)
      obtain ⟨p', hp', hk'⟩ := List.mem_map.mp hm
      obtain ⟨j, hj⟩ := List.getElem?_of_mem hp'
      obtain ⟨c', b1, b2, b3⟩ := h5 j p' hj hk'
      exact hno (c' - c) j (by omega) (by rw [prb_j, Nat.add_sub_cancel' b1]; exact b3) (by rw [hash_at j p' hj, hk'])
theorem turns_small {m : Nat} (h : Msk m) : 10 * SetTable.turns m ≤ 5300 := by
  rcases h with rfl | rfl | rfl | rfl <;> simp [SetTable.turns]
/-- the search of one that is to be put in -/
theorem nsearch_add (R : NSet P w s.heap a L es ep t) (hx : NKey P w s.heap k x) (hu : A.units + 8 < cLine) {Q : SetFound → Shared → Prop} (yes : k ∈ L.map Prod.snd → Q (.there none) s)
    (no : ∀ K, k ∉ L.map Prod.snd → way t.mask (k.hash w) K ∉ t.place.toList → (∀ c, c < K → way t.mask (k.hash w) c ∈ t.place.toList) → Q (.free (way t.mask (k.hash w) K) false) s) :
    wpAny (model P w) A (setSearch a (.ref x) (k.hash w) true) Q E s := by
  have hroom := R.room
  obtain ⟨K, h1, h2, h3⟩ := R.tab.first (by rw [List.length_map]; omega) (k.hash w)
  have h4 := turns_small R.tab.mok
  unfold setSearch
  refine nsearch R hx hu h2 h3 h1 yes (fun n => no K n h2 h3) K 0 100000 none (by omega) (Nat.zero_le _) (by omega) rfl fun i p hp hk => ?_
  have hi : (hashesOf w L)[i]? = some (k.hash w) := by rw [List.getElem?_map, hp, ← hk]; rfl
  obtain ⟨j, hj⟩ : ∃ j, t.place.toList[i]? = some j := ⟨_, List.getElem?_eq_getElem (by
    rw [Array.length_toList, R.places]
    exact (List.getElem?_eq_some_iff.mp hp).1)⟩
  obtain ⟨c, b1, b2⟩ := R.tab.before h2 hi hj
  exact ⟨c, Nat.zero_le _, b1, by rw [hj, b2]⟩
end
end PL
namespace PL
open PySem PySem.Spec PyProof.Rows L2
theorem all_at {α : Type} : ∀ (L : List α), (List.range L.length).filterMap (fun i => L[i]?) = L
  | [] => rfl
  | a :: L => by
    rw [List.length_cons, List.range_succ_eq_map, List.filterMap_cons]
    simp only [List.getElem?_cons_zero, List.filterMap_map]
    exact congrArg (a :: ·) (all_at L)
theorem filterMap_of {α β : Type} {f : α → Option β} {g : α → β} : ∀ {l : List α}, (∀ a ∈ l, f a = some (g a)) → l.filterMap f = l.map g
  | [], _ => rfl
  | a :: l, h => by
    rw [List.filterMap_cons_some (h a List.mem_cons_self), List.map_cons, filterMap_of fun b hb => h b (List.mem_cons_of_mem _ hb)]
section
variable {P : Program} {w : World} {A : Around} {E : Value → Shared → Prop} {s : Shared} {h : Heap} {a x : Addr} {L : NL} {es : Array (Int × Value)} {ep : Nat} {t : SetTable} {k : NestedKey}
theorem entries_at (hr : es.toList = entriesOf w L) (i : Nat) : es[i]? = (L[i]?).map fun p => (p.2.hash w, Value.ref p.1) := by
  rw [← Array.getElem?_toList, hr, List.getElem?_map]
theorem entries_size (hr : es.toList = entriesOf w L) : es.size = L.length := by
  rw [← Array.length_toList, hr, List.length_map]
/-- the entries in another order -/
theorem reorder (hr : es.toList = entriesOf w L) {order : Array Nat} (hp : order.toList.Perm (List.range L.length)) :
    ∃ L2 : NL, (order.filterMap (es[·]?)).toList = entriesOf w L2 ∧ L2.Perm L ∧ hashesOf w L2 = order.toList.map fun i => (es.map (·.1)).getD i 0 := by
  refine ⟨order.toList.filterMap fun i => L[i]?, ?_, ?_, ?_⟩
  · rw [Array.toList_filterMap, entriesOf, List.map_filterMap]
    congr 1
    funext i
    exact entries_at hr i
  · have := hp.filterMap fun i => L[i]?
    rwa [all_at] at this
  · rw [hashesOf, List.map_filterMap]
    refine filterMap_of fun i hi => ?_
    have hl : i < L.length := List.mem_range.mp (hp.mem_iff.mp hi)
    have e := entries_at hr i
    rw [List.getElem?_eq_getElem hl] at e ⊢
    rw [Array.getD_eq_getD_getElem?, Array.getElem?_map, e]
    rfl
theorem nkey_other {h h' : Heap} {o : Obj} (hk : NKey P w h k x) (ho : h.get? a = some o) (hd : o.data = .set es ep t) (sb : Heap.SameBut a h h') : NKey P w h' k x :=
  ⟨NestedIs.at (fun b ob vs n h1 h2 => (sb.2 b fun z => by
    rw [z, ho] at h1
    cases h1
    rw [hd] at h2
    cases h2).trans h1) _ _ hk.1, hk.2⟩
/-- the table is laid anew -/
theorem nrelay {o : Obj} (ho : s.heap.get? a = some o) (hex : o.ExactSet) (hd : o.data = .set es ep t) (hr : es.toList = entriesOf w L) (hz : t.place.size = es.size) (hm : t.dummies = #[]) (hle : es.size ≤ t.mask)
    (nd : (L.map Prod.snd).Nodup) (keys : ∀ p ∈ L, NKey P w s.heap p.2 p.1) (led : w.params.followText "set-order" = true ∨ t.led = true) {wanted M : Nat} (hM : Msk M) (hw : SetTable.sizeAbove wanted = M + 1) (room : L.length * 5 < M * 3)
    {Q : Unit → Shared → Prop} (q : ∀ h' L' es' ep' t', Heap.SameBut a s.heap h' → NSet P w h' a L' es' ep' t' → L'.Perm L → Q () { s with heap := h' }) : wpAny (model P w) A (setRelay a wanted) Q E s := by
  have hM128 : M ≤ 511 := by rcases hM with rfl | rfl | rfl | rfl <;> decide
  have size := entries_size hr
  have fits : t.fits es.size = true := by
    simp only [SetTable.fits, SetTable.fill, hm, Bool.and_eq_true, beq_iff_eq, decide_eq_true_eq]
    exact ⟨hz, by simp; omega⟩
  obtain ⟨t', order, e, hp, T, em, el, epl, edm⟩ := relay_ok t (hs := es.map (·.1)) (wanted := wanted) (M := M) (by omega) hM (by rw [Array.size_map]; omega)
  rw [Array.size_map, size] at hp
  obtain ⟨L2, r1, r2, r3⟩ := reorder hr hp
  rw [← r3] at T
  have size2 : (order.filterMap (es[·]?)).size = es.size := by rw [entries_size r1, r2.length_eq, size]
  rw [setRelay_eq]
  refine wpAny_bind (wpAny_setState_of ho hd fits ?_)
  dsimp only
  refine wp_if_neg (by rw [sizeLine_eq]; omega) ?_
  rw [e]
  dsimp only
  refine wpAny_bind (wp_if_neg (by rw [size2]; simp) (wpAny_pure ?_))
  dsimp only
  have sb : Heap.SameBut a s.heap (s.heap.update a (Obj.putSet (order.filterMap (es[·]?)) t')) := Heap.SameBut.update ..
  refine wpAny_storeSet_of ho hd (q _ L2 (order.filterMap (es[·]?)) (ep + 1) t' sb ?_ r2) (by rw [size2, sizeLine_eq]; omega)
  exact {
    ob := ⟨_, store_at ho hd, hex, rfl⟩
    rows := r1
    tab := T
    nd := (r2.map Prod.snd).nodup_iff.mpr nd
    keys := fun p hp => nkey_other (keys p (r2.mem_iff.mp hp)) ho hd sb
    led := by rw [el]; exact led
    room := by rw [r2.length_eq, em]; exact room }
theorem insert_perm {L : NL} {n : Nat} {p : Addr × NestedKey} : (L.take n ++ p :: L.drop n).Perm (p :: L) := by
  refine List.perm_middle.trans ?_
  rw [List.take_append_drop]
/-- a key is put in -/
theorem nadd (R : NSet P w s.heap a L es ep t) (hx : NKey P w s.heap k x) (hu : A.units + 8 < cLine) (few : L.length < 300) {Q : Bool → Shared → Prop}
    (q : ∀ b h' L' es' ep' t', Heap.SameBut a s.heap h' → NSet P w h' a L' es' ep' t' → (k ∈ L.map Prod.snd → L' = L) → (k ∉ L.map Prod.snd → L'.Perm ((x, k) :: L)) → Q b { s with heap := h' }) :
    wpAny (model P w) A (setAddHashed a (.ref x) (k.hash w)) Q E s := by
  obtain ⟨o, ho, hex, hd⟩ := id R.ob
  have size := R.size
  have room := R.room
  unfold setAddHashed
  refine wpAny_holding ?_
  rw [show 100000 = 99999 + 1 from rfl, setAddHashedIn_succ]
  refine wpAny_bind (wpAny_setState_of ho hd R.fits ?_)
  dsimp only
  refine wp_if_neg (by simp [byScan, Value.scannable]) ?_
  refine wpAny_bind (nsearch_add R hx hu (fun hm => ?_) fun K hm hK hb => ?_)
  · exact wpAny_pure (q false s.heap L es ep t (.refl a s.heap) R (fun _ => rfl) fun z => absurd hm z)
  · dsimp only
    refine wpAny_bind (wpAny_setState_of ho hd R.fits ?_)
    dsimp only
    obtain ⟨b1, b2, T, b4, b5, b9⟩ := R.tab.put hK hb
    generalize t.put (way t.mask (k.hash w) K) = pt at b1 b4 b5 b9 T ⊢
    obtain ⟨t1, n⟩ := pt
    dsimp only at b1 b4 b5 b9 T ⊢
    rw [← b1] at b2 T
    rw [List.length_map] at b9
    have rows1 : (SetTable.insertAt es n (k.hash w, Value.ref x)).toList = entriesOf w (L.take n ++ (x, k) :: L.drop n) := by
      rw [SetTable.toList_insertAt, R.rows]
      simp only [entriesOf, List.map_append, List.map_cons, List.map_take, List.map_drop]
    have T1 : TabM t1 (hashesOf w (L.take n ++ (x, k) :: L.drop n)) := by
      simp only [hashesOf, List.map_append, List.map_cons, List.map_take, List.map_drop] at T ⊢
      exact T
    have pm := insert_perm (L := L) (n := n) (p := (x, k))
    generalize SetTable.insertAt es n (k.hash w, Value.ref x) = es1 at rows1 ⊢
    generalize L.take n ++ (x, k) :: L.drop n = L1 at rows1 T1 pm
    have len1 : L1.length = L.length + 1 := pm.length_eq
    have size1 : es1.size = L.length + 1 := by rw [entries_size rows1, len1]
    have places1 : t1.place.size = L.length + 1 := by rw [T1.sz, List.length_map, len1]
    have nd1 : (L1.map Prod.snd).Nodup := (pm.map Prod.snd).nodup_iff.mpr (List.nodup_cons.mpr ⟨hm, R.nd⟩)
    have step : ∀ t2 : SetTable, t2.mask = t1.mask → t2.place = t1.place → t2.dummies = t1.dummies → t2.led = t1.led → TabM t2 (hashesOf w L1) →
        wpAny (model P w) A (do
          storeSet a es1 t2
          if (!false && t2.tooFull) = true then setRelay a (SetTable.grown (es.size + 1))
          return true) Q E s := fun t2 c1 c2 c3 c4 T2 => by
      have sb : Heap.SameBut a s.heap (s.heap.update a (Obj.putSet es1 t2)) := Heap.SameBut.update ..
      have ho1 := store_at (es' := es1) (t' := t2) ho hd
      refine wpAny_bind (wpAny_storeSet_of ho hd ?_ (by rw [size1, sizeLine_eq]; omega))
      generalize s.heap.update a (Obj.putSet es1 t2) = h1 at sb ho1 ⊢
      have keys1 : ∀ p ∈ L1, NKey P w h1 p.2 p.1 := fun p hp => by
        rcases List.mem_cons.mp (pm.mem_iff.mp hp) with z | hp
        · subst z; exact nkey_other hx ho hd sb
        · exact nkey_other (R.keys p hp) ho hd sb
      have led1 : w.params.followText "set-order" = true ∨ t2.led = true := by rw [c4, b5]; exact R.led
      have hfill : t2.fill = L.length + 1 := by
        rw [← b9]
        simp only [SetTable.fill, c2, c3]
      have htf : t2.tooFull = decide ((L.length + 1) * 5 ≥ t.mask * 3) := by
        rw [← hfill, ← b4, ← c1]; rfl
      dsimp only
      by_cases hf : (L.length + 1) * 5 ≥ t.mask * 3
      · rw [htf, decide_eq_true hf]
        refine wp_if_pos rfl (wpAny_bind ?_)
        have two : (t.mask = 7 ∧ L.length = 4) ∨ (t.mask = 31 ∧ L.length = 18) ∨ (t.mask = 127 ∧ L.length = 76) := by
          rcases R.tab.mok with z | z | z | z <;> rw [z] at room hf
          · exact .inl ⟨z, by omega⟩
          · exact .inr (.inl ⟨z, by omega⟩)
          · exact .inr (.inr ⟨z, by omega⟩)
          · omega
        have go : ∀ M, Msk M → SetTable.sizeAbove (SetTable.grown (es.size + 1)) = M + 1 → L1.length * 5 < M * 3 →
            wpAny (model P w) A (setRelay a (SetTable.grown (es.size + 1))) (fun _ s' => wpAny (model P w) A (pure true) Q E s') E { s with heap := h1 } := fun M m1 m2 m3 =>
          nrelay (s := { s with heap := h1 }) ho1 hex rfl rows1 (by rw [c2, places1, size1]) T2.dm (by rw [size1, c1, b4]; omega) nd1 keys1 led1 m1 m2 m3
            fun h' L' es' ep' t' sb' R' pm' => wpAny_pure (q true h' L' es' ep' t' (sb.trans sb') R' (fun z => absurd z hm) fun _ => pm'.trans pm)
        rcases two with ⟨_, z⟩ | ⟨_, z⟩ | ⟨_, z⟩
        · exact go 31 (.inr (.inl rfl)) (by rw [size, z]; exact size_20) (by omega)
        · exact go 127 (.inr (.inr (.inl rfl))) (by rw [size, z]; exact size_76) (by omega)
        · exact go 511 (.inr (.inr (.inr rfl))) (by rw [size, z]; exact size_308) (by omega)
      · rw [htf, decide_eq_false hf]
        refine wp_if_neg (by decide) (wpAny_pure (q true h1 L1 es1 (ep + 1) t2 sb ?_ (fun z => absurd z hm) fun _ => pm))
        exact {
          ob := ⟨_, ho1, hex, rfl⟩
          rows := rows1
          tab := T2
          nd := nd1
          keys := keys1
          led := led1
          room := by rw [len1, c1, b4]; omega }
    have ans : ∀ b : Bool, wpAny (model P w) A (do
          storeSet a es1 (if b = true then t1 else { t1 with plain := false })
          if (!false && (if b = true then t1 else { t1 with plain := false }).tooFull) = true then setRelay a (SetTable.grown (es.size + 1))
          return true) Q E s := fun b => by
      cases b with
      | true => exact step t1 rfl rfl rfl rfl T1
      | false => exact step { t1 with plain := false } rfl rfl rfl rfl ⟨T1.ris, T1.dm, T1.sz, T1.mok, T1.bd, T1.reach⟩
    by_cases hpl : t1.plain = true
    · exact wp_if_pos hpl (wpAny_bind (nkey_byv hx ans))
    · exact wp_if_neg hpl (wpAny_bind (wpAny_pure (ans true)))
end
end PL
namespace PL
open PySem PySem.Spec PyProof.Rows L2
/-- L holds the keys of done, each once -/
structure Once (done L : NL) : Prop where
  sub : ∀ p ∈ L, p ∈ done
  all : ∀ p ∈ done, p.2 ∈ L.map Prod.snd
  len : L.length ≤ done.length
theorem Once.nil : Once [] [] := ⟨fun _ h => h, fun _ h => (nomatch h), Nat.le_refl _⟩
theorem Once.old {done L : NL} {p : Addr × NestedKey} (o : Once done L) (h : p.2 ∈ L.map Prod.snd) : Once (done ++ [p]) L where
  sub := fun q hq => List.mem_append_left _ (o.sub q hq)
  all := fun q hq => by
    rcases List.mem_append.mp hq with hq | hq
    · exact o.all q hq
    · cases List.mem_singleton.mp hq; exact h
  len := by have := o.len; simp; omega
theorem Once.new {done L L' : NL} {p : Addr × NestedKey} (o : Once done L) (h : L'.Perm (p :: L)) : Once (done ++ [p]) L' where
  sub := fun q hq => by
    rcases List.mem_cons.mp (h.mem_iff.mp hq) with z | hq
    · exact List.mem_append_right _ (List.mem_singleton.mpr z)
    · exact List.mem_append_left _ (o.sub q hq)
  all := fun q hq => (h.map Prod.snd).mem_iff.mpr (by
    rcases List.mem_append.mp hq with hq | hq
    · exact List.mem_cons_of_mem _ (o.all q hq)
    · cases List.mem_singleton.mp hq; exact List.mem_cons_self)
  len := by have := o.len; rw [h.length_eq]; simp; omega
section
variable {P : Program} {w : World} {A : Around} {s : Shared} {L : NL} {es : Array (Int × Value)} {ep : Nat} {t : SetTable}
theorem NKey.up {h h' : Heap} {k : NestedKey} {a : Addr} (x : NKey P w h k a) (up : ∀ b o, h.get? b = some o → h'.get? b = some o) : NKey P w h' k a :=
  ⟨NestedIs.at (fun b o vs n e _ => up b o e) _ _ x.1, x.2⟩
theorem NSet.up {h h' : Heap} {a : Addr} (R : NSet P w h a L es ep t) (ha : ∀ o, h.get? a = some o → h'.get? a = some o) (hk : ∀ p ∈ L, NKey P w h' p.2 p.1) : NSet P w h' a L es ep t where
  ob := by obtain ⟨o, h1, h2⟩ := R.ob; exact ⟨o, ha o h1, h2⟩
  rows := R.rows
  tab := R.tab
  nd := R.nd
  keys := hk
  led := R.led
  room := R.room
abbrev newTab (w : World) : SetTable := .fresh 0 0 (!w.params.followText "set-order")
abbrev newSetObj (w : World) : Obj := { cls := .type "set", dict := none, data := .set #[] 0 (newTab w) }
theorem NSet.new {h : Heap} {a : Addr} (e : h.get? a = some (newSetObj w)) : NSet P w h a [] #[] 0 (newTab w) where
  ob := ⟨_, e, ⟨rfl, rfl, rfl⟩, rfl⟩
  rows := rfl
  tab := ⟨.nil, rfl, rfl, .inl rfl, fun x hx => (nomatch hx), fun i g j hi => by simp at hi⟩
  nd := .nil
  keys := fun p hp => nomatch hp
  led := by
    cases hb : w.params.followText "set-order" with
    | true => exact .inl rfl
    | false => right; show (!w.params.followText "set-order") = true; rw [hb]; rfl
  room := by show 0 * 5 < 7 * 3; decide
/-- what set(..) does with what it walks -/
theorem nupdate {I S : Addr} {fp wr : List Addr} {G : Array GenState → Array GenState → Prop} {ks : NL} {Pv : Nat → Value → Prop} {St : Nat → Shared → Prop} {R : Result → Shared → Prop} (W : WalksS P w A.in1 I fp wr G ks.length Pv St) (hS : S ∉ fp)
    (val : ∀ i v, Pv i v → ∃ p, ks[i]? = some p ∧ v = .ref p.1) (few : ks.length ≤ 300) (hu : A.in1.units + 8 < cLine) {h0 : Heap} (hk : ∀ p ∈ ks, NKey P w h0 p.2 p.1) (nS : h0.get? S = none) (nw : ∀ b ∈ wr, h0.get? b = none) :
    ∀ (rest done : NL) (s : Shared), ks = done ++ rest → St done.length s → (∀ b o, h0.get? b = some o → s.heap.get? b = some o) → (∃ L es ep t, NSet P w s.heap S L es ep t ∧ Once done L) →
      (∀ s' L es ep t, Moved (S :: wr) G s s' → NSet P w s'.heap S L es ep t → Once ks L → (∀ b o, h0.get? b = some o → s'.heap.get? b = some o) → R (.ok (.ret .none)) s') →
      codeAny (model P w) A (.builtin "set.update.loop" ⟨[.ref S, .ref I], []⟩) R s := by
  have out : S ∉ wr := fun z => hS (W.sub _ z)
  have wid : ∀ b ∈ wr, b ∈ S :: wr := fun b hb => List.mem_cons_of_mem _ hb
  have still : ∀ {u v : Shared}, Moved wr G u v → (∀ b o, h0.get? b = some o → u.heap.get? b = some o) → ∀ b o, h0.get? b = some o → v.heap.get? b = some o := fun m k b o e =>
    m.heap b o (fun z => nomatch (nw b z).symm.trans e) (k b o e)
  intro rest
  induction rest with
  | nil =>
    intro done s e st up ⟨L, es, ep, t, hR, on⟩ q
    rw [List.append_nil] at e
    subst e
    refine codeAny_builtin F.entry_set_update_loop ?_
    rw [Around.under_plainId F.plain_set_update_loop _]
    show wpAny _ A.in1 (pyNext (.ref I) >>= _) _ _ s
    refine wpAny_bind (W.done s _ _ st fun s1 m => ?_)
    have up1 := still m up
    show wpAny _ A.in1 (PySem.ret Value.none) _ _ s1
    exact wpAny_pure (q s1 L es ep t (m.mono wid) (hR.up (fun o => m.heap S o out) fun p hp => (hk p (on.sub p hp)).up up1) on up1)
  | cons p rest ih =>
    intro done s e st up ⟨L, es, ep, t, hR, on⟩ q
    have hl : done.length < ks.length := by rw [e]; simp
    have hat : ks[done.length]? = some p := by rw [e, List.getElem?_append_right (Nat.le_refl _)]; simp
    refine codeAny_builtin F.entry_set_update_loop ?_
    rw [Around.under_plainId F.plain_set_update_loop _]
    show wpAny _ A.in1 (pyNext (.ref I) >>= _) _ _ s
    refine wpAny_bind (W.item done.length s _ _ hl st fun v s1 hv st1 m => ?_)
    obtain ⟨p', hp', rfl⟩ := val _ v hv
    obtain rfl : p = p' := Option.some.inj (hat.symm.trans hp')
    have up1 := still m up
    have sub : ∀ y ∈ L, y ∈ ks := fun y hy => by rw [e]; exact List.mem_append_left _ (on.sub y hy)
    have R1 : NSet P w s1.heap S L es ep t := hR.up (fun o => m.heap S o out) fun y hy => (hk y (sub y hy)).up up1
    have x1 : NKey P w s1.heap p.2 p.1 := (hk p (List.mem_of_getElem? hat)).up up1
    show wpAny _ A.in1 (holding [Value.ref p.1] (setAdd S (.ref p.1)) >>= _) _ _ s1
    refine wpAny_bind (wpAny_holding ?_)
    unfold setAdd
    refine wpAny_holding (wpAny_bind ((nestedKind P w).pyHash hu x1 ?_))
    refine nadd (s := { s1 with toks := s1.toks + p.2.draws }) R1 x1 hu (by have := on.len; omega) fun b h2 L2 es2 ep2 t2 sb R2 c1 c2 => ?_
    have on2 : Once (done ++ [p]) L2 := by
      by_cases c : p.2 ∈ L.map Prod.snd
      · rw [c1 c]; exact on.old c
      · exact on.new (c2 c)
    have up2 : ∀ b o, h0.get? b = some o → h2.get? b = some o := fun b o z => (sb.2 b fun y => by rw [y, nS] at z; cases z).trans (up1 b o z)
    refine wpAny_pure ⟨plainId_quiet F.plain_set_update_loop _, ih (done ++ [p]) _ (by rw [e]; simp) ?_ up2 ⟨L2, es2, ep2, t2, R2, on2⟩ fun s3 L3 es3 ep3 t3 m3 R3 on3 up3 => ?_⟩
    · rw [List.length_append]
      exact W.frame _ s1 _ _ st1 (Nat.le_add_right _ _) fun b hb o z => (sb.2 b fun y => hS (y ▸ hb)).trans z
    · refine q s3 L3 es3 ep3 t3 (Moved.trans W.gtrans ((m.mono wid).then_heap (Nat.le_add_right _ _) fun b o hb z => ?_) m3) R3 on3 up3
      exact (sb.2 b fun y => hb (y ▸ List.mem_cons_self)).trans z
end
end PL
namespace PL
open PySem PySem.Spec PyProof.Rows L2
section
variable {P : Program} {w : World} {A : Around} {E : Value → Shared → Prop} {s : Shared}
theorem set_made {v : Value} {Q : Value → Shared → Prop}
    (body : wpAny (model P w) A.in1.in1 (Builtin.«set.__init__» ⟨[.ref s.heap.objs.size, v], []⟩) (fun f s' => f = .done (.ret .none) ∧ Q (.ref s.heap.objs.size) s') E { s with heap := s.heap.push (newSetObj w) }) :
    wpAny (model P w) A (call (.type "set") [v]) Q E s := by
  obtain ⟨c, tl, hm⟩ := F.called_set.mro
  have f1 := F.called_set.made
  have f2 := F.called_set.sub
  have f3 := F.called_set.notType
  have f4 := F.called_set.canCreate
  have f5 := F.typeCall_set_1 v
  refine wpAny_call (codeAny_of_tree ?_)
  show wpAny _ _ (callAny (.type "set") _) _ _ _
  refine wpAny_pure ⟨Code.quiet_builtin _ (by decide +kernel), codeAny_builtin F.entry_type_call ?_⟩
  rw [Around.under_plain (weight_type_call_type "set" [v] []) rfl]
  repeat (any_goals (first | assumption | wp_step))
  refine codeAny_mono (code_set_led1 v (E := E) (Q₁ := fun r s1 => r = .ref s.heap.objs.size ∧ s1 = { s with heap := s.heap.push (newSetObj w) }) ⟨rfl, rfl⟩) fun r s1 hr => ?_
  match r, hr with
  | .error e, hr => exact hr
  | .ok (.ret obj), ⟨e1, e2⟩ =>
    subst e1 e2
    have g1 : Shared.TypeIs { s with heap := s.heap.push (newSetObj w) } (.ref s.heap.objs.size) "set" := ⟨_, Heap.get?_push_size _ rfl, rfl⟩
    have g2 := F.called_set.init.lookup
    have g3 := F.called_set.init.bind (.ref s.heap.objs.size)
    repeat (any_goals (first | assumption | wp_step))
    refine codeAny_mono (codeAny_call_builtin (R := wants (fun r s2 => r = .none ∧ Q (.ref s.heap.objs.size) s2) E) F.called_set.init.plain F.entry_set_init (check_set_init_1 g1 ?_)) fun r2 s2 hr2 => ?_
    · refine wpAny_mono body (fun f s' h => ?_) fun e s' h => h
      obtain ⟨rfl, h⟩ := h
      exact ⟨rfl, h⟩
    · match r2, hr2 with
      | .error e, hr2 => exact hr2
      | .ok (.ret r), ⟨e1, h⟩ =>
        subst e1
        repeat (any_goals (first | assumption | wp_step))
end
end PL
namespace PL
open PySem PySem.Spec PyProof.Rows L2
section
variable {P : Program} {w : World} {A : Around} {E : Value → Shared → Prop} {s : Shared}
theorem past {h : Heap} {b : Addr} (hb : h.objs.size ≤ b) : h.get? b = none := by
  cases q : h.get? b with
  | none => rfl
  | some o => exact absurd (Heap.lt_size q) (Nat.not_lt_of_le hb)
theorem ref_at {ks : NL} {items : Array Value} (hit : items.toList = ks.map fun p => Value.ref p.1) {i : Nat} {v : Value} (hv : items[i]? = some v) : ∃ p, ks[i]? = some p ∧ v = .ref p.1 := by
  rw [← Array.getElem?_toList, hit, List.getElem?_map] at hv
  obtain ⟨p, h1, h2⟩ := Option.map_eq_some_iff.mp hv
  exact ⟨p, h1, h2.symm⟩
/-- set(xs), xs a list of keys -/
theorem nset_list {l : Addr} {items : Array Value} {ks : NL} {Q : Value → Shared → Prop} (hh : A.handled = none) (hl : s.heap.IsList l items) (hit : items.toList = ks.map fun p => Value.ref p.1) (hk : ∀ p ∈ ks, NKey P w s.heap p.2 p.1) (few : ks.length ≤ 300) (hu : A.units + 16 < cLine)
    (q : ∀ h' tk L es ep t, NSet P w h' s.heap.objs.size L es ep t → Once ks L → (∀ b o, s.heap.get? b = some o → h'.get? b = some o) → Q (.ref s.heap.objs.size) { s with heap := h', toks := tk }) :
    wpAny (model P w) A (call (.type "set") [.ref l]) Q E s := by
  refine set_made ?_
  have size : items.size = ks.length := by rw [← Array.length_toList, hit, List.length_map]
  obtain ⟨⟨cls, dict, data, slots⟩, ho, hc, n, hd⟩ := hl
  simp only at hc hd
  subst hc hd
  have lt : l < s.heap.objs.size := Heap.lt_size ho
  have ho1 : (s.heap.push (newSetObj w)).get? l = some { cls := .type "list", dict := dict, data := .seq items n, slots := slots } := Heap.get?_push_of_some _ ho
  have hl1 : (s.heap.push (newSetObj w)).IsList l items := ⟨_, ho1, rfl, n, rfl⟩
  have sz1 : (s.heap.push (newSetObj w)).objs.size = s.heap.objs.size + 1 := Heap.size_push ..
  have f1 := F.sub_list_set
  have f2 := F.sub_list_frozenset
  have f3 : (Value.type "list" == Value.type "dict") = false := by decide
  unfold Builtin.«set.__init__» noKeywords Builtin.Frozenset.updateFrom
  generalize hI : pyIter = PI
  wp_walk
  subst hI
  refine wpAny_pyIter_list hl1 ?_
  refine wpAny_bind (wpAny_runValue ?_)
  have hz : (s.heap.push (newSetObj w)).objs.size = s.heap.objs.size + 1 := Heap.size_push ..
  have neI : l ≠ (s.heap.push (newSetObj w)).objs.size := Nat.ne_of_lt (by rw [hz]; exact Nat.lt_succ_of_lt lt)
  have hh3 : A.in1.in1.in1.handled = none := by simp [hh]
  have W := (Walks.list (prog := P) (w := w) (A := A.in1.in1.in1) hh3 (s.heap.push (newSetObj w)).objs.size l neI items).toS
  rw [size] at W
  have hu3 : A.in1.in1.in1.units + 8 < cLine := by simp only [Around.in1_units]; omega
  have get2 : ((s.heap.push (newSetObj w)).push { cls := .type "list_iterator", data := .fields #[.ref l, .int 0 0] }).get? s.heap.objs.size = some (newSetObj w) := Heap.get?_push_of_some _ (Heap.get?_push_size _ rfl)
  refine nupdate W (S := s.heap.objs.size) ?_ (fun i v hv => ref_at hit hv) few hu3 (h0 := s.heap) hk (past (Nat.le_refl _)) (fun b hb => past (by rw [List.mem_singleton.mp hb, hz]; omega)) ks [] _ rfl
    ⟨⟨_, Heap.get?_push_size _ rfl, rfl, rfl⟩, hl1.push _⟩ (fun b o e => Heap.get?_push_of_some _ (Heap.get?_push_of_some _ e)) ⟨[], #[], 0, newTab w, .new get2, .nil⟩ ?_
  · rw [hz]
    simp only [List.mem_cons, List.not_mem_nil, or_false, not_or]
    exact ⟨Nat.ne_of_lt (Nat.lt_succ_self _), Nat.ne_of_gt lt⟩
  · intro s2 L es ep t m R on up
    obtain ⟨h2, g2, d2, tk2, o2⟩ := s2
    obtain rfl : g2 = s.gens := m.gens
    obtain rfl : d2 = s.drawn := m.drawn
    obtain rfl : o2 = s.os := m.os
    show wpAny _ _ _ _ _ _
    exact wpAny_pure (wpAny_pure ⟨rfl, q h2 tk2 L es ep t R on up⟩)
/-- set(xs), xs a tuple of keys -/
theorem nset_tuple {l : Addr} {items : Array Value} {ks : NL} {Q : Value → Shared → Prop} (hh : A.handled = none) (hl : s.heap.IsTuple l items) (hit : items.toList = ks.map fun p => Value.ref p.1) (hk : ∀ p ∈ ks, NKey P w s.heap p.2 p.1) (few : ks.length ≤ 300) (hu : A.units + 16 < cLine)
    (q : ∀ h' tk L es ep t, NSet P w h' s.heap.objs.size L es ep t → Once ks L → (∀ b o, s.heap.get? b = some o → h'.get? b = some o) → Q (.ref s.heap.objs.size) { s with heap := h', toks := tk }) :
    wpAny (model P w) A (call (.type "set") [.ref l]) Q E s := by
  refine set_made ?_
  have size : items.size = ks.length := by rw [← Array.length_toList, hit, List.length_map]
  obtain ⟨⟨cls, dict, data, slots⟩, ho, hc, n, hd⟩ := hl
  simp only at hc hd
  subst hc hd
  have lt : l < s.heap.objs.size := Heap.lt_size ho
  have ho1 : (s.heap.push (newSetObj w)).get? l = some { cls := .type "tuple", dict := dict, data := .seq items n, slots := slots } := Heap.get?_push_of_some _ ho
  have hl1 : (s.heap.push (newSetObj w)).IsTuple l items := ⟨_, ho1, rfl, n, rfl⟩
  have sz1 : (s.heap.push (newSetObj w)).objs.size = s.heap.objs.size + 1 := Heap.size_push ..
  have f1 := F.sub_tuple_set
  have f2 := F.sub_tuple_frozenset
  have f3 : (Value.type "tuple" == Value.type "dict") = false := by decide
  unfold Builtin.«set.__init__» noKeywords Builtin.Frozenset.updateFrom
  generalize hI : pyIter = PI
  wp_walk
  subst hI
  refine wpAny_pyIter_tuple hl1 ?_
  refine wpAny_bind (wpAny_runValue ?_)
  have hz : (s.heap.push (newSetObj w)).objs.size = s.heap.objs.size + 1 := Heap.size_push ..
  have neI : l ≠ (s.heap.push (newSetObj w)).objs.size := Nat.ne_of_lt (by rw [hz]; exact Nat.lt_succ_of_lt lt)
  have hh3 : A.in1.in1.in1.handled = none := by simp [hh]
  have W := (Walks.tuple (prog := P) (w := w) (A := A.in1.in1.in1) hh3 (s.heap.push (newSetObj w)).objs.size l neI items).toS
  rw [size] at W
  have hu3 : A.in1.in1.in1.units + 8 < cLine := by simp only [Around.in1_units]; omega
  have get2 : ((s.heap.push (newSetObj w)).push { cls := .type "tuple_iterator", data := .fields #[.ref l, .int 0 0] }).get? s.heap.objs.size = some (newSetObj w) := Heap.get?_push_of_some _ (Heap.get?_push_size _ rfl)
  refine nupdate W (S := s.heap.objs.size) ?_ (fun i v hv => ref_at hit hv) few hu3 (h0 := s.heap) hk (past (Nat.le_refl _)) (fun b hb => past (by rw [List.mem_singleton.mp hb, hz]; omega)) ks [] _ rfl
    ⟨⟨_, Heap.get?_push_size _ rfl, rfl, rfl⟩, hl1.push _⟩ (fun b o e => Heap.get?_push_of_some _ (Heap.get?_push_of_some _ e)) ⟨[], #[], 0, newTab w, .new get2, .nil⟩ ?_
  · rw [hz]
    simp only [List.mem_cons, List.not_mem_nil, or_false, not_or]
    exact ⟨Nat.ne_of_lt (Nat.lt_succ_self _), Nat.ne_of_gt lt⟩
  · intro s2 L es ep t m R on up
    obtain ⟨h2, g2, d2, tk2, o2⟩ := s2
    obtain rfl : g2 = s.gens := m.gens
    obtain rfl : d2 = s.drawn := m.drawn
    obtain rfl : o2 = s.os := m.os
    show wpAny _ _ _ _ _ _
    exact wpAny_pure (wpAny_pure ⟨rfl, q h2 tk2 L es ep t R on up⟩)
end
end PL
namespace PL
open PySem PySem.Spec PyProof.Rows L2
mutual
/-- the key that data is -/
def kOf : PyData → Option NestedKey
  | .none => some .none
  | .int i => some (.num i)
  | .str x => some (.text x)
  | .tuple xs => (kOfs xs).map .tup
  | _ => none
def kOfs : List PyData → Option (List NestedKey)
  | [] => some []
  | x :: xs => match kOf x, kOfs xs with
    | some k, some ks => some (k :: ks)
    | _, _ => none
end
mutual
theorem reads_key {h : Heap} : ∀ (d : PyData) (v : Value) (as : List Addr) (k : NestedKey), Reads h v d as → kOf d = some k → NestedIs h k v
  | .none, _, _, _, r, e => by cases r; simp only [kOf, Option.some.injEq] at e; subst e; exact .none
  | .int i, _, _, _, r, e => by cases r; simp only [kOf, Option.some.injEq] at e; subst e; exact .int _ _
  | .str x, _, _, _, r, e => by cases r; simp only [kOf, Option.some.injEq] at e; subst e; exact .text _ _
  | .tuple xs, _, _, _, r, e => by
    simp only [kOf] at e
    obtain ⟨ks, e1, rfl⟩ := Option.map_eq_some_iff.mp e
    cases r with
    | tuple h1 h2 h3 h4 => exact .tup h1 h2 h3 (reads_keys xs _ _ _ h4 e1)
  | .bool _, _, _, _, _, e => by simp [kOf] at e
  | .list _, _, _, _, _, e => by simp [kOf] at e
  | .dict _, _, _, _, _, e => by simp [kOf] at e
theorem reads_keys {h : Heap} : ∀ (ds : List PyData) (vs : List Value) (as : List Addr) (ks : List NestedKey), ReadsAll h vs ds as → kOfs ds = some ks → NestedAll h ks vs
  | [], _, _, _, r, e => by cases r; simp only [kOfs, Option.some.injEq] at e; subst e; exact .nil
  | d :: ds, _, _, _, r, e => by
    simp only [kOfs] at e
    split at e
    · rename_i k ks e1 e2
      cases e
      cases r with
      | cons h1 h2 => exact .cons (reads_key d _ _ _ h1 e1) (reads_keys ds _ _ _ h2 e2)
    · cases e
end
mutual
theorem kOf_inj : ∀ (d d' : PyData) (k : NestedKey), kOf d = some k → kOf d' = some k → d = d'
  | .none, d', _, e, e' => by simp only [kOf, Option.some.injEq] at e; subst e; cases d' <;> simp [kOf] at e' <;> rfl
  | .int i, d', _, e, e' => by simp only [kOf, Option.some.injEq] at e; subst e; cases d' <;> simp [kOf] at e' <;> rw [e']
  | .str x, d', _, e, e' => by simp only [kOf, Option.some.injEq] at e; subst e; cases d' <;> simp [kOf] at e' <;> rw [e']
  | .tuple xs, d', _, e, e' => by
    simp only [kOf] at e
    obtain ⟨ks, e1, rfl⟩ := Option.map_eq_some_iff.mp e
    cases d' <;> simp [kOf] at e'
    rename_i ys
    rw [kOfs_inj xs ys ks e1 e']
  | .bool _, _, _, e, _ => by simp [kOf] at e
  | .list _, _, _, e, _ => by simp [kOf] at e
  | .dict _, _, _, e, _ => by simp [kOf] at e
theorem kOfs_inj : ∀ (ds ds' : List PyData) (ks : List NestedKey), kOfs ds = some ks → kOfs ds' = some ks → ds = ds'
  | [], [], _, _, _ => rfl
  | [], d' :: ds', _, e, e' => by
    simp only [kOfs, Option.some.injEq] at e
    subst e
    simp only [kOfs] at e'
    split at e' <;> cases e'
  | d :: ds, [], _, e, e' => by
    simp only [kOfs, Option.some.injEq] at e'
    subst e'
    simp only [kOfs] at e
    split at e <;> cases e
  | d :: ds, d' :: ds', _, e, e' => by
    simp only [kOfs] at e e'
    split at e
    · rename_i k ks e1 e2
      cases e
      split at e'
      · rename_i k' ks' e3 e4
        cases e'
        rw [kOf_inj d d' k e1 e3, kOfs_inj ds ds' ks e2 e4]
      · cases e'
    · cases e
end
/-- the set at a, told apart from its members -/
structure NSet0 (w : World) (h : Heap) (a : Addr) (L : NL) : Prop where
  ex : ∃ (es : Array (Int × Value)) (ep : Nat) (t : SetTable), (∃ o, h.get? a = some o ∧ o.ExactSet ∧ o.data = .set es ep t) ∧ es.toList = entriesOf w L ∧ TabM t (hashesOf w L) ∧ (L.map Prod.snd).Nodup ∧ (w.params.followText "set-order" = true ∨ t.led = true) ∧ L.length * 5 < t.mask * 3
def nSetO (w : World) (a : Addr) (L : NL) : HO := .ext fun h => NSet0 w h a L
section
variable {P : Program} {w : World} {h : Heap} {a : Addr} {L : NL} {es : Array (Int × Value)} {ep : Nat} {t : SetTable}
theorem NSet.bare (R : NSet P w h a L es ep t) : NSet0 w h a L := ⟨es, ep, t, R.ob, R.rows, R.tab, R.nd, R.led, R.room⟩
theorem NSet0.full (R : NSet0 w h a L) (hk : ∀ p ∈ L, NKey P w h p.2 p.1) : ∃ es ep t, NSet P w h a L es ep t := by
  obtain ⟨es, ep, t, h1, h2, h3, h4, h5, h6⟩ := R.ex
  exact ⟨es, ep, t, h1, h2, h3, h4, hk, h5, h6⟩
theorem nSetO_ok {H : Hp} (R : NSet0 w h a L) : ObjOk P w H h a (nSetO w a L) := by
  have ⟨es, ep, t, ⟨o, ho, _⟩, _⟩ := R.ex
  refine ⟨R, ⟨o, ho⟩, fun h1 h2 p k => ?_⟩
  have ⟨es', ep', t', ⟨o', ho', r⟩, q⟩ := NSet0.ex p
  exact ⟨es', ep', t', ⟨o', k o' ho', r⟩, q⟩
end
theorem perm_back {α β : Type} {f : α → β} {l m : List β} (h : l.Perm m) : ∀ {B : List α}, m = B.map f → ∃ B' : List α, B'.Perm B ∧ l = B'.map f := by
  induction h with
  | nil => intro B e; exact ⟨[], by rw [List.map_eq_nil_iff.mp e.symm], rfl⟩
  | cons x _ ih =>
    intro B e
    match B, e with
    | b :: B, e =>
      rw [List.map_cons] at e
      injection e with e1 e2
      obtain ⟨B', h1, h2⟩ := ih e2
      exact ⟨b :: B', h1.cons b, by rw [List.map_cons, e1, h2]⟩
  | swap x y l =>
    intro B e
    match B, e with
    | b :: c :: B, e =>
      rw [List.map_cons, List.map_cons] at e
      injection e with e1 e2
      injection e2 with e2 e3
      exact ⟨c :: b :: B, .swap b c B, by rw [List.map_cons, List.map_cons, e1, e2, e3]⟩
  | trans _ _ ih1 ih2 =>
    intro B e
    obtain ⟨B1, h1, h2⟩ := ih2 e
    obtain ⟨B2, h3, h4⟩ := ih1 h2
    exact ⟨B2, h3.trans h1, h4⟩
end PL
namespace PL
open PySem PySem.Spec PyProof.Rows L2
/-- data that may be a member -/
def IsKeyD (d : D) : Prop := ∃ k : NestedKey, kOf (toPy d) = some k ∧ k.depth ≤ 8
noncomputable def keyOfD (d : D) : NestedKey := (kOf (toPy d)).getD .none
theorem keyOfD_at {d : D} (h : IsKeyD d) : kOf (toPy d) = some (keyOfD d) ∧ (keyOfD d).depth ≤ 8 := by
  obtain ⟨k, h1, h2⟩ := h
  unfold keyOfD
  rw [h1]
  exact ⟨rfl, h2⟩
/-- members: data and where they stand -/
abbrev MB := D × Addr
noncomputable abbrev rowOf (b : MB) : Addr × NestedKey := (b.2, keyOfD b.1)
structure MemOk (K : PySem.W.Frag) (H : Hp) (b : MB) : Prop where
  dp : Dp K H (.ref b.2) (toPy b.1)
  key : IsKeyD b.1
section
variable {X : Cx}
theorem vals_refs : ∀ {B : List MB} {us : List Value}, Vals (B.map fun b => V.ref b.2) us → us = B.map fun b => Value.ref b.2
  | [], _, .nil => rfl
  | b :: B, _, .cons r t => by cases r; rw [vals_refs t]; rfl
theorem MemOk.nkey {pins : List (Addr × Obj)} {σ : L2.St} {H : Hp} {s : Shared} {b : MB} (I : Inv X pins σ H s) (m : MemOk X.K H b) : NKey X.prog X.w s.heap (keyOfD b.1) b.2 := by
  obtain ⟨as, r⟩ := Dp.reads I (toPy b.1) (.ref b.2) (.ref b.2) m.dp rfl
  obtain ⟨h1, h2⟩ := keyOfD_at m.key
  exact ⟨reads_key _ _ _ _ r h1, h2⟩
/-- set(xs) -/
def rSetN (K : PySem.W.Frag) (w : World) : List V → Hp → VK → Prop := fun xs H Q => ∃ (l : Addr) (B : List MB), xs = [V.ref l] ∧ (SqL K H l (B.map fun b => V.ref b.2) ∨ SqT K H l (B.map fun b => V.ref b.2)) ∧ (∀ b ∈ B, MemOk K H b) ∧ B.length ≤ 300 ∧
  ∀ a (M : List MB), H a = none → M.length ≤ B.length → (∀ b ∈ M, b ∈ B) → (∀ b ∈ B, keyOfD b.1 ∈ M.map fun b => keyOfD b.1) → (M.map fun b => keyOfD b.1).Nodup → Q (.ref a) (upd H a (nSetO w a (M.map rowOf)))
theorem from_rows {B : List MB} : ∀ {L : NL}, (∀ q ∈ L, q ∈ B.map rowOf) → ∃ M : List MB, L = M.map rowOf ∧ ∀ b ∈ M, b ∈ B
  | [], _ => ⟨[], rfl, fun _ h => (nomatch h)⟩
  | q :: L, h => by
    obtain ⟨b, hb, e⟩ := List.mem_map.mp (h q List.mem_cons_self)
    obtain ⟨M, e2, hM⟩ := from_rows fun q' hq => h q' (List.mem_cons_of_mem _ hq)
    refine ⟨b :: M, by rw [List.map_cons, e, e2], fun c hc => ?_⟩
    rcases List.mem_cons.mp hc with rfl | hc
    · exact hb
    · exact hM c hc
theorem cr_setN (hc : X.calm = true) (hu : X.A.units + 64 < cLine) : CallR X (.type "set") (rSetN X.K X.w) := by
  intro pins s σ H xs us Q I r h
  obtain ⟨l, B, rfl, hl, hb, hf, q⟩ := h
  rw [Vals.ref1 r]
  have hn : H s.heap.objs.size = none := I.hok.fresh (Nat.le_refl _)
  have fin : ∀ h' tk L es ep t, NSet X.prog X.w h' s.heap.objs.size L es ep t → Once (B.map rowOf) L → (∀ b o, s.heap.get? b = some o → h'.get? b = some o) → EP X pins σ Q (.ref s.heap.objs.size) { s with heap := h', toks := tk } := fun h' tk L es ep t R on up => by
    obtain ⟨M, rfl, hM⟩ := from_rows on.sub
    refine ⟨.ref s.heap.objs.size, upd H s.heap.objs.size (nSetO X.w s.heap.objs.size (M.map rowOf)), I.laid (t' := tk) up (Nat.le_refl _) (nSetO_ok R.bare), rfl, q _ M hn (by have := on.len; simpa using this) hM (fun b hb => ?_) ?_⟩
    · have := on.all (rowOf b) (List.mem_map.mpr ⟨b, hb, rfl⟩)
      rw [List.map_map] at this
      exact this
    · have := R.nd
      rw [List.map_map] at this
      exact this
  have hk : ∀ p ∈ B.map rowOf, NKey X.prog X.w s.heap p.2 p.1 := fun p hp => by
    obtain ⟨b, hm, rfl⟩ := List.mem_map.mp hp
    exact (hb b hm).nkey I
  have e : (B.map rowOf).map (fun p => Value.ref p.1) = B.map fun b => Value.ref b.2 := by rw [List.map_map]; rfl
  rcases hl with hl | hl
  · obtain ⟨its, rv, pl, hz⟩ := I.list hl
    exact nset_list (P := X.prog) (w := X.w) (ks := B.map rowOf) (I.ok.hd hc) pl.isList (by rw [e]; simpa using vals_refs rv) hk (by rw [List.length_map]; exact hf) (by omega) fin
  · obtain ⟨its, rv, pl, hz⟩ := I.tuple hl
    exact nset_tuple (P := X.prog) (w := X.w) (ks := B.map rowOf) (I.ok.hd hc) (show s.heap.IsTuple l its.toArray from pl) (by rw [e]; simpa using vals_refs rv) hk (by rw [List.length_map]; exact hf) (by omega) fin
end
end PL
namespace PL
open PySem PySem.Spec PyProof.Rows L2
mutual
theorem reads_none {h : Heap} : ∀ (d : PyData) (v : Value) (as : List Addr) (k : NestedKey), Reads h v d as → kOf d = some k → as = []
  | .none, _, _, _, r, _ => by cases r; rfl
  | .int i, _, _, _, r, _ => by cases r; rfl
  | .str x, _, _, _, r, _ => by cases r; rfl
  | .tuple xs, _, _, _, r, e => by
    simp only [kOf] at e
    obtain ⟨ks, e1, rfl⟩ := Option.map_eq_some_iff.mp e
    cases r with
    | tuple h1 h2 h3 h4 => exact reads_nones xs _ _ _ h4 e1
  | .bool _, _, _, _, _, e => by simp [kOf] at e
  | .list _, _, _, _, _, e => by simp [kOf] at e
  | .dict _, _, _, _, _, e => by simp [kOf] at e
theorem reads_nones {h : Heap} : ∀ (ds : List PyData) (vs : List Value) (as : List Addr) (ks : List NestedKey), ReadsAll h vs ds as → kOfs ds = some ks → as = []
  | [], _, _, _, r, _ => by cases r; rfl
  | d :: ds, _, _, _, r, e => by
    simp only [kOfs] at e
    split at e
    · rename_i k ks e1 e2
      cases r with
      | cons h1 h2 => rw [reads_none d _ _ _ h1 e1, reads_nones ds _ _ _ h2 e2]; rfl
    · cases e
end
theorem each_of {R : Value → MB → Prop} : ∀ {M : List MB}, (∀ b ∈ M, R (.ref b.2) b) → W.EachIs R (M.map fun b => Value.ref b.2) M
  | [], _ => .nil
  | b :: M, h => .cons (h b List.mem_cons_self) (each_of fun c hc => h c (List.mem_cons_of_mem _ hc))
theorem each_is : ∀ {us : List Value} {M : List MB}, W.EachIs (fun u b => u = .ref b.2) us M → us = M.map fun b => Value.ref b.2
  | _, _, .nil => rfl
  | _, _, .cons h t => by rw [List.map_cons, ← h, each_is t]
theorem refs_vals : ∀ (M : List MB), Vals (M.map fun b => V.ref b.2) (M.map fun b => Value.ref b.2)
  | [] => .nil
  | b :: M => .cons rfl (refs_vals M)
section
variable {X : Cx}
/-- sorted(set) -/
def rSortN (K : PySem.W.Frag) (w : World) : List V → Hp → VK → Prop := fun vs H Q => ∃ (a : Addr) (M : List MB), vs = [V.ref a] ∧ H a = some (nSetO w a (M.map rowOf)) ∧ (∀ b ∈ M, MemOk K H b ∧ (toPy b.1).depth ≤ 60) ∧ M.length ≤ 300 ∧ W.AllAlike (M.map fun b => toPy b.1) ∧ W.Sortable (M.map fun b => toPy b.1) ∧
  ∀ (M' : List MB) (p : Addr), M'.Perm M → H p = none → Q (.ref p) (upd H p (.lst ((M'.mergeSort (W.dataLe false fun b : MB => toPy b.1)).map fun b => V.ref b.2)))
theorem cr_sortN (hc : X.calm = true) (hu : X.A.units + 64 < cLine) : CallR X (.builtin "sorted") (rSortN X.K X.w) := by
  intro pins s σ H vs us Q I r h
  obtain ⟨a, M, rfl, ha, hm, hf, hal, hso, q⟩ := h
  rw [Vals.ref1 r]
  have R0 : NSet0 X.w s.heap a (M.map rowOf) := (I.hok a _ ha).1
  obtain ⟨es, ep, t, R⟩ := R0.full (P := X.prog) fun p hp => by
    obtain ⟨b, hb, rfl⟩ := List.mem_map.mp hp
    exact (hm b hb).1.nkey I
  obtain ⟨o, ho, hex, hd⟩ := R.ob
  have size : es.size = M.length := by rw [R.size, List.length_map]
  refine Calls.call_function_entry kind_sorted plain_sorted entry_sorted (args_sorted1 _) ?_
  unfold Builtin.«sorted»
  refine wpAny_bind (m := checkCount "sorted" 1 1 _) (wpAny_pure ?_)
  refine wpAny_bind (collect_set (A := X.A.in1) (I.ok.hd hc) ⟨o, ho, hex.1, hd⟩ R.fits (by unfold scanBound; omega) R.tab.ris R.led fun s1 ms up hz g1 o1 pm => ?_)
  obtain ⟨M', pM, rfl⟩ := perm_back pm (f := fun b : MB => Value.ref b.2) (B := M) (by rw [R.rows, entriesOf, List.map_map, List.map_map]; rfl)
  have len : M'.length ≤ 300 := by rw [pM.length_eq]; exact hf
  have inM : ∀ b ∈ M', b ∈ M := fun b hb => pM.mem_iff.mp hb
  have perm2 := pM.map fun b : MB => toPy b.1
  have hal' : W.AllAlike (M'.map fun b => toPy b.1) := fun d hd d' hd' => hal d (perm2.mem_iff.mp hd) d' (perm2.mem_iff.mp hd')
  have hso' : W.Sortable (M'.map fun b => toPy b.1) := by
    rcases hso with h | h
    · exact .inl fun d hd => h d (perm2.mem_iff.mp hd)
    · exact .inr fun d hd => h d (perm2.mem_iff.mp hd)
  refine wpAny_bind (wpAny_newList ?_ (by rw [List.length_map, sizeLine_eq]; omega))
  have hL : (s1.heap.push (seqObj "list" (M'.map fun b => Value.ref b.2).toArray 0)).get? s1.heap.objs.size = some (seqObj "list" (M'.map fun b => Value.ref b.2).toArray 0) := Heap.get?_push_size _ rfl
  have rd : ∀ b ∈ M', ∃ as, Reads (s1.heap.push (seqObj "list" (M'.map fun b => Value.ref b.2).toArray 0)) (.ref b.2) (toPy b.1) as ∧ s1.heap.objs.size ∉ as := fun b hb => by
    obtain ⟨mk, _⟩ := hm b (inM b hb)
    obtain ⟨as, r⟩ := Dp.reads I (toPy b.1) (.ref b.2) (.ref b.2) mk.dp rfl
    have e := reads_none _ _ _ _ r (keyOfD_at mk.key).1
    subst e
    exact ⟨[], PyProof.Rows.Reads.keeps (fun c o e => Heap.get?_push_of_some _ (up c o e)) r, by simp⟩
  refine wpAny_bind (wpAny_holding (W.list_sort_data (R := fun u (b : MB) => u = .ref b.2) (s := { s1 with heap := s1.heap.push (seqObj "list" (M'.map fun b => Value.ref b.2).toArray 0) }) hL (each_of fun b _ => rfl) (each_of rd) hal' hso' (by rw [sizeLine_eq]; omega)
    (fun b hb => ?_) fun out ol oe => ?_))
  · have := (hm b (inM b hb)).2
    simp only [Around.in1_units]
    omega
  · have eo := each_is oe
    subst eo
    obtain ⟨n, hn⟩ := sortedHeap_at (vs := M'.map fun b => Value.ref b.2) (out := ((M'.mergeSort (W.dataLe false fun b : MB => toPy b.1)).map fun b => Value.ref b.2).toArray) hL
    have kept : ∀ b o, s.heap.get? b = some o → (sortedHeap (s1.heap.push (seqObj "list" (M'.map fun b => Value.ref b.2).toArray 0)) s1.heap.objs.size (M'.map fun b => Value.ref b.2) ((M'.mergeSort (W.dataLe false fun b : MB => toPy b.1)).map fun b => Value.ref b.2).toArray).get? b = some o := fun b o e => by
      have e1 := up b o e
      have lt := Heap.lt_size e1
      rw [sortedHeap_old (Nat.ne_of_lt lt) (by rw [size_push']; exact Nat.lt_succ_of_lt lt)]
      exact Heap.get?_push_of_some _ e1
    generalize sortedHeap (s1.heap.push (seqObj "list" (M'.map fun b => Value.ref b.2).toArray 0)) s1.heap.objs.size (M'.map fun b => Value.ref b.2) ((M'.mergeSort (W.dataLe false fun b : MB => toPy b.1)).map fun b => Value.ref b.2).toArray = hp at hn kept ⊢
    have fresh : H s1.heap.objs.size = none := I.hok.fresh hz
    have J : L2.Inv X pins σ (upd H s1.heap.objs.size (.lst ((M'.mergeSort (W.dataLe false fun b : MB => toPy b.1)).map fun b => V.ref b.2))) { s with heap := hp, gens := s1.gens, drawn := s1.drawn, toks := s1.toks } :=
      I.call (ch := []) (Un.laid kept hz fresh) (I.hok.laid kept hz ⟨by rw [List.length_map, (List.mergeSort_perm _ _).length_eq, sizeLine_eq]; omega, _, n, refs_vals _, hn⟩) (by rw [g1]; exact I.bare) (fun _ z => nomatch z)
    dsimp only
    rw [o1]
    exact wpAny_pure ⟨_, rfl, .ref s1.heap.objs.size, _, J, rfl, q M' _ pM fresh⟩
end
end PL
namespace PL
open PySem PySem.Spec PyProof.Rows L2
open Classical in
/-- each once -/
noncomputable def ddD : List D → List D
  | [] => []
  | d :: l => if d ∈ l then ddD l else d :: ddD l
theorem mem_ddD {d : D} : ∀ {l : List D}, d ∈ ddD l ↔ d ∈ l
  | [] => Iff.rfl
  | e :: l => by
    unfold ddD
    by_cases h : e ∈ l
    · rw [if_pos h, mem_ddD, List.mem_cons]
      exact ⟨.inr, fun z => z.elim (fun z => z ▸ h) id⟩
    · rw [if_neg h, List.mem_cons, List.mem_cons, mem_ddD]
theorem nodup_ddD : ∀ {l : List D}, (ddD l).Nodup
  | [] => .nil
  | e :: l => by
    unfold ddD
    by_cases h : e ∈ l
    · rw [if_pos h]; exact nodup_ddD
    · rw [if_neg h]; exact List.nodup_cons.mpr ⟨fun z => h (mem_ddD.mp z), nodup_ddD⟩
/-- data of which sets are made and sorted -/
structure OkSet (l : List D) : Prop where
  few : l.length ≤ 300
  each : ∀ d ∈ l, IsKeyD d ∧ okEq d = true ∧ ∃ xs, d = .tup xs ∨ d = .ntp xs
  sort : okSort l
  inj : ∀ d ∈ l, ∀ d' ∈ l, toPy d = toPy d' → d = d'
  perm : ∀ m, m.Perm (ddD l) → srtD m = srtD (ddD l)
def seqOf (s : SV) (μ : Mem) : Option (List D) := match tupOf s with
  | some l => some l
  | none => lstOf s μ
theorem seqOf_rep {K : PySem.W.Frag} {A : List Addr} {μ : Mem} {G H : Hp} {s : SV} {v : V} {l : List D} (e : seqOf s μ = some l) (c : Cells K A μ G H) (r : RepS K A G s v) : ∃ a us, v = .ref a ∧ (SqL K H a us ∨ SqT K H a us) ∧ Reps K G l us := by
  unfold seqOf at e
  split at e
  · rename_i l' h
    cases e
    match s, h, r with
    | .d (.tup l'), h, r =>
      cases h
      obtain ⟨a, us, rfl, h1, h2⟩ := Reps.sq r
      exact ⟨a, us, rfl, .inr (c.le.sqT h1), h2⟩
    | .d (.ntp l'), h, r =>
      cases h
      obtain ⟨a, us, rfl, h1, h2⟩ := Reps.sqn r
      exact ⟨a, us, rfl, .inr (c.le.sqT h1), h2⟩
  · obtain ⟨a, us, rfl, h1, h2⟩ := lstOf_rep e c r
    exact ⟨a, us, rfl, .inl (SqL.of h1), h2⟩
theorem stands {K : PySem.W.Frag} {G : Hp} : ∀ {l : List D} {us : List V}, Reps K G l us → (∀ d ∈ l, ∃ xs, d = .tup xs ∨ d = .ntp xs) → ∃ B : List MB, B.map Prod.fst = l ∧ (B.map fun b => V.ref b.2) = us ∧ ∀ b ∈ B, Rep K G b.1 (.ref b.2)
  | _, _, .nil, _ => ⟨[], rfl, rfl, fun _ h => (nomatch h)⟩
  | d :: l, v :: us, .cons r rs, h => by
    obtain ⟨B, h1, h2, h3⟩ := stands rs fun d' hd => h d' (List.mem_cons_of_mem _ hd)
    obtain ⟨a, rfl⟩ : ∃ a, v = .ref a := by
      obtain ⟨xs, rfl | rfl⟩ := h d List.mem_cons_self
      · obtain ⟨a, us', rfl, _⟩ := Reps.sq r; exact ⟨a, rfl⟩
      · obtain ⟨a, us', rfl, _⟩ := Reps.sqn r; exact ⟨a, rfl⟩
    refine ⟨(d, a) :: B, by simp [h1], by simp [h2], fun b hb => ?_⟩
    rcases List.mem_cons.mp hb with rfl | hb
    · exact r
    · exact h3 b hb
theorem reps_of {K : PySem.W.Frag} {G : Hp} : ∀ {T : List MB}, (∀ b ∈ T, Rep K G b.1 (.ref b.2)) → Reps K G (T.map Prod.fst) (T.map fun b => V.ref b.2)
  | [], _ => .nil
  | b :: T, h => .cons (h b List.mem_cons_self) (reps_of fun c hc => h c (List.mem_cons_of_mem _ hc))
theorem okEq_depth60 {d : D} (h : okEq d = true) : (toPy d).depth ≤ 60 := (flat_lay 60 d h).2
def pSortSet : List SV → Mem → VP → Prop := fun ss μ Q => match ss with
  | [s] => on (seqOf s μ) fun l => OkSet l ∧ Q (.d (.lst (srtD (ddD l)))) μ
  | _ => False
theorem pcall_sortSet {K : PySem.W.Frag} {w : World} : PCall K (fun vs H Q => rSetN K w vs H fun v H2 => rSortN K w [v] H2 Q) pSortSet := by
  intro ss μ A G H vs Qp Q h c rs k
  match ss, h, rs with
  | [s], h, .cons r .nil =>
    obtain ⟨l, e, ok, q⟩ := on_of h
    obtain ⟨a, us, rfl, hs, hr⟩ := seqOf_rep e c r
    obtain ⟨B, b1, b2, b3⟩ := stands hr fun d hd => (ok.each d hd).2.2
    have inl : ∀ b ∈ B, b.1 ∈ l := fun b hb => by rw [← b1]; exact List.mem_map.mpr ⟨b, hb, rfl⟩
    refine ⟨a, B, rfl, by rw [b2]; exact hs, fun b hb => ⟨rep_dp c.le 60 _ _ (ok.each _ (inl b hb)).2.1 (b3 b hb), (ok.each _ (inl b hb)).1⟩, by have := ok.few; rw [← b1, List.length_map] at this; exact this, fun a2 M ha hlen hM hcov hnd => ?_⟩
    obtain ⟨c2, s2⟩ := c.laid (o := nSetO w a2 (M.map rowOf)) ha
    have inL : ∀ b ∈ M, b.1 ∈ l := fun b hb => inl b (hM b hb)
    refine ⟨a2, M, rfl, upd_same, fun b hb => ⟨⟨rep_dp c2.le 60 _ _ (ok.each _ (inL b hb)).2.1 ((b3 b (hM b hb)).mono s2.le), (ok.each _ (inL b hb)).1⟩, ?_⟩, ?_, ?_, ?_, fun M' p pM hp => ?_⟩
    · exact okEq_depth60 (ok.each _ (inL b hb)).2.1
    · have := ok.few
      rw [← b1, List.length_map] at this
      omega
    · intro d hd d' hd'
      obtain ⟨b, hb, rfl⟩ := List.mem_map.mp hd
      obtain ⟨b', hb', rfl⟩ := List.mem_map.mp hd'
      exact ok.sort.2.1 _ (List.mem_map.mpr ⟨_, inL b hb, rfl⟩) _ (List.mem_map.mpr ⟨_, inL b' hb', rfl⟩)
    · rcases ok.sort.2.2 with h | h
      · refine .inl fun d hd => ?_
        obtain ⟨b, hb, rfl⟩ := List.mem_map.mp hd
        exact h _ (List.mem_map.mpr ⟨_, inL b hb, rfl⟩)
      · refine .inr fun d hd => ?_
        obtain ⟨b, hb, rfl⟩ := List.mem_map.mp hd
        exact h _ (List.mem_map.mpr ⟨_, inL b hb, rfl⟩)
    · have pd : (M'.map Prod.fst).Perm (ddD l) := by
        refine (pM.map Prod.fst).trans ((List.perm_ext_iff_of_nodup ?_ nodup_ddD).mpr fun d => ?_)
        · have : (M.map fun b => keyOfD b.1) = (M.map Prod.fst).map keyOfD := by rw [List.map_map]; rfl
          rw [this] at hnd
          exact nodup_of_map hnd
        · rw [mem_ddD]
          constructor
          · intro hd
            obtain ⟨b, hb, rfl⟩ := List.mem_map.mp hd
            exact inL b hb
          · intro hd
            rw [← b1] at hd
            obtain ⟨b, hb, rfl⟩ := List.mem_map.mp hd
            obtain ⟨b', hb', e'⟩ := List.mem_map.mp (hcov b hb)
            have k1 := (keyOfD_at (ok.each _ (inl b hb)).1).1
            have k2 := (keyOfD_at (ok.each _ (inL b' hb')).1).1
            rw [← e'] at k1
            have z := ok.inj _ (inl b hb) _ (inL b' hb') (kOf_inj _ _ _ k1 k2)
            rw [z]
            exact List.mem_map.mpr ⟨b', hb', rfl⟩
      have ef : (M'.mergeSort (W.dataLe false fun b : MB => toPy b.1)).map Prod.fst = srtD (ddD l) := by
        rw [← ok.perm _ pd]
        unfold srtD
        exact List.map_mergeSort (r := W.dataLe false fun b : MB => toPy b.1) (s := W.dataLe false toPy) (f := Prod.fst) (fun a _ b _ => rfl)
      obtain ⟨c3, s3⟩ := c2.laid (o := .lst ((M'.mergeSort (W.dataLe false fun b : MB => toPy b.1)).map fun b => V.ref b.2)) hp
      have rep : Reps K (upd G a2 (nSetO w a2 (M.map rowOf))) (srtD (ddD l)) ((M'.mergeSort (W.dataLe false fun b : MB => toPy b.1)).map fun b => V.ref b.2) := by
        rw [← ef]
        exact reps_of fun b hb => (b3 b (hM b (pM.mem_iff.mp ((List.mergeSort_perm _ _).mem_iff.mp hb)))).mono s2.le
      exact k _ _ _ _ _ _ q c3 (s2.trans s3) (Rep.lst upd_same (rep.mono s3.le))
section
variable {X : Cx} {W : WX} {e : Expr} {tL : TXA} {p p2 q pos : Pos}
theorem px_sortSet (hc : X.calm = true) (hu : X.A.units + 64 < cLine) (hg : Gl X "sorted") (hm : X.mg "sorted" = none) (hg2 : Gl X "set") (hm2 : X.mg "set" = none) (ha : PXA X W [e] tL) (he : starEach [e] X.env = (false, eval e X.env) :: starEach [] X.env := by rfl) :
    PX X W (.Call (.Name "sorted" p) [.Call (.Name "set" p2) [e] [] q] [] pos) (xCall pSortSet tL) :=
  ⟨(pe_callB (cr_sortN hc hu) hg hm (by decide +kernel) (pa_cons (pe_callTy (cr_setN hc hu) hg2 hm2 (by decide +kernel) ha.pa (by decide) (by decide) he rfl) pa_nil rfl) (by decide) (by decide) rfl rfl).imp fun σ H Q h => lift_call (pcall_sortSet (w := X.w)) h⟩
end
end PL
namespace PL
open PySem PySem.Spec PyProof.Rows L2
section
variable {P : Program} {w : World} {A : Around} {E : Value → Shared → Prop} {s : Shared}
end
section
variable {X : Cx}
end
section
variable {X : Cx} {W : WX} {e : Expr} {tL : TXA} {p pos : Pos}
end
end PL
namespace PL
open PySem PySem.Spec PyProof.Rows L2
section
variable {P : Program} {w : World} {A : Around} {E : Value → Shared → Prop} {s : Shared}
end
end PL
namespace PL
open PySem PySem.Spec PyProof.Rows L2
section
variable {X : Cx}
abbrev ktup (k : List Key) : D := .tup (k.map keyD)
end
theorem keys_rep {K : PySem.W.Frag} {G : Hp} : ∀ k : List Key, Reps K G (k.map keyD) (k.map kV)
  | [] => .nil
  | a :: k => .cons (by cases a <;> constructor) (keys_rep k)
theorem lay_keys {K : PySem.W.Frag} {A : List Addr} {μ : Mem} {H : Hp} : ∀ {M : List MB} {G : Hp}, Cells K A μ G H → (∀ b ∈ M, ∃ k : List Key, b.1 = ktup k ∧ H b.2 = some (.tup (k.map kV))) → ∃ G', Cells K A μ G' H ∧ Step A G H A G' H ∧ ∀ b ∈ M, Rep K G' b.1 (.ref b.2)
  | [], G, c, _ => ⟨G, c, .refl, fun _ h => (nomatch h)⟩
  | b :: M, G, c, h => by
    obtain ⟨k, e, hb⟩ := h b List.mem_cons_self
    obtain ⟨d, G1, e1, r1, c1, s1⟩ := yd_begin (ds := [b.1]) (i := 0) (x := .ref b.2) (H' := H) (LeZ.refl G) c (fun G1 g1 g2 => ⟨b.1, rfl, .inr (.inr ⟨b.2, k.map kV, k.map keyD, rfl, hb, rfl, e, keys_rep k⟩)⟩)
    obtain ⟨G2, c2, s2, r2⟩ := lay_keys c1 fun b' hb' => h b' (List.mem_cons_of_mem _ hb')
    refine ⟨G2, c2, s1.trans s2, fun b' hb' => ?_⟩
    rcases List.mem_cons.mp hb' with rfl | hb'
    · cases e1
      exact r1.mono s2.le
    · exact r2 b' hb'
section
variable {X : Cx} {W : WX} {e : Expr} {tL : TXA} {p pos : Pos}
end
end PL
namespace PL
open PySem PySem.Spec PyProof.Rows L2
def rListDic (K : PySem.W.Frag) : List V → Hp → VK → Prop := fun xs H Q => ∃ d kvs, xs = [V.ref d] ∧ Rd H d (.dT kvs) ∧ ∀ p bs, H p = none → IsKeys H kvs bs → Q (.ref p) (upd H p (.lst (bs.map V.ref)))
theorem keys_MB {H : Hp} {kvs : List (List Key × V)} {bs : List Addr} (h : IsKeys H kvs bs) : ∃ M : List MB, M.map Prod.fst = kvs.map (fun p => D.tup (p.1.map keyD)) ∧ M.map Prod.snd = bs ∧ ∀ b ∈ M, ∃ k : List Key, b.1 = ktup k ∧ H b.2 = some (.tup (k.map kV)) := by
  unfold IsKeys at h
  induction h with
  | nil => exact ⟨[], rfl, rfl, fun _ h => nomatch h⟩
  | @cons p b ps bs h t ih =>
    obtain ⟨M, m1, m2, m3⟩ := ih
    refine ⟨(.tup (p.1.map keyD), b) :: M, by rw [List.map_cons, m1]; rfl, by rw [List.map_cons, m2], fun x hx => ?_⟩
    rcases List.mem_cons.mp hx with rfl | hx
    · exact ⟨p.1, rfl, h⟩
    · exact m3 x hx
def pListDic : List SV → Mem → VP → Prop := fun ss μ Q => match ss with
  | [s] => on (dicOf s μ) fun z => z.1 = true ∧ Q (.d (.lst z.2.1)) μ
  | _ => False
theorem pcall_listDic {K : PySem.W.Frag} : PCall K (rListDic K) pListDic := by
  intro ss μ A G H vs Qp Q h c rs k
  match ss, h, rs with
  | [s], h, .cons r .nil =>
    obtain ⟨⟨t, ks, ds⟩, e, ht, q⟩ := on_of h
    simp only at ht q
    subst ht
    obtain ⟨a, rfl, kvs, rd, hks, _⟩ := dicOf_rep e c r
    refine ⟨a, kvs, rfl, rd, fun p bs hp hk => ?_⟩
    obtain ⟨M, m1, m2, m3⟩ := keys_MB hk
    obtain ⟨G2, c2, s2, r2⟩ := lay_keys c m3
    obtain ⟨c3, s3⟩ := c2.laid (o := .lst (bs.map V.ref)) hp
    have rep : Reps K G2 ks (bs.map V.ref) := by
      rw [hks, ← m1, ← m2, List.map_map]
      exact reps_of fun b hb => r2 b hb
    exact k _ _ _ _ _ _ q c3 (s2.trans s3) (Rep.lst upd_same (rep.mono s3.le))
section
variable {X : Cx} {W : WX} {e : Expr} {tL : TXA} {p pos : Pos}
theorem px_listDic (hc : X.calm = true) (hg : Gl X "list") (hm : X.mg "list" = none) (ha : PXA X W [e] tL) (he : starEach [e] X.env = (false, eval e X.env) :: starEach [] X.env := by rfl) : PX X W (.Call (.Name "list" p) [e] [] pos) (xCall pListDic tL) :=
  px_callTy (call_list_dT hc) pcall_listDic hg hm (by decide +kernel) ha (by decide) (by decide) he rfl
end
end PL
namespace PL
open PySem PySem.Spec PyProof.Rows L2 RZ
def listDicF : List SV → M SV := fun ss μ => match ss with
  | [s] => match dicOf s μ with
    | some (true, ks, _) => .ok (.d (.lst ks)) μ
    | _ => .no
  | _ => .no
theorem ok_listDic : ∀ ss μ x Q, (listDicF ss μ).fin x Q → pListDic ss μ Q := by
  intro ss μ x Q h
  unfold listDicF at h
  unfold pListDic
  split at h
  · split at h
    · rename_i e
      show on (dicOf _ _) _
      rw [e]
      exact ⟨rfl, h⟩
    · exact h.elim
  · exact h.elim
section
variable {X : Cx} {W : WX} {e : Expr} {fl : FA} {n : Nat} {p pos : Pos}
theorem pf_listDic (hc : X.calm = true) (hg : Gl X "list") (hm : X.mg "list" = none) (hl : PXA X W [e] (toA n fl)) (he : starEach [e] X.env = (false, eval e X.env) :: starEach [] X.env := by rfl) :
    PX X W (.Call (.Name "list" p) [e] [] pos) (toX n (fCall listDicF fl)) := pf_call (px_listDic hc hg hm hl he) ok_listDic
@[simp] theorem listDicF_d {ks vs : List D} {μ : Mem} : listDicF [.d (.dic true ks vs)] μ = .ok (.d (.lst ks)) μ := rfl
end
end PL
namespace PL
open PySem PySem.Spec PyProof.Rows L2
section
variable {X : Cx} {W : WX} {a b c e iter tg elt : Expr} {ifs : List Expr} {ta tb te : TX} {ti : TXI} {g : TXG} {tt tA : TXT} {tL : TXA} {pos p : Pos}
end
end PL
namespace PL
open PySem PySem.Spec PyProof.Rows L2 RZ
def cLoopS (step : D → M (Option SV)) : List D → M (List SV)
  | [], μ => .ok [] μ
  | d :: ds, μ => match step d μ with
    | .ok none μ' => cLoopS step ds μ'
    | .ok (some s) μ' => match cLoopS step ds μ' with
      | .ok r μ2 => .ok (s :: r) μ2
      | _ => .no
    | _ => .no
def finSF : List SV → M SV := fun acc μ => .ok (.c μ.length) (μ ++ [.lsC acc])
noncomputable def fLcL (it : FI) (g : FG) (c : FT) (e : FX) (vs : List Nat) : FX := fun ρ => bnd (it ρ) fun ds => grd (ds.length ≤ sizeLine) (bnd (cLoopS (cStep g c e vs ρ) ds) finSF)
section
variable {n : Nat} {X : Cx} {W : WX} {a b elt iter tg : Expr} {ifs : List Expr} {it : FI} {g : FG} {ft : FT} {fe fa fb : FX} {pos p : Pos}
variable {scope : Scope} {own : List (Str × Nat)}
end
@[simp ↓] theorem fLcL_s {it : FI} {g : FG} {c : FT} {e : FX} {vs : List Nat} {ρ : FEnv} {μ : Mem} : fLcL it g c e vs ρ μ = bR (it ρ μ) fun ds => grd (ds.length ≤ sizeLine) (bnd (cLoopS (cStep g c e vs ρ) ds) finSF) := bnd_s
end PL
namespace PL
open PySem PySem.Spec PyProof.Rows L2
section
variable {X : Cx} {W : WX} {a b : Expr} {tL : TXA} {pos p : Pos} {x : Str}
end
end PL
namespace PL
open PySem PySem.Spec PyProof.Rows L2 RZ
def gcdF : List SV → M SV := fun ss μ => match ss with
  | [.d (.int i), .d (.int j)] => .ok (.d (.int ((Nat.gcd i.natAbs j.natAbs : Nat) : Int))) μ
  | _ => .no
section
variable {n : Nat} {X : Cx} {W : WX} {a b : Expr} {fl : FA} {pos p : Pos} {x : Str}
end
@[simp] theorem gcdF_i {i j : Int} {μ : Mem} : gcdF [.d (.int i), .d (.int j)] μ = .ok (.d (.int ((Nat.gcd i.natAbs j.natAbs : Nat) : Int))) μ := rfl
end PL
namespace PL
open PySem PySem.Spec PyProof.Rows L2
/-- the module's name x stands for the tuple l -/
def GTup (K : PySem.W.Frag) (mg : Str → Option Value) (x : Str) (l : List Int) : Prop := ∃ (a : Addr) (o : Obj) (its : Array Value) (n : Nat), mg x = some (.ref a) ∧ K.lookup a = some o ∧ o.cls = .type "tuple" ∧ o.data = .seq its n ∧ its.size ≤ sizeLine ∧ Vals (l.map V.int) its.toList
def gtB (K : PySem.W.Frag) (x : Str) (l : List Int) : Bool := match PySem.W.nsIn K mainGlobals x with
  | some (some (.ref a)) => (match K.lookup a with
    | some ⟨c, _, .seq its _, _⟩ => decide (c = .type "tuple") && (Nat.ble its.size 1000 && He.relAll (l.map V.int) its.toList)
    | _ => false)
  | _ => false
theorem gtB_ok {K : PySem.W.Frag} {h : Heap} {mg : Str → Option Value} (X : K.In h) (G : h.Ns mainGlobals mg) {x : Str} {l : List Int} (c : gtB K x l = true) : GTup K mg x l := by
  unfold gtB at c
  split at c
  · rename_i a e
    split at c
    · rename_i c0 d0 its n sl e2
      obtain ⟨c1, c2⟩ := Bool.and_eq_true_iff.mp c
      obtain ⟨c2, c3⟩ := Bool.and_eq_true_iff.mp c2
      have hz : (1000 : Nat) ≤ sizeLine := by decide
      exact ⟨a, _, its, n, PySem.W.mg_of X G e, e2, of_decide_eq_true c1, rfl, Nat.le_trans (Nat.le_of_ble_eq_true c2) hz, He.relAll_ok c3⟩
    · cases c
  · cases c
section
variable {X : Cx} {W : WX} {tg : Expr} {p : Pos} {x : Str} {l : List Int}
theorem ints_rep {K : PySem.W.Frag} {G : Hp} {i : Nat} {v : V} (h : (l.map V.int)[i]? = some v) : ∃ d, (l.map D.int)[i]? = some d ∧ Rep K G d v := by
  rw [List.getElem?_map] at h
  obtain ⟨z, e, rfl⟩ := Option.map_eq_some_iff.mp h
  exact ⟨.int z, by rw [List.getElem?_map, e]; rfl, .int z⟩
def xiG (l : List Int) : TXI := fun _ _ μ Q => Q (l.map D.int) μ
theorem pxi_gtup (hg : Gl X x) (hm : GTup X.K X.mg x l) (hd : (x == ("__debug__" : Str)) = false := by decide) : PXI X W tg (.Name x p) (xiG l) := by
  obtain ⟨a, o, its, n, h1, h2, h3, h4, h5, h6⟩ := hm
  have sq : ∀ H, SqT X.K H a (l.map V.int) := fun H => .inr ⟨o, its, n, h2, h3, h4, h5, h6⟩
  refine ⟨_, pi_tup (pe_glob hg h1 (v := .ref a) rfl hd), fun σ H R h => ?_⟩
  obtain ⟨A, ρ, μ, G, Rp, xx, S, ht, hx, k⟩ := h
  refine ⟨a, rfl, ⟨_, sq H⟩, k (l.map D.int) μ A G H _ ht S.toCells .refl ?_⟩
  rw [List.length_map, ← List.length_map (f := V.int)]
  refine walk_tup.mono (fun H' z => sq H') fun i H0 x H' hi _ y G2 g2 _ => ?_
  obtain ⟨d, e1, r⟩ := ints_rep y.2
  exact ⟨d, e1, .inl ⟨y.1, r⟩⟩
end
end PL
namespace PL
open PySem PySem.Spec PyProof.Rows L2 RZ
def gcF (l : List Int) : FI := fun _ μ => .ok (l.map D.int) μ
section
variable {n : Nat} {X : Cx} {W : WX} {tg : Expr} {p : Pos} {x : Str} {l : List Int}
theorem pfi_gtup (hg : Gl X x) (hm : GTup X.K X.mg x l) (hd : (x == ("__debug__" : Str)) = false := by decide) : PXI X W tg (.Name x p) (toI n (gcF l)) :=
  (pxi_gtup hg hm hd).to fun _ _ _ _ ⟨_, h⟩ => h
end
@[simp ↓] theorem gcF_s {l : List Int} {ρ : FEnv} {μ : Mem} : gcF l ρ μ = .ok (l.map D.int) μ := rfl
end PL
namespace PL
open PySem PySem.Spec PyProof.Rows L2
mutual
/-- plain data: what isinstance and len tell of it is known, through and through -/
def plain : D → Bool
  | .non => true
  | .bl _ => true
  | .int _ => true
  | .str x => PyData.strOk x && decide (x.length ≤ 1000)
  | .tup l => decide (l.length ≤ 100000) && plains l
  | .ntp l => decide (l.length ≤ 100000) && plains l
  | .lst l => decide (l.length ≤ 100000) && plains l
  | .dic _ _ _ => true
  | _ => false
def plains : List D → Bool
  | [] => true
  | d :: ds => plain d && plains ds
end
theorem plains_iff : ∀ {l : List D}, plains l = true ↔ ∀ d ∈ l, plain d = true
  | [] => by simp [plains]
  | d :: ds => by simp [plains, plains_iff (l := ds)]
@[simp] theorem plains_nil : plains [] = true := rfl
@[simp] theorem plains_cons {d : D} {l : List D} : plains (d :: l) = (plain d && plains l) := rfl
@[simp] theorem plain_non : plain .non = true := rfl
@[simp] theorem plain_bl {b : Bool} : plain (.bl b) = true := rfl
@[simp] theorem plain_int {b : Int} : plain (.int b) = true := rfl
@[simp] theorem plain_str {b : Str} : plain (.str b) = (PyData.strOk b && decide (b.length ≤ 1000)) := rfl
@[simp] theorem plain_tup {b : List D} : plain (.tup b) = (decide (b.length ≤ 100000) && plains b) := rfl
@[simp] theorem plain_ntp {b : List D} : plain (.ntp b) = (decide (b.length ≤ 100000) && plains b) := rfl
@[simp] theorem plain_lst {b : List D} : plain (.lst b) = (decide (b.length ≤ 100000) && plains b) := rfl
@[simp] theorem plain_dic {t : Bool} {ks vs : List D} : plain (.dic t ks vs) = true := rfl
@[elab_as_elim] theorem plain_cases {motive : (d : D) → plain d = true → Prop} (non : ∀ h, motive .non h) (bl : ∀ b h, motive (.bl b) h) (int : ∀ b h, motive (.int b) h) (str : ∀ b h, motive (.str b) h)
    (tup : ∀ b h, motive (.tup b) h) (ntp : ∀ b h, motive (.ntp b) h) (lst : ∀ b h, motive (.lst b) h) (dic : ∀ t k v h, motive (.dic t k v) h) (d : D) (h : plain d = true) : motive d h := by
  cases d with
  | non => exact non h
  | bl b => exact bl b h
  | int b => exact int b h
  | str b => exact str b h
  | tup b => exact tup b h
  | ntp b => exact ntp b h
  | lst b => exact lst b h
  | dic t k v => exact dic t k v h
  | fn x => simp [plain] at h
  | ty x => simp [plain] at h
  | scr x => simp [plain] at h
  | obj x y z => simp [plain] at h
/-- isinstance of plain data -/
def isKB : TyK → D → Bool
  | .bool, .bl _ => true
  | .int, .bl _ => true
  | .int, .int _ => true
  | .str, .str _ => true
  | .tuple, .tup _ => true
  | .tuple, .ntp _ => true
  | .list, .lst _ => true
  | .dict, .dic _ _ _ => true
  | _, _ => false
theorem isK_plain {k : TyK} {d : D} (h : plain d = true) : isK k d = some (isKB k d) := by
  cases d <;> cases k <;> first | rfl | (simp [plain] at h)
/-- the items of a tuple -/
def tupD : D → Option (List D)
  | .tup l => some l
  | .ntp l => some l
  | _ => none
@[simp] theorem tupD_t {l : List D} : tupD (.tup l) = some l := rfl
@[simp] theorem tupD_n {l : List D} : tupD (.ntp l) = some l := rfl
section
variable {l m : List D} {μ : Mem} {x : D} {u v : D}
@[simp] theorem addF_nt : addF (.d (.ntp l)) (.d (.tup m)) μ = grd (l.length + m.length ≤ sizeLine) (ret (.d (catT (.ntp l) (.tup m) l m))) μ := rfl
@[simp] theorem addF_tn : addF (.d (.tup l)) (.d (.ntp m)) μ = grd (l.length + m.length ≤ sizeLine) (ret (.d (catT (.tup l) (.ntp m) l m))) μ := rfl
@[simp] theorem addF_nn : addF (.d (.ntp l)) (.d (.ntp m)) μ = grd (l.length + m.length ≤ sizeLine) (ret (.d (catT (.ntp l) (.ntp m) l m))) μ := rfl
@[simp] theorem catT_r : catT u (.tup (x :: m)) l (x :: m) = .tup (l ++ x :: m) := by unfold catT; split <;> simp_all
theorem catT_l (h : l ≠ []) : catT (.tup l) v l m = .tup (l ++ m) := by unfold catT; rw [if_neg h]; split <;> simp_all
@[simp] theorem catT_la : catT (.tup (l ++ [x])) v (l ++ [x]) m = .tup (l ++ [x] ++ m) := catT_l (by simp)
@[simp] theorem catT_lc : catT (.tup (x :: l)) v (x :: l) m = .tup (x :: l ++ m) := catT_l (by simp)
@[simp] theorem mulF_str {z : Str} {j : Int} : mulF (.d (.str z)) (.d (.int j)) μ = grd (0 ≤ j ∧ j ≤ 1000 ∧ z.length ≤ 1000) (ret (.d (.str (Txt.mul z j)))) μ := rfl
@[simp] theorem mulF_tup {j : Int} : mulF (.d (.tup l)) (.d (.int j)) μ = grd (l ≠ [] ∧ 2 ≤ j ∧ j ≤ 1000 ∧ l.length ≤ 1000) (ret (.d (.tup (List.replicate j.toNat l).flatten))) μ := rfl
@[simp] theorem mulF_ntp {j : Int} : mulF (.d (.ntp l)) (.d (.int j)) μ = grd (l ≠ [] ∧ 2 ≤ j ∧ j ≤ 1000 ∧ l.length ≤ 1000) (ret (.d (.tup (List.replicate j.toNat l).flatten))) μ := rfl
end
theorem all_id_map {α : Type} {l : List α} {f : α → Bool} : (l.map f).all id = l.all f := by simp [List.all_map]
theorem sizeLine_le {n : Nat} (h : n ≤ 1000000) : n ≤ sizeLine := by rw [sizeLine_eq]; omega
@[simp] theorem atI_succ {α : Type} {r : List α} {n : Nat} : atI r ((n : Int) + 1) = r[n + 1]? := by
  rw [show (n : Int) + 1 = ((n + 1 : Nat) : Int) by omega]; exact atI_nat
@[simp] theorem rngD_len {lo : Int} {n : Nat} : (rngD lo n).length = n := rngD_length lo n
/-- what simp leaves alone -/
inductive Tag {α : Sort _} (a : α) : Type | mk
inductive TagP (a : Prop) : Type | mk
@[reducible] def Hold (p : Prop) (_ : TagP p := .mk) : Prop := p
/-- hands back something with P -/
def gives {α : Type} (r : R α) (P : α → Mem → Prop) (_ : Tag P := .mk) : Prop := ∃ a μ, r = .ok a μ ∧ P a μ
theorem gives_ok {α : Type} {a : α} {μ : Mem} {P : α → Mem → Prop} (h : P a μ) : gives (.ok a μ) P := ⟨a, μ, rfl, h⟩
/-- a turn goes on, with I -/
def goes (r : R Out) (I : FEnv → Mem → Prop) (_ : Tag I := .mk) : Prop := match r with
  | .ok (.nx ρ) μ => I ρ μ
  | .ok (.ct ρ) μ => I ρ μ
  | _ => False
@[simp ↓] theorem goes_nx {ρ : FEnv} {μ : Mem} {I : FEnv → Mem → Prop} {t : Tag I} : goes (.ok (.nx ρ) μ) I t = Hold (I ρ μ) := rfl
@[simp ↓] theorem goes_ct {ρ : FEnv} {μ : Mem} {I : FEnv → Mem → Prop} {t : Tag I} : goes (.ok (.ct ρ) μ) I t = Hold (I ρ μ) := rfl
theorem goes_of {r : R Out} {I : FEnv → Mem → Prop} (h : goes r I) : ∃ ρ μ, (r = .ok (.nx ρ) μ ∨ r = .ok (.ct ρ) μ) ∧ I ρ μ := by
  cases r with
  | ex C fs μ => exact h.elim
  | no => exact h.elim
  | ok o μ => cases o with
    | nx ρ => exact ⟨ρ, μ, .inl rfl, h⟩
    | ct ρ => exact ⟨ρ, μ, .inr rfl, h⟩
    | rt v => exact h.elim
    | bk ρ => exact h.elim
/-- a turn hands v back -/
def hands (r : R Out) (v : SV) (J : Mem → Prop) (_ : Tag J := .mk) : Prop := match r with
  | .ok (.rt w) μ => w = v ∧ J μ
  | _ => False
@[simp ↓] theorem hands_rt {w v : SV} {μ : Mem} {J : Mem → Prop} {t : Tag J} : hands (.ok (.rt w) μ) v J t = (w = v ∧ Hold (J μ)) := rfl
theorem hands_of {r : R Out} {v : SV} {J : Mem → Prop} (h : hands r v J) : ∃ μ, r = .ok (.rt v) μ ∧ J μ := by
  cases r with
  | ex C fs μ => exact h.elim
  | no => exact h.elim
  | ok o μ => cases o with
    | nx ρ => exact h.elim
    | ct ρ => exact h.elim
    | bk ρ => exact h.elim
    | rt w => obtain ⟨h1, h2⟩ := h; subst h1; exact ⟨μ, rfl, h2⟩
/-- a loop whose turns all go on -/
theorem fLoop_inv {step : SV → FS} (I : Nat → FEnv → Mem → Prop) : ∀ {ds : List D} {ρ : FEnv} {μ : Mem} (n : Nat), I n ρ μ → (∀ i d ρ μ, ds[i]? = some d → I (n + i) ρ μ → goes (step (.d d) ρ μ) (I (n + i + 1))) →
    ∃ ρ' μ', fLoop step ds ρ μ = .ok (.nx ρ') μ' ∧ I (n + ds.length) ρ' μ'
  | [], ρ, μ, n, h0, _ => ⟨ρ, μ, rfl, h0⟩
  | d :: ds, ρ, μ, n, h0, hs => by
    obtain ⟨ρ1, μ1, e, h1⟩ := goes_of (hs 0 d ρ μ rfl h0)
    obtain ⟨ρ2, μ2, e2, h2⟩ := fLoop_inv I (ds := ds) (n + 1) h1 fun i d' ρ' μ' hd hi => by
      have := hs (i + 1) d' ρ' μ' (by simpa using hd) (by rw [show n + (i + 1) = n + 1 + i by omega]; exact hi)
      rw [show n + 1 + i + 1 = n + (i + 1) + 1 by omega]; exact this
    refine ⟨ρ2, μ2, ?_, by rw [List.length_cons, show n + (ds.length + 1) = n + 1 + ds.length by omega]; exact h2⟩
    rw [fLoop_cons]
    rcases e with e | e <;> rw [e] <;> exact e2
/-- .. over typed things; the things done so far are told -/
theorem fLoop_invT {α : Type} {step : SV → FS} {en : α → D} (I : List α → FEnv → Mem → Prop) : ∀ {l done : List α} {ρ : FEnv} {μ : Mem}, I done ρ μ → (∀ (pre : List α) (a : α) (post : List α) (ρ : FEnv) (μ : Mem), done ++ l = pre ++ a :: post → done.length ≤ pre.length → I pre ρ μ → goes (step (.d (en a)) ρ μ) (I (pre ++ [a]))) →
    ∃ ρ' μ', fLoop step (l.map en) ρ μ = .ok (.nx ρ') μ' ∧ I (done ++ l) ρ' μ'
  | [], done, ρ, μ, h0, _ => ⟨ρ, μ, rfl, by rw [List.append_nil]; exact h0⟩
  | a :: l, done, ρ, μ, h0, hs => by
    obtain ⟨ρ1, μ1, e, h1⟩ := goes_of (hs done a l ρ μ rfl (Nat.le_refl _) h0)
    obtain ⟨ρ2, μ2, e2, h2⟩ := fLoop_invT I (l := l) (done := done ++ [a]) h1 fun pre b post ρ' μ' hd hl hi => hs pre b post ρ' μ' (by rw [← hd]; simp) (by simp at hl; omega) hi
    refine ⟨ρ2, μ2, ?_, by simpa using h2⟩
    rw [List.map_cons, fLoop_cons]
    rcases e with e | e <;> rw [e] <;> exact e2
/-- a loop that hands something back at the first place where g is there -/
theorem fLoop_find {step : SV → FS} (I : FEnv → Mem → Prop) (J : Mem → Prop) (g : Nat → Option SV) : ∀ {ds : List D} {ρ : FEnv} {μ : Mem} (n : Nat), I ρ μ → (∀ i d ρ μ, ds[i]? = some d → (∀ j, j < i → g (n + j) = none) → I ρ μ → match g (n + i) with
      | none => goes (step (.d d) ρ μ) I
      | some v => hands (step (.d d) ρ μ) v J) →
    ((∀ i, i < ds.length → g (n + i) = none) ∧ ∃ ρ' μ', fLoop step ds ρ μ = .ok (.nx ρ') μ' ∧ I ρ' μ') ∨ ∃ i v, i < ds.length ∧ (∀ j, j < i → g (n + j) = none) ∧ g (n + i) = some v ∧ ∃ μ', fLoop step ds ρ μ = .ok (.rt v) μ' ∧ J μ'
  | [], ρ, μ, n, h0, _ => .inl ⟨fun i hi => absurd hi (Nat.not_lt_zero _), ρ, μ, rfl, h0⟩
  | d :: ds, ρ, μ, n, h0, hs => by
    have h1 := hs 0 d ρ μ rfl (fun j hj => absurd hj (Nat.not_lt_zero _)) h0
    cases e : g n with
    | some v =>
      rw [Nat.add_zero, e] at h1
      obtain ⟨μ', h1, h2⟩ := hands_of h1
      exact .inr ⟨0, v, by simp, fun j hj => absurd hj (Nat.not_lt_zero _), e, μ', by rw [fLoop_cons, h1]; rfl, h2⟩
    | none =>
      rw [Nat.add_zero, e] at h1
      obtain ⟨ρ1, μ1, h1, h2⟩ := goes_of h1
      have ih := fLoop_find I J g (ds := ds) (n + 1) h2 fun i d' ρ' μ' hd hb hi => by
        have := hs (i + 1) d' ρ' μ' (by simpa using hd) (fun j hj => by
          cases j with
          | zero => exact e
          | succ j => have := hb j (by omega); rw [show n + (j + 1) = n + 1 + j by omega]; exact this) hi
        rw [show n + (i + 1) = n + 1 + i by omega] at this; exact this
      have el : fLoop step (d :: ds) ρ μ = fLoop step ds ρ1 μ1 := by rw [fLoop_cons]; rcases h1 with h1 | h1 <;> rw [h1] <;> rfl
      rcases ih with ⟨h3, h4⟩ | ⟨i, v, h3, h4, h5, h6⟩
      · refine .inl ⟨fun i hi => ?_, by rw [el]; exact h4⟩
        cases i with
        | zero => exact e
        | succ i => have := h3 i (by simpa using hi); rw [show n + (i + 1) = n + 1 + i by omega]; exact this
      · refine .inr ⟨i + 1, v, by simpa using h3, fun j hj => ?_, by rw [show n + (i + 1) = n + 1 + i by omega]; exact h5, by rw [el]; exact h6⟩
        cases j with
        | zero => exact e
        | succ j => have := h4 j (by omega); rw [show n + (j + 1) = n + 1 + j by omega]; exact this
/-- the first place where p is so -/
def firstP (n : Nat) (p : Nat → Bool) : Option Nat := (List.range n).find? p
theorem firstP_none {n : Nat} {p : Nat → Bool} : firstP n p = none ↔ ∀ i, i < n → p i = false := by
  unfold firstP
  rw [List.find?_eq_none]
  constructor
  · intro h i hi
    have := h i (List.mem_range.mpr hi)
    simpa using this
  · intro h i hi
    rw [h i (List.mem_range.mp hi)]; simp
theorem firstP_some {n i : Nat} {p : Nat → Bool} (hi : i < n) (h : p i = true) (hb : ∀ j, j < i → p j = false) : firstP n p = some i := by
  unfold firstP
  rw [List.find?_eq_some_iff_append]
  refine ⟨h, List.range i, (List.range (n - i - 1)).map (· + (i + 1)), ?_, fun j hj => by rw [hb j (List.mem_range.mp hj)]; rfl⟩
  refine List.ext_getElem? fun k => ?_
  by_cases h1 : k < i
  · rw [List.getElem?_append_left (by simpa using h1), List.getElem?_range (by omega), List.getElem?_range h1]
  · rw [List.getElem?_append_right (by simpa using h1), List.length_range]
    by_cases h2 : k < n
    · rw [List.getElem?_range h2]
      by_cases h3 : k = i
      · subst h3; simp
      · obtain ⟨j, rfl⟩ : ∃ j, k = i + 1 + j := ⟨k - i - 1, by omega⟩
        rw [show i + 1 + j - i = j + 1 by omega, List.getElem?_cons_succ, List.getElem?_map, List.getElem?_range (by omega)]
        simp; omega
    · rw [List.getElem?_eq_none (by simp; omega)]
      obtain ⟨j, rfl⟩ : ∃ j, k = i + 1 + j := ⟨k - i - 1, by omega⟩
      rw [show i + 1 + j - i = j + 1 by omega, List.getElem?_cons_succ, List.getElem?_map, List.getElem?_eq_none (by simp; omega)]
      rfl

theorem loop_find {step : SV → FS} {ds : List D} {ρ : FEnv} {μ : Mem} {z : R Out} (e : fLoop step ds ρ μ = z) (I : FEnv → Mem → Prop) (J : Mem → Prop) (g : Nat → Option SV) (h0 : I ρ μ) (hs : ∀ i d ρ μ, ds[i]? = some d → (∀ j, j < i → g j = none) → I ρ μ → match g i with
      | none => goes (step (.d d) ρ μ) I
      | some v => hands (step (.d d) ρ μ) v J) :
    ((∀ i, i < ds.length → g i = none) ∧ ∃ ρ' μ', z = .ok (.nx ρ') μ' ∧ I ρ' μ') ∨ ∃ i v, i < ds.length ∧ (∀ j, j < i → g j = none) ∧ g i = some v ∧ ∃ μ', z = .ok (.rt v) μ' ∧ J μ' := by
  subst e
  have h := fLoop_find I J g (ds := ds) 0 h0 fun i d ρ μ h1 hb h2 => by rw [Nat.zero_add]; exact hs i d ρ μ h1 (fun j hj => by have := hb j hj; rwa [Nat.zero_add] at this) h2
  simp only [Nat.zero_add] at h
  exact h
theorem loop_inv {step : SV → FS} {ds : List D} {ρ : FEnv} {μ : Mem} {z : R Out} (e : fLoop step ds ρ μ = z) (I : Nat → FEnv → Mem → Prop) (h0 : I 0 ρ μ) (hs : ∀ i d ρ μ, ds[i]? = some d → I i ρ μ → goes (step (.d d) ρ μ) (I (i + 1))) :
    ∃ ρ' μ', z = .ok (.nx ρ') μ' ∧ I ds.length ρ' μ' := by
  subst e
  have h := fLoop_inv I (ds := ds) 0 h0 fun i d ρ μ h1 h2 => by rw [Nat.zero_add] at h2 ⊢; exact hs i d ρ μ h1 h2
  rw [Nat.zero_add] at h
  exact h
theorem loop_invT {α : Type} {step : SV → FS} {l : List α} {en : α → D} {ρ : FEnv} {μ : Mem} {z : R Out} (e : fLoop step (l.map en) ρ μ = z) (I : List α → FEnv → Mem → Prop) (h0 : I [] ρ μ) (hs : ∀ (pre : List α) (a : α) (post : List α) (ρ : FEnv) (μ : Mem), l = pre ++ a :: post → I pre ρ μ → goes (step (.d (en a)) ρ μ) (I (pre ++ [a]))) :
    ∃ ρ' μ', z = .ok (.nx ρ') μ' ∧ I l ρ' μ' := by
  subst e
  have h := fLoop_invT (en := en) I (l := l) (done := []) h0 fun pre a post ρ μ h1 _ h2 => hs pre a post ρ μ (by simpa using h1) h2
  simpa using h
theorem enumD_get {l : List D} {i : Nat} {d : D} (h : (enumD l)[i]? = some d) : ∃ e, l[i]? = some e ∧ e ∈ l ∧ d = .tup [.int i, e] := by
  obtain ⟨e, h1, h2⟩ := enumD_at h
  exact ⟨e, h1, List.mem_of_getElem? h1, h2⟩
@[simp] theorem enumD_len {l : List D} : (enumD l).length = l.length := enumD_length l

end PL
namespace PL
open PySem PySem.Spec PyProof.Rows L2
noncomputable def f_is_whole : List SV → M SV := fDef 1 (fRet (fAnd (fUn (isiF .int) (fV 0)) (fNot (fUn (isiF .bool) (fV 0)))))
--.
noncomputable def f_is_between : List SV → M SV := fDef 3 (fRet (fAnd (fCall (callM f_is_whole) (fCons (fV 0) fNil)) (fChain ileF ileF (fV 1) (fV 0) (fV 2))))
--.
noncomputable def f_is_tuple_of : List SV → M SV := fDef 2 (fRet (fAnd (fUn (isiF .tuple) (fV 0)) (fOp eqF (fCall lenF (fCons (fV 0) fNil)) (fV 1))))
--.
--.
--.
noncomputable def f_first_wrong (T : Tab) : List SV → M SV := fDef 5 (fSeq (fIfS (fTOr (fTNot (fT (fUn (isiF .tuple) (fV 0)))) (fTNot (fT (fChain ileF ileF (fV 1) (fCall lenF (fCons (fV 0) fNil)) (fV 2))))) (fRet (fLst (fCons (fC .non) fNil))) fSkip)
  (fSeq (fFor (enumF (fCons (fV 0) fNil)) (gT [(gN 5), (gN 6)]) (fIfS (fTOr (fTNot (fT (fLocal 3 T (fCons (fV 6) fNil)))) (fTAnd (fT (fV 4)) (fTAnd (fT (fOp gtF (fV 5) (fC (.int 0)))) (fT (fOp leF (fV 6) (fOp ixF (fV 0) (fOp subF (fV 5) (fC (.int 1))))))))) (fRet (fLst (fCons (fV 5) fNil))) fSkip))
  (fRet (fLst fNil))))
--.
noncomputable def f_are_between : List SV → M SV := fDef 4 (fRet (fAnd (fCall (callM f_is_tuple_of) (fCons (fV 0) (fCons (fV 1) fNil))) (fCall allF (fCons (fLc finLF (itF (fV 0)) (gN 4) fYes (fCall (callM f_is_between) (fCons (fV 4) (fCons (fV 2) (fCons (fV 3) fNil)))) [4]) fNil))))
--.
def wholeB : D → Bool
  | .int _ => true
  | _ => false
def betwB (v : D) (lo hi : Int) : Bool := match v with
  | .int i => decide (lo ≤ i) && decide (i ≤ hi)
  | _ => false
theorem is_whole_ok {v : D} {μ : Mem} (h : plain v = true) : f_is_whole [.d v] μ = .ok (.d (.bl (wholeB v))) μ := by
  simp [isK, isKB, tupD, sizeLine_eq, f_is_whole, isK_plain h]
  cases v, h using plain_cases <;> simp [isK, isKB, tupD, sizeLine_eq, wholeB]
theorem is_between_ok {v : D} {lo hi : Int} {μ : Mem} (h : plain v = true) : f_is_between [.d v, .d (.int lo), .d (.int hi)] μ = .ok (.d (.bl (betwB v lo hi))) μ := by
  simp [isK, isKB, tupD, sizeLine_eq, f_is_between, is_whole_ok h]
  cases v, h using plain_cases <;> simp [isK, isKB, tupD, sizeLine_eq, wholeB, betwB]
  rename_i i _
  by_cases h1 : lo ≤ i <;> simp [isK, isKB, tupD, sizeLine_eq, h1]
theorem is_tuple_of_ok {v : D} {n : Int} {μ : Mem} (h : plain v = true) : f_is_tuple_of [.d v, .d (.int n)] μ = .ok (.d (.bl (match tupD v with | some l => decide ((l.length : Int) = n) | none => false))) μ := by
  simp [isK, isKB, tupD, sizeLine_eq, f_is_tuple_of, isK_plain h]
  cases v, h using plain_cases <;> simp [isK, isKB, tupD, sizeLine_eq, tupD]
abbrev LETTERS : Str := "abcdefghijklmnopqrstuvwxyz"
def letterB (c : Nat) : Bool := decide (c ∈ LETTERS.cps.toList)
def nmB (x : Str) : Bool := decide (1 ≤ x.length) && (decide (x.length ≤ 8) && x.cps.toList.all letterB)
def nameB : D → Bool
  | .str x => nmB x
  | _ => false
theorem are_between_ok {v : D} {n : Nat} {lo hi : Int} {μ : Mem} (h : plain v = true) : f_are_between [.d v, .d (.int n), .d (.int lo), .d (.int hi)] μ = .ok (.d (.bl (match tupD v with | some l => decide (l.length = n) && l.all (fun e => betwB e lo hi) | none => false))) μ := by
  simp [isK, isKB, tupD, sizeLine_eq, f_are_between, is_tuple_of_ok h]
  cases v, h using plain_cases
  case tup l h | ntp l h =>
    simp at h
    by_cases e : l.length = n
    · subst e
      have hz : l.length ≤ 16777216 := by omega
      simp [isK, isKB, tupD, sizeLine_eq, hz]
      rw [cLoop_map (f := fun e => .bl (betwB e lo hi)) fun d hd => by simp [isK, isKB, tupD, sizeLine_eq, is_between_ok (plains_iff.mp h.2 d hd)]]
      simp [isK, isKB, tupD, sizeLine_eq, all_id_map]
    · have e2 : ¬ (l.length : Int) = n := by omega
      simp [isK, isKB, tupD, sizeLine_eq, e, e2]
  all_goals simp [isK, isKB, tupD, sizeLine_eq, ]
/-- which place is wrong -/
def badAt (P : D → Bool) (le : D → D → Bool) (rise : Bool) (l : List D) (i : Nat) : Bool := match l[i]? with
  | none => false
  | some e => !P e || (rise && (decide (0 < i) && match l[i - 1]? with | some e' => le e e' | none => false))
def wrongD (P : D → Bool) (le : D → D → Bool) (rise : Bool) (lo hi : Int) (v : D) : D := match tupD v with
  | none => .lst [.non]
  | some l => if lo ≤ l.length ∧ (l.length : Int) ≤ hi then (match firstP l.length (badAt P le rise l) with
    | none => .lst []
    | some i => .lst [.int i]) else .lst [.non]
theorem first_wrong_ok {v : D} {lo hi : Int} {T : Tab} {f : Str} {g : List SV → M SV} {rise : Bool} {P : D → Bool} {le : D → D → Bool} {μ : Mem} (h : plain v = true) (hT : T f = some g) (hg : ∀ l e, tupD v = some l → e ∈ l → ∃ μ', g [.d e] [] = .ok (.d (.bl (P e))) μ')
    (hle : ∀ l e e', tupD v = some l → e ∈ l → e' ∈ l → P e = true → P e' = true → rise = true → ∀ μ, leF (.d e) (.d e') μ = .ok (.d (.bl (le e e'))) μ) :
    f_first_wrong T [.d v, .d (.int lo), .d (.int hi), .d (.fn f), .d (.bl rise)] μ = .ok (.d (wrongD P le rise lo hi v)) μ := by
  simp [isK, isKB, tupD, sizeLine_eq, f_first_wrong, isK_plain h]
  cases v, h using plain_cases
  case tup l h | ntp l h =>
    simp at h
    by_cases h1 : lo ≤ l.length
    · by_cases h2 : (l.length : Int) ≤ hi
      · simp [isK, isKB, tupD, sizeLine_eq, h1, h2, wrongD]
        generalize el : fLoop _ _ _ _ = z
        have key := loop_find el (fun ρ μ' => ρ 0 = .d _ ∧ ρ 3 = .d (.fn f) ∧ ρ 4 = .d (.bl rise) ∧ μ' = μ) (fun μ' => μ' = μ) (fun i => if badAt P le rise l i then some (.d (.lst [.int (i : Int)])) else none) ⟨rfl, rfl, rfl, rfl⟩ (by
          rintro i d ρ μ' hd hb ⟨r0, r3, r4, rfl⟩
          obtain ⟨e, he, hm, rfl⟩ := enumD_get hd
          obtain ⟨m2, hge⟩ := hg _ e rfl hm
          simp [isK, isKB, tupD, sizeLine_eq, Hold, r0, r3, r4, lcK_fn hT, hge, badAt, he]
          cases hp : P e
          · simp [isK, isKB, tupD, sizeLine_eq, Hold, r0, r3, r4]
          · cases rise with
            | false => simp [isK, isKB, tupD, sizeLine_eq, Hold, r0, r3, r4]
            | true =>
              by_cases hi : 0 < i
              · have hl := (List.getElem?_eq_some_iff.mp he).1
                obtain ⟨e', he'⟩ : ∃ e', l[i - 1]? = some e' := ⟨_, List.getElem?_eq_getElem (by omega)⟩
                have ei : (i : Int) - 1 = ((i - 1 : Nat) : Int) := by omega
                have hp' : P e' = true := by
                  have := hb (i - 1) (by omega)
                  simp [badAt, he'] at this; exact this.1
                simp [isK, isKB, tupD, sizeLine_eq, Hold, r0, r3, r4, hi, ei, he', hle _ e e' rfl hm (List.mem_of_getElem? he') hp hp' rfl]
                cases le e e' <;> simp [isK, isKB, tupD, sizeLine_eq, Hold, r0, r3, r4]
              · have ez : i = 0 := by omega
                subst ez
                simp [isK, isKB, tupD, sizeLine_eq, Hold, r0, r3, r4])
        rcases key with ⟨hn, ρ', μ', rfl, hI⟩ | ⟨i, v, hi, hb, hv, μ', rfl, hI⟩
        · obtain ⟨_, _, _, rfl⟩ := hI
          simp [isK, isKB, tupD, sizeLine_eq, ]
          rw [firstP_none.mpr fun i hi => by have := hn i (by simpa using hi); simpa using this]
        · subst hI
          simp at hv hi
          rw [firstP_some hi hv.1 fun j hj => by have := hb j hj; simpa using this, ← hv.2]
          simp [isK, isKB, tupD, sizeLine_eq, ]
      · simp [isK, isKB, tupD, sizeLine_eq, h1, h2, wrongD]
    · simp [isK, isKB, tupD, sizeLine_eq, h1, wrongD]
  all_goals simp [isK, isKB, tupD, sizeLine_eq, wrongD]

/-- strictly rising, by lt -/
def risingB (lt : D → D → Bool) : List D → Bool
  | a :: b :: r => lt a b && risingB lt (b :: r)
  | _ => true
end PL
namespace PL
open PySem PySem.Spec PyProof.Rows L2
open PySem.W (Datum DatumOrd)
class Enc (α : Type) [DecidableEq α] [DatumOrd α] where
  en : α → D
  okk : α → Bool
  dep : Nat
  py : ∀ a, toPy (en a) = Datum.toD a
  fl : ∀ a k, okk a = true → dep ≤ k → flat k (en a) = true
  trans : ∀ a b c : α, DatumOrd.lt a b = true → DatumOrd.lt b c = true → DatumOrd.lt a c = true
  tri : ∀ a b : α, DatumOrd.lt a b = false → DatumOrd.lt b a = false → a = b
theorem nat_tri {x y : List Nat} (h1 : ¬ x < y) (h2 : ¬ y < x) : x = y := List.le_antisymm (List.not_lt.mp h2) (List.not_lt.mp h1)
theorem str_ext {x y : Str} (h : x.cps.toList = y.cps.toList) : x = y := by
  cases x; cases y; simp only at h; rw [Array.toList_inj.mp h]
instance : Enc Int where
  en := .int
  okk _ := true
  dep := 0
  py a := by simp only [toPy]; rfl
  fl a k _ _ := by cases k <;> rfl
  trans a b c h1 h2 := by have h1 := of_decide_eq_true h1; have h2 := of_decide_eq_true h2; exact decide_eq_true (by omega)
  tri a b h1 h2 := by have h1 := of_decide_eq_false h1; have h2 := of_decide_eq_false h2; omega
instance : Enc Str where
  en := .str
  okk := PyData.strOk
  dep := 0
  py a := by simp only [toPy]; rfl
  fl a k h _ := by cases k <;> exact h
  trans a b c h1 h2 := by have h1 := of_decide_eq_true h1; have h2 := of_decide_eq_true h2; exact decide_eq_true (List.lt_trans h1 h2)
  tri a b h1 h2 := by have h1 := of_decide_eq_false h1; have h2 := of_decide_eq_false h2; exact str_ext (nat_tri h1 h2)
section
variable {α β : Type} [DecidableEq α] [DatumOrd α] [Enc α] [DecidableEq β] [DatumOrd β] [Enc β]
@[simp] theorem dlt_self (a : α) : DatumOrd.lt a a = false := (DatumOrd.lt_eq a a).symm.trans (PySem.W.dataLt_self _)
theorem dlt_asymm {a b : α} (h : DatumOrd.lt a b = true) : DatumOrd.lt b a = false := by
  cases e : DatumOrd.lt b a with
  | false => rfl
  | true => have := Enc.trans _ _ _ h e; rw [dlt_self] at this; cases this
theorem dlt_ne {a b : α} (h : DatumOrd.lt a b = true) : a ≠ b := fun e => by subst e; rw [dlt_self] at h; cases h
theorem dle_iff {a b : α} : DatumOrd.lt b a = false ↔ DatumOrd.lt a b = true ∨ a = b := by
  constructor
  · intro h
    cases e : DatumOrd.lt a b with
    | true => exact .inl rfl
    | false => exact .inr (Enc.tri _ _ e h)
  · rintro (h | h)
    · exact dlt_asymm h
    · subst h; exact dlt_self _
theorem dlt_pair {p q : α × β} : DatumOrd.lt p q = if p.1 = q.1 then DatumOrd.lt p.2 q.2 else DatumOrd.lt p.1 q.1 := rfl
instance : Enc (α × β) where
  en p := .tup [Enc.en p.1, Enc.en p.2]
  okk p := Enc.okk p.1 && Enc.okk p.2
  dep := max (Enc.dep α) (Enc.dep β) + 1
  py p := by simp only [toPy, toPys, Enc.py]; rfl
  fl p k h hk := by
    cases k with
    | zero => omega
    | succ k =>
      simp only [Bool.and_eq_true] at h
      simp only [flat, flats, Enc.fl p.1 k h.1 (by omega), Enc.fl p.2 k h.2 (by omega), Bool.and_self]
  trans a b c h1 h2 := by
    rw [dlt_pair] at h1 h2 ⊢
    by_cases e1 : a.1 = b.1
    · rw [if_pos e1] at h1
      by_cases e2 : b.1 = c.1
      · rw [if_pos e2] at h2; rw [if_pos (e1.trans e2)]; exact Enc.trans _ _ _ h1 h2
      · rw [if_neg e2] at h2; rw [if_neg (by rw [e1]; exact e2), e1]; exact h2
    · rw [if_neg e1] at h1
      by_cases e2 : b.1 = c.1
      · rw [if_neg (by rw [← e2]; exact e1), ← e2]; exact h1
      · rw [if_neg e2] at h2
        have h3 := Enc.trans _ _ _ h1 h2
        rw [if_neg (dlt_ne h3)]; exact h3
  tri a b h1 h2 := by
    rw [dlt_pair] at h1 h2
    by_cases e1 : a.1 = b.1
    · rw [if_pos e1] at h1; rw [if_pos e1.symm] at h2
      exact Prod.ext e1 (Enc.tri _ _ h1 h2)
    · rw [if_neg e1] at h1; rw [if_neg (fun e => e1 e.symm)] at h2
      exact absurd (Enc.tri _ _ h1 h2) e1
/-- v stands for a: it reads as a does -/
def Is (v : D) (a : α) : Prop := toPy v = Datum.toD a ∧ flat (Enc.dep α) v = true
theorem flat_mono' : ∀ d : D, ∀ n k, flat n d = true → n ≤ k → flat k d = true := by
  intro d
  refine D.rec (motive_1 := fun d => ∀ n k, flat n d = true → n ≤ k → flat k d = true) (motive_2 := fun ds => ∀ n k, flats n ds = true → n ≤ k → flats k ds = true) ?_ ?_ ?_ ?_ ?_ ?_ ?_ ?_ ?_ ?_ ?_ ?_ ?_ ?_ d
  · intro n k h _; cases k <;> rfl
  · intro b n k h _; cases k <;> rfl
  · intro b n k h _; cases k <;> rfl
  · intro x n k h _; cases n <;> cases k <;> exact h
  · intro a n k h; cases n <;> simp [flat] at h
  · intro a n k h; cases n <;> simp [flat] at h
  · intro a n k h; cases n <;> simp [flat] at h
  all_goals first
    | (intro l ih n k h hk
       cases n with
       | zero => simp [flat] at h
       | succ n =>
         cases k with
         | zero => omega
         | succ k => simp only [flat] at h ⊢; exact ih n k h (by omega))
    | (intro t k v _ _ n k h; cases n <;> simp [flat] at h)
    | (intro C k v _ n k h; cases n <;> simp [flat] at h)
    | (intro n k _ _; simp [flats]; done)
    | (intro d ds i1 i2 n k h hk
       simp only [flats, Bool.and_eq_true] at h ⊢
       exact ⟨i1 n k h.1 hk, i2 n k h.2 hk⟩)
theorem Is.en {a : α} (h : Enc.okk a = true) : Is (Enc.en a) a := ⟨Enc.py a, Enc.fl a _ h (Nat.le_refl _)⟩
theorem Is.okEq {v : D} {a : α} (h : Is v a) (hd : Enc.dep α ≤ 60 := by decide) : okEq v = true := flat_mono' _ _ _ h.2 hd
theorem Is.deq {v w : D} {a b : α} (h : Is v a) (h' : Is w b) : deq v w = decide (a = b) := by
  unfold PL.deq; rw [h.1, h'.1, Datum.eqv]
theorem Is.ltD {v w : D} {a b : α} (h : Is v a) (h' : Is w b) : ltD v w = DatumOrd.lt a b := by
  unfold PL.ltD; rw [h.1, h'.1, DatumOrd.lt_eq]
theorem Is.alD {v w : D} {a b : α} (h : Is v a) (h' : Is w b) : alD v w = true := by
  unfold PL.alD; rw [h.1, h'.1]; exact DatumOrd.alike a b
theorem Is.eqF {v w : D} {a b : α} (h : Is v a) (h' : Is w b) {μ : Mem} (hd : Enc.dep α ≤ 60 := by decide) : eqF (.d v) (.d w) μ = .ok (.d (.bl (decide (a = b)))) μ := by
  rw [eqF_d (h.okEq hd) (h'.okEq hd), h.deq h']
theorem Is.neF {v w : D} {a b : α} (h : Is v a) (h' : Is w b) {μ : Mem} (hd : Enc.dep α ≤ 60 := by decide) : neF (.d v) (.d w) μ = .ok (.d (.bl (!decide (a = b)))) μ := by
  rw [neF_d (h.okEq hd) (h'.okEq hd), h.deq h']
theorem Is.ltF {v w : D} {a b : α} (h : Is v a) (h' : Is w b) (t : isTp v = true) (t' : isTp w = true) {μ : Mem} (hd : Enc.dep α ≤ 60 := by decide) : ltF (.d v) (.d w) μ = .ok (.d (.bl (DatumOrd.lt a b))) μ := by
  rw [ltF_t t t', grd_pos ⟨t, t', h.okEq hd, h'.okEq hd, h.alD h'⟩, h.ltD h']; rfl
theorem Is.leF {v w : D} {a b : α} (h : Is v a) (h' : Is w b) (t : isTp v = true) (t' : isTp w = true) {μ : Mem} (hd : Enc.dep α ≤ 60 := by decide) : leF (.d v) (.d w) μ = .ok (.d (.bl (!DatumOrd.lt b a))) μ := by
  rw [leF_t t t', grd_pos ⟨t, t', h.okEq hd, h'.okEq hd, h.alD h'⟩, h'.ltD h]; rfl
theorem Is.pair {v w : D} {a : α} {b : β} (h : Is v a) (h' : Is w b) : Is (.tup [v, w]) (a, b) := by
  refine ⟨by simp only [toPy, toPys, h.1, h'.1]; rfl, ?_⟩
  show flat (max (Enc.dep α) (Enc.dep β) + 1) _ = true
  simp only [flat, flats, flat_mono' _ _ _ h.2 (Nat.le_max_left _ _), flat_mono' _ _ _ h'.2 (Nat.le_max_right _ _), Bool.and_self]
theorem Is.int (i : Int) : Is (.int i) i := Is.en rfl
theorem Is.str {x : Str} (h : PyData.strOk x = true) : Is (.str x) x := Is.en h
theorem flats_of {n : Nat} : ∀ {l : List D}, (∀ d ∈ l, flat n d = true) → flats n l = true
  | [], _ => by simp [flats]
  | d :: l, h => by simp [flats, h d List.mem_cons_self, flats_of (l := l) fun x hx => h x (List.mem_cons_of_mem _ hx)]
/-- sorted -/
def srt (l : List α) : List α := l.mergeSort fun a b => !DatumOrd.lt b a
theorem srt_perm (l : List α) : (srt l).Perm l := List.mergeSort_perm _ _
@[simp] theorem srt_length (l : List α) : (srt l).length = l.length := (srt_perm l).length_eq
theorem mem_srt {l : List α} {a : α} : a ∈ srt l ↔ a ∈ l := (srt_perm l).mem_iff
theorem srtD_en (l : List α) : srtD (l.map Enc.en) = (srt l).map Enc.en := by
  unfold srtD srt
  refine (List.map_mergeSort (f := Enc.en) (r := fun a b => !DatumOrd.lt b a) (s := PySem.W.dataLe false toPy) (l := l) fun a _ b _ => ?_).symm
  show _ = (!PySem.W.dataLt (toPy (Enc.en b)) (toPy (Enc.en a)))
  rw [Enc.py, Enc.py, DatumOrd.lt_eq]
theorem srt_le (l : List α) : (srt l).Pairwise fun a b => DatumOrd.lt b a = false := by
  have h := List.pairwise_mergeSort (le := fun a b : α => !DatumOrd.lt b a) (fun a b c h1 h2 => by
    simp only [Bool.not_eq_true'] at h1 h2 ⊢
    rcases dle_iff.mp h1 with h1 | rfl
    · rcases dle_iff.mp h2 with h2 | rfl
      · exact dlt_asymm (Enc.trans _ _ _ h1 h2)
      · exact dlt_asymm h1
    · exact h2) (fun a b => by
    cases e : DatumOrd.lt b a with
    | false => rfl
    | true => rw [dlt_asymm e]; rfl) l
  exact h.imp fun h => by simpa using h
theorem srt_lt {l : List α} (h : l.Nodup) : (srt l).Pairwise fun a b => DatumOrd.lt a b = true := by
  have h1 := srt_le l
  have h2 : (srt l).Nodup := (srt_perm l).nodup_iff.mpr h
  exact (h1.and h2).imp fun ⟨h1, h2⟩ => (dle_iff.mp h1).resolve_right h2
theorem okSort_en {l : List α} (h : ∀ a ∈ l, Enc.okk a = true) (hs : ∀ a ∈ l, (∃ x r, Datum.toD a = PyData.tuple (x :: r)) ∨ ∀ b : α, ∀ xs, Datum.toD b ≠ PyData.tuple xs) (hd : Enc.dep α ≤ 60 := by decide) : okSort (l.map Enc.en) := by
  refine ⟨fun d hm => ?_, ?_, ?_⟩
  · obtain ⟨a, ha, rfl⟩ := List.mem_map.mp hm; exact Enc.fl a _ (h a ha) hd
  · intro d hd d' hd'
    rw [List.map_map] at hd hd'
    obtain ⟨a, _, rfl⟩ := List.mem_map.mp hd
    obtain ⟨b, _, rfl⟩ := List.mem_map.mp hd'
    show PySem.W.alike (toPy (Enc.en a)) (toPy (Enc.en b)) = true
    rw [Enc.py, Enc.py]; exact DatumOrd.alike a b
  · rw [List.map_map]
    by_cases hc : ∃ b : α, ∃ xs, Datum.toD b = PyData.tuple xs
    · left
      intro d hd
      obtain ⟨a, ha, rfl⟩ := List.mem_map.mp hd
      rcases hs a ha with h | h
      · obtain ⟨x, r, e⟩ := h; exact ⟨x, r, (Enc.py a).trans e⟩
      · obtain ⟨b, xs, e⟩ := hc; exact absurd e (h b xs)
    · right
      intro d hd
      obtain ⟨a, ha, rfl⟩ := List.mem_map.mp hd
      show toPy (Enc.en a) ≠ _ ∧ _
      refine ⟨by rw [Enc.py]; exact DatumOrd.notNone a, fun xs e => hc ⟨a, xs, (Enc.py a).symm.trans e⟩⟩
theorem okSort_pair {l : List (α × β)} (h : ∀ a ∈ l, Enc.okk a = true) (hd : Enc.dep (α × β) ≤ 60 := by decide) : okSort (l.map Enc.en) :=
  okSort_en h (fun a _ => .inl ⟨_, _, rfl⟩) hd
end
end PL
namespace PL
open PySem PySem.Spec PyProof.Rows L2
open PySem.W (Datum DatumOrd)
--.
--.
--.
--.
--.
--.
--.
--.
--.
--.
--.
--.
abbrev Side := Str × Int
abbrev Rule := Side × Side
def sltD (u v : D) : Bool := match u, v with
  | .str x, .str y => decide (x.cps.toList < y.cps.toList)
  | _, _ => false
/-- things: names, strictly rising, 1 to 14 -/
def thingsB (v : D) : Bool := match tupD v with
  | some l => decide (1 ≤ l.length) && decide (l.length ≤ 14) && l.all nameB && risingB sltD l
  | none => false
structure Ths (v : D) (ths : List Str) : Prop where
  tup : v = .tup (ths.map .str) ∨ v = .ntp (ths.map .str)
  name : ∀ x ∈ ths, nmB x = true ∧ PyData.strOk x = true ∧ x.length ≤ 1000
  lo : 1 ≤ ths.length
  hi : ths.length ≤ 14
  rise : ths.Pairwise fun a b => DatumOrd.lt a b = true
theorem risingB_pair {α : Type} {lt : D → D → Bool} {r : α → α → Bool} {en : α → D} (hl : ∀ a b, lt (en a) (en b) = r a b) (ht : ∀ a b c, r a b = true → r b c = true → r a c = true) : ∀ {l : List α}, risingB lt (l.map en) = true ↔ l.Pairwise fun a b => r a b = true
  | [] => by simp [risingB]
  | [a] => by simp [risingB]
  | a :: b :: l => by
    have ih := risingB_pair hl ht (l := b :: l)
    simp only [List.map_cons] at ih
    simp only [List.map_cons, risingB, Bool.and_eq_true, ih, hl]
    constructor
    · rintro ⟨h1, h2⟩
      refine List.pairwise_cons.mpr ⟨fun c hc => ?_, h2⟩
      rcases List.mem_cons.mp hc with rfl | hc
      · exact h1
      · exact ht _ _ _ h1 ((List.pairwise_cons.mp h2).1 c hc)
    · intro h
      exact ⟨(List.pairwise_cons.mp h).1 b List.mem_cons_self, (List.pairwise_cons.mp h).2⟩
theorem sltD_str (a b : Str) : sltD (.str a) (.str b) = DatumOrd.lt a b := rfl
theorem rising_strs {xs : List Str} : risingB sltD (xs.map .str) = true ↔ xs.Pairwise fun a b => DatumOrd.lt a b = true := risingB_pair sltD_str Enc.trans
theorem Ths.thingsB {v : D} {ths : List Str} (h : Ths v ths) : thingsB v = true := by
  have e : tupD v = some (ths.map .str) := by rcases h.tup with e | e <;> rw [e] <;> rfl
  unfold PL.thingsB
  rw [e]
  simp only [Bool.and_eq_true, decide_eq_true_eq]
  refine ⟨⟨⟨by simpa using h.lo, by simpa using h.hi⟩, ?_⟩, rising_strs.mpr h.rise⟩
  rw [List.all_map, List.all_eq_true]
  exact fun x hx => (h.name x hx).1
theorem plain_name {x : Str} (h : nmB x = true ∧ PyData.strOk x = true ∧ x.length ≤ 1000) : plain (.str x) = true := by simp [h.2]
theorem Ths.plain {v : D} {ths : List Str} (h : Ths v ths) : plain v = true := by
  have : plains (ths.map .str) = true := plains_iff.mpr fun d hd => by obtain ⟨x, hx, rfl⟩ := List.mem_map.mp hd; exact plain_name (h.name x hx)
  have h2 := h.hi
  rcases h.tup with e | e <;> rw [e] <;> simp [this] <;> omega
/-- a side of anything -/
def sideOf (v : D) : Option Side := match tupD v with
  | some [.str n, .int b] => if nmB n && (decide (0 ≤ b) && decide (b ≤ 1)) then some (n, b) else none
  | _ => none
/-- a rule of anything -/
def goodRule (r : Rule) : Bool := decide (r.1 = r.2) || DatumOrd.lt r.1.1 r.2.1
def ruleOf (v : D) : Option Rule := match tupD v with
  | some [a, b] => match sideOf a, sideOf b with
    | some s, some t => if goodRule (s, t) then some (s, t) else none
    | _, _ => none
  | _ => none
def ruleIn (ths : List Str) (v : D) : Bool := match ruleOf v with
  | some r => decide (r.1.1 ∈ ths) && decide (r.2.1 ∈ ths)
  | none => false
def rulesIn (ths : List Str) (v : D) (most : Nat) : Bool := match tupD v with
  | some l => decide (l.length ≤ most) && (l.all (ruleIn ths) && risingB ltD l)
  | none => false
def namesOf (v : D) : List Str := match tupD v with
  | some l => l.filterMap fun d => match d with | .str x => some x | _ => none
  | none => []
theorem Ths.names {v : D} {ths : List Str} (h : Ths v ths) : namesOf v = ths := by
  have e : tupD v = some (ths.map .str) := by rcases h.tup with e | e <;> rw [e] <;> rfl
  unfold namesOf; rw [e]; simp only [List.filterMap_map]
  exact List.filterMap_some
def bookB (v : D) : Bool := match tupD v with
  | some [t, r] => thingsB t && rulesIn (namesOf t) r 60
  | _ => false
end PL
namespace PL
open PySem PySem.Spec PyProof.Rows L2
theorem sIx_pos {n d : Nat} {k : Int} (h : 0 ≤ k) : HT.sIx n d (some k) = min k.toNat n := by
  show (if k < 0 then _ else min k.toNat n) = _
  rw [if_neg (by omega)]
theorem cutD_take {l : List D} {k : Int} (h : 0 ≤ k) : cutD l none (some k) = l.take k.toNat := by
  unfold cutD
  rw [sIx_pos h]
  show (l.drop 0).take (min k.toNat l.length - 0) = _
  rw [List.drop_zero, Nat.sub_zero, ← List.take_eq_take_min]
theorem cutD_drop {l : List D} {k : Int} (h : 0 ≤ k) : cutD l (some k) none = l.drop k.toNat := by
  unfold cutD
  rw [sIx_pos h]
  show (l.drop (min k.toNat l.length)).take (l.length - min k.toNat l.length) = _
  rw [List.take_of_length_le (by simp)]
  by_cases g : k.toNat ≤ l.length
  · rw [Nat.min_eq_left g]
  · rw [Nat.min_eq_right (by omega), List.drop_eq_nil_of_le (Nat.le_refl _), List.drop_eq_nil_of_le (by omega)]
/-- a slice of a tuple, as data -/
theorem cutN_tup {l : List D} {lo hi : Option Int} : tupD (cutN l lo hi) = some (cutD l lo hi) := by
  unfold cutN
  split
  · rename_i h
    unfold cutD
    rw [h.1, h.2]; simp [tupD]
  · rfl
abbrev cs (x : Str) : List Nat := x.cps.toList
theorem cs_len {x : Str} : x.length = (cs x).length := by simp [Str.length]
theorem strOk_iff {x : Str} : PyData.strOk x = true ↔ ∀ c ∈ cs x, c < 0x110000 := by
  unfold PyData.strOk
  rw [Array.all_eq_true_iff_forall_mem]
  simp [Array.mem_toList_iff]
theorem cLoop_inv {step : D → M (Option SV)} (I : Mem → Prop) (G : D → Prop) : ∀ {ds : List D} {μ : Mem}, I μ → (∀ d ∈ ds, ∀ μ, I μ → ∃ y μ', step d μ = .ok (some (.d y)) μ' ∧ G y ∧ I μ') → ∃ ys μ', cLoop step ds μ = .ok ys μ' ∧ ys.length = ds.length ∧ (∀ y ∈ ys, G y) ∧ I μ'
  | [], μ, h0, _ => ⟨[], μ, rfl, rfl, fun y hy => by simp at hy, h0⟩
  | d :: ds, μ, h0, hs => by
    obtain ⟨y, μ1, e, hy, h1⟩ := hs d List.mem_cons_self μ h0
    obtain ⟨ys, μ2, e2, hl, hg, h2⟩ := cLoop_inv I G (ds := ds) h1 fun d' hd' => hs d' (List.mem_cons_of_mem _ hd')
    refine ⟨y :: ys, μ2, ?_, by simp [hl], fun z hz => ?_, h2⟩
    · show (match step d μ with | .ok none μ' => cLoop step ds μ' | .ok (some (.d y)) μ' => _ | _ => .no) = _
      rw [e]
      show (match cLoop step ds μ1 with | .ok r μ2 => R.ok (y :: r) μ2 | _ => .no) = _
      rw [e2]
    · rcases List.mem_cons.mp hz with rfl | hz
      · exact hy
      · exact hg z hz
theorem loop_draw {step : D → M (Option SV)} {ds : List D} {μ : Mem} {z : R (List D)} (e : cLoop step ds μ = z) (I : Mem → Prop) (G : D → Prop) (h0 : I μ) (hs : ∀ d ∈ ds, ∀ μ, I μ → ∃ y μ', step d μ = .ok (some (.d y)) μ' ∧ G y ∧ I μ') : ∃ ys μ', z = .ok ys μ' ∧ ys.length = ds.length ∧ (∀ y ∈ ys, G y) ∧ I μ' := by
  subst e; exact cLoop_inv I G h0 hs
def jK (m : M SV) (s : SV) : M SV := match s with
  | .d (.str a) => bnd m fun z => joinF (.d (.str a)) z
  | _ => fun _ => .no
@[simp ↓] theorem fJoin_s {fo fe : FX} {ρ : FEnv} {μ : Mem} : fJoin fo fe ρ μ = bR (fo ρ μ) (jK (fe ρ)) := bnd_s
@[simp ↓] theorem jK_s {m : M SV} {a : Str} {μ : Mem} : jK m (.d (.str a)) μ = bR (m μ) (joinF (.d (.str a))) := bnd_s
theorem letters_cs : cs LETTERS = List.range' 97 26 := by decide +kernel
theorem mem_letters {c : Nat} : c ∈ cs LETTERS ↔ 97 ≤ c ∧ c < 123 := by rw [letters_cs, List.mem_range'_1]
theorem nmB_iff {x : Str} : nmB x = true ↔ 1 ≤ (cs x).length ∧ (cs x).length ≤ 8 ∧ ∀ c ∈ cs x, 97 ≤ c ∧ c < 123 := by
  unfold nmB letterB
  simp only [Bool.and_eq_true, decide_eq_true_eq, List.all_eq_true, cs_len]
  constructor
  · rintro ⟨h1, h2, h3⟩; exact ⟨h1, h2, fun c hc => mem_letters.mp (h3 c hc)⟩
  · rintro ⟨h1, h2, h3⟩; exact ⟨h1, h2, fun c hc => mem_letters.mpr (h3 c hc)⟩
theorem nmB_strOk {x : Str} (h : nmB x = true) : PyData.strOk x = true := strOk_iff.mpr fun c hc => by have := (nmB_iff.mp h).2.2 c hc; omega
theorem nodup_le {α : Type} [DecidableEq α] : ∀ {l l' : List α}, l.Nodup → (∀ a ∈ l, a ∈ l') → l.length ≤ l'.length
  | [], _, _, _ => Nat.zero_le _
  | a :: l, l', h, hs => by
    have h1 := List.nodup_cons.mp h
    have ha := hs a List.mem_cons_self
    have := nodup_le (l' := l'.erase a) h1.2 fun b hb => (List.mem_erase_of_ne (fun e => h1.1 (by rw [← e]; exact hb))).mpr (hs b (List.mem_cons_of_mem _ hb))
    rw [List.length_erase_of_mem ha] at this
    have := List.length_pos_of_mem ha
    simp only [List.length_cons]; omega
noncomputable def ixK (m : M (List SV)) (s : SV) (μ : Mem) : R SV := match s with
  | .d (.ntp _) => bnd m (indexF s) μ
  | _ => if (lstOf s μ).isSome = true then bnd m (indexF s) μ else .no
@[simp ↓] theorem fIndex_s {fo : FX} {fl : FA} {ρ : FEnv} {μ : Mem} : fIndex fo fl ρ μ = bR (fo ρ μ) (ixK (fl ρ)) := bnd_s
@[simp ↓] theorem ixK_n {m : M (List SV)} {l : List D} {μ : Mem} : ixK m (.d (.ntp l)) μ = bR (m μ) (indexF (.d (.ntp l))) := by
  show bnd m _ μ = _; exact bnd_s
@[simp] theorem plains_append {l m : List D} : plains (l ++ m) = (plains l && plains m) := by
  rw [Bool.eq_iff_iff, Bool.and_eq_true, plains_iff, plains_iff, plains_iff]
  exact ⟨fun h => ⟨fun d hd => h d (List.mem_append_left _ hd), fun d hd => h d (List.mem_append_right _ hd)⟩, fun h d hd => (List.mem_append.mp hd).elim (h.1 d) (h.2 d)⟩
end PL
namespace PL
open PySem PySem.Spec PyProof.Rows L2
open PySem.W (Datum DatumOrd)
--.
--.
--.
--.
noncomputable def f__law_back : List SV → M SV := fDef 1 (fRet (fTup (fCons (fOp ixF (fV 0) (fC (.int 0))) (fCons (fOp subF (fC (.int 1)) (fOp ixF (fV 0) (fC (.int 1)))) fNil))))
--.
--.
--.
--.
abbrev Pool := Int × Int × Int
def pc (p : Pool) : Cell := .lst [.int p.1, .int p.2.1, .int p.2.2]
@[simp ↓] theorem flC_pc {α : Type} {p : Pool} {r : R α} : flC (pc p) r = r := rfl
/-- a draw below n -/
structure Bel (B : List SV → M SV) : Prop where
  ok : ∀ (n : Int) (p : Pool), 0 < n → n < 1073741824 → ∃ r p', 0 ≤ r ∧ r < n ∧ B [.c 0, .d (.int n)] [pc p] = .ok (.d (.int r)) [pc p']
theorem callM_pool {f : List SV → M SV} {ss : List SV} {p p' : Pool} {d : D} {R R' : Mem} (hs : cellsOf ss = []) (hr : relab 1 ss = ss) (h : f (.c 0 :: ss) [pc p] = .ok (.d d) (pc p' :: R')) : callM f (.c 0 :: ss) (pc p :: R) = .ok (.d d) (pc p' :: R) := by
  rw [callM_s]; simp [hs, hr, h]
theorem Bel.call {B : List SV → M SV} (b : Bel B) {n : Int} {p : Pool} {R : Mem} (h0 : 0 < n) (h1 : n < 1073741824) : ∃ r p', 0 ≤ r ∧ r < n ∧ callM B [.c 0, .d (.int n)] (pc p :: R) = .ok (.d (.int r)) (pc p' :: R) := by
  obtain ⟨r, p', h2, h3, e⟩ := b.ok n p h0 h1
  exact ⟨r, p', h2, h3, callM_pool rfl rfl e⟩
theorem ixN30 : ixN 3 0 = some 0 := rfl
theorem ixN31 : ixN 3 1 = some 1 := rfl
theorem ixN32 : ixN 3 2 = some 2 := rfl
abbrev sD (s : Side) : D := .tup [.str s.1, .int s.2]
abbrev rD (r : Rule) : D := .tup [sD r.1, sD r.2]
def okS (ths : List Str) (s : Side) : Prop := s.1 ∈ ths ∧ (s.2 = 0 ∨ s.2 = 1)
def okR (ths : List Str) (r : Rule) : Prop := okS ths r.1 ∧ okS ths r.2 ∧ goodRule r = true
def sBack (s : Side) : Side := (s.1, 1 - s.2)
theorem okS_back {ths : List Str} {s : Side} (h : okS ths s) : okS ths (sBack s) := ⟨h.1, by have := h.2; simp only [sBack]; omega⟩
theorem back_ok {s : Side} {μ : Mem} : f__law_back [.d (sD s)] μ = .ok (.d (sD (sBack s))) μ := by
  simp [isK, isKB, tupD, sizeLine_eq, f__law_back, sBack]
def sidesOf (ths : List Str) : List Side := ths.flatMap fun x => [(x, 0), (x, 1)]
theorem mem_sidesOf {ths : List Str} {s : Side} : s ∈ sidesOf ths ↔ okS ths s := by
  unfold sidesOf okS
  rw [List.mem_flatMap]
  constructor
  · rintro ⟨x, hx, h⟩; simp at h; rcases h with h | h <;> subst h <;> simp [hx]
  · rintro ⟨h1, h2⟩; refine ⟨s.1, h1, ?_⟩; obtain ⟨a, b⟩ := s; simp at h2 ⊢; omega
theorem sidesOf_len {ths : List Str} : (sidesOf ths).length = 2 * ths.length := by
  unfold sidesOf; induction ths with
  | nil => rfl
  | cons a l ih => simp [List.flatMap_cons, ih]; omega
theorem is_side_is {ths : List Str} {s : Side} (hs : okS ths s) (hn : ∀ x ∈ ths, nmB x = true) : Is (sD s) s := (Is.str (nmB_strOk (hn _ hs.1))).pair (Is.int _)
def dd {α : Type} [DecidableEq α] (l : List α) : List α := (List.range l.length).filterMap fun i => match l[i]? with
  | some a => if a ∈ l.take i then none else some a
  | none => none
structure Book (v : D) (ths : List Str) (rs : List Rule) : Prop where
  eq : v = .tup [.ntp (ths.map .str), .ntp (rs.map rD)] ∨ v = .tup [.ntp (ths.map .str), .tup (rs.map rD)]
  tth : Ths (.ntp (ths.map .str)) ths
  rule : ∀ r ∈ rs, okR ths r
  few : rs.length ≤ 60
  rise : rs.Pairwise fun a b => DatumOrd.lt a b = true
theorem okk_rule {ths : List Str} {r : Rule} (h : okR ths r) (hn : ∀ x ∈ ths, nmB x = true) : Enc.okk r = true := by
  show ((PyData.strOk r.1.1 && true) && (PyData.strOk r.2.1 && true)) = true
  rw [nmB_strOk (hn _ h.1.1), nmB_strOk (hn _ h.2.1.1)]; rfl
/-- a book of any few rules, in any order -/
structure Bk (v : D) (ths : List Str) (rs : List Rule) : Prop where
  eq : v = .tup [.ntp (ths.map .str), .ntp (rs.map rD)] ∨ v = .tup [.ntp (ths.map .str), .tup (rs.map rD)]
  tth : Ths (.ntp (ths.map .str)) ths
  rule : ∀ r ∈ rs, okR ths r
  few : rs.length ≤ 200
theorem Book.bk {v : D} {ths : List Str} {rs : List Rule} (h : Book v ths rs) : Bk v ths rs := ⟨h.eq, h.tth, h.rule, by have := h.few; omega⟩
theorem sideOf_sD {ths : List Str} {s : Side} (h : okS ths s) (hnm : ∀ x ∈ ths, nmB x = true) : sideOf (sD s) = some s := by
  unfold sideOf
  simp only [tupD_t, hnm _ h.1, Bool.true_and]
  have h1 : (0 : Int) ≤ s.2 := by rcases h.2 with e | e <;> rw [e] <;> decide
  have h2 : s.2 ≤ 1 := by rcases h.2 with e | e <;> rw [e] <;> decide
  simp [h1, h2]
theorem ruleOf_rD {ths : List Str} {r : Rule} (h : okR ths r) (hnm : ∀ x ∈ ths, nmB x = true) : ruleOf (rD r) = some r := by
  unfold ruleOf
  simp only [tupD_t, sideOf_sD h.1 hnm, sideOf_sD h.2.1 hnm]
  rw [if_pos h.2.2]
theorem ruleIn_rD {ths : List Str} {r : Rule} (h : okR ths r) (hnm : ∀ x ∈ ths, nmB x = true) : ruleIn ths (rD r) = true := by
  unfold ruleIn; rw [ruleOf_rD h hnm]; simp [h.1.1, h.2.1.1]
theorem rD_is {ths : List Str} {r : Rule} (h : okR ths r) (hnm : ∀ x ∈ ths, nmB x = true) : Is (rD r) r := Is.en (okk_rule h hnm)
theorem rising_rules : ∀ {rs : List Rule} {ths : List Str}, (∀ r ∈ rs, okR ths r) → (∀ x ∈ ths, nmB x = true) → rs.Pairwise (fun a b => DatumOrd.lt a b = true) → risingB ltD (rs.map rD) = true := fun {rs ths} hr hnm hp => by
  have e : ∀ (rs : List Rule), (∀ r ∈ rs, okR ths r) → rs.Pairwise (fun a b => DatumOrd.lt a b = true) → risingB ltD (rs.map rD) = true := by
    intro rs
    induction rs with
    | nil => intro _ _; rfl
    | cons a l ih =>
      intro hr hp
      cases l with
      | nil => rfl
      | cons c l =>
        have h1 := List.pairwise_cons.mp hp
        have h2 := ih (fun r h => hr r (List.mem_cons_of_mem _ h)) h1.2
        simp only [List.map_cons, risingB, Bool.and_eq_true] at h2 ⊢
        refine ⟨?_, h2⟩
        rw [(rD_is (hr a List.mem_cons_self) hnm).ltD (rD_is (hr c (by simp)) hnm)]
        exact h1.1 c List.mem_cons_self
  exact e rs hr hp
theorem rules_true {ths : List Str} {rs : List Rule} {n : Nat} (hr : ∀ r ∈ rs, okR ths r) (hnm : ∀ x ∈ ths, nmB x = true) (hp : rs.Pairwise fun a b => DatumOrd.lt a b = true) (hz : rs.length ≤ n) : rulesIn ths (.ntp (rs.map rD)) n = true := by
  unfold rulesIn
  simp only [tupD_n, List.length_map, decide_eq_true hz, rising_rules hr hnm hp, Bool.true_and, Bool.and_true, List.all_map, List.all_eq_true]
  exact fun r h => ruleIn_rD (hr r h) hnm
theorem rules_trueT {ths : List Str} {rs : List Rule} {n : Nat} (hr : ∀ r ∈ rs, okR ths r) (hnm : ∀ x ∈ ths, nmB x = true) (hp : rs.Pairwise fun a b => DatumOrd.lt a b = true) (hz : rs.length ≤ n) : rulesIn ths (.tup (rs.map rD)) n = true := rules_true hr hnm hp hz
theorem Book.true {v : D} {ths : List Str} {rs : List Rule} (h : Book v ths rs) : bookB v = true := by
  unfold bookB
  rcases h.eq with e | e <;> rw [e] <;> simp only [rules_trueT h.rule (fun x hx => (h.tth.name x hx).1) h.rise h.few, tupD_t, h.tth.thingsB, h.tth.names, rules_true h.rule (fun x hx => (h.tth.name x hx).1) h.rise h.few, Bool.and_self]

end PL
namespace PL
open PySem PySem.Spec PyProof.Rows L2
open PySem.W (Datum DatumOrd)
--.
--.
--.
--.
--.
--.
--.
--.
end PL
namespace PL
open PySem PySem.Spec PyProof.Rows L2
open PySem.W (Datum DatumOrd)
--.
--.
--.
--.
--.
--.
--.
--.
--.
--.
--.
noncomputable def f__law_all : List SV → M SV := fDef 1 (fSeq (fAsg (fLst (fCons (fTup fNil) fNil)) (gN 1))
  (fSeq (fFor (rng1F (fCons (fV 0) fNil)) (gN 2) (fAsg (fOp addF (fLc finLF (itF (fV 1)) (gN 3) fYes (fOp addF (fV 3) (fTup (fCons (fC (.int 0)) fNil))) [3]) (fLc finLF (itF (fV 1)) (gN 3) fYes (fOp addF (fV 3) (fTup (fCons (fC (.int 1)) fNil))) [3])) (gN 1)))
  (fRet (fV 1))))
--.
--.
theorem Ths.lenF {t : D} {ths : List Str} {μ : Mem} (h : Ths t ths) : lenF [.d t] μ = .ok (.d (.int ths.length)) μ := by
  rcases h.tup with e | e <;> subst e <;> simp [lenF, lenOf]
theorem Ths.lenOf {t : D} {ths : List Str} {μ : Mem} (h : Ths t ths) : lenOf (.d t) μ = some ths.length := by
  rcases h.tup with e | e <;> subst e <;> simp [PL.lenOf]
/-- what a choosing says of a name -/
def vl : List Str → List Int → Str → Int
  | x :: xs, c :: cs, y => if x = y then c else vl xs cs y
  | _, _, _ => 0
def hasS (ths : List Str) (cs : List Int) (s : Side) : Bool := decide (vl ths cs s.1 = s.2)
/-- a rule of which neither side is taken -/
def lost (ths : List Str) (cs : List Int) (r : Rule) : Bool := !hasS ths cs r.1 && !hasS ths cs r.2
theorem rise_ne {α : Type} [DecidableEq α] [DatumOrd α] {a b : α} (h : DatumOrd.lt a b = true) : a ≠ b := fun e => by
  subst e
  rw [← DatumOrd.lt_eq, PySem.W.dataLt_self] at h
  cases h
theorem Ths.nodup {t : D} {ths : List Str} (h : Ths t ths) : ths.Nodup := h.rise.imp rise_ne
theorem dgetF_dic {t : Bool} {ks vs : List D} {k d : D} {μ : Mem} (hf : fitK t k = true) (h : findD ks vs k = some d) : dgetF (.d (.dic t ks vs)) (.d k) μ = .ok (.d d) μ := by
  simp [dgetF, dicOf, grd, hf, h]
theorem Ths.tupD {t : D} {ths : List Str} (h : Ths t ths) : tupD t = some (ths.map .str) := by
  rcases h.tup with e | e <;> subst e <;> rfl
theorem all_okA {n : Nat} {μ : Mem} (hn : n ≤ 14) : ∃ css : List (List Int), css.length = 2 ^ n ∧ (∀ cs ∈ css, cs.length = n ∧ ∀ x ∈ cs, x = 0 ∨ x = 1) ∧ (∀ cs : List Int, cs.length = n → (∀ x ∈ cs, x = 0 ∨ x = 1) → cs ∈ css) ∧ f__law_all [.d (.int n)] μ = .ok (.d (.lst (css.map fun cs => .tup (cs.map .int)))) μ := by
  have key : gives (f__law_all [.d (.int n)] μ) fun s μ2 => ∃ css : List (List Int), css.length = 2 ^ n ∧ (∀ cs ∈ css, cs.length = n ∧ ∀ x ∈ cs, x = 0 ∨ x = 1) ∧ (∀ cs : List Int, cs.length = n → (∀ x ∈ cs, x = 0 ∨ x = 1) → cs ∈ css) ∧ s = .d (.lst (css.map fun cs => .tup (cs.map .int))) ∧ μ2 = μ := by
    have z1 : (n : Int) < 4611686018427387904 := by omega
    have z2 : (-4611686018427387904 : Int) ≤ n := by omega
    have z3 : n ≤ 16777216 := by omega
    simp [isK, isKB, tupD, sizeLine_eq, f__law_all, z1, z2, z3]
    generalize el : fLoop _ _ _ _ = z
    obtain ⟨ρ', μ', rfl, css, c1, c2, c3, r1, rfl⟩ := loop_inv el (fun i ρ μ2 => ∃ css : List (List Int), css.length = 2 ^ i ∧ (∀ cs ∈ css, cs.length = i ∧ ∀ x ∈ cs, x = 0 ∨ x = 1) ∧ (∀ cs : List Int, cs.length = i → (∀ x ∈ cs, x = 0 ∨ x = 1) → cs ∈ css) ∧ ρ 1 = .d (.lst (css.map fun cs => .tup (cs.map .int))) ∧ μ2 = μ) ⟨[[]], rfl, by simp, fun cs h _ => by simp [List.eq_nil_of_length_eq_zero h], by simp, rfl⟩ (by
      rintro i d ρ μ2 hd ⟨css, c1, c2, c3, r1, rfl⟩
      have hi : i < n := by
        have := (List.getElem?_eq_some_iff.mp hd).1
        simpa [rngD] using this
      have hp : 2 ^ i ≤ 2 ^ 13 := Nat.pow_le_pow_right (by omega) (by omega)
      have hp : css.length ≤ 8192 := by rw [c1]; exact hp
      have lp : ∀ (b : Int) (ρ : FEnv), cLoop (cStep (gN 3) fYes (fOp addF (fV 3) (fTup (fCons (fC (.int b)) fNil))) [3] ρ) (css.map fun cs => .tup (cs.map .int)) μ2 = .ok (css.map fun cs => .tup ((cs ++ [b]).map .int)) μ2 := fun b ρ => by
        refine cLoop_mapT _ fun cs hcs => ?_
        have h1 := (c2 cs hcs).1
        have h2 : cs.length + 1 ≤ 16777216 := by omega
        simp [isK, isKB, tupD, sizeLine_eq, cStep, h2]
      have q1 : css.length ≤ 8388608 := by omega
      have q2 : css.length + css.length ≤ 16777216 := by omega
      have q0 : css.length ≤ 16777216 := by omega
      simp [isK, isKB, tupD, sizeLine_eq, r1, lp, finLF, q0, q1, q2]
      refine ⟨css.map (fun cs => cs ++ [0]) ++ css.map (fun cs => cs ++ [1]), ?_, ?_, ?_, ?_, rfl⟩
      · simp [c1, Nat.pow_succ]; omega
      · intro cs hcs
        simp only [List.mem_append, List.mem_map] at hcs
        rcases hcs with ⟨a, ha, rfl⟩ | ⟨a, ha, rfl⟩ <;> refine ⟨by simp [(c2 a ha).1], fun x hx => ?_⟩ <;> simp at hx <;> rcases hx with hx | hx
        · exact (c2 a ha).2 x hx
        · exact .inl hx
        · exact (c2 a ha).2 x hx
        · exact .inr hx
      · intro cs hl hb
        have hne : cs ≠ [] := fun z => by subst z; simp at hl
        obtain ⟨a, z, rfl⟩ : ∃ a z, cs = a ++ [z] := ⟨cs.dropLast, cs.getLast hne, (List.dropLast_concat_getLast hne).symm⟩
        have ha : a ∈ css := c3 a (by simpa using hl) fun x hx => hb x (by simp [hx])
        rcases hb z (by simp) with rfl | rfl
        · exact List.mem_append_left _ (List.mem_map.mpr ⟨a, ha, rfl⟩)
        · exact List.mem_append_right _ (List.mem_map.mpr ⟨a, ha, rfl⟩)
      · simp [Function.comp_def])
    simp [isK, isKB, tupD, sizeLine_eq, r1]
    have hL : (rngD 0 n).length = n := by simp [rngD]
    refine gives_ok ⟨css, ?_, ?_, ?_, rfl, rfl⟩
    · simpa using c1
    · simpa using c2
    · simpa using c3
  obtain ⟨_, _, e, css, h1, h2, h3, rfl, rfl⟩ := key
  exact ⟨css, h1, h2, h3, e⟩
theorem enumD_map {α : Type} {en : α → D} {l : List α} : enumD (l.map en) = l.zipIdx.map fun p => .tup [.int (p.2 : Nat), en p.1] := by
  apply List.ext_getElem?
  intro i
  unfold enumD
  rw [List.getElem?_mapIdx, List.getElem?_map, List.getElem?_map, List.getElem?_zipIdx]
  cases l[i]? <;> simp
/-- a row of truths that are all true -/
theorem trues {ys : List D} (hg : ∀ y ∈ ys, y = .bl true) : ∃ bs, bools ys = some bs ∧ bs.all id = true := by
  induction ys with
  | nil => exact ⟨[], rfl, rfl⟩
  | cons a l ih =>
    obtain ⟨bs, h1, h2⟩ := ih fun y hy => hg y (by simp [hy])
    have h3 := hg a (by simp)
    subst h3
    exact ⟨true :: bs, by simp [bools, h1], by simpa using h2⟩
theorem filterMap_if {α β : Type} {P : α → Bool} {en : α → β} : ∀ {l : List α}, (l.filterMap fun a => if P a = true then some (en a) else none) = (l.filter P).map en
  | [] => rfl
  | a :: l => by
    have := filterMap_if (P := P) (en := en) (l := l)
    by_cases q : P a = true <;> simp [List.filterMap_cons, List.filter_cons, q, this]

end PL
namespace PL
open PySem PySem.Spec PyProof.Rows L2
open PySem.W (Datum DatumOrd)
--.
noncomputable def f_all_sides : List SV → M SV := fDef 1 (fRet (fCall tupF (fCons (fLc2 finLF (itF (fV 0)) (gN 1) fYes (itF (fTup (fCons (fC (.int 0)) (fCons (fC (.int 1)) fNil)))) (gN 2) fYes (fTup (fCons (fV 1) (fCons (fV 2) fNil))) [1, 2] [2]) fNil)))
--.
noncomputable def f_Leads___init__ : List SV → M SV := fDef 2 (fSeq (fFld "Leads" "things" (fV 0) (fOp ixF (fV 1) (fC (.int 0))))
  (fSeq (fFld "Leads" "steps" (fV 0) (fDcC (itF (fCall (callM f_all_sides) (fCons (fAttr "Leads" "things" (fV 0)) fNil))) (gN 3) fYes (fV 3) (fLstC fNil) [3]))
  (fFor (enumF (fCons (fOp ixF (fV 1) (fC (.int 1))) fNil)) (gT [(gN 2), (gT [(gN 3), (gN 4)])]) (fSeq (fExpr (fMethL appendF (fOp cgetF (fAttr "Leads" "steps" (fV 0)) (fCall (callM f__law_back) (fCons (fV 3) fNil))) (fCons (fTup (fCons (fV 2) (fCons (fV 4) fNil))) fNil)))
  (fIfS (fT (fOp neF (fV 3) (fV 4))) (fExpr (fMethL appendF (fOp cgetF (fAttr "Leads" "steps" (fV 0)) (fCall (callM f__law_back) (fCons (fV 4) fNil))) (fCons (fTup (fCons (fV 2) (fCons (fV 3) fNil))) fNil))) fSkip)))))
--.
--.
--.
--.
theorem all_sides_ok {v : D} {ths : List Str} {μ : Mem} (h : Ths v ths) : f_all_sides [.d v] μ = .ok (.d (.ntp ((sidesOf ths).map sD))) μ := by
  have hz := h.hi
  have lp : ∀ (ρ : FEnv), cLoop2 (cStep2 (gN 1) fYes (itF (fTup (fCons (fC (.int 0)) (fCons (fC (.int 1)) fNil)))) (gN 2) fYes (fTup (fCons (fV 1) (fCons (fV 2) fNil))) [1, 2] [2] ρ) (ths.map .str) μ = .ok ((sidesOf ths).map sD) μ := fun ρ => by
    rw [cLoop2_mapT (f := fun x => [sD (x, 0), sD (x, 1)]) fun x hx => ?_]
    · refine congrArg (R.ok · μ) ?_
      unfold sidesOf
      rw [List.map_flatMap]
      rfl
    · simp (disch := first | assumption | omega | (simp [sizeLine_eq]; done) | (simp [sizeLine_eq]; omega) | fail) [isK, isKB, tupD, sizeLine_eq, grd_pos, cStep2]
      rw [cLoop_map (f := fun d => .tup [.str x, d]) fun d _ => by simp (disch := first | assumption | omega | (simp [sizeLine_eq]; done) | (simp [sizeLine_eq]; omega) | fail) [isK, isKB, tupD, sizeLine_eq, grd_pos, cStep]]
      rfl
  have hl : (sidesOf ths).length ≤ 28 := by rw [sidesOf_len]; omega
  rcases h.tup with e | e <;> subst e <;> simp (disch := first | assumption | omega | (simp [sizeLine_eq]; done) | (simp [sizeLine_eq]; omega) | fail) [isK, isKB, tupD, sizeLine_eq, grd_pos, f_all_sides, lp, finLF]
theorem sD_inj {s t : Side} (h : sD s = sD t) : s = t := by
  obtain ⟨a, b⟩ := s
  obtain ⟨c, d⟩ := t
  simp at h
  simp [h]
theorem fit_sD {s : Side} : fitK true (sD s) = true := rfl
theorem findS_at {α : Type} {en : α → D} (inj : ∀ a b, en a = en b → a = b) : ∀ {l : List α} {vs : List SV} {i : Nat} {a : α} {v : SV}, l.Nodup → l[i]? = some a → vs[i]? = some v → findS (l.map en) vs (en a) = some v
  | [], _, _, _, _, _, h, _ => by simp at h
  | b :: l, [], _, _, _, _, _, h => by simp at h
  | b :: l, w :: vs, 0, a, v, _, h, h2 => by
    simp at h h2
    subst h h2
    simp [findS]
  | b :: l, w :: vs, i + 1, a, v, hn, h, h2 => by
    simp only [List.getElem?_cons_succ] at h h2
    obtain ⟨h3, h4⟩ := List.nodup_cons.mp hn
    have ne : ¬ en b = en a := fun z => h3 (by rw [inj _ _ z]; exact List.mem_of_getElem? h)
    simp only [List.map_cons, findS]
    rw [if_neg ne]
    exact findS_at inj h4 h h2
theorem findD_at {α : Type} {en : α → D} (inj : ∀ a b, en a = en b → a = b) (g : α → D) : ∀ {l : List α} {a : α}, a ∈ l → findD (l.map en) (l.map g) (en a) = some (g a)
  | [], _, h => by simp at h
  | b :: l, a, h => by
    simp only [List.map_cons, findD]
    by_cases z : en b = en a
    · rw [if_pos z, inj _ _ z]
    · rw [if_neg z]
      exact findD_at inj g ((List.mem_cons.mp h).resolve_left fun q => z (by rw [q]))
theorem map_set {α β : Type} [DecidableEq α] {l : List α} (hn : l.Nodup) {i : Nat} {a : α} (h : l[i]? = some a) {f g : α → β} (hg : ∀ b ∈ l, b ≠ a → g b = f b) : (l.map f).set i (g a) = l.map g := by
  apply List.ext_getElem?
  intro j
  by_cases e : i = j
  · subst e
    have hl : i < (l.map f).length := by rw [List.length_map]; exact (List.getElem?_eq_some_iff.mp h).1
    rw [List.getElem?_set_self hl, List.getElem?_map, h]
    rfl
  · rw [List.getElem?_set_ne e, List.getElem?_map, List.getElem?_map]
    cases h2 : l[j]? with
    | none => rfl
    | some b =>
      have ne : b ≠ a := fun z => e ((List.getElem?_inj (List.getElem?_eq_some_iff.mp h).1 hn).mp (by rw [h, h2, z]))
      simp only [Option.map_some]
      rw [hg b (List.mem_of_getElem? h2) ne]
/-- {k: [] for k in ..} -/
abbrev cellsAt (j n : Nat) : List SV := (List.range n).map fun k => .c (j + 1 + k)
theorem dc_lists {α : Type} {en : α → D} (inj : ∀ a b, en a = en b → a = b) (fit : ∀ a, fitK true (en a) = true) {i : Nat} {ρ : FEnv} {μ : Mem} : ∀ (l done : List α), (done ++ l).Nodup → (done ++ l).length ≤ 1000000 →
    dcLoop (dcStep (gN i) fYes (fV i) (fLstC fNil) [i] ρ μ.length) (l.map en) (μ ++ .dC (done.map en) (cellsAt μ.length done.length) :: done.map fun _ => .lst []) = .ok () (μ ++ .dC ((done ++ l).map en) (cellsAt μ.length (done ++ l).length) :: (done ++ l).map fun _ => .lst [])
  | [], done, _, _ => by simp [dcLoop]
  | a :: l, done, hn, hz => by
    have ih := dc_lists inj fit (i := i) (ρ := ρ) (μ := μ) l (done ++ [a]) (by simpa using hn) (by simpa using hz)
    have na : en a ∉ done.map en := fun h => by
      obtain ⟨b, hb, e⟩ := List.mem_map.mp h
      have := (List.nodup_append.mp hn).2.2 b hb a (by simp)
      exact this (inj _ _ e)
    have nz : done.length < sizeLine := by
      have := sizeLine_le (n := 1000000) (by decide)
      simp at hz
      omega
    have st : dcStep (gN i) fYes (fV i) (fLstC fNil) [i] ρ μ.length (en a) (μ ++ .dC (done.map en) (cellsAt μ.length done.length) :: done.map fun _ => .lst []) = .ok () (μ ++ .dC ((done ++ [a]).map en) (cellsAt μ.length (done ++ [a]).length) :: (done ++ [a]).map fun _ => .lst []) := by
      have pc := cputM_c (j := μ.length) (d := en a) (s := .c (μ.length + 1 + done.length)) (ks := done.map en) (us := cellsAt μ.length done.length) (μ := (μ ++ .dC (done.map en) (cellsAt μ.length done.length) :: done.map fun _ => .lst []) ++ [.lst []])
        (by simp) (fit a) (by simpa using nz) (by simp)
      have e1 : (μ ++ Cell.dC (done.map en) (cellsAt μ.length done.length) :: done.map fun _ => Cell.lst []).length = μ.length + 1 + done.length := by simp; omega
      unfold dcStep
      simp [isK, isKB, tupD, sizeLine_eq, e1]
      rw [show μ ++ Cell.dC (done.map en) (cellsAt μ.length done.length) :: (List.map (fun x => Cell.lst []) done ++ [Cell.lst []]) = (μ ++ .dC (done.map en) (cellsAt μ.length done.length) :: done.map fun _ => .lst []) ++ [.lst []] by simp]
      rw [pc]
      refine congrArg (R.ok ()) ?_
      have h1 : putKs (done.map en) (en a) = (done ++ [a]).map en := by unfold putKs; rw [if_neg na]; simp
      have h2 : putSs (done.map en) (cellsAt μ.length done.length) (en a) (.c (μ.length + 1 + done.length)) = cellsAt μ.length (done ++ [a]).length := by
        unfold putSs; rw [if_neg na]; simp [cellsAt, List.range_succ]
      rw [h1, h2]
      simp
    rw [List.map_cons, dcLoop]
    simp only [st]
    rw [show done ++ a :: l = done ++ [a] ++ l by simp]
    exact ih
abbrev stD (p : Nat × Side) : D := .tup [.int (p.1 : Nat), sD p.2]
/-- the steps from a side by one rule -/
def stp (s : Side) (p : Rule × Nat) : List (Nat × Side) := (if s = sBack p.1.1 then [(p.2, p.1.2)] else []) ++ (if p.1.1 ≠ p.1.2 ∧ s = sBack p.1.2 then [(p.2, p.1.1)] else [])
def stpsTo (rs : List Rule) (n : Nat) (s : Side) : List (Nat × Side) := (rs.zipIdx.take n).flatMap (stp s)
abbrev stps (rs : List Rule) (s : Side) : List (Nat × Side) := stpsTo rs rs.length s
theorem stpsTo_succ {rs : List Rule} {n : Nat} {r : Rule} {s : Side} (h : rs[n]? = some r) : stpsTo rs (n + 1) s = stpsTo rs n s ++ stp s (r, n) := by
  unfold stpsTo
  rw [List.take_succ, List.getElem?_zipIdx, h, List.flatMap_append]
  simp
theorem stp_map {s a b : Side} {i : Nat} : (stp s ((a, b), i)).map stD = (if s = sBack a then [stD (i, b)] else []) ++ (if a ≠ b ∧ s = sBack b then [stD (i, a)] else []) := by
  unfold stp
  rw [List.map_append]
  congr 1 <;> split <;> rfl
theorem add_if {α : Type} {P : Prop} [Decidable P] {F x : List α} : (if P then F ++ x else F) = F ++ (if P then x else []) := by
  split <;> simp
theorem stp_len {s : Side} {p : Rule × Nat} : (stp s p).length ≤ 2 := by
  unfold stp
  rw [List.length_append]
  split <;> split <;> simp
theorem stpsTo_len {rs : List Rule} {s : Side} : ∀ {n : Nat}, n ≤ rs.length → (stpsTo rs n s).length ≤ 2 * n
  | 0, _ => by simp [stpsTo]
  | n + 1, h => by
    rw [stpsTo_succ (List.getElem?_eq_getElem (show n < rs.length by omega)), List.length_append]
    have := stpsTo_len (rs := rs) (s := s) (n := n) (by omega)
    have := stp_len (s := s) (p := (rs[n], n))
    omega
abbrev stepsD (ths : List Str) (f : Side → List D) : D := .dic true ((sidesOf ths).map sD) ((sidesOf ths).map fun s => .lst (f s))
def leadsD (ths : List Str) (rs : List Rule) : D := .obj "Leads" ["things", "steps"] [.ntp (ths.map .str), stepsD ths fun s => (stps rs s).map stD]
/-- while it is made -/
abbrev leadsM (ths : List Str) (f : Side → List D) : Mem := .inC "Leads" ["things", "steps"] [.d (.ntp (ths.map .str)), .c 1] :: .dC ((sidesOf ths).map sD) (cellsAt 1 (sidesOf ths).length) :: (sidesOf ths).map fun s => .lst (f s)
theorem sides_nodup {ths : List Str} (h : ths.Nodup) : (sidesOf ths).Nodup := by
  unfold sidesOf List.Nodup
  rw [List.pairwise_flatMap]
  refine ⟨fun a _ => by simp, h.imp fun {a b} hab x hx y hy e => ?_⟩
  simp at hx hy
  rcases hx with rfl | rfl <;> rcases hy with rfl | rfl <;> simp at e <;> exact hab e
/-- one append -/
theorem steps_add {ths : List Str} (hn : ths.Nodup) {f : Side → List D} {t : Side} (ht : okS ths t) : ∃ k, cgetF (.c 1) (.d (sD t)) (leadsM ths f) = .ok (.c k) (leadsM ths f) ∧ lstOf (.c k) (leadsM ths f) = some (f t) ∧
    ∀ x, (f t).length < sizeLine → appendF (.c k) [.d x] (leadsM ths f) = .ok (.d .non) (leadsM ths fun s => if s = t then f s ++ [x] else f s) := by
  have hs := sides_nodup hn
  obtain ⟨i, hi⟩ := List.getElem?_of_mem (mem_sidesOf.mpr ht)
  have hl := (List.getElem?_eq_some_iff.mp hi).1
  have hc : (leadsM ths f)[1 + 1 + i]? = some (.lst (f t)) := by
    rw [show 1 + 1 + i = i + 1 + 1 by omega, List.getElem?_cons_succ, List.getElem?_cons_succ, List.getElem?_map, hi]
    rfl
  refine ⟨1 + 1 + i, ?_, lstOf_c hc, fun x hz => ?_⟩
  · refine cgetF_c (ks := (sidesOf ths).map sD) (us := cellsAt 1 (sidesOf ths).length) rfl fit_sD (findS_at (fun _ _ => sD_inj) hs hi ?_)
    simp [hl]
  · rw [appendF_c hc hz]
    refine congrArg (R.ok _) ?_
    rw [show 1 + 1 + i = i + 1 + 1 by omega]
    simp only [leadsM, List.set_cons_succ]
    congr 2
    have := map_set hs hi (f := fun s => Cell.lst (f s)) (g := fun s => Cell.lst (if s = t then f s ++ [x] else f s)) fun b _ hb => by simp [hb]
    simpa using this
theorem putFn_2 : putFn "steps" ["things"] = (["things", "steps"] : List Str) := by decide +kernel
theorem putFv_2 {u v : SV} : putFv "steps" v ["things"] [u] = [u, v] := by
  unfold putFv
  rw [if_neg (by decide +kernel)]
  rfl
theorem find_things {α : Type} {ns : List Str} {vs : List α} {v : α} : findF "things" ("things" :: ns) (v :: vs) = some v := by
  unfold findF
  rw [if_pos (by decide +kernel)]
theorem find_steps {α : Type} {ns : List Str} {vs : List α} {u v : α} : findF "steps" ("things" :: "steps" :: ns) (u :: v :: vs) = some v := by
  unfold findF
  rw [if_neg (by decide +kernel)]
  unfold findF
  rw [if_pos (by decide +kernel)]
theorem leads_init {v : D} {ths : List Str} {rs : List Rule} (hb : Bk v ths rs) : f_Leads___init__ [.c 0, .d v] [.inC "Leads" [] []] = .ok (.d .non) (leadsM ths fun s => (stps rs s).map stD) := by
  rcases hb.eq with hv | hv
  · subst hv
    have ht := hb.tth
    have hnm : ∀ x ∈ ths, nmB x = true := fun x hx => (ht.name x hx).1
    have h14 := ht.hi
    have h60 := hb.few
    have hs2 : (sidesOf ths).length ≤ 28 := by rw [sidesOf_len]; omega
    have k1 : fldK "Leads" "things" (.d (.ntp (ths.map .str))) (.c 0) [.inC "Leads" [] []] = .ok () [.inC "Leads" ["things"] [.d (.ntp (ths.map .str))]] := fldK_c (ns := []) (us := []) rfl (by decide) (by simp)
    have k2 : attrK "Leads" "things" (.c 0) [.inC "Leads" ["things"] [.d (.ntp (ths.map .str))]] = .ok (.d (.ntp (ths.map .str))) [.inC "Leads" ["things"] [.d (.ntp (ths.map .str))]] := attrK_c rfl find_things
    have k3 := fun μ => all_sides_ok (μ := μ) ht
    have k4 : ∀ ρ, dcK (dcStep (gN 3) fYes (fV 3) (fLstC fNil) [3] ρ) ((sidesOf ths).map sD) [.inC "Leads" ["things"] [.d (.ntp (ths.map .str))]] = .ok (.c 1) (.inC "Leads" ["things"] [.d (.ntp (ths.map .str))] :: .dC ((sidesOf ths).map sD) (cellsAt 1 (sidesOf ths).length) :: (sidesOf ths).map fun s => .lst []) := fun ρ => by
      have e := dc_lists (en := sD) (fun _ _ => sD_inj) (fun _ => fit_sD) (i := 3) (ρ := ρ) (μ := [.inC "Leads" ["things"] [.d (.ntp (ths.map .str))]]) (sidesOf ths) [] (by simpa using sides_nodup ht.nodup) (by simp; omega)
      unfold dcK
      simp only [List.map_nil, List.nil_append, List.length_nil, List.range_zero, List.length_cons, Nat.zero_add, cellsAt] at e ⊢
      rw [e]
      rfl
    have k5 : fldK "Leads" "steps" (.c 1) (.c 0) (.inC "Leads" ["things"] [.d (.ntp (ths.map .str))] :: .dC ((sidesOf ths).map sD) (cellsAt 1 (sidesOf ths).length) :: (sidesOf ths).map fun s => .lst []) = .ok () (leadsM ths fun _ => []) := by
      rw [fldK_c (ns := ["things"]) (us := [.d (.ntp (ths.map .str))]) rfl (by decide) (by simp), putFn_2, putFv_2]
      rfl
    simp (disch := first | assumption | omega | (simp [sizeLine_eq]; done) | (simp [sizeLine_eq]; omega) | fail) [isK, isKB, tupD, sizeLine_eq, grd_pos, f_Leads___init__, k1, k2, k3, k4, k5]
    generalize el : fLoop _ _ _ _ = z
    obtain ⟨ρ', μ', rfl, r0, rfl⟩ := loop_inv el (fun i ρ μ => ρ 0 = .c 0 ∧ μ = leadsM ths fun s => (stpsTo rs i s).map stD) ⟨by simp, by simp [stpsTo]⟩ (by
      rintro i d ρ μ hd ⟨r0, rfl⟩
      obtain ⟨d', g1, _, rfl⟩ := enumD_get hd
      rw [List.getElem?_map] at g1
      obtain ⟨⟨a, b⟩, hr, rfl⟩ := Option.map_eq_some_iff.mp g1
      obtain ⟨ha, hbb, _⟩ := hb.rule _ (List.mem_of_getElem? hr)
      have hi := (List.getElem?_eq_some_iff.mp hr).1
      have at1 : ∀ f, attrK "Leads" "steps" (.c 0) (leadsM ths f) = .ok (.c 1) (leadsM ths f) := fun f => attrK_c rfl find_steps
      have bk := fun s => back_ok (s := s) (μ := [])
      have sz : ∀ s, ((stpsTo rs i s).map stD).length + 1 < sizeLine := fun s => by
        have := stpsTo_len (s := s) (n := i) (rs := rs) (by omega)
        have := sizeLine_le (n := 1000000) (by decide)
        simp; omega
      obtain ⟨k, a1, a2, a3⟩ := steps_add ht.nodup (f := fun s => (stpsTo rs i s).map stD) (okS_back ha)
      have a3 := a3 (stD (i, b)) (by have := sz (sBack a); simp only at this ⊢; omega)
      have ne := fun μ => (is_side_is ha hnm).neF (μ := μ) (is_side_is hbb hnm)
      by_cases e : a = b
      · have ne := fun μ => (ne μ).trans (by rw [decide_eq_true e])
        simp (disch := first | assumption | omega | (simp [sizeLine_eq]; done) | (simp [sizeLine_eq]; omega) | fail) [isK, isKB, tupD, sizeLine_eq, grd_pos, r0, at1, bk, a1, a2, a3, ne]
        refine ⟨by simp [r0], congrArg (leadsM ths) (funext fun s => ?_)⟩
        rw [stpsTo_succ hr, List.map_append, stp_map, add_if]
        simp only [e, ne_eq, not_true_eq_false, false_and, if_false, List.append_nil]
      · have ne := fun μ => (ne μ).trans (by rw [decide_eq_false e])
        obtain ⟨k', b1, b2, b3⟩ := steps_add ht.nodup (f := fun s => if s = sBack a then (stpsTo rs i s).map stD ++ [stD (i, b)] else (stpsTo rs i s).map stD) (okS_back hbb)
        have b3 := b3 (stD (i, a)) (by have := sz (sBack b); split <;> simp at this ⊢ <;> omega)
        simp (disch := first | assumption | omega | (simp [sizeLine_eq]; done) | (simp [sizeLine_eq]; omega) | fail) [isK, isKB, tupD, sizeLine_eq, grd_pos, r0, at1, bk, a1, a2, a3, ne, b1, b2, b3]
        refine ⟨by simp [r0], congrArg (leadsM ths) (funext fun s => ?_)⟩
        rw [stpsTo_succ hr, List.map_append, stp_map]
        simp only [add_if, e, ne_eq, not_false_eq_true, true_and, List.append_assoc]
        clear el k1 k2 k3 k4 k5 a1 a2 a3 b1 b2 b3
        split <;> rename_i q2 <;> simp [q2])
    simp (disch := first | assumption | omega | (simp [sizeLine_eq]; done) | (simp [sizeLine_eq]; omega) | fail) [isK, isKB, tupD, sizeLine_eq, grd_pos, ]
  · subst hv
    have ht := hb.tth
    have hnm : ∀ x ∈ ths, nmB x = true := fun x hx => (ht.name x hx).1
    have h14 := ht.hi
    have h60 := hb.few
    have hs2 : (sidesOf ths).length ≤ 28 := by rw [sidesOf_len]; omega
    have k1 : fldK "Leads" "things" (.d (.ntp (ths.map .str))) (.c 0) [.inC "Leads" [] []] = .ok () [.inC "Leads" ["things"] [.d (.ntp (ths.map .str))]] := fldK_c (ns := []) (us := []) rfl (by decide) (by simp)
    have k2 : attrK "Leads" "things" (.c 0) [.inC "Leads" ["things"] [.d (.ntp (ths.map .str))]] = .ok (.d (.ntp (ths.map .str))) [.inC "Leads" ["things"] [.d (.ntp (ths.map .str))]] := attrK_c rfl find_things
    have k3 := fun μ => all_sides_ok (μ := μ) ht
    have k4 : ∀ ρ, dcK (dcStep (gN 3) fYes (fV 3) (fLstC fNil) [3] ρ) ((sidesOf ths).map sD) [.inC "Leads" ["things"] [.d (.ntp (ths.map .str))]] = .ok (.c 1) (.inC "Leads" ["things"] [.d (.ntp (ths.map .str))] :: .dC ((sidesOf ths).map sD) (cellsAt 1 (sidesOf ths).length) :: (sidesOf ths).map fun s => .lst []) := fun ρ => by
      have e := dc_lists (en := sD) (fun _ _ => sD_inj) (fun _ => fit_sD) (i := 3) (ρ := ρ) (μ := [.inC "Leads" ["things"] [.d (.ntp (ths.map .str))]]) (sidesOf ths) [] (by simpa using sides_nodup ht.nodup) (by simp; omega)
      unfold dcK
      simp only [List.map_nil, List.nil_append, List.length_nil, List.range_zero, List.length_cons, Nat.zero_add, cellsAt] at e ⊢
      rw [e]
      rfl
    have k5 : fldK "Leads" "steps" (.c 1) (.c 0) (.inC "Leads" ["things"] [.d (.ntp (ths.map .str))] :: .dC ((sidesOf ths).map sD) (cellsAt 1 (sidesOf ths).length) :: (sidesOf ths).map fun s => .lst []) = .ok () (leadsM ths fun _ => []) := by
      rw [fldK_c (ns := ["things"]) (us := [.d (.ntp (ths.map .str))]) rfl (by decide) (by simp), putFn_2, putFv_2]
      rfl
    simp (disch := first | assumption | omega | (simp [sizeLine_eq]; done) | (simp [sizeLine_eq]; omega) | fail) [isK, isKB, tupD, sizeLine_eq, grd_pos, f_Leads___init__, k1, k2, k3, k4, k5]
    generalize el : fLoop _ _ _ _ = z
    obtain ⟨ρ', μ', rfl, r0, rfl⟩ := loop_inv el (fun i ρ μ => ρ 0 = .c 0 ∧ μ = leadsM ths fun s => (stpsTo rs i s).map stD) ⟨by simp, by simp [stpsTo]⟩ (by
      rintro i d ρ μ hd ⟨r0, rfl⟩
      obtain ⟨d', g1, _, rfl⟩ := enumD_get hd
      rw [List.getElem?_map] at g1
      obtain ⟨⟨a, b⟩, hr, rfl⟩ := Option.map_eq_some_iff.mp g1
      obtain ⟨ha, hbb, _⟩ := hb.rule _ (List.mem_of_getElem? hr)
      have hi := (List.getElem?_eq_some_iff.mp hr).1
      have at1 : ∀ f, attrK "Leads" "steps" (.c 0) (leadsM ths f) = .ok (.c 1) (leadsM ths f) := fun f => attrK_c rfl find_steps
      have bk := fun s => back_ok (s := s) (μ := [])
      have sz : ∀ s, ((stpsTo rs i s).map stD).length + 1 < sizeLine := fun s => by
        have := stpsTo_len (s := s) (n := i) (rs := rs) (by omega)
        have := sizeLine_le (n := 1000000) (by decide)
        simp; omega
      obtain ⟨k, a1, a2, a3⟩ := steps_add ht.nodup (f := fun s => (stpsTo rs i s).map stD) (okS_back ha)
      have a3 := a3 (stD (i, b)) (by have := sz (sBack a); simp only at this ⊢; omega)
      have ne := fun μ => (is_side_is ha hnm).neF (μ := μ) (is_side_is hbb hnm)
      by_cases e : a = b
      · have ne := fun μ => (ne μ).trans (by rw [decide_eq_true e])
        simp (disch := first | assumption | omega | (simp [sizeLine_eq]; done) | (simp [sizeLine_eq]; omega) | fail) [isK, isKB, tupD, sizeLine_eq, grd_pos, r0, at1, bk, a1, a2, a3, ne]
        refine ⟨by simp [r0], congrArg (leadsM ths) (funext fun s => ?_)⟩
        rw [stpsTo_succ hr, List.map_append, stp_map, add_if]
        simp only [e, ne_eq, not_true_eq_false, false_and, if_false, List.append_nil]
      · have ne := fun μ => (ne μ).trans (by rw [decide_eq_false e])
        obtain ⟨k', b1, b2, b3⟩ := steps_add ht.nodup (f := fun s => if s = sBack a then (stpsTo rs i s).map stD ++ [stD (i, b)] else (stpsTo rs i s).map stD) (okS_back hbb)
        have b3 := b3 (stD (i, a)) (by have := sz (sBack b); split <;> simp at this ⊢ <;> omega)
        simp (disch := first | assumption | omega | (simp [sizeLine_eq]; done) | (simp [sizeLine_eq]; omega) | fail) [isK, isKB, tupD, sizeLine_eq, grd_pos, r0, at1, bk, a1, a2, a3, ne, b1, b2, b3]
        refine ⟨by simp [r0], congrArg (leadsM ths) (funext fun s => ?_)⟩
        rw [stpsTo_succ hr, List.map_append, stp_map]
        simp only [add_if, e, ne_eq, not_false_eq_true, true_and, List.append_assoc]
        clear el k1 k2 k3 k4 k5 a1 a2 a3 b1 b2 b3
        split <;> rename_i q2 <;> simp [q2])
    simp (disch := first | assumption | omega | (simp [sizeLine_eq]; done) | (simp [sizeLine_eq]; omega) | fail) [isK, isKB, tupD, sizeLine_eq, grd_pos, ]
theorem optAll_some {α : Type} : ∀ {l : List α}, optAll (l.map some) = some l
  | [] => rfl
  | a :: l => by
    simp only [List.map_cons, optAll, optAll_some (l := l)]
    rfl
theorem leads_frz {ths : List Str} {f : Side → List D} : frzS 0 (leadsM ths f) 3 (.c 0) = some (.obj "Leads" ["things", "steps"] [.ntp (ths.map .str), stepsD ths f]) := by
  have h1 : (cellsAt 1 (sidesOf ths).length).map (fun s => frzS 0 (leadsM ths f) 1 s) = ((sidesOf ths).map fun s => D.lst (f s)).map some := by
    apply List.ext_getElem?
    intro i
    rw [List.getElem?_map, List.getElem?_map, List.getElem?_map, List.getElem?_map]
    by_cases h : i < (sidesOf ths).length
    · rw [List.getElem?_range h, List.getElem?_eq_getElem h]
      simp only [Option.map_some]
      refine congrArg some (frzS_lst (Nat.zero_le _) ?_)
      rw [show 1 + 1 + i = i + 1 + 1 by omega, List.getElem?_cons_succ, List.getElem?_cons_succ, List.getElem?_map, List.getElem?_eq_getElem h]
      rfl
    · rw [List.getElem?_eq_none (by simpa using h), List.getElem?_eq_none (l := sidesOf ths) (by omega)]
      rfl
  have h2 : frzS 0 (leadsM ths f) 2 (.c 1) = some (stepsD ths f) := by
    show (optAll ((cellsAt 1 (sidesOf ths).length).map fun s => frzS 0 (leadsM ths f) 1 s)).map (D.dic true ((sidesOf ths).map sD)) = _
    rw [h1, optAll_some]
    rfl
  show (optAll ([SV.d (.ntp (ths.map .str)), .c 1].map fun s => frzS 0 (leadsM ths f) 2 s)).map (D.obj "Leads" ["things", "steps"]) = _
  simp only [List.map_cons, List.map_nil, h2]
  rfl
theorem leads_ok {v : D} {ths : List Str} {rs : List Rule} {μ : Mem} (hb : Bk v ths rs) : makeF "Leads" f_Leads___init__ [.d v] μ = .ok (.d (leadsD ths rs)) μ := makeF_ok rfl (leads_init hb) leads_frz
theorem leads_things {ths : List Str} {rs : List Rule} {μ : Mem} : attrK "Leads" "things" (.d (leadsD ths rs)) μ = .ok (.d (.ntp (ths.map .str))) μ := attrK_d find_things
theorem leads_steps {ths : List Str} {rs : List Rule} {μ : Mem} : attrK "Leads" "steps" (.d (leadsD ths rs)) μ = .ok (.d (stepsD ths fun s => (stps rs s).map stD)) μ := attrK_d find_steps
theorem steps_at {ths : List Str} {f : Side → List D} {s : Side} {μ : Mem} (h : okS ths s) : dgetF (.d (stepsD ths f)) (.d (sD s)) μ = .ok (.d (.lst (f s))) μ := dgetF_dic fit_sD (findD_at (fun _ _ => sD_inj) (fun s => .lst (f s)) (mem_sidesOf.mpr h))
end PL
namespace PL
open PySem PySem.Spec PyProof.Rows L2
open PySem.W (Datum DatumOrd)
--.
--.
--.
--.
--.
--.
--.
--.
theorem sBack_back {s : Side} : sBack (sBack s) = s := by
  obtain ⟨a, b⟩ := s
  simp only [sBack, Prod.mk.injEq, true_and]
  omega
theorem back_iff {s t : Side} : s = sBack t ↔ sBack s = t := ⟨fun h => by rw [h, sBack_back], fun h => by rw [← h, sBack_back]⟩
/-- where a rule leads from a side -/
def hop (s : Side) (r : Rule) : Option Side := if sBack r.1 = s then some r.2 else if sBack r.2 = s then some r.1 else none
def hopAt (rs : List Rule) (s : Side) (i : Nat) : Option Side := rs[i]?.bind (hop s)
/-- .. and a row of them -/
def go (rs : List Rule) : Side → List Nat → Option Side
  | s, [] => some s
  | s, i :: is => (hopAt rs s i).bind fun t => go rs t is
theorem go_app {rs : List Rule} {i : Nat} : ∀ {is : List Nat} {s : Side}, go rs s (is ++ [i]) = (go rs s is).bind fun t => hopAt rs t i
  | [], s => by
    show (hopAt rs s i).bind (fun t => some t) = hopAt rs s i
    cases hopAt rs s i <;> rfl
  | j :: is, s => by
    simp only [List.cons_append, go]
    cases hopAt rs s j with
    | none => rfl
    | some t => exact go_app (is := is)
theorem hop_ok {ths : List Str} {s t : Side} {r : Rule} (hr : okR ths r) (h : hop s r = some t) : okS ths t := by
  unfold hop at h
  split at h
  · cases h; exact hr.2.1
  · split at h
    · cases h; exact hr.1
    · cases h
theorem hopAt_ok {ths : List Str} {rs : List Rule} {s t : Side} {i : Nat} (hr : ∀ r ∈ rs, okR ths r) (h : hopAt rs s i = some t) : okS ths t := by
  unfold hopAt at h
  obtain ⟨r, h1, h2⟩ := Option.bind_eq_some_iff.mp h
  exact hop_ok (hr r (List.mem_of_getElem? h1)) h2
theorem go_ok {ths : List Str} {rs : List Rule} {t : Side} (hr : ∀ r ∈ rs, okR ths r) : ∀ {is : List Nat} {s : Side}, okS ths s → go rs s is = some t → okS ths t
  | [], s, hs, h => by cases h; exact hs
  | i :: is, s, hs, h => by
    obtain ⟨u, h1, h2⟩ := Option.bind_eq_some_iff.mp h
    exact go_ok hr (hopAt_ok hr h1) h2
theorem stp_hop {s : Side} {p : Rule × Nat} : (stp s p).map (·.2) = (hop s p.1).toList := by
  obtain ⟨⟨a, b⟩, i⟩ := p
  unfold stp hop
  by_cases h1 : sBack s = a
  · subst h1
    rw [if_pos sBack_back.symm, if_neg fun h => h.1 (back_iff.mp h.2), if_pos sBack_back]
    rfl
  · rw [if_neg fun h => h1 (back_iff.mp h), if_neg (show ¬ sBack a = s from fun h => h1 (by rw [← h, sBack_back]))]
    by_cases h2 : sBack s = b
    · subst h2
      rw [if_pos ⟨fun e => h1 e.symm, sBack_back.symm⟩, if_pos sBack_back]
      rfl
    · rw [if_neg fun h => h2 (back_iff.mp h.2), if_neg (show ¬ sBack b = s from fun h => h2 (by rw [← h, sBack_back]))]
      rfl
theorem stp_fst {s : Side} {p : Rule × Nat} {q : Nat × Side} (h : q ∈ stp s p) : q.1 = p.2 := by
  unfold stp at h
  rcases List.mem_append.mp h with h | h <;> split at h <;> simp at h <;> rw [h]
theorem pick_none {α β : Type} {f : α × Nat → List β} {j : Nat} : ∀ {l : List α} {k : Nat}, j < k → ((l.zipIdx k).flatMap fun p => if p.2 = j then f p else []) = []
  | [], _, _ => rfl
  | a :: l, k, h => by
    rw [List.zipIdx_cons, List.flatMap_cons, pick_none (l := l) (by omega), if_neg (by simp; omega)]
    rfl
theorem pick_one {α β : Type} {f : α × Nat → List β} {a : α} : ∀ {l : List α} {k i : Nat}, l[i]? = some a → ((l.zipIdx k).flatMap fun p => if p.2 = k + i then f p else []) = f (a, k + i)
  | [], _, _, h => by simp at h
  | b :: l, k, 0, h => by
    simp at h
    subst h
    rw [List.zipIdx_cons, List.flatMap_cons, pick_none (l := l) (by omega), if_pos (show (b, k).2 = k + 0 from rfl), List.append_nil]
    rfl
  | b :: l, k, i + 1, h => by
    rw [List.zipIdx_cons, List.flatMap_cons, if_neg (by simp)]
    have := pick_one (f := f) (l := l) (k := k + 1) (i := i) (by simpa using h)
    rw [show k + 1 + i = k + (i + 1) by omega] at this
    simpa using this
theorem stps_pick {rs : List Rule} {s : Side} {i : Nat} {r : Rule} (h : rs[i]? = some r) : (stps rs s).filter (fun p => decide (p.1 = i)) = stp s (r, i) := by
  have e : ∀ Z : List (Rule × Nat), (Z.flatMap (stp s)).filter (fun p => decide (p.1 = i)) = Z.flatMap fun p => if p.2 = i then stp s p else [] := fun Z => by
    induction Z with
    | nil => rfl
    | cons p Z ih =>
      rw [List.flatMap_cons, List.filter_append, ih, List.flatMap_cons]
      congr 1
      by_cases q : p.2 = i
      · rw [if_pos q, List.filter_eq_self.mpr fun x hx => by simp [stp_fst hx, q]]
      · rw [if_neg q, List.filter_eq_nil_iff.mpr fun x hx => by simp [stp_fst hx, q]]
  unfold stps stpsTo
  rw [List.take_of_length_le (by simp), e]
  have := pick_one (f := stp s) (l := rs) (k := 0) (i := i) h
  simpa using this
theorem stps_hop {rs : List Rule} {s : Side} {i : Nat} (hi : i < rs.length) : ((stps rs s).filter (fun p => decide (p.1 = i))).map (·.2) = (hopAt rs s i).toList := by
  have h := List.getElem?_eq_getElem hi
  rw [stps_pick h, stp_hop]
  unfold hopAt
  rw [h]
  rfl
theorem mem_stps {rs : List Rule} {s : Side} {p : Nat × Side} (h : p ∈ stps rs s) : hopAt rs s p.1 = some p.2 ∧ p.1 < rs.length := by
  have hi : p.1 < rs.length := by
    unfold stps stpsTo at h
    obtain ⟨q, hq, h2⟩ := List.mem_flatMap.mp h
    rw [stp_fst h2]
    have := List.snd_lt_of_mem_zipIdx (List.mem_of_mem_take hq)
    simpa using this
  have h2 : p.2 ∈ ((stps rs s).filter (fun q => decide (q.1 = p.1))).map (·.2) := List.mem_map.mpr ⟨p, List.mem_filter.mpr ⟨h, by simp⟩, rfl⟩
  rw [stps_hop hi] at h2
  exact ⟨by simpa [Option.mem_toList] using h2, hi⟩
theorem leads_no {m : Str} {u v : D} (h1 : (m == ("things" : Str)) = false) (h2 : (m == ("steps" : Str)) = false) : (findF m ["things", "steps"] [u, v]).isNone = true := by
  simp [findF, h1, h2]
theorem ixT {w d : D} {l : List D} {i : Nat} {μ : Mem} (h : tupD w = some l) (e : l[i]? = some d) : ixF (.d w) (.d (.int i)) μ = .ok (.d d) μ := by
  cases w <;> simp only [tupD, Option.some.injEq, reduceCtorEq] at h <;> subst h <;> simp only [ixF, ixOf, atI_n, e]
end PL
namespace PL
open PySem PySem.Spec PyProof.Rows L2
open PySem.W (Datum DatumOrd)
noncomputable def f_Leads_come_from : List SV → M SV := fDef 2 (fSeq (fPar3 2 3 4 (fCons (fOneT (fV 1) (fC .non)) (fCons (fLstC (fCons (fV 1) fNil)) (fCons (fC (.int 0)) fNil))))
  (fSeq (fWhile (fT (fOp ltF (fV 4) (fCall lenF (fCons (fV 3) fNil)))) (fSeq (fFor (itF (fOp dgetF (fAttr "Leads" "steps" (fV 0)) (fOp ixF (fV 3) (fV 4)))) (gT [(gN 5), (gN 6)]) (fIfS (fT (fOp niF (fV 6) (fV 2))) (fSeq (fDPut (fV 2) (fV 6) (fTup (fCons (fV 5) (fCons (fOp ixF (fV 3) (fV 4)) fNil))))
  (fExpr (fMethL appendF (fV 3) (fCons (fV 6) fNil)))) fSkip))
  (fAsg (fOp addF (fV 4) (fC (.int 1))) (gN 4))))
  (fRet (fV 2))))
--.
--.
--.
--.
/-- a loop with a condition -/
theorem while_inv {c : FT} {b : FS} (I : Nat → FEnv → Mem → Prop) (J : FEnv → Mem → Prop) (hs : ∀ k ρ μ, I k ρ μ → (c ρ μ = .ok false μ ∧ J ρ μ) ∨ (c ρ μ = .ok true μ ∧ ∃ k', k' < k ∧ goes (b ρ μ) (I k'))) :
    ∀ {k : Nat} {ρ : FEnv} {μ : Mem}, I k ρ μ → ∃ n ρ' μ', wLoop c b n ρ μ = .ok (.nx ρ') μ' ∧ J ρ' μ' := by
  intro k
  induction k using Nat.strongRecOn with
  | ind k ih =>
    intro ρ μ h
    rcases hs k ρ μ h with ⟨h1, h2⟩ | ⟨h1, k', hk, h2⟩
    · refine ⟨1, ρ, μ, ?_, h2⟩
      rw [wLoop_s, h1]
      rfl
    · obtain ⟨ρ1, μ1, h3, h4⟩ := goes_of h2
      obtain ⟨n, ρ', μ', h5, h6⟩ := ih k' hk h4
      refine ⟨n + 1, ρ', μ', ?_, h6⟩
      rw [wLoop_s, h1]
      show bR (b ρ μ) (wK c b n) = _
      rcases h3 with h3 | h3 <;> rw [h3] <;> exact h5
theorem loop_while {c : FT} {b : FS} {k : Nat} {ρ : FEnv} {μ : Mem} {z : R Out} (e : fWhile c b ρ μ = z) (I : Nat → FEnv → Mem → Prop) (J : FEnv → Mem → Prop) (h0 : I k ρ μ) (hs : ∀ k ρ μ, I k ρ μ → (c ρ μ = .ok false μ ∧ J ρ μ) ∨ (c ρ μ = .ok true μ ∧ ∃ k', k' < k ∧ goes (b ρ μ) (I k'))) :
    ∃ ρ' μ', z = .ok (.nx ρ') μ' ∧ J ρ' μ' := by
  obtain ⟨n, ρ', μ', h1, h2⟩ := while_inv I J hs h0
  exact ⟨ρ', μ', e.symm.trans (fWhile_of h1 (by simp)), h2⟩
theorem stps_mem {rs : List Rule} {u t : Side} {i : Nat} (h : hopAt rs u i = some t) : (i, t) ∈ stps rs u := by
  have hi : i < rs.length := by
    unfold hopAt at h
    obtain ⟨r, h1, -⟩ := Option.bind_eq_some_iff.mp h
    exact (List.getElem?_eq_some_iff.mp h1).1
  have e := stps_hop (rs := rs) (s := u) hi
  rw [h] at e
  have : t ∈ ((stps rs u).filter fun p => decide (p.1 = i)).map (·.2) := by rw [e]; simp
  obtain ⟨⟨j, t'⟩, hp, rfl⟩ := List.mem_map.mp this
  obtain ⟨h1, h2⟩ := List.mem_filter.mp hp
  simp at h2
  subst h2
  exact h1
/-- a side that was come to: from where, how far -/
structure Ent where
  side : Side
  par : Option (Nat × Side)
  dep : Nat
/-- what a search in breadth has when the first at_ sides are done -/
structure Bfs (rs : List Rule) (s : Side) (E : List Ent) (at_ : Nat) : Prop where
  head : E[0]? = some ⟨s, none, 0⟩
  tree : ∀ (k : Nat) (e : Ent), E[k]? = some e → k = 0 ∨ ∃ j f i, j < k ∧ E[j]? = some f ∧ e.par = some (i, f.side) ∧ hopAt rs f.side i = some e.side ∧ e.dep = f.dep + 1
  nodup : (E.map Ent.side).Nodup
  mono : ∀ (i j : Nat) (e f : Ent), i ≤ j → E[i]? = some e → E[j]? = some f → e.dep ≤ f.dep
  top : ∀ a : Ent, E[at_]? = some a → ∀ e ∈ E, e.dep ≤ a.dep + 1
  done : ∀ (i : Nat) (e : Ent), i < at_ → E[i]? = some e → ∀ p ∈ stps rs e.side, ∃ f ∈ E, f.side = p.2 ∧ f.dep ≤ e.dep + 1
theorem Bfs.start {rs : List Rule} {s : Side} : Bfs rs s [⟨s, none, 0⟩] 0 where
  head := rfl
  tree := fun k e h => by
    cases k with
    | zero => exact .inl rfl
    | succ k => simp at h
  nodup := by simp
  mono := fun i j e f h h1 h2 => by
    obtain ⟨e1, rfl⟩ := List.mem_singleton.mp (List.mem_of_getElem? h1)
    obtain rfl := List.mem_singleton.mp (List.mem_of_getElem? h2)
    exact Nat.zero_le _
  top := fun a h e he => by
    obtain rfl := List.mem_singleton.mp he
    exact Nat.zero_le _
  done := fun i e h => by omega
theorem Bfs.add {rs : List Rule} {s t : Side} {E : List Ent} {at_ i : Nat} {a : Ent} (B : Bfs rs s E at_) (ha : E[at_]? = some a) (hi : hopAt rs a.side i = some t) (ht : t ∉ E.map Ent.side) : Bfs rs s (E ++ [⟨t, some (i, a.side), a.dep + 1⟩]) at_ := by
  have hl := (List.getElem?_eq_some_iff.mp ha).1
  have cs : ∀ {k e}, (E ++ [(⟨t, some (i, a.side), a.dep + 1⟩ : Ent)])[k]? = some e → E[k]? = some e ∨ (k = E.length ∧ e = ⟨t, some (i, a.side), a.dep + 1⟩) := fun {k e} h => by
    rcases Nat.lt_or_ge k E.length with q | q
    · rw [List.getElem?_append_left q] at h; exact .inl h
    · rw [List.getElem?_append_right q] at h
      cases q2 : k - E.length with
      | zero => rw [q2] at h; simp at h; exact .inr ⟨by omega, h.symm⟩
      | succ m => rw [q2] at h; simp at h
  have up : ∀ {k e}, E[k]? = some e → (E ++ [(⟨t, some (i, a.side), a.dep + 1⟩ : Ent)])[k]? = some e := fun {k e} h => by
    rw [List.getElem?_append_left (List.getElem?_eq_some_iff.mp h).1]; exact h
  refine ⟨up B.head, fun k e h => ?_, ?_, fun p q e f hpq h1 h2 => ?_, fun a' h e he => ?_, fun p e hp h x hx => ?_⟩
  · rcases cs h with h | ⟨rfl, rfl⟩
    · rcases B.tree k e h with h | ⟨j, f, i', h1, h2, h3⟩
      · exact .inl h
      · exact .inr ⟨j, f, i', h1, up h2, h3⟩
    · exact .inr ⟨at_, a, i, hl, up ha, rfl, hi, rfl⟩
  · rw [List.map_append]
    refine List.nodup_append.mpr ⟨B.nodup, by simp, fun x hx y hy z => ?_⟩
    simp at hy
    subst hy z
    exact ht hx
  · rcases cs h1 with h1 | ⟨rfl, rfl⟩
    · rcases cs h2 with h2 | ⟨rfl, rfl⟩
      · exact B.mono p q e f hpq h1 h2
      · exact B.top a ha e (List.mem_of_getElem? h1)
    · rcases cs h2 with h2 | ⟨rfl, rfl⟩
      · have := (List.getElem?_eq_some_iff.mp h2).1; omega
      · exact Nat.le_refl _
  · obtain rfl : a = a' := by
      rcases cs h with h | ⟨h, -⟩
      · exact Option.some.inj (ha.symm.trans h)
      · omega
    rcases List.mem_append.mp he with he | he
    · exact B.top a ha e he
    · simp at he; subst he; exact Nat.le_refl _
  · rcases cs h with h | ⟨h, -⟩
    · obtain ⟨f, h1, h2⟩ := B.done p e hp h x hx
      exact ⟨f, List.mem_append_left _ h1, h2⟩
    · omega
theorem Bfs.next {rs : List Rule} {s : Side} {E : List Ent} {at_ : Nat} {a : Ent} (B : Bfs rs s E at_) (ha : E[at_]? = some a) (h : ∀ p ∈ stps rs a.side, ∃ f ∈ E, f.side = p.2 ∧ f.dep ≤ a.dep + 1) : Bfs rs s E (at_ + 1) where
  head := B.head
  tree := B.tree
  nodup := B.nodup
  mono := B.mono
  top := fun b hb e he => Nat.le_trans (B.top a ha e he) (by have := B.mono at_ (at_ + 1) a b (by omega) ha hb; omega)
  done := fun i e hi he => by
    rcases Nat.lt_or_ge i at_ with q | q
    · exact B.done i e q he
    · obtain rfl : i = at_ := by omega
      obtain rfl : a = e := Option.some.inj (ha.symm.trans he)
      exact h
/-- it comes to all that can be come to, by as few rules as can be -/
theorem Bfs.near {rs : List Rule} {s : Side} {E : List Ent} (B : Bfs rs s E E.length) : ∀ (n : Nat) (is : List Nat) (t : Side), is.length = n → go rs s is = some t → ∃ f ∈ E, f.side = t ∧ f.dep ≤ n
  | 0, is, t, h, g => by
    obtain rfl := List.eq_nil_of_length_eq_zero h
    cases g
    exact ⟨_, List.mem_of_getElem? B.head, rfl, Nat.le_refl _⟩
  | n + 1, is, t, h, g => by
    have hne : is ≠ [] := fun z => by rw [z] at h; simp at h
    obtain ⟨ys, y, rfl⟩ : ∃ ys y, is = ys ++ [y] := ⟨is.dropLast, is.getLast hne, (List.dropLast_concat_getLast hne).symm⟩
    rw [go_app] at g
    obtain ⟨u, g1, g2⟩ := Option.bind_eq_some_iff.mp g
    obtain ⟨f, hf, rfl, hd⟩ := Bfs.near B n ys u (by simp at h; exact h) g1
    obtain ⟨k, hk⟩ := List.getElem?_of_mem hf
    obtain ⟨f2, hf2, h3, h4⟩ := B.done k f (List.getElem?_eq_some_iff.mp hk).1 hk _ (stps_mem g2)
    exact ⟨f2, hf2, h3, by omega⟩
theorem Bfs.row {rs : List Rule} {s : Side} {E : List Ent} {at_ : Nat} (B : Bfs rs s E at_) : ∀ (k : Nat) (e : Ent), E[k]? = some e → ∃ is, go rs s is = some e.side ∧ is.length = e.dep := by
  intro k
  induction k using Nat.strongRecOn with
  | ind k ih =>
    intro e he
    rcases B.tree k e he with rfl | ⟨j, f, i, h1, h2, h3, h4, h5⟩
    · rw [B.head] at he
      cases he
      exact ⟨[], rfl, rfl⟩
    · obtain ⟨is, g1, g2⟩ := ih j h1 f h2
      exact ⟨is ++ [i], by rw [go_app, g1]; exact h4, by simp [g2, h5]⟩
abbrev parD (e : Ent) : D := match e.par with
  | none => .non
  | some p => stD p
abbrev keysE (E : List Ent) : List D := E.map fun e => sD e.side
abbrev valsE (E : List Ent) : List D := E.map parD
abbrev newE (p : Nat × Side) (a : Ent) : Ent := ⟨p.2, some (p.1, a.side), a.dep + 1⟩
abbrev bfsM (E : List Ent) : Mem := [.dT (keysE E) (valsE E), .lst (keysE E)]
/-- the dict of what was found -/
theorem found_in {E : List Ent} {t : Side} : (findD (keysE E) (valsE E) (sD t)).isSome = decide (t ∈ E.map Ent.side) := by
  induction E with
  | nil => rfl
  | cons e E ih =>
    simp only [List.map_cons, findD]
    by_cases z : sD e.side = sD t
    · rw [if_pos z, sD_inj z]
      simp
    · rw [if_neg z, ih]
      have ne : ¬ t = e.side := fun h => z (by rw [h])
      simp only [List.mem_cons, ne, false_or]
theorem bfs_len {ths : List Str} {E : List Ent} (hn : (E.map Ent.side).Nodup) (ho : ∀ e ∈ E, okS ths e.side) (h14 : ths.length ≤ 14) : E.length ≤ 28 := by
  have := nodup_le hn (l' := sidesOf ths) fun s hs => by
    obtain ⟨e, he, rfl⟩ := List.mem_map.mp hs
    exact mem_sidesOf.mpr (ho e he)
  rw [List.length_map, sidesOf_len] at this
  omega
theorem put_new {E : List Ent} {a : Ent} {p : Nat × Side} (ht : p.2 ∉ E.map Ent.side) : putKs (keysE E) (sD p.2) = keysE (E ++ [newE p a]) ∧ putVs (keysE E) (valsE E) (sD p.2) (stD (p.1, a.side)) = valsE (E ++ [newE p a]) := by
  have na : sD p.2 ∉ keysE E := fun h => by
    obtain ⟨e, he, z⟩ := List.mem_map.mp h
    exact ht (List.mem_map.mpr ⟨e, he, sD_inj z⟩)
  unfold putKs putVs
  rw [if_neg na, if_neg na]
  simp
theorem found_nin {E : List Ent} {t : Side} {l : List D} : niF (.d (sD t)) (.c 0) [.dT (keysE E) (valsE E), .lst l] = .ok (.d (.bl (!decide (t ∈ E.map Ent.side)))) [.dT (keysE E) (valsE E), .lst l] := by
  rw [← found_in]
  unfold niF
  simp only [inO, List.getElem?_cons_zero]
  rw [grd_pos fit_sD]
  rfl
theorem come_from_ok {ths : List Str} {rs : List Rule} {s : Side} (hr : ∀ r ∈ rs, okR ths r) (hf : rs.length ≤ 200) (h14 : ths.length ≤ 14) (hs : okS ths s) :
    ∃ E : List Ent, Bfs rs s E E.length ∧ (∀ e ∈ E, okS ths e.side) ∧ f_Leads_come_from [.d (leadsD ths rs), .d (sD s)] [] = .ok (.c 0) (bfsM E) := by
  have key : gives (f_Leads_come_from [.d (leadsD ths rs), .d (sD s)] []) fun v μ => ∃ E : List Ent, Bfs rs s E E.length ∧ (∀ e ∈ E, okS ths e.side) ∧ v = .c 0 ∧ μ = bfsM E := by
    have k1 : oneK 0 (.d (sD s)) (.d .non) [.dT [] []] = .ok (.c 0) [.dT [sD s] [.non]] := oneK_s rfl fit_sD
    simp (disch := first | assumption | omega | (simp [sizeLine_eq]; done) | (simp [sizeLine_eq]; omega) | fail) [isK, isKB, tupD, sizeLine_eq, grd_pos, f_Leads_come_from, k1]
    generalize el : fWhile _ _ _ _ = z
    obtain ⟨ρ', μ', rfl, E, B, ho, r2, rfl⟩ := loop_while (k := 29) el
      (fun k ρ μ => ∃ (E : List Ent) (at_ : Nat), k = 29 - at_ ∧ at_ ≤ E.length ∧ Bfs rs s E at_ ∧ (∀ e ∈ E, okS ths e.side) ∧ ρ 0 = .d (leadsD ths rs) ∧ ρ 2 = .c 0 ∧ ρ 3 = .c 1 ∧ ρ 4 = .d (.int at_) ∧ μ = bfsM E)
      (fun ρ μ => ∃ E : List Ent, Bfs rs s E E.length ∧ (∀ e ∈ E, okS ths e.side) ∧ ρ 2 = .c 0 ∧ μ = bfsM E)
      ⟨[⟨s, none, 0⟩], 0, rfl, by simp, .start, by simp [hs], by simp, by simp, by simp, by simp, rfl⟩ (by
      rintro k ρ μ ⟨E, at_, rfl, hat, B, ho, r0, r2, r3, r4, rfl⟩
      have hl28 := bfs_len B.nodup ho h14
      have lc : lenOf (.c 1) (bfsM E) = some (keysE E).length := lenOf_c rfl
      by_cases hlt : at_ < E.length
      · refine .inr ⟨?_, ?_⟩
        · have c1 : (at_ : Int) < E.length := by omega
          simp (disch := first | assumption | omega | (simp [sizeLine_eq]; done) | (simp [sizeLine_eq]; omega) | fail) [isK, isKB, tupD, sizeLine_eq, grd_pos, r3, r4, lc, c1]
        · refine ⟨29 - (at_ + 1), by omega, ?_⟩
          obtain ⟨a, ha⟩ : ∃ a, E[at_]? = some a := ⟨_, List.getElem?_eq_getElem hlt⟩
          have oa := ho a (List.mem_of_getElem? ha)
          have e1 := fun μ => leads_steps (ths := ths) (rs := rs) (μ := μ)
          have e2 := fun μ => steps_at (f := fun s => (stps rs s).map stD) (μ := μ) oa
          have ix : ∀ E' : List Ent, E'[at_]? = some a → ixF (.c 1) (.d (.int at_)) (bfsM E') = .ok (.d (sD a.side)) (bfsM E') := fun E' h => by
            simp only [ixF, ixOf_c (μ := bfsM E') (k := 1) (l := keysE E') rfl, atI_n, List.getElem?_map, h, Option.map_some]
          have ix0 := ix E ha
          simp (disch := first | assumption | omega | (simp [sizeLine_eq]; done) | (simp [sizeLine_eq]; omega) | fail) [isK, isKB, tupD, sizeLine_eq, grd_pos, r0, r2, r3, r4, e1, e2, ix0]
          generalize el2 : fLoop _ _ _ _ = z2
          obtain ⟨ρ2, μ2, rfl, t0, t2, t3, t4, E2, B2, ho2, ha2, hp2, rfl⟩ := loop_invT (en := stD) el2 (fun done ρ μ => ρ 0 = .d (leadsD ths rs) ∧ ρ 2 = .c 0 ∧ ρ 3 = .c 1 ∧ ρ 4 = .d (.int at_) ∧ ∃ E : List Ent, Bfs rs s E at_ ∧ (∀ e ∈ E, okS ths e.side) ∧ E[at_]? = some a ∧ (∀ p ∈ done, ∃ f ∈ E, f.side = p.2 ∧ f.dep ≤ a.dep + 1) ∧ μ = bfsM E)
            ⟨r0, r2, r3, r4, E, B, ho, ha, by simp, rfl⟩ (by
            rintro pre p post ρ μ hd ⟨r0, r2, r3, r4, E, B, ho, ha, hp, rfl⟩
            have hpm := mem_stps (rs := rs) (s := a.side) (p := p) (by rw [hd]; simp)
            have op := hopAt_ok hr hpm.1
            have hl28 := bfs_len B.nodup ho h14
            have nin : niF (.d (sD p.2)) (.c 0) (bfsM E) = .ok (.d (.bl (!decide (p.2 ∈ E.map Ent.side)))) (bfsM E) := found_nin
            have ix0 := ix E ha
            by_cases hin : p.2 ∈ E.map Ent.side
            · have nin := nin.trans (by rw [decide_eq_true hin])
              simp (disch := first | assumption | omega | (simp [sizeLine_eq]; done) | (simp [sizeLine_eq]; omega) | fail) [isK, isKB, tupD, sizeLine_eq, grd_pos, r0, r2, r3, r4, nin]
              refine ⟨by simp [r0], by simp [r2], by simp [r3], by simp [r4], E, B, ho, ha, fun x hx => ?_, rfl⟩
              rcases List.mem_append.mp hx with hx | hx
              · exact hp x hx
              · simp at hx
                subst hx
                obtain ⟨f, hf, h⟩ := List.mem_map.mp hin
                exact ⟨f, hf, h, B.top a ha f hf⟩
            · have nin := nin.trans (by rw [decide_eq_false hin])
              obtain ⟨pk, pv⟩ := put_new (E := E) (a := a) hin
              have hl' : (keysE E).length < sizeLine := by have := sizeLine_le (n := 1000000) (by decide); simp; omega
              have dp : dputF (.c 0) (.d (sD p.2)) (.d (stD (p.1, a.side))) (bfsM E) = .ok () [.dT (keysE (E ++ [newE p a])) (valsE (E ++ [newE p a])), .lst (keysE E)] := by
                unfold dputF
                simp only [List.getElem?_cons_zero]
                rw [grd_pos ⟨fit_sD, hl'⟩, pk, pv]
                rfl
              have ap := appendF_c (k := 1) (y := sD p.2) (μ := [.dT (keysE (E ++ [newE p a])) (valsE (E ++ [newE p a])), .lst (keysE E)]) rfl hl'
              have lo : lstOf (.c 1) [.dT (keysE (E ++ [newE p a])) (valsE (E ++ [newE p a])), .lst (keysE E)] = some (keysE E) := rfl
              simp (disch := first | assumption | omega | (simp [sizeLine_eq]; done) | (simp [sizeLine_eq]; omega) | fail) [isK, isKB, tupD, sizeLine_eq, grd_pos, r0, r2, r3, r4, nin, ix0, dp, ap, lo, -List.map_append]
              refine ⟨by simp [r0], by simp [r2], by simp [r3], by simp [r4], E ++ [newE p a], B.add ha hpm.1 hin, ?_, ?_, ?_, by simp⟩
              · intro e he
                rcases List.mem_append.mp he with he | he
                · exact ho e he
                · simp at he; subst he; exact op
              · rw [List.getElem?_append_left (List.getElem?_eq_some_iff.mp ha).1]; exact ha
              · intro x hx
                rcases List.mem_append.mp hx with hx | hx
                · obtain ⟨f, h1, h2⟩ := hp x hx
                  exact ⟨f, List.mem_append_left _ h1, h2⟩
                · simp at hx
                  subst hx
                  exact ⟨newE _ a, List.mem_append_right _ (List.mem_singleton.mpr rfl), rfl, Nat.le_refl _⟩)
          simp (disch := first | assumption | omega | (simp [sizeLine_eq]; done) | (simp [sizeLine_eq]; omega) | fail) [isK, isKB, tupD, sizeLine_eq, grd_pos, t4]
          exact ⟨E2, at_ + 1, rfl, by have := (List.getElem?_eq_some_iff.mp ha2).1; omega, B2.next ha2 hp2, ho2, by simp [t0], by simp [t2], by simp [t3], by simp, rfl⟩
      · obtain rfl : at_ = E.length := by omega
        refine .inl ⟨?_, E, B, ho, r2, rfl⟩
        have c1 : ¬ (E.length : Int) < E.length := by omega
        simp (disch := first | assumption | omega | (simp [sizeLine_eq]; done) | (simp [sizeLine_eq]; omega) | fail) [isK, isKB, tupD, sizeLine_eq, grd_pos, r3, r4, lc])
    simp (disch := first | assumption | omega | (simp [sizeLine_eq]; done) | (simp [sizeLine_eq]; omega) | fail) [isK, isKB, tupD, sizeLine_eq, grd_pos, r2]
    exact gives_ok ⟨E, B, ho, rfl, rfl⟩
  obtain ⟨_, _, e, E, B, ho, rfl, rfl⟩ := key
  exact ⟨E, B, ho, e⟩
abbrev foundD (E : List Ent) : D := .dic true (keysE E) (valsE E)
theorem found_inD {E : List Ent} {t : Side} {μ : Mem} : inF (.d (sD t)) (.d (foundD E)) μ = .ok (.d (.bl (decide (t ∈ E.map Ent.side)))) μ := by
  rw [← found_in]
  unfold inF
  simp only [inO]
  rw [grd_pos fit_sD]
  rfl
theorem come_call {ths : List Str} {rs : List Rule} {s : Side} {F : SV → M SV} (hr : ∀ r ∈ rs, okR ths r) (hf : rs.length ≤ 200) (h14 : ths.length ≤ 14) (hs : okS ths s) :
    ∃ E : List Ent, Bfs rs s E E.length ∧ (∀ e ∈ E, okS ths e.side) ∧ ∀ μ, callMF f_Leads_come_from [.d (leadsD ths rs), .d (sD s)] μ = .ok (.d (foundD E)) μ := by
  obtain ⟨E, B, ho, e⟩ := come_from_ok hr hf h14 hs
  refine ⟨E, B, ho, fun μ => ?_⟩
  have fz : frzS 0 (bfsM E) 3 (.c 0) = some (foundD E) := rfl
  simp (disch := first | assumption | omega | (simp [sizeLine_eq]; done) | (simp [sizeLine_eq]; omega) | fail) [isK, isKB, tupD, sizeLine_eq, grd_pos, e]
  rw [callRF_c (ks := []) (d := foundD E) fz]
  simp
theorem hop_back {s t : Side} {r : Rule} (h : hop s r = some t) : hop (sBack t) r = some (sBack s) := by
  obtain ⟨a, b⟩ := r
  unfold hop at h ⊢
  simp only at h ⊢
  split at h
  · rename_i h1
    cases h
    subst h1
    rw [sBack_back]
    split
    · rename_i h2
      have := congrArg sBack h2
      rw [sBack_back, sBack_back] at this
      rw [this]
    · rw [if_pos rfl]
  · split at h
    · rename_i h1 h2
      cases h
      subst h2
      rw [if_pos rfl, sBack_back]
    · cases h
theorem go_append {rs : List Rule} {bs : List Nat} : ∀ {as : List Nat} {s : Side}, go rs s (as ++ bs) = (go rs s as).bind fun t => go rs t bs
  | [], s => rfl
  | a :: as, s => by
    simp only [List.cons_append, go]
    cases hopAt rs s a with
    | none => rfl
    | some t => exact go_append (as := as)
theorem go_back {rs : List Rule} : ∀ {is : List Nat} {s t : Side}, go rs s is = some t → go rs (sBack t) is.reverse = some (sBack s)
  | [], s, t, h => by cases h; rfl
  | i :: is, s, t, h => by
    obtain ⟨u, h1, h2⟩ := Option.bind_eq_some_iff.mp h
    rw [List.reverse_cons, go_append, go_back h2]
    show go rs (sBack u) [i] = _
    unfold hopAt at h1
    obtain ⟨r, h3, h4⟩ := Option.bind_eq_some_iff.mp h1
    show (hopAt rs (sBack u) i).bind _ = _
    unfold hopAt
    rw [h3]
    show (hop (sBack u) r).bind _ = _
    rw [hop_back h4]
    rfl
end PL
namespace PL
open PySem PySem.Spec PyProof.Rows L2
open PySem.W (Datum DatumOrd)
/-- s leads to t -/
def Led (rs : List Rule) (s t : Side) : Prop := ∃ is, go rs s is = some t
theorem Led.refl {rs : List Rule} (s : Side) : Led rs s s := ⟨[], rfl⟩
theorem Led.trans {rs : List Rule} {s t u : Side} (h : Led rs s t) (g : Led rs t u) : Led rs s u := by
  obtain ⟨a, ha⟩ := h
  obtain ⟨c, hc⟩ := g
  exact ⟨a ++ c, by rw [go_append, ha]; exact hc⟩
theorem Led.back {rs : List Rule} {s t : Side} (h : Led rs s t) : Led rs (sBack t) (sBack s) := by
  obtain ⟨a, ha⟩ := h
  exact ⟨_, go_back ha⟩
theorem Led.ok {ths : List Str} {rs : List Rule} {s t : Side} (hr : ∀ r ∈ rs, okR ths r) (hs : okS ths s) (h : Led rs s t) : okS ths t := by
  obtain ⟨a, ha⟩ := h
  exact go_ok hr hs ha
theorem Led.rule {rs : List Rule} {a c : Side} (h : (a, c) ∈ rs) : Led rs (sBack a) c ∧ Led rs (sBack c) a := by
  obtain ⟨i, hi⟩ := List.getElem?_of_mem h
  have key : ∀ u v, hop u (a, c) = some v → Led rs u v := fun u v e => ⟨[i], by
    show (hopAt rs u i).bind _ = _
    unfold hopAt
    rw [hi]
    show (hop u (a, c)).bind _ = _
    rw [e]
    rfl⟩
  constructor
  · exact key _ _ (by unfold hop; rw [if_pos rfl])
  · by_cases e : sBack a = sBack c
    · have e2 : a = c := by have := congrArg sBack e; rwa [sBack_back, sBack_back] at this
      subst e2
      exact key _ _ (by unfold hop; rw [if_pos rfl])
    · exact key _ _ (by
        show (if sBack a = sBack c then some c else if sBack c = sBack c then some a else none) = some a
        rw [if_neg e, if_pos rfl])
/-- a lot of sides, closed under what is led to, no side of it with its back -/
structure Lot (rs : List Rule) (A : Side → Prop) : Prop where
  closed : ∀ s t, A s → Led rs s t → A t
  alone : ∀ s, A s → ¬ A (sBack s)
theorem lot_of {rs : List Rule} {s : Side} (h : ¬ Led rs s (sBack s)) : Lot rs (Led rs s) where
  closed := fun _ _ a g => a.trans g
  alone := fun t a c => h (by
    have := c.back
    rw [sBack_back] at this
    exact a.trans this)
theorem Lot.add {rs : List Rule} {A : Side → Prop} {s : Side} (L : Lot rs A) (h : ¬ Led rs s (sBack s)) (ha : ¬ A (sBack s)) : Lot rs fun t => A t ∨ Led rs s t where
  closed := fun t u a g => a.elim (fun a => .inl (L.closed t u a g)) fun a => .inr (a.trans g)
  alone := by
    have cross : ∀ t, A t → ¬ Led rs s (sBack t) := fun t a g => ha (by
      have := g.back
      rw [sBack_back] at this
      exact L.closed _ _ a this)
    rintro t (a | a) (c | c)
    · exact L.alone t a c
    · exact cross t a c
    · exact cross _ c (by rw [sBack_back]; exact a)
    · exact (lot_of h).alone t a c
/-- where no side leads to its back and from it back to itself, a lot can be carried on to all things -/
theorem Lot.carry {rs : List Rule} : ∀ (xs : List Str) (A : Side → Prop), Lot rs A → (∀ x ∈ xs, ¬ (Led rs (x, 0) (x, 1) ∧ Led rs (x, 1) (x, 0))) → ∃ A', Lot rs A' ∧ (∀ s, A s → A' s) ∧ ∀ x ∈ xs, A' (x, 0) ∨ A' (x, 1)
  | [], A, L, _ => ⟨A, L, fun _ h => h, fun x h => by simp at h⟩
  | x :: xs, A, L, hk => by
    have hk2 : ∀ y ∈ xs, ¬ (Led rs (y, 0) (y, 1) ∧ Led rs (y, 1) (y, 0)) := fun y hy => hk y (List.mem_cons_of_mem _ hy)
    by_cases h : A (x, 0) ∨ A (x, 1)
    · obtain ⟨A', L', h1, h2⟩ := Lot.carry xs A L hk2
      refine ⟨A', L', h1, fun y hy => ?_⟩
      rcases List.mem_cons.mp hy with rfl | hy
      · exact h.imp (h1 _) (h1 _)
      · exact h2 y hy
    · have b0 : sBack (x, 0) = (x, 1) := rfl
      have b1 : sBack (x, 1) = (x, 0) := rfl
      by_cases g : Led rs (x, 0) (x, 1)
      · have g1 : ¬ Led rs (x, 1) (x, 0) := fun z => hk x List.mem_cons_self ⟨g, z⟩
        obtain ⟨A', L', h1, h2⟩ := Lot.carry xs _ (L.add (s := (x, 1)) g1 fun z => h (.inl z)) hk2
        refine ⟨A', L', fun s a => h1 s (.inl a), fun y hy => ?_⟩
        rcases List.mem_cons.mp hy with rfl | hy
        · exact .inr (h1 _ (.inr (Led.refl _)))
        · exact h2 y hy
      · obtain ⟨A', L', h1, h2⟩ := Lot.carry xs _ (L.add (s := (x, 0)) g fun z => h (.inr z)) hk2
        refine ⟨A', L', fun s a => h1 s (.inl a), fun y hy => ?_⟩
        rcases List.mem_cons.mp hy with rfl | hy
        · exact .inl (h1 _ (.inr (Led.refl _)))
        · exact h2 y hy
/-- cs keeps rs -/
def keepB (ths : List Str) (cs : List Int) (rs : List Rule) : Bool := rs.all fun r => !lost ths cs r
/-- what a choosing says, for one that is made name by name -/
theorem vl_map {f : Str → Int} {x : Str} : ∀ {ths : List Str}, ths.Nodup → x ∈ ths → vl ths (ths.map f) x = f x
  | [], _, h => by simp at h
  | y :: ths, hn, h => by
    simp only [List.map_cons, vl]
    by_cases e : y = x
    · rw [if_pos e, e]
    · rw [if_neg e]
      exact vl_map (List.nodup_cons.mp hn).2 ((List.mem_cons.mp h).resolve_left fun z => e z.symm)
theorem vl_bit {x : Str} : ∀ {ths : List Str} {cs : List Int}, ths.length = cs.length → x ∈ ths → (∀ c ∈ cs, c = 0 ∨ c = 1) → vl ths cs x = 0 ∨ vl ths cs x = 1
  | [], _, _, h, _ => by simp at h
  | y :: ths, [], e, _, _ => by simp at e
  | y :: ths, c :: cs, e, h, hc => by
    simp only [vl]
    by_cases g : y = x
    · rw [if_pos g]; exact hc c List.mem_cons_self
    · rw [if_neg g]
      exact vl_bit (by simpa using e) ((List.mem_cons.mp h).resolve_left fun z => g z.symm) fun d hd => hc d (List.mem_cons_of_mem _ hd)
/-- a choosing that keeps the rules has all to which its sides lead -/
theorem keep_hop {ths : List Str} {cs : List Int} {rs : List Rule} {s t : Side} {i : Nat} (he : ths.length = cs.length) (hc : ∀ c ∈ cs, c = 0 ∨ c = 1) (hr : ∀ r ∈ rs, okR ths r) (hk : keepB ths cs rs = true) (hs : hasS ths cs s = true) (h : hopAt rs s i = some t) : hasS ths cs t = true := by
  obtain ⟨r, h1, h2⟩ := Option.bind_eq_some_iff.mp h
  have hm := List.mem_of_getElem? h1
  have o := hr r hm
  have kr := List.all_eq_true.mp hk r hm
  simp only [lost, Bool.not_eq_true', Bool.and_eq_false_imp, Bool.not_eq_true', Bool.not_eq_false'] at kr
  have back : ∀ u : Side, okS ths u → hasS ths cs (sBack u) = true → hasS ths cs u = false := fun u ou hb => by
    have hb : vl ths cs u.1 = 1 - u.2 := of_decide_eq_true hb
    refine decide_eq_false fun z => ?_
    rcases ou.2 with e | e <;> omega
  unfold hop at h2
  split at h2
  · rename_i e
    cases h2
    rw [← e] at hs
    exact kr (back _ o.1 hs)
  · split at h2
    · rename_i e1 e
      cases h2
      rw [← e] at hs
      have := back _ o.2.1 hs
      cases g : hasS ths cs r.1 with
      | true => rfl
      | false => rw [kr g] at this; cases this
    · cases h2
theorem keep_led {ths : List Str} {cs : List Int} {rs : List Rule} (he : ths.length = cs.length) (hc : ∀ c ∈ cs, c = 0 ∨ c = 1) (hr : ∀ r ∈ rs, okR ths r) (hk : keepB ths cs rs = true) {s t : Side} (hs : hasS ths cs s = true) (h : Led rs s t) : hasS ths cs t = true := by
  obtain ⟨is, h⟩ := h
  induction is generalizing s with
  | nil => cases h; exact hs
  | cons i is ih =>
    obtain ⟨u, h1, h2⟩ := Option.bind_eq_some_iff.mp h
    exact ih (keep_hop he hc hr hk hs h1) h2
theorem has_back {ths : List Str} {cs : List Int} {s : Side} (he : ths.length = cs.length) (hc : ∀ c ∈ cs, c = 0 ∨ c = 1) (os : okS ths s) : hasS ths cs (sBack s) = !hasS ths cs s := by
  have := vl_bit he os.1 hc
  show decide (vl ths cs s.1 = 1 - s.2) = !decide (vl ths cs s.1 = s.2)
  rcases os.2 with e | e <;> rcases this with g | g <;> rw [e, g] <;> rfl
/-- a lot over all things is a choosing that keeps the rules -/
theorem Lot.choosing {ths : List Str} {rs : List Rule} {A : Side → Prop} (hn : ths.Nodup) (hr : ∀ r ∈ rs, okR ths r) (L : Lot rs A) (full : ∀ x ∈ ths, A (x, 0) ∨ A (x, 1)) : ∃ cs : List Int, ths.length = cs.length ∧ (∀ c ∈ cs, c = 0 ∨ c = 1) ∧ keepB ths cs rs = true ∧ ∀ s, okS ths s → (hasS ths cs s = true ↔ A s) := by
  classical
  have hbit : ∀ c ∈ ths.map (fun x => if A (x, 1) then (1 : Int) else 0), c = 0 ∨ c = 1 := fun c hc => by
    obtain ⟨x, _, rfl⟩ := List.mem_map.mp hc
    by_cases h : A (x, 1)
    · right; simp [h]
    · left; simp [h]
  have has : ∀ s, okS ths s → (hasS ths (ths.map fun x => if A (x, 1) then (1 : Int) else 0) s = true ↔ A s) := fun s os => by
    simp only [hasS, decide_eq_true_eq]
    rw [vl_map hn os.1]
    obtain ⟨x, b⟩ := s
    have hx : x ∈ ths := os.1
    rcases os.2 with e | e <;> simp only at e <;> subst e
    · by_cases h : A (x, 1)
      · have : ¬ A (x, 0) := L.alone (x, 1) h
        simp [h, this]
      · have : A (x, 0) := (full x hx).resolve_right h
        simp [h, this]
    · by_cases h : A (x, 1) <;> simp [h]
  refine ⟨_, by simp, hbit, ?_, has⟩
  rw [keepB, List.all_eq_true]
  rintro ⟨a, c⟩ hm
  have o := hr _ hm
  have ha := has a o.1
  have hc := has c o.2.1
  by_cases g : A a
  · simp [lost, ha.mpr g]
  · have gb : A (sBack a) := by
      obtain ⟨x, b⟩ := a
      rcases o.1.2 with e | e <;> simp only at e <;> subst e
      · exact (full x o.1.1).resolve_left g
      · exact (full x o.1.1).resolve_right g
    have gc : A c := L.closed _ _ gb (Led.rule hm).1
    simp [lost, hc.mpr gc]
/-- .. so that a lot is carried on to a choosing, where there is no knot -/
theorem Lot.kept {ths : List Str} {rs : List Rule} {A : Side → Prop} (hn : ths.Nodup) (hr : ∀ r ∈ rs, okR ths r) (L : Lot rs A) (nk : ∀ x ∈ ths, ¬ (Led rs (x, 0) (x, 1) ∧ Led rs (x, 1) (x, 0))) : ∃ cs : List Int, ths.length = cs.length ∧ (∀ c ∈ cs, c = 0 ∨ c = 1) ∧ keepB ths cs rs = true ∧ ∀ s, okS ths s → A s → hasS ths cs s = true := by
  obtain ⟨A', L', h1, h2⟩ := L.carry ths A nk
  obtain ⟨cs, c1, c2, c3, c4⟩ := L'.choosing hn hr h2
  exact ⟨cs, c1, c2, c3, fun s os a => (c4 s os).mpr (h1 s a)⟩
/-- a choosing of the things that keeps the rules -/
def Kp (ths : List Str) (rs : List Rule) (cs : List Int) : Prop := ths.length = cs.length ∧ (∀ c ∈ cs, c = 0 ∨ c = 1) ∧ keepB ths cs rs = true
theorem Kp.led {ths : List Str} {rs : List Rule} {cs : List Int} {s t : Side} (k : Kp ths rs cs) (hr : ∀ r ∈ rs, okR ths r) (hs : hasS ths cs s = true) (h : Led rs s t) : hasS ths cs t = true := keep_led k.1 k.2.1 hr k.2.2 hs h
theorem Kp.back {ths : List Str} {rs : List Rule} {cs : List Int} {s : Side} (k : Kp ths rs cs) (os : okS ths s) : hasS ths cs (sBack s) = !hasS ths cs s := has_back k.1 k.2.1 os
theorem Kp.noknot {ths : List Str} {rs : List Rule} {cs : List Int} (k : Kp ths rs cs) (hr : ∀ r ∈ rs, okR ths r) : ∀ x ∈ ths, ¬ (Led rs (x, 0) (x, 1) ∧ Led rs (x, 1) (x, 0)) := fun x hx ⟨a, b⟩ => by
  have hb := k.back (s := (x, 0)) ⟨hx, .inl rfl⟩
  have e : sBack (x, 0) = (x, 1) := rfl
  rw [e] at hb
  cases h : hasS ths cs (x, 0) with
  | true =>
    have := k.led hr h a
    rw [hb, h] at this
    cases this
  | false =>
    rw [h] at hb
    have := k.led hr hb b
    rw [h] at this
    cases this
theorem nil_eqs {X : List D} {μ : Mem} (h : ∀ d ∈ X, flat 59 d = true) : eqF (.d (.lst X)) (.d (.lst [])) μ = .ok (.d (.bl X.isEmpty)) μ ∧ neF (.d (.lst X)) (.d (.lst [])) μ = .ok (.d (.bl (!X.isEmpty))) μ := by
  have k1 : okEq (.lst X) = true := by
    show flat (59 + 1) _ = true
    rw [flat]
    exact flats_of h
  have e : deq (.lst X) (.lst []) = X.isEmpty := by
    cases X <;> simp [deq, toPy, toPys, PyData.eqv, PyData.eqvAll]
  rw [eqF_d k1 (show okEq (.lst []) = true from rfl), neF_d k1 (show okEq (.lst []) = true from rfl), e]
  exact ⟨rfl, rfl⟩

end PL
namespace PL
open PySem PySem.Spec PyProof.Rows L2
open PySem.W (Datum DatumOrd)
noncomputable def f_choosing_of : List SV → M SV := fDef 2 (fRet (fCall tupF (fCons (fLc finLF (itF (fV 0)) (gN 2) fYes (fOp dgetF (fV 1) (fV 2)) [2]) fNil)))
--.
noncomputable def f_Leads_does_lead : List SV → M SV := fDef 3 (fRet (fOp inF (fV 2) (fMethOF "Leads" "come_from" f_Leads_come_from (fV 0) (fCons (fV 1) fNil))))
--.
noncomputable def f_Leads_does_lead_to_back : List SV → M SV := fDef 2 (fRet (fMethO "Leads" "does_lead" f_Leads_does_lead (fV 0) (fCons (fV 1) (fCons (fCall (callM f__law_back) (fCons (fV 1) fNil)) fNil))))
--.
noncomputable def f_fitting_side : List SV → M SV := fDef 2 (fRet (fSl slF (fLc finLF (itF (fTup (fCons (fTup (fCons (fV 1) (fCons (fC (.int 0)) fNil))) (fCons (fTup (fCons (fV 1) (fCons (fC (.int 1)) fNil))) fNil)))) (gN 2) (fTNot (fT (fMethO "Leads" "does_lead_to_back" f_Leads_does_lead_to_back (fV 0) (fCons (fV 2) fNil)))) (fV 2) [2]) fNone (fSome (fC (.int 1)))))
--.
noncomputable def f_carried_by : List SV → M SV := fDef 2 (fSeq (fAsg (fCall dictCopyF (fCons (fV 1) fNil)) (gN 1))
  (fSeq (fFor (itF (fAttr "Leads" "things" (fV 0))) (gN 2) (fIfS (fT (fOp niF (fV 2) (fV 1))) (fSeq (fAsg (fCall (callM f_fitting_side) (fCons (fV 0) (fCons (fV 2) fNil))) (gN 3))
  (fSeq (fIfS (fT (fOp eqF (fV 3) (fLst fNil))) (fRet (fC .non)) fSkip)
  (fExpr (fUpd (fV 1) (fCall dictPKF (fCons (fCall listDicF (fCons (fMethOF "Leads" "come_from" f_Leads_come_from (fV 0) (fCons (fOp ixF (fV 3) (fC (.int 0))) fNil)) fNil)) fNil)))))) fSkip))
  (fRet (fCall (callM f_choosing_of) (fCons (fAttr "Leads" "things" (fV 0)) (fCons (fV 1) fNil))))))
--.
noncomputable def f_choosing_by : List SV → M SV := fDef 1 (fRet (fCall (callM f_carried_by) (fCons (fCall (makeF "Leads" f_Leads___init__) (fCons (fV 0) fNil)) (fCons fNewK fNil))))
--.
--.
--.
/-- a loop whose turns go on, or hand something back -/
theorem fLoop_orT {α : Type} {step : SV → FS} {en : α → D} (I : List α → FEnv → Mem → Prop) (J : SV → Mem → Prop) : ∀ {l done : List α} {ρ : FEnv} {μ : Mem}, I done ρ μ → (∀ (pre : List α) (a : α) (post : List α) (ρ : FEnv) (μ : Mem), done ++ l = pre ++ a :: post → done.length ≤ pre.length → I pre ρ μ → goes (step (.d (en a)) ρ μ) (I (pre ++ [a])) ∨ ∃ v, hands (step (.d (en a)) ρ μ) v (J v)) →
    (∃ ρ' μ', fLoop step (l.map en) ρ μ = .ok (.nx ρ') μ' ∧ I (done ++ l) ρ' μ') ∨ ∃ v μ', fLoop step (l.map en) ρ μ = .ok (.rt v) μ' ∧ J v μ'
  | [], done, ρ, μ, h0, _ => .inl ⟨ρ, μ, rfl, by rw [List.append_nil]; exact h0⟩
  | a :: l, done, ρ, μ, h0, hs => by
    rcases hs done a l ρ μ rfl (Nat.le_refl _) h0 with h | ⟨v, h⟩
    · obtain ⟨ρ1, μ1, e, h1⟩ := goes_of h
      have ih := fLoop_orT I J (l := l) (done := done ++ [a]) h1 fun pre b post ρ' μ' hd hl hi => hs pre b post ρ' μ' (by rw [← hd]; simp) (by simp at hl; omega) hi
      have e3 : fLoop step ((a :: l).map en) ρ μ = fLoop step (l.map en) ρ1 μ1 := by
        rw [List.map_cons, fLoop_cons]
        rcases e with e | e <;> rw [e] <;> rfl
      rw [e3]
      rcases ih with ⟨ρ2, μ2, e2, h2⟩ | ⟨v, μ2, e2, h2⟩
      · exact .inl ⟨ρ2, μ2, e2, by simpa using h2⟩
      · exact .inr ⟨v, μ2, e2, h2⟩
    · obtain ⟨μ1, e, h1⟩ := hands_of h
      refine .inr ⟨v, μ1, ?_, h1⟩
      rw [List.map_cons, fLoop_cons, e]
      rfl
theorem loop_orT {α : Type} {step : SV → FS} {l : List α} {en : α → D} {ρ : FEnv} {μ : Mem} {z : R Out} (e : fLoop step (l.map en) ρ μ = z) (I : List α → FEnv → Mem → Prop) (J : SV → Mem → Prop) (h0 : I [] ρ μ) (hs : ∀ (pre : List α) (a : α) (post : List α) (ρ : FEnv) (μ : Mem), l = pre ++ a :: post → I pre ρ μ → goes (step (.d (en a)) ρ μ) (I (pre ++ [a])) ∨ ∃ v, hands (step (.d (en a)) ρ μ) v (J v)) :
    (∃ ρ' μ', z = .ok (.nx ρ') μ' ∧ I l ρ' μ') ∨ ∃ v μ', z = .ok (.rt v) μ' ∧ J v μ' := by
  subst e
  have h := fLoop_orT (en := en) I J (l := l) (done := []) h0 fun pre a post ρ μ h1 _ h2 => hs pre a post ρ μ (by simpa using h1) h2
  simpa using h
/-- all to which a side leads -/
theorem come_led {ths : List Str} {rs : List Rule} {s : Side} (hr : ∀ r ∈ rs, okR ths r) (hf : rs.length ≤ 200) (h14 : ths.length ≤ 14) (hs : okS ths s) :
    ∃ E : List Ent, (E.map Ent.side).Nodup ∧ E.length ≤ 28 ∧ (∀ t, t ∈ E.map Ent.side ↔ Led rs s t) ∧ ∀ μ, callMF f_Leads_come_from [.d (leadsD ths rs), .d (sD s)] μ = .ok (.d (foundD E)) μ := by
  obtain ⟨E, B, ho, ec⟩ := come_call (F := fun _ => ret (.d .non)) hr hf h14 hs
  refine ⟨E, B.nodup, bfs_len B.nodup ho h14, fun t => ?_, ec⟩
  constructor
  · intro h
    obtain ⟨f, hf, rfl⟩ := List.mem_map.mp h
    obtain ⟨k, hk⟩ := List.getElem?_of_mem hf
    obtain ⟨is, g, _⟩ := B.row k f hk
    exact ⟨is, g⟩
  · rintro ⟨is, g⟩
    obtain ⟨f, hf, h3, _⟩ := B.near is.length is t rfl g
    exact List.mem_map.mpr ⟨f, hf, h3⟩
theorem meth_led (m : Str) (hm : m = "come_from" ∨ m = "does_lead" ∨ m = "does_lead_to_back" ∨ m = "way" ∨ m = "led") {ths : List Str} {rs : List Rule} (F : SV → M SV) (μ : Mem) : methK "Leads" m F (.d (leadsD ths rs)) μ = F (.d (leadsD ths rs)) μ := by
  rcases hm with rfl | rfl | rfl | rfl | rfl <;> exact methK_d (leads_no (by decide +kernel) (by decide +kernel))
theorem does_lead_ok {ths : List Str} {rs : List Rule} {s t : Side} (hr : ∀ r ∈ rs, okR ths r) (hf : rs.length ≤ 200) (h14 : ths.length ≤ 14) (hs : okS ths s) :
    ∃ c : Bool, (c = true ↔ Led rs s t) ∧ ∀ μ, f_Leads_does_lead [.d (leadsD ths rs), .d (sD s), .d (sD t)] μ = .ok (.d (.bl c)) μ := by
  obtain ⟨E, -, -, h, ec⟩ := come_led hr hf h14 hs
  have hm := fun F μ => meth_led "come_from" (by simp) (ths := ths) (rs := rs) F μ
  refine ⟨decide (t ∈ E.map Ent.side), by rw [decide_eq_true_eq]; exact h t, fun μ => ?_⟩
  have hin := fun μ => found_inD (E := E) (t := t) (μ := μ)
  simp (disch := first | assumption | omega | (simp [sizeLine_eq]; done) | (simp [sizeLine_eq]; omega) | fail) [isK, isKB, tupD, sizeLine_eq, grd_pos, f_Leads_does_lead, hm, ↓ec, -callMF_s, hin]
theorem to_back_ok {ths : List Str} {rs : List Rule} {s : Side} (hr : ∀ r ∈ rs, okR ths r) (hf : rs.length ≤ 200) (h14 : ths.length ≤ 14) (hs : okS ths s) :
    ∃ c : Bool, (c = true ↔ Led rs s (sBack s)) ∧ ∀ μ, f_Leads_does_lead_to_back [.d (leadsD ths rs), .d (sD s)] μ = .ok (.d (.bl c)) μ := by
  obtain ⟨c, h, e⟩ := does_lead_ok (t := sBack s) hr hf h14 hs
  have hm := fun F μ => meth_led "does_lead" (by simp) (ths := ths) (rs := rs) F μ
  have bk := fun s => back_ok (s := s) (μ := [])
  exact ⟨c, h, fun μ => by simp (disch := first | assumption | omega | (simp [sizeLine_eq]; done) | (simp [sizeLine_eq]; omega) | fail) [isK, isKB, tupD, sizeLine_eq, grd_pos, f_Leads_does_lead_to_back, hm, e, bk]⟩
/-- the first side of a name that does not lead to its back -/
theorem fitting_ok {ths : List Str} {rs : List Rule} {x : Str} (hr : ∀ r ∈ rs, okR ths r) (hf : rs.length ≤ 200) (h14 : ths.length ≤ 14) (hx : x ∈ ths) :
    ∃ o : Option Side, (∀ s, o = some s → okS ths s ∧ s.1 = x ∧ ¬ Led rs s (sBack s)) ∧ (o = none → Led rs (x, 0) (x, 1) ∧ Led rs (x, 1) (x, 0)) ∧ ∀ μ, f_fitting_side [.d (leadsD ths rs), .d (.str x)] μ = .ok (.d (.lst (o.toList.map sD))) μ := by
  have o0 : okS ths (x, 0) := ⟨hx, .inl rfl⟩
  have o1 : okS ths (x, 1) := ⟨hx, .inr rfl⟩
  obtain ⟨c0, h0, e0⟩ := to_back_ok hr hf h14 o0
  obtain ⟨c1, h1, e1⟩ := to_back_ok hr hf h14 o1
  have h0 : c0 = true ↔ Led rs (x, 0) (x, 1) := h0
  have h1 : c1 = true ↔ Led rs (x, 1) (x, 0) := h1
  have hm := fun F μ => meth_led "does_lead_to_back" (by simp) (ths := ths) (rs := rs) F μ
  have e0 : ∀ μ, f_Leads_does_lead_to_back [.d (leadsD ths rs), .d (.tup [.str x, .int 0])] μ = .ok (.d (.bl c0)) μ := e0
  have e1 : ∀ μ, f_Leads_does_lead_to_back [.d (leadsD ths rs), .d (.tup [.str x, .int 1])] μ = .ok (.d (.bl c1)) μ := e1
  have lp : ∀ (ρ : FEnv) μ, ρ 0 = .d (leadsD ths rs) → cLoop (cStep (gN 2) (fTNot (fT (fMethO "Leads" "does_lead_to_back" f_Leads_does_lead_to_back (fV 0) (fCons (fV 2) fNil)))) (fV 2) [2] ρ) [.tup [.str x, .int 0], .tup [.str x, .int 1]] μ = .ok (([((x, 0) : Side), (x, 1)].filter fun s => if s.2 = 0 then !c0 else !c1).map sD) μ := fun ρ μ r0 => by
    have : ([.tup [.str x, .int 0], .tup [.str x, .int 1]] : List D) = [((x, 0) : Side), (x, 1)].map sD := rfl
    rw [this, cLoop_filterT (f := fun s => if (if s.2 = 0 then !c0 else !c1) = true then some (sD s) else none) fun s hs => ?_, filterMap_if]
    simp only [List.mem_cons, List.not_mem_nil, or_false] at hs
    rcases hs with rfl | rfl
    · cases c0 <;> simp (disch := first | assumption | omega | (simp [sizeLine_eq]; done) | (simp [sizeLine_eq]; omega) | fail) [isK, isKB, tupD, sizeLine_eq, grd_pos, cStep, r0, hm, e0, sD]
    · cases c1 <;> simp (disch := first | assumption | omega | (simp [sizeLine_eq]; done) | (simp [sizeLine_eq]; omega) | fail) [isK, isKB, tupD, sizeLine_eq, grd_pos, cStep, r0, hm, e1, sD]
  cases c0 with
  | false =>
    refine ⟨some (x, 0), fun s hs => ?_, fun h => (by cases h), fun μ => ?_⟩
    · cases hs
      exact ⟨o0, rfl, fun z => by have := h0.mpr z; cases this⟩
    · cases c1 <;> simp (disch := first | assumption | omega | (simp [sizeLine_eq]; done) | (simp [sizeLine_eq]; omega) | fail) [isK, isKB, tupD, sizeLine_eq, grd_pos, f_fitting_side, lp, finLF, cutD_take]
  | true =>
    cases c1 with
    | false =>
      refine ⟨some (x, 1), fun s hs => ?_, fun h => (by cases h), fun μ => ?_⟩
      · cases hs
        exact ⟨o1, rfl, fun z => by have := h1.mpr z; cases this⟩
      · simp (disch := first | assumption | omega | (simp [sizeLine_eq]; done) | (simp [sizeLine_eq]; omega) | fail) [isK, isKB, tupD, sizeLine_eq, grd_pos, f_fitting_side, lp, finLF, cutD_take]
    | true =>
      refine ⟨none, fun s hs => (by cases hs), fun _ => ⟨h0.mp rfl, h1.mp rfl⟩, fun μ => ?_⟩
      simp (disch := first | assumption | omega | (simp [sizeLine_eq]; done) | (simp [sizeLine_eq]; omega) | fail) [isK, isKB, tupD, sizeLine_eq, grd_pos, f_fitting_side, lp, finLF, cutD_take]
abbrev kT (T : List Side) : List D := T.map fun p => .str p.1
abbrev vT (T : List Side) : List D := T.map fun p => .int p.2
theorem zw_map {f : D → D → D} {a c : Side → D} : ∀ {T : List Side}, List.zipWith f (T.map a) (T.map c) = T.map fun q => f (a q) (c q)
  | [] => rfl
  | q :: T => by simp [zw_map (T := T)]
theorem merge_told : ∀ {ps T : List Side}, (T.map Prod.fst).Nodup → (∀ p ∈ T ++ ps, ∀ q ∈ T ++ ps, p.1 = q.1 → p = q) →
    ∃ T' : List Side, mergeD (kT T) (vT T) (ps.map fun p => (D.str p.1, D.int p.2)) = (kT T', vT T') ∧ (T'.map Prod.fst).Nodup ∧ ∀ p, p ∈ T' ↔ p ∈ T ∨ p ∈ ps
  | [], T, hn, _ => ⟨T, rfl, hn, fun p => by simp⟩
  | p :: ps, T, hn, hf => by
    have hk : (D.str p.1 ∈ kT T) ↔ p.1 ∈ T.map Prod.fst := by simp [kT]
    by_cases h : p.1 ∈ T.map Prod.fst
    · obtain ⟨q, hq, e⟩ := List.mem_map.mp h
      have hqp : q = p := hf q (by simp [hq]) p (by simp) e
      subst hqp
      obtain ⟨T', e1, n1, m1⟩ := merge_told (ps := ps) hn fun a ha c hc => hf a (by
        rcases List.mem_append.mp ha with ha | ha <;> simp [ha]) c (by
        rcases List.mem_append.mp hc with hc | hc <;> simp [hc])
      refine ⟨T', ?_, n1, fun r => ?_⟩
      · rw [List.map_cons, mergeD]
        have e2 : putKs (kT T) (.str q.1) = kT T := by unfold putKs; rw [if_pos (hk.mpr h)]
        have e3 : putVs (kT T) (vT T) (.str q.1) (.int q.2) = vT T := by
          unfold putVs
          rw [if_pos (hk.mpr h), zw_map]
          refine List.map_congr_left fun r hr => ?_
          by_cases z : r.1 = q.1
          · have := hf r (by simp [hr]) q (by simp) z
            subst this
            simp
          · simp [z]
        rw [e2, e3]
        exact e1
      · rw [m1]
        constructor
        · rintro (a | a)
          · exact .inl a
          · exact .inr (List.mem_cons_of_mem _ a)
        · rintro (a | a)
          · exact .inl a
          · rcases List.mem_cons.mp a with rfl | a
            · exact .inl hq
            · exact .inr a
    · obtain ⟨T', e1, n1, m1⟩ := merge_told (ps := ps) (T := T ++ [p]) (by
        rw [List.map_append, List.nodup_append]
        refine ⟨hn, by simp, fun a ha c hc z => h ?_⟩
        simp at hc
        rw [← hc, ← z]
        exact ha) fun a ha c hc => hf a (by
        simp only [List.append_assoc, List.singleton_append] at ha
        exact ha) c (by
        simp only [List.append_assoc, List.singleton_append] at hc
        exact hc)
      refine ⟨T', ?_, n1, fun r => ?_⟩
      · rw [List.map_cons, mergeD]
        have e2 : putKs (kT T) (.str p.1) = kT (T ++ [p]) := by unfold putKs; rw [if_neg fun z => h (hk.mp z)]; simp
        have e3 : putVs (kT T) (vT T) (.str p.1) (.int p.2) = vT (T ++ [p]) := by unfold putVs; rw [if_neg fun z => h (hk.mp z)]; simp
        rw [e2, e3]
        exact e1
      · rw [m1, List.mem_append, List.mem_singleton, List.mem_cons, or_assoc]
theorem told_at {T : List Side} {s : Side} : ∀ {T : List Side}, (T.map Prod.fst).Nodup → s ∈ T → findD (kT T) (vT T) (.str s.1) = some (.int s.2)
  | [], _, h => by simp at h
  | q :: T, hn, h => by
    simp only [List.map_cons, findD]
    by_cases e : q.1 = s.1
    · have : q = s := by
        rcases List.mem_cons.mp h with rfl | h
        · rfl
        · exact absurd (List.mem_map.mpr ⟨s, h, e.symm⟩) (List.nodup_cons.mp hn).1
      subst this
      simp
    · have e2 : ¬ D.str q.1 = D.str s.1 := fun z => e (by injection z)
      rw [if_neg e2]
      exact told_at (T := T) (List.nodup_cons.mp hn).2 ((List.mem_cons.mp h).resolve_left fun z => e (by rw [z]))
theorem told_in {x : Str} : ∀ {T : List Side}, (findD (kT T) (vT T) (.str x)).isSome = decide (x ∈ T.map Prod.fst)
  | [] => by simp [findD]
  | q :: T => by
    simp only [List.map_cons, findD]
    by_cases e : q.1 = x
    · subst e; simp
    · have e2 : ¬ D.str q.1 = D.str x := fun z => e (by injection z)
      rw [if_neg e2, told_in (T := T)]
      have e3 : ¬ x = q.1 := fun z => e z.symm
      simp [e3]
theorem told_ni {T : List Side} {x : Str} {μ : Mem} {k : Nat} (h : μ[k]? = some (.dK (kT T) (vT T))) : niF (.d (.str x)) (.c k) μ = .ok (.d (.bl (!decide (x ∈ T.map Prod.fst)))) μ := by
  rw [← told_in]
  unfold niF
  simp only [inO, h]
  rw [grd_pos (show fitK false (.str x) = true from rfl)]
  rfl
/-- a lot over all things keeps the rules -/
theorem Lot.keeps {ths : List Str} {rs : List Rule} {A : Side → Prop} {cs : List Int} (hr : ∀ r ∈ rs, okR ths r) (L : Lot rs A) (full : ∀ x ∈ ths, A (x, 0) ∨ A (x, 1)) (has : ∀ s, okS ths s → (hasS ths cs s = true ↔ A s)) : keepB ths cs rs = true := by
  rw [keepB, List.all_eq_true]
  rintro ⟨a, c⟩ hm
  have o := hr _ hm
  have ha := has a o.1
  have hc := has c o.2.1
  by_cases g : A a
  · simp [lost, ha.mpr g]
  · have gb : A (sBack a) := by
      obtain ⟨x, b⟩ := a
      rcases o.1.2 with e | e <;> simp only at e <;> subst e
      · exact (full x o.1.1).resolve_left g
      · exact (full x o.1.1).resolve_right g
    have gc : A c := L.closed _ _ gb (Led.rule hm).1
    simp [lost, hc.mpr gc]
def choD : Option (List Int) → D
  | none => .non
  | some cs => .ntp (cs.map .int)
theorem Lot.fn {ths : List Str} {rs : List Rule} {A : Side → Prop} (L : Lot rs A) (ok : ∀ s, A s → okS ths s) {p q : Side} (hp : A p) (hq : A q) (e : p.1 = q.1) : p = q := by
  obtain ⟨x, a⟩ := p
  obtain ⟨y, c⟩ := q
  simp only at e
  subst e
  have h1 := (ok _ hp).2
  have h2 := (ok _ hq).2
  simp only at h1 h2
  by_cases z : a = c
  · rw [z]
  · exfalso
    have := L.alone _ hp
    apply this
    have e2 : sBack (x, a) = (x, c) := by
      show (x, 1 - a) = (x, c)
      congr 1
      omega
    rw [e2]
    exact hq
theorem carried_ok {ths : List Str} {rs : List Rule} {T : List Side} (hn : ths.Nodup) (hnm : ∀ x ∈ ths, nmB x = true) (hr : ∀ r ∈ rs, okR ths r) (hf : rs.length ≤ 200) (h14 : ths.length ≤ 14) (L : Lot rs (· ∈ T)) (okT : ∀ s ∈ T, okS ths s) (ndT : (T.map Prod.fst).Nodup) :
    ∃ (o : Option (List Int)) (R' : Mem), (∀ cs, o = some cs → Kp ths rs cs ∧ ∀ s ∈ T, hasS ths cs s = true) ∧ (o = none → ∃ x ∈ ths, Led rs (x, 0) (x, 1) ∧ Led rs (x, 1) (x, 0)) ∧ f_carried_by [.d (leadsD ths rs), .c 0] [.dK (kT T) (vT T)] = .ok (.d (choD o)) (.dK (kT T) (vT T) :: R') := by
  have key : gives (f_carried_by [.d (leadsD ths rs), .c 0] [.dK (kT T) (vT T)]) fun s μ => ∃ (o : Option (List Int)) (R' : Mem), s = .d (choD o) ∧ μ = .dK (kT T) (vT T) :: R' ∧ (∀ cs, o = some cs → Kp ths rs cs ∧ ∀ s ∈ T, hasS ths cs s = true) ∧ (o = none → ∃ x ∈ ths, Led rs (x, 0) (x, 1) ∧ Led rs (x, 1) (x, 0)) := by
    have dc : dictCopyF [.c 0] [.dK (kT T) (vT T)] = .ok (.c 1) [.dK (kT T) (vT T), .dK (kT T) (vT T)] := rfl
    have lt := fun μ => leads_things (ths := ths) (rs := rs) (μ := μ)
    simp (disch := first | assumption | omega | (simp [sizeLine_eq]; done) | (simp [sizeLine_eq]; omega) | fail) [isK, isKB, tupD, sizeLine_eq, grd_pos, f_carried_by, dc, lt]
    generalize el : fLoop _ _ _ _ = z
    rcases loop_orT (en := D.str) el (fun done ρ μ => ρ 0 = .d (leadsD ths rs) ∧ ρ 1 = .c 1 ∧ ∃ T' : List Side, μ = [.dK (kT T) (vT T), .dK (kT T') (vT T')] ∧ Lot rs (· ∈ T') ∧ (∀ s ∈ T', okS ths s) ∧ (T'.map Prod.fst).Nodup ∧ (∀ s ∈ T, s ∈ T') ∧ ∀ x ∈ done, x ∈ T'.map Prod.fst)
      (fun v μ => v = .d .non ∧ (∃ c, μ = [.dK (kT T) (vT T), c]) ∧ ∃ x ∈ ths, Led rs (x, 0) (x, 1) ∧ Led rs (x, 1) (x, 0)) ⟨by simp, by simp, T, rfl, L, okT, ndT, fun _ h => h, fun x h => by simp at h⟩ (by
      rintro pre x post ρ μ hd ⟨r0, r1, T', rfl, L', ok', nd', sub', done'⟩
      have hx : x ∈ ths := by rw [hd]; simp
      have ni := told_ni (T := T') (x := x) (μ := [.dK (kT T) (vT T), .dK (kT T') (vT T')]) (k := 1) rfl
      by_cases h : x ∈ T'.map Prod.fst
      · left
        rw [decide_eq_true h] at ni
        simp (disch := first | assumption | omega | (simp [sizeLine_eq]; done) | (simp [sizeLine_eq]; omega) | fail) [isK, isKB, tupD, sizeLine_eq, grd_pos, r0, r1, ni]
        refine ⟨by simp [r0], by simp [r1], T', rfl, L', ok', nd', sub', fun y hy => ?_⟩
        rcases List.mem_append.mp hy with hy | hy
        · exact done' y hy
        · simp at hy; subst hy; exact h
      · rw [decide_eq_false h] at ni
        obtain ⟨o, f1, f2, ef⟩ := fitting_ok hr hf h14 hx
        have efl : ∀ d ∈ o.toList.map sD, flat 59 d = true := fun d hd => by
          obtain ⟨s, hs, rfl⟩ := List.mem_map.mp hd
          have os := (f1 s (by simpa using hs)).1
          have hb := nmB_strOk (hnm _ os.1)
          show flat 59 (.tup [.str s.1, .int s.2]) = true
          simp [flat, flats, hb]
        have eq0 := fun μ => (nil_eqs (μ := μ) efl).1
        cases o with
        | none =>
          right
          have ef : ∀ μ, f_fitting_side [.d (leadsD ths rs), .d (.str x)] μ = .ok (.d (.lst [])) μ := ef
          have eq0 : ∀ μ, eqF (.d (.lst [])) (.d (.lst [])) μ = .ok (.d (.bl true)) μ := eq0
          refine ⟨.d .non, ?_⟩
          simp (disch := first | assumption | omega | (simp [sizeLine_eq]; done) | (simp [sizeLine_eq]; omega) | fail) [isK, isKB, tupD, sizeLine_eq, grd_pos, r0, r1, ni, ef, eq0]
          exact ⟨rfl, ⟨_, rfl⟩, x, hx, f2 rfl⟩
        | some s =>
          left
          have ef : ∀ μ, f_fitting_side [.d (leadsD ths rs), .d (.str x)] μ = .ok (.d (.lst [sD s])) μ := ef
          have eq0 : ∀ μ, eqF (.d (.lst [sD s])) (.d (.lst [])) μ = .ok (.d (.bl false)) μ := eq0
          obtain ⟨os, sx, nb⟩ := f1 s rfl
          obtain ⟨E, en, el28, em, ec⟩ := come_led hr hf h14 os
          have hm := fun F μ => meth_led "come_from" (by simp) (ths := ths) (rs := rs) F μ
          have na : ¬ (sBack s ∈ T') := fun z => h (List.mem_map.mpr ⟨_, z, sx⟩)
          have L2 := L'.add nb na
          have ok2 : ∀ t, t ∈ T' ∨ Led rs s t → okS ths t := fun t ht => ht.elim (ok' t) fun z => z.ok hr os
          have hE : keysE E = (E.map Ent.side).map fun t => D.tup [.str t.1, .int t.2] := by rw [List.map_map]; rfl
          have memE : ∀ t, t ∈ E.map Ent.side → Led rs s t := fun t ht => (em t).mp ht
          obtain ⟨T0, m0, n0, i0⟩ := merge_told (ps := E.map Ent.side) (T := []) (by simp) fun p hp q hq e => L2.fn ok2 (.inr (memE p (by simpa using hp))) (.inr (memE q (by simpa using hq))) e
          have dp : ∀ μ, dictPKF [.d (.lst (keysE E))] μ = .ok (.d (.dic false (kT T0) (vT T0))) μ := fun μ => by
            have e2 : pairsD (keysE E) = some ((E.map Ent.side).map fun t => (D.str t.1, D.int t.2)) := by rw [hE, pairsD_map]
            rw [dictPKF_l (s := .d (.lst (keysE E))) rfl e2 fun p hp => by
              obtain ⟨t, _, rfl⟩ := List.mem_map.mp hp
              rfl]
            have m0 : mergeD [] [] ((E.map Ent.side).map fun t => (D.str t.1, D.int t.2)) = (kT T0, vT T0) := m0
            rw [m0]
          have i0 : ∀ p, p ∈ T0 ↔ Led rs s p := fun p => by rw [i0, ← em]; simp
          obtain ⟨T2, m2, n2, i2⟩ := merge_told (ps := T0) (T := T') nd' fun p hp q hq e => L2.fn ok2 ((List.mem_append.mp hp).imp id (i0 p).mp) ((List.mem_append.mp hq).imp id (i0 q).mp) e
          have hz : (kT T').length + (kT T0).length ≤ sizeLine := by
            have a1 : (T'.map Prod.fst).length ≤ ths.length := nodup_le nd' fun y hy => by
              obtain ⟨p, hp, rfl⟩ := List.mem_map.mp hy
              exact (ok' p hp).1
            have a2 : (T0.map Prod.fst).length ≤ ths.length := nodup_le n0 fun y hy => by
              obtain ⟨p, hp, rfl⟩ := List.mem_map.mp hy
              exact (((i0 p).mp hp).ok hr os).1
            have a3 := sizeLine_le (n := 100) (by decide)
            simp only [kT, List.length_map] at a1 a2 ⊢
            omega
          have zz : (kT T0).zip (vT T0) = T0.map fun p => (D.str p.1, D.int p.2) := List.zip_map'
          have up := updK_d (k := 1) (ks := kT T') (vs := vT T') (ks2 := kT T0) (vs2 := vT T0) (μ := [.dK (kT T) (vT T), .dK (kT T') (vT T')]) rfl hz
          rw [zz, m2] at up
          have uf := fun m : M SV => updF_c (m := m) (k := 1) (μ := [.dK (kT T) (vT T), .dK (kT T') (vT T')]) rfl
          simp (disch := first | assumption | omega | (simp [sizeLine_eq]; done) | (simp [sizeLine_eq]; omega) | fail) [isK, isKB, tupD, sizeLine_eq, grd_pos, r0, r1, ni, ef, eq0, hm, ↓ec, -callMF_s, dp, uf, up]
          refine ⟨by simp [r0], by simp [r1], T2, rfl, ⟨fun a c ha hl => ?_, fun a ha hc => ?_⟩, fun p hp => ?_, n2, fun p hp => (i2 p).mpr (.inl (sub' p hp)), fun y hy => ?_⟩
          · rw [i2, i0] at ha ⊢
            exact L2.closed a c ha hl
          · rw [i2, i0] at ha hc
            exact L2.alone a ha hc
          · exact ok2 p (by have := (i2 p).mp hp; rwa [i0] at this)
          · rcases List.mem_append.mp hy with hy | hy
            · obtain ⟨p, hp, e⟩ := List.mem_map.mp (done' y hy)
              exact List.mem_map.mpr ⟨p, (i2 p).mpr (.inl hp), e⟩
            · simp at hy
              subst hy
              exact List.mem_map.mpr ⟨s, (i2 s).mpr (.inr ((i0 s).mpr (Led.refl s))), sx⟩) with ⟨ρ', μ', rfl, r0, r1, T', rfl, L', ok', nd', sub', full'⟩ | ⟨v, μ', rfl, rfl, ⟨cl, rfl⟩, hk⟩
    · have full2 : ∀ x ∈ ths, (x, 0) ∈ T' ∨ (x, 1) ∈ T' := fun x hx => by
        obtain ⟨⟨y, c⟩, hp, e⟩ := List.mem_map.mp (full' x hx)
        simp only at e
        subst e
        rcases (ok' _ hp).2 with z | z <;> simp only at z <;> subst z
        · exact .inl hp
        · exact .inr hp
      have hfn : ∀ x : Str, ∃ c : Int, x ∈ ths → (x, c) ∈ T' := fun x => by
        by_cases hx : x ∈ ths
        · rcases full2 x hx with z | z
          · exact ⟨0, fun _ => z⟩
          · exact ⟨1, fun _ => z⟩
        · exact ⟨0, fun z => absurd z hx⟩
      obtain ⟨f, hfn⟩ := Classical.axiomOfChoice hfn
      have has : ∀ s, okS ths s → (hasS ths (ths.map f) s = true ↔ s ∈ T') := fun s os => by
        simp only [hasS, decide_eq_true_eq]
        rw [vl_map hn os.1]
        constructor
        · intro e
          have := hfn s.1 os.1
          rw [e] at this
          exact this
        · intro hs
          have := L'.fn ok' (hfn s.1 os.1) hs rfl
          rw [← this]
      have hbit : ∀ c ∈ ths.map f, c = 0 ∨ c = 1 := fun c hc => by
        obtain ⟨x, hx, rfl⟩ := List.mem_map.mp hc
        exact (ok' _ (hfn x hx)).2
      have kp : Kp ths rs (ths.map f) := ⟨by simp, hbit, L'.keeps hr full2 has⟩
      have lp : ∀ (ρ : FEnv), ρ 1 = .c 0 → cLoop (cStep (gN 2) fYes (fOp dgetF (fV 1) (fV 2)) [2] ρ) (ths.map .str) [.dK (kT T') (vT T')] = .ok ((ths.map f).map .int) [.dK (kT T') (vT T')] := fun ρ q1 => by
        rw [cLoop_mapT (f := fun x => .int (f x)) fun x hx => ?_, List.map_map]
        · rfl
        · have dg : dgetF (.c 0) (.d (.str x)) [.dK (kT T') (vT T')] = .ok (.d (.int (f x))) [.dK (kT T') (vT T')] := by
            have := told_at (T := T') (s := (x, f x)) nd' (hfn x hx)
            simp only [dgetF, dicOf, List.getElem?_cons_zero]
            rw [grd_pos (show fitK false (.str x) = true from rfl), this]
          simp (disch := first | assumption | omega | (simp [sizeLine_eq]; done) | (simp [sizeLine_eq]; omega) | fail) [isK, isKB, tupD, sizeLine_eq, grd_pos, cStep, q1, dg]
      simp (disch := first | assumption | omega | (simp [sizeLine_eq]; done) | (simp [sizeLine_eq]; omega) | fail) [isK, isKB, tupD, sizeLine_eq, grd_pos, r0, r1, lt, f_choosing_of, lp, finLF]
      exact gives_ok ⟨some (ths.map f), _, by simp [choD], rfl, fun cs e => (by cases e; exact ⟨kp, fun s hs => (has s (okT s hs)).mpr (sub' s hs)⟩), fun e => (by cases e)⟩
    · simp (disch := first | assumption | omega | (simp [sizeLine_eq]; done) | (simp [sizeLine_eq]; omega) | fail) [isK, isKB, tupD, sizeLine_eq, grd_pos, ]
      exact gives_ok ⟨none, _, rfl, rfl, fun cs e => (by cases e), fun _ => hk⟩
  obtain ⟨_, _, e, o, R', rfl, rfl, h1, h2⟩ := key
  exact ⟨o, R', h1, h2, e⟩
theorem choosing_byK {v : D} {ths : List Str} {rs : List Rule} (hb : Bk v ths rs) :
    ∃ (o : Option (List Int)) (R' : Mem), (∀ cs, o = some cs → Kp ths rs cs) ∧ (o = none → ∃ x ∈ ths, Led rs (x, 0) (x, 1) ∧ Led rs (x, 1) (x, 0)) ∧ f_choosing_by [.d v] [] = .ok (.d (choD o)) R' := by
  obtain ⟨o, R', h1, h2, e⟩ := carried_ok (T := []) hb.tth.nodup (fun x hx => (hb.tth.name x hx).1) hb.rule hb.few hb.tth.hi ⟨fun _ _ h => by simp at h, fun _ h => by simp at h⟩ (fun _ h => by simp at h) (by simp)
  have e : f_carried_by [.d (leadsD ths rs), .c 0] [.dK [] []] = .ok (.d (choD o)) (.dK [] [] :: R') := e
  have e2 := fun μ => leads_ok (μ := μ) hb
  have key : gives (f_choosing_by [.d v] []) fun s _ => s = .d (choD o) := by
    simp (disch := first | assumption | omega | (simp [sizeLine_eq]; done) | (simp [sizeLine_eq]; omega) | fail) [isK, isKB, tupD, sizeLine_eq, grd_pos, f_choosing_by, e2, e]
    exact gives_ok rfl
  obtain ⟨_, R2, e3, rfl⟩ := key
  exact ⟨o, R2, fun cs h => (h1 cs h).1, h2, e3⟩
end PL
namespace PL
open PySem PySem.Spec PyProof.Rows L2
open PySem.W (Datum DatumOrd)
--.
end PL
namespace PL
open PySem PySem.Spec PyProof.Rows L2 RZ
noncomputable def sortSetF : List SV → M SV := fun ss μ => match ss with
  | [s] => match seqOf s μ with
    | some l => grd (OkSet l) (ret (.d (.lst (srtD (ddD l))))) μ
    | none => .no
  | _ => .no
theorem ok_sortSet : ∀ ss μ x Q, (sortSetF ss μ).fin x Q → pSortSet ss μ Q := by
  intro ss μ x Q h
  unfold sortSetF at h
  unfold pSortSet
  split at h
  · split at h
    · rename_i e
      have h2 := fin_grd h
      show on _ _
      rw [e]
      exact h2
    · exact h.elim
  · exact h.elim
section
variable {X : Cx} {W : WX} {e : Expr} {fl : FA} {n : Nat} {p p2 q pos : Pos}
theorem pf_sortSet (hc : X.calm = true) (hu : X.A.units + 64 < cLine) (hg : Gl X "sorted") (hm : X.mg "sorted" = none) (hg2 : Gl X "set") (hm2 : X.mg "set" = none) (hl : PXA X W [e] (toA n fl)) (he : starEach [e] X.env = (false, eval e X.env) :: starEach [] X.env := by rfl) :
    PX X W (.Call (.Name "sorted" p) [.Call (.Name "set" p2) [e] [] q] [] pos) (toX n (fCall sortSetF fl)) := pf_call (px_sortSet hc hu hg hm hg2 hm2 hl he) ok_sortSet
variable {μ : Mem} {l : List D} {k : Nat}
@[simp] theorem sortSetF_l : sortSetF [.d (.lst l)] μ = grd (OkSet l) (ret (.d (.lst (srtD (ddD l))))) μ := rfl
@[simp] theorem sortSetF_t : sortSetF [.d (.tup l)] μ = grd (OkSet l) (ret (.d (.lst (srtD (ddD l))))) μ := rfl
@[simp] theorem sortSetF_n : sortSetF [.d (.ntp l)] μ = grd (OkSet l) (ret (.d (.lst (srtD (ddD l))))) μ := rfl
theorem sortSetF_c (h : μ[k]? = some (.lst l)) : sortSetF [.c k] μ = grd (OkSet l) (ret (.d (.lst (srtD (ddD l))))) μ := by simp only [sortSetF, seqOf, tupOf, lstOf, h]
end
end PL
namespace PL
open PySem PySem.Spec PyProof.Rows L2
open PySem.W (Datum DatumOrd)
section
variable {α : Type} [DecidableEq α] [DatumOrd α] [Enc α]
def ddT : List α → List α
  | [] => []
  | a :: l => if a ∈ l then ddT l else a :: ddT l
theorem mem_ddT {a : α} : ∀ {l : List α}, a ∈ ddT l ↔ a ∈ l
  | [] => Iff.rfl
  | b :: l => by
    unfold ddT
    by_cases h : b ∈ l
    · rw [if_pos h, mem_ddT, List.mem_cons]
      exact ⟨.inr, fun z => z.elim (fun z => z ▸ h) id⟩
    · rw [if_neg h, List.mem_cons, List.mem_cons, mem_ddT]
theorem nodup_ddT : ∀ {l : List α}, (ddT l).Nodup
  | [] => .nil
  | b :: l => by
    unfold ddT
    by_cases h : b ∈ l
    · rw [if_pos h]; exact nodup_ddT
    · rw [if_neg h]; exact List.nodup_cons.mpr ⟨fun z => h (mem_ddT.mp z), nodup_ddT⟩
theorem ddT_le : ∀ {l : List α}, (ddT l).length ≤ l.length
  | [] => Nat.le_refl _
  | b :: l => by
    unfold ddT
    have := ddT_le (l := l)
    split <;> simp <;> omega
theorem py_inj {a b : α} (h : toPy (Enc.en a) = toPy (Enc.en b)) : a = b := by
  rw [Enc.py, Enc.py] at h
  have e : PyData.eqv (Datum.toD a) (Datum.toD b) = decide (a = b) := Datum.eqv a b
  have e2 : PyData.eqv (Datum.toD b) (Datum.toD b) = decide (b = b) := Datum.eqv b b
  rw [h, e2, decide_eq_true rfl] at e
  exact of_decide_eq_true e.symm
theorem ddD_en : ∀ {l : List α}, ddD (l.map Enc.en) = (ddT l).map Enc.en
  | [] => rfl
  | a :: l => by
    unfold ddT
    rw [List.map_cons]
    unfold ddD
    have i : (Enc.en a ∈ l.map Enc.en) ↔ a ∈ l := by
      constructor
      · intro h
        obtain ⟨b, hb, e⟩ := List.mem_map.mp h
        rw [← py_inj (congrArg toPy e)]
        exact hb
      · exact fun h => List.mem_map.mpr ⟨a, h, rfl⟩
    by_cases h : a ∈ l
    · rw [if_pos h, if_pos (i.mpr h), ddD_en]
    · rw [if_neg h, if_neg fun z => h (i.mp z), ddD_en]; rfl
theorem rise_unique : ∀ {l m : List α}, l.Pairwise (fun a b => DatumOrd.lt a b = true) → m.Pairwise (fun a b => DatumOrd.lt a b = true) → (∀ a, a ∈ l ↔ a ∈ m) → l = m
  | [], [], _, _, _ => rfl
  | [], b :: m, _, _, h => absurd ((h b).mpr List.mem_cons_self) (by simp)
  | a :: l, [], _, _, h => absurd ((h a).mp List.mem_cons_self) (by simp)
  | a :: l, b :: m, h1, h2, h => by
    obtain ⟨a1, a2⟩ := List.pairwise_cons.mp h1
    obtain ⟨b1, b2⟩ := List.pairwise_cons.mp h2
    have irr : ∀ c : α, ¬ DatumOrd.lt c c = true := fun c z => by
      have := dlt_asymm z
      rw [z] at this
      cases this
    have e : a = b := by
      rcases List.mem_cons.mp ((h a).mp List.mem_cons_self) with e | e
      · exact e
      · rcases List.mem_cons.mp ((h b).mpr List.mem_cons_self) with z | z
        · exact z.symm
        · have := dlt_asymm (a1 b z)
          rw [b1 a e] at this
          cases this
    subst e
    rw [rise_unique a2 b2 fun c => ?_]
    constructor
    · intro hc
      rcases List.mem_cons.mp ((h c).mp (List.mem_cons_of_mem _ hc)) with z | z
      · subst z; exact absurd (a1 c hc) (irr c)
      · exact z
    · intro hc
      rcases List.mem_cons.mp ((h c).mpr (List.mem_cons_of_mem _ hc)) with z | z
      · subst z; exact absurd (b1 c hc) (irr c)
      · exact z
theorem srt_uni {l m : List α} (h : l.Perm m) (n : l.Nodup) : srt l = srt m :=
  rise_unique (srt_lt n) (srt_lt (h.nodup_iff.mp n)) fun a => by rw [mem_srt, mem_srt]; exact h.mem_iff
theorem okSet_en {l : List α} (few : l.length ≤ 300) (hk : ∀ a ∈ l, IsKeyD (Enc.en a) ∧ ∃ xs, Enc.en a = .tup xs ∨ Enc.en a = .ntp xs) (hs : okSort (l.map Enc.en)) : OkSet (l.map Enc.en) where
  few := by rw [List.length_map]; exact few
  each := fun d hd => by
    obtain ⟨a, ha, rfl⟩ := List.mem_map.mp hd
    exact ⟨(hk a ha).1, hs.1 _ hd, (hk a ha).2⟩
  sort := hs
  inj := fun d hd d' hd' e => by
    obtain ⟨a, ha, rfl⟩ := List.mem_map.mp hd
    obtain ⟨b, hb, rfl⟩ := List.mem_map.mp hd'
    rw [py_inj e]
  perm := fun m hm => by
    rw [ddD_en] at hm ⊢
    obtain ⟨m', h1, rfl⟩ := perm_back hm rfl
    rw [srtD_en, srtD_en, srt_uni h1 (h1.nodup_iff.mpr nodup_ddT)]
theorem sset_en {l : List α} : srtD (ddD (l.map Enc.en)) = (srt (ddT l)).map Enc.en := by rw [ddD_en, srtD_en]
end
theorem key_rule {r : Rule} : IsKeyD (rD r) := ⟨.tup [.tup [.text r.1.1, .num r.1.2], .tup [.text r.2.1, .num r.2.2]], by simp [toPy, toPys, kOf, kOfs], by simp [NestedKey.depth, NestedKey.depthAll]⟩
/-- sorted(set(xs)), xs rules -/
theorem okSet_rules {ths : List Str} {rs : List Rule} (hr : ∀ r ∈ rs, okR ths r) (hnm : ∀ x ∈ ths, nmB x = true) (few : rs.length ≤ 300) : OkSet (rs.map rD) :=
  okSet_en (α := Rule) (by omega) (fun r _ => ⟨key_rule, _, .inl rfl⟩) (okSort_pair (l := rs) fun a ha => okk_rule (hr a ha) hnm)
def ruleSet (rs : List Rule) : List Rule := srt (ddT rs)
theorem sset_rules {rs : List Rule} : srtD (ddD (rs.map rD)) = (ruleSet rs).map rD := sset_en (α := Rule)
theorem mem_ruleSet {rs : List Rule} {r : Rule} : r ∈ ruleSet rs ↔ r ∈ rs := by
  unfold ruleSet
  rw [mem_srt, mem_ddT]
theorem ruleSet_len {rs : List Rule} : (ruleSet rs).length ≤ rs.length := by
  unfold ruleSet
  rw [srt_length]
  exact ddT_le
end PL
namespace PL
open PySem PySem.Spec PyProof.Rows L2
open PySem.W (Datum DatumOrd)
end PL
namespace PL
open PySem PySem.Spec PyProof.Rows L2
open PySem.W (Datum DatumOrd)
--.
--.
--.
--.
--.
--.
--.
--.
--.
--.
--.
--.
--.
theorem vl_at {x : Str} : ∀ {ths : List Str} {cs : List Int} {j : Nat}, ths.length = cs.length → ths.Nodup → ths[j]? = some x → cs[j]? = some (vl ths cs x)
  | [], _, _, _, _, hx => by simp at hx
  | y :: ths, [], _, e, _, _ => by simp at e
  | y :: ths, c :: cs, 0, _, _, hx => by
    simp at hx
    subst hx
    simp [vl]
  | y :: ths, c :: cs, j + 1, e, hn, hx => by
    have h2 : ths[j]? = some x := by simpa using hx
    have ne : y ≠ x := fun g => (List.nodup_cons.mp hn).1 (g ▸ List.mem_of_getElem? h2)
    simp only [vl, if_neg ne]
    simpa using vl_at (j := j) (by simpa using e) (List.nodup_cons.mp hn).2 h2
end PL
namespace PL
open PySem PySem.Spec PyProof.Rows L2
open PySem.W (Datum DatumOrd)
--.
--.
--.
--.
--.
def bits : Nat → List (List Int)
  | 0 => [[]]
  | n + 1 => (bits n).flatMap fun cs => [cs ++ [0], cs ++ [1]]
abbrev rowD (cs : List Int) : D := .tup (cs.map .int)
theorem at_inj {ths : List Str} {i j : Nat} {x : Str} (hn : ths.Nodup) (h1 : ths[i]? = some x) (h2 : ths[j]? = some x) : i = j := by
  obtain ⟨l1, e1⟩ := List.getElem?_eq_some_iff.mp h1
  obtain ⟨l2, e2⟩ := List.getElem?_eq_some_iff.mp h2
  exact (List.getElem_inj hn).mp (e1.trans e2.symm)
end PL
namespace PL
open PySem PySem.Spec PyProof.Rows L2 RZ
noncomputable def sortedTF : List SV → M SV := fun ss μ => match ss with
  | [s] => match tupOf s with
    | some l => grd (okSort l) (ret (.d (.lst (srtD l)))) μ
    | none => .no
  | _ => .no
section
variable {X : Cx} {W : WX} {e : Expr} {fl : FA} {n : Nat} {p pos : Pos}
variable {μ : Mem} {l : List D}
@[simp] theorem sortedTF_t : sortedTF [.d (.tup l)] μ = grd (okSort l) (ret (.d (.lst (srtD l)))) μ := rfl
@[simp] theorem sortedTF_n : sortedTF [.d (.ntp l)] μ = grd (okSort l) (ret (.d (.lst (srtD l)))) μ := rfl
end
end PL
namespace PL
open PySem PySem.Spec PyProof.Rows L2
open PySem.W (Datum DatumOrd)
noncomputable def f_with_rules : List SV → M SV := fDef 2 (fRet (fTup (fCons (fV 0) (fCons (fCall tupF (fCons (fCall sortSetF (fCons (fV 1) fNil)) fNil)) fNil))))
--.
--.
--.
--.
--.
--.
--.
--.
--.
--.
--.
theorem lenT {w : D} {l : List D} {μ : Mem} (h : tupD w = some l) : lenF [.d w] μ = .ok (.d (.int l.length)) μ := by
  cases w <;> simp only [tupD, Option.some.injEq, reduceCtorEq] at h <;> subst h <;> rfl
end PL
namespace PL
open PySem PySem.Spec PyProof.Rows L2
open PySem.W (Datum DatumOrd)
--.
--.
--.
--.
--.
--.
--.
--.
--.
end PL
namespace PL
open PySem PySem.Spec PyProof.Rows L2
open PySem.W (Datum DatumOrd)
--.
--.
--.
--.
--.
--.
--.
--.
/-- a rule that follows: each choosing that keeps the rules keeps it -/
def Fol (ths : List Str) (rs : List Rule) (r : Rule) : Prop := ∀ cs, Kp ths rs cs → lost ths cs r = false
theorem Kp.less {ths : List Str} {rs rs' : List Rule} {cs : List Int} (k : Kp ths rs cs) (h : ∀ r ∈ rs', r ∈ rs) : Kp ths rs' cs := by
  refine ⟨k.1, k.2.1, ?_⟩
  have := k.2.2
  simp only [keepB, List.all_eq_true] at this ⊢
  exact fun r hr => this r (h r hr)
theorem Kp.more {ths : List Str} {rs rs' : List Rule} {cs : List Int} (k : Kp ths rs cs) (h : ∀ r ∈ rs', r ∈ rs ∨ Fol ths rs r) : Kp ths rs' cs := by
  refine ⟨k.1, k.2.1, ?_⟩
  have := k.2.2
  simp only [keepB, List.all_eq_true] at this ⊢
  intro r hr
  rcases h r hr with h | h
  · exact this r h
  · rw [h cs k]; rfl
theorem Fol.mono {ths : List Str} {rs rs' : List Rule} {r : Rule} (f : Fol ths rs' r) (h : ∀ r ∈ rs', r ∈ rs) : Fol ths rs r := fun cs k => f cs (k.less h)
end PL
namespace PL
open PySem PySem.Spec PyProof.Rows L2
open PySem.W (Datum DatumOrd)
--.
end PL
namespace PL
open PySem PySem.Spec PyProof.Rows L2
open PySem.W (Datum DatumOrd)
end PL
namespace PL
open PySem PySem.Spec PyProof.Rows L2
open PySem.W (Datum DatumOrd)
end PL
namespace PL
open PySem PySem.Spec PyProof.Rows L2
section
variable {X : Cx}
end
abbrev PRel (K : PySem.W.Frag) (A : List Addr) (G : Hp) : List (D × SV) → List (List Key × Addr × V) → Prop := Paired fun p q => p.1 = .tup (q.1.map keyD) ∧ RepS K A G p.2 q.2.2
theorem PRel.mono {K : PySem.W.Frag} {A A' : List Addr} {G G' : Hp} (p : A <+: A') (g : LeZ G G') {acc : List (D × SV)} {l : List (List Key × Addr × V)} (h : PRel K A G acc l) : PRel K A' G' acc l := by
  induction h with
  | nil => exact .nil
  | cons h _ ih => exact .cons ⟨h.1, h.2.mono p g⟩ ih
theorem Step.tup {K : PySem.W.Frag} {A A' : List Addr} {μ : Mem} {G G' H H' : Hp} (s : Step A G H A' G' H') (c : Cells K A μ G H) {b : Addr} {ys : List V} (e : H b = some (.tup ys)) : H' b = some (.tup ys) := by
  have nb : b ∉ A := fun z => by
    obtain ⟨k, hk, e2⟩ := List.mem_iff_getElem.mp z
    have hk2 : k < μ.length := by rw [← c.len]; exact hk
    exact CellOk.notup (c.ok k b μ[k] (by rw [List.getElem?_eq_getElem hk, e2]) (List.getElem?_eq_getElem hk2)) e
  rcases s.keep _ _ e nb with q | ⟨_, q, _⟩
  · exact q
  · cases q
section
variable {X : Cx} {W : WX} {iter tg : Expr} {ifs : List Expr} {ti : TXI} {g : TXG} {tt : TXT} {tE : TXA} {es : List Expr} {pos p : Pos}
noncomputable def pPut (kv : List D × List SV) (p : D × SV) : List D × List SV := (putKs kv.1 p.1, putSs kv.1 kv.2 p.1 p.2)
end
section
variable {X : Cx} {W : WX} {iter tg kx vx : Expr} {ifs : List Expr} {ti : TXI} {g : TXG} {tt : TXT} {tE : TXA} {pos p lpos : Pos} {x1 : Nat} {es : List Expr}
end
end PL
namespace PL
open PySem PySem.Spec PyProof.Rows L2 RZ
def dpLoop (step : D → M (Option (D × SV))) : List D → M (List (D × SV))
  | [], μ => .ok [] μ
  | d :: ds, μ => match step d μ with
    | .ok none μ' => dpLoop step ds μ'
    | .ok (some s) μ' => match dpLoop step ds μ' with
      | .ok r μ2 => .ok (s :: r) μ2
      | _ => .no
    | _ => .no
def prK (ss : List SV) : M (Option (D × SV)) := match ss with
  | [.d key, s] => if fitK true key = true then ret (some (key, s)) else fun _ => .no
  | _ => fun _ => .no
def dpStep (g : FG) (c : FT) (e : FA) (vs : List Nat) (ρ : FEnv) (d : D) : M (Option (D × SV)) := bnd (g (.d d) (wip ρ vs)) fun ρ2 => bnd (c ρ2) fun k => if k then bnd (e ρ2) prK else ret none
noncomputable def finDP : List (D × SV) → M SV := fun acc μ => .ok (.c μ.length) (μ ++ [.dC (acc.foldl pPut ([], [])).1 (acc.foldl pPut ([], [])).2])
noncomputable def fDcP (it : FI) (g : FG) (c : FT) (e : FA) (vs : List Nat) : FX := fun ρ => bnd (it ρ) fun ds => grd (ds.length ≤ sizeLine) (bnd (dpLoop (dpStep g c e vs ρ) ds) finDP)
section
variable {n : Nat} {X : Cx} {W : WX} {iter tg : Expr} {ifs es : List Expr} {it : FI} {g : FG} {ft : FT} {fe : FA} {pos p lpos tpos : Pos} {x1 : Nat}
end
@[simp ↓] theorem fDcP_s {it : FI} {g : FG} {c : FT} {e : FA} {vs : List Nat} {ρ : FEnv} {μ : Mem} : fDcP it g c e vs ρ μ = bR (it ρ μ) fun ds => grd (ds.length ≤ sizeLine) (bnd (dpLoop (dpStep g c e vs ρ) ds) finDP) := bnd_s
@[simp] theorem prK_s {key : D} {s : SV} {μ : Mem} (h : fitK true key = true) : prK [.d key, s] μ = .ok (some (key, s)) μ := by
  show (if fitK true key = true then ret (some (key, s)) else fun _ => .no) μ = _
  rw [if_pos h]
  rfl
end PL
namespace PL
open PySem PySem.Spec PyProof.Rows L2
section
variable {X : Cx} {pos pos' : Pos}
end
end PL
namespace PL
open PySem PySem.Spec PyProof.Rows L2
abbrev MK : Type := Addr → List (D × Addr) → Heap → Prop
/-- what may go into it -/
structure OkPutN (ks : List D) (key : D) : Prop where
  few : ks.length < 1000
  each : ∀ d ∈ key :: ks, IsKeyD d ∧ okEq d = true
  tup : ∃ xs, key = .tup xs
  inj : ∀ d ∈ ks, toPy d = toPy key → d = key
section
variable {X : Cx} {W : WX} {o i e : Expr} {to ti te : TX} {tL : TXA} {pos pos' p : Pos}
end
end PL
namespace PL
open PySem PySem.Spec PyProof.Rows L2 RZ
def fNewN (mk : MK) : FX := fun _ μ => .ok (.c μ.length) (μ ++ [.dN mk []])
noncomputable def nputM (mk : MK) (so si s : SV) : M Unit := fun μ => match so, si, s with
  | .c k, .d key, .d (.bl true) => match μ[k]? with
    | some (.dN mk' ks) => grd (mk' = mk ∧ OkPutN ks key) (fun μ => .ok () (μ.set k (.dN mk (putKs ks key)))) μ
    | _ => .no
  | _, _, _ => .no
noncomputable def fNPut (mk : MK) (o i e : FX) : FS := fun ρ => bnd (e ρ) fun s => bnd (o ρ) fun so => bnd (i ρ) fun si => bnd (nputM mk so si s) fun _ => ret (.nx ρ)
section
variable {X : Cx} {W : WX} {o i e : Expr} {fo fi fe : FX} {fl : FA} {n : Nat} {pos pos' p : Pos}
end
section
variable {mk : MK} {ρ : FEnv} {μ : Mem} {o i e : FX} {k : Nat} {key : D} {ks : List D}
@[simp ↓] theorem fNewN_s : fNewN mk ρ μ = .ok (.c μ.length) (μ ++ [.dN mk []]) := rfl
@[simp ↓] theorem fNPut_s : fNPut mk o i e ρ μ = bR (e ρ μ) fun s => bnd (o ρ) fun so => bnd (i ρ) fun si => bnd (nputM mk so si s) fun _ => ret (.nx ρ) := bnd_s
end
end PL
namespace PL
open PySem PySem.Spec PyProof.Rows L2
section
variable {X : Cx} {W : WX} {e : Expr} {tL : TXA} {p pos : Pos}
def rListStr : List V → Hp → VK → Prop := fun xs H Q => ∃ x : Str, xs = [.str x] ∧ x.cps.size ≤ sizeLine ∧ ∀ l, H l = none → Q (.ref l) (upd H l (.lst (x.cps.toList.map fun c => V.str ⟨#[c]⟩)))
theorem vals_get : ∀ {xs : List V} {us : List Value}, xs.length = us.length → (∀ (j : Nat) (x : V) (u : Value), xs[j]? = some x → us[j]? = some u → RelV x u) → Vals xs us
  | [], [], _, _ => .nil
  | [], _ :: _, h, _ => by simp at h
  | _ :: _, [], h, _ => by simp at h
  | x :: xs, u :: us, h, g => .cons (g 0 x u rfl rfl) (vals_get (by simpa using h) fun j y v h1 h2 => g (j + 1) y v (by simpa using h1) (by simpa using h2))
theorem signs_vals {x : Str} {acc : Array Value} (h : ItemsOf (SignAt x) acc x.cps.size) : Vals (x.cps.toList.map fun c => V.str ⟨#[c]⟩) acc.toList := by
  refine vals_get (by simp [h.1]) fun j y u h1 h2 => ?_
  obtain ⟨c, t, e1, rfl⟩ := h.2 j u (by simpa using h2)
  have h1 : y = V.str ⟨#[c]⟩ := by
    rw [List.getElem?_map, Array.getElem?_toList, e1] at h1
    exact (Option.some.inj h1).symm
  subst h1
  exact ⟨t, rfl⟩
theorem call_listStr (hc : X.calm = true) : CallR X (.type "list") rListStr := by
  intro pins s σ H xs us Q I r q
  obtain ⟨x, ex, hz, q⟩ := q
  subst ex
  obtain ⟨u, eu, rx⟩ := vals1 r
  subst eu
  obtain ⟨t, rfl⟩ := rx
  refine call_list_str (I.ok.hd hc) x t (hn := hz) fun h' tk acc' c' hk hS' hacc => ?_
  have fr := I.hok.fresh (Nat.le_refl _)
  have hv := signs_vals hacc
  exact ⟨.ref s.heap.objs.size, upd H s.heap.objs.size (.lst (x.cps.toList.map fun c => V.str ⟨#[c]⟩)), I.laid (t' := tk) hk (Nat.le_refl _) ⟨by simpa using hz, acc'.toList, c', hv, hS'⟩, rfl, q _ fr⟩
def pListStr : List SV → Mem → VP → Prop := fun ss μ Q => match ss with
  | [.d (.str z)] => z.cps.size ≤ sizeLine ∧ Q (.d (.lst (strD z))) μ
  | _ => False
theorem strs_reps {K : PySem.W.Frag} {G : Hp} : ∀ {l : List Nat}, Reps K G (l.map fun c => D.str ⟨#[c]⟩) (l.map fun c => V.str ⟨#[c]⟩)
  | [] => .nil
  | c :: l => .cons (.str _) strs_reps
theorem pcall_listStr {K : PySem.W.Frag} : PCall K rListStr pListStr := by
  intro ss μ A G H vs Qp Q h c rs k
  match ss, h, rs with
  | [.d (.str z)], ⟨hz, q⟩, .cons r .nil =>
    cases r
    refine ⟨z, rfl, hz, fun l hl => ?_⟩
    obtain ⟨c2, s2⟩ := c.laid (o := .lst (z.cps.toList.map fun c => V.str ⟨#[c]⟩)) hl
    exact k _ _ _ _ _ _ q c2 s2 (Rep.lst upd_same strs_reps)
theorem px_listStr (hc : X.calm = true) (hg : Gl X "list") (hm : X.mg "list" = none) (ha : PXA X W [e] tL) (he : starEach [e] X.env = (false, eval e X.env) :: starEach [] X.env := by rfl) : PX X W (.Call (.Name "list" p) [e] [] pos) (xCall pListStr tL) :=
  px_callTy (call_listStr hc) pcall_listStr hg hm (by decide +kernel) ha (by decide) (by decide) he rfl
end
end PL
namespace PL
open PySem PySem.Spec PyProof.Rows L2 RZ
noncomputable def listSF : List SV → M SV := fun ss μ => match ss with
  | [.d (.str z)] => grd (z.cps.size ≤ sizeLine) (ret (.d (.lst (strD z)))) μ
  | _ => .no
theorem ok_listS : ∀ ss μ x Q, (listSF ss μ).fin x Q → pListStr ss μ Q := by
  intro ss μ x Q h
  unfold listSF at h
  unfold pListStr
  split at h
  · exact fin_grd h
  · exact h.elim
section
variable {n : Nat} {X : Cx} {W : WX} {e : Expr} {fl : FA} {pos p : Pos}
theorem pf_listS (hc : X.calm = true) (hg : Gl X "list") (hm : X.mg "list" = none) (hl : PXA X W [e] (toA n fl)) (he : starEach [e] X.env = (false, eval e X.env) :: starEach [] X.env := by rfl) : PX X W (.Call (.Name "list" p) [e] [] pos) (toX n (fCall listSF fl)) := pf_call (px_listStr hc hg hm hl he) ok_listS
end
@[simp] theorem listSF_s {z : Str} {μ : Mem} : listSF [.d (.str z)] μ = grd (z.cps.size ≤ sizeLine) (ret (.d (.lst (strD z)))) μ := rfl
end PL
namespace PL
open PySem PySem.Spec PyProof.Rows L2
open PySem.W (Datum DatumOrd)
--.
/-- two sides of ascending names -/
def okB (ths : List Str) (p : Rule) : Prop := okS ths p.1 ∧ okS ths p.2 ∧ DatumOrd.lt p.1.1 p.2.1 = true
/-- the rule that bars them -/
def bk (p : Rule) : Rule := (sBack p.1, sBack p.2)
theorem okR_bk {ths : List Str} {p : Rule} (h : okB ths p) : okR ths (bk p) := ⟨okS_back h.1, okS_back h.2.1, by
  simp only [goodRule, bk, sBack, h.2.2, Bool.or_true]⟩
end PL
namespace PL
open PySem PySem.Spec PyProof.Rows L2
open PySem.W (Datum DatumOrd)
noncomputable def f__law_below_k63 (c0 c1 c2 c3 c4 c5 c6 c7 : Int) : List SV → M SV := fDef 2 (fSeq (fIfS (fT (fOp gtF (fOp ixF (fV 0) (fC (.int 0))) (fC (.int 0)))) (fSeq (fAsg (fCall divmodF (fCons (fOp ixF (fV 0) (fC (.int 0))) (fCons (fV 1) fNil))) (gT [(gSub (fV 0) (fC (.int 0))), (gN 2)]))
  (fRet (fV 2))) fSkip)
  (fSeq (fAsg (fOp addF (fOp ixF (fV 0) (fC (.int 2))) (fC (.int 1))) (gSub (fV 0) (fC (.int 2))))
  (fSeq (fAsg (fOp modF (fCall intF (fCons (fOp addF (fOp addF (fOp mulF (fOp ixF (fV 0) (fC (.int 1))) (fC (.int c4))) (fOp mulF (fC (.int c5)) (fOp ixF (fV 0) (fC (.int 2))))) (fC (.int c6))) fNil)) (fC (.int c7))) (gN 3))
  (fSeq (fAsg (fOp modF (fCall intF (fCons (fOp addF (fOp mulF (fV 3) (fOp addF (fOp modF (fCall intF (fCons (fV 3) fNil)) (fC (.int c1))) (fC (.int c2)))) (fOp ixF (fV 0) (fC (.int 2)))) fNil)) (fC (.int c3))) (gSub (fV 0) (fC (.int 1))))
  (fRet (fOp modF (fCall intF (fCons (fOp divF (fOp ixF (fV 0) (fC (.int 1))) (fC (.int c0))) fNil)) (fV 1)))))))
--.
noncomputable def f__law_pool_k63 (c0 c1 c2 c3 c4 c5 c6 c7 c8 c9 c10 c11 c12 : Int) : List SV → M SV := fDef 2 (fSeq (fAsg (fIf (fT (fOp ltF (fV 1) (fCall lenF (fCons (fV 0) fNil)))) (fCall intF (fCons (fOp ixF (fV 0) (fV 1)) fNil)) (fOp addF (fOp mulF (fC (.int c11)) (fV 1)) (fC (.int c12)))) (gN 2))
  (fSeq (fAsg (fOp addF (fC (.int c9)) (fOp mulF (fC (.int c10)) (fV 1))) (gN 3))
  (fSeq (fFor (itF (fSl slF (fV 0) fNone (fSome (fC (.int 12))))) (gN 4) (fAsg (fOp modF (fCall intF (fCons (fOp addF (fOp addF (fOp mulF (fV 3) (fC (.int c5))) (fOp modF (fCall intF (fCons (fV 4) fNil)) (fC (.int c6)))) (fC (.int c7))) fNil)) (fC (.int c8))) (gN 3)))
  (fSeq (fAsg (fOp modF (fCall intF (fCons (fOp addF (fOp addF (fOp mulF (fV 3) (fC (.int c1))) (fOp mulF (fOp modF (fCall intF (fCons (fV 2) fNil)) (fC (.int c2))) (fC (.int c3)))) (fC (.int 11))) fNil)) (fC (.int c4))) (gN 3))
  (fRet (fLstC (fCons (fIf (fTOr (fT (fOp ltF (fV 2) (fC (.int 0)))) (fT (fOp geF (fV 2) (fOp powF (fC (.int 10)) (fC (.int 15)))))) (fOp modF (fCall intF (fCons (fCall absF (fCons (fV 2) fNil)) fNil)) (fOp powF (fC (.int 10)) (fC (.int c0)))) (fC (.int 0))) (fCons (fV 3) (fCons (fC (.int 0)) fNil)))))))))
--.
theorem below3_bel {c0 c1 c2 c3 c4 c5 c6 c7 : Int} (h0 : 0 < c0 ∧ c0 < 1073741824) (h1 : 0 < c1 ∧ c1 < 1073741824) (h2 : 0 < c2 ∧ c2 < 1073741824) (h3 : 0 < c3) (h4 : 0 < c4 ∧ c4 < 1073741824) (h5 : 0 < c5 ∧ c5 < 1073741824) (h7 : 0 < c7) : Bel (f__law_below_k63 c0 c1 c2 c3 c4 c5 c6 c7) where
  ok n p hn hn2 := by
    obtain ⟨a, b, c⟩ := p
    have g1 : CDiv a n := ⟨hn, hn2⟩
    have g2 : ∀ z, CDiv z c0 := fun z => ⟨h0.1, h0.2⟩
    have g4 : ∀ z, CMul z c4 := fun z => .inr ⟨by omega, by omega⟩
    have g5 : ∀ z, CMul c5 z := fun z => .inl ⟨by omega, by omega⟩
    have g3 : ∀ z y, CMul z (y % c1 + c2) := fun z y => .inr ⟨by have := Int.emod_nonneg y (show c1 ≠ 0 by omega); omega, by have := Int.emod_lt_of_pos y h1.1; omega⟩
    by_cases ha : 0 < a
    · refine ⟨a % n, (a / n, b, c), Int.emod_nonneg _ (by omega), Int.emod_lt_of_pos _ hn, ?_⟩
      simp [isK, isKB, tupD, sizeLine_eq, f__law_below_k63, pc, ixOf_c, ixN30, ixN31, ixN32, ha, g1, hn]
    · exact ⟨_, (_, _, _), Int.emod_nonneg _ (show n ≠ 0 by omega), Int.emod_lt_of_pos _ hn, by
        simp [isK, isKB, tupD, sizeLine_eq, f__law_below_k63, pc, ixOf_c, ixN30, ixN31, ixN32, ha, g1, g2, g3, g4, g5, hn, h1.1, h3, h7]
        exact ⟨rfl, rfl, rfl, rfl⟩⟩
theorem pool3_ok {c1 c2 c3 c4 c5 c6 c7 c8 c9 c10 c11 c12 : Int} {ns : List Int} {lap : Nat} (hlap : lap < 100) (h1 : 0 < c1 ∧ c1 < 1073741824) (h2 : 0 < c2) (h3 : 0 < c3 ∧ c3 < 1073741824) (h4 : 0 < c4) (h5 : 0 < c5 ∧ c5 < 1073741824) (h6 : 0 < c6) (h8 : 0 < c8) (h10 : 0 < c10 ∧ c10 < 1073741824) (h11 : 0 < c11 ∧ c11 < 1073741824) :
    ∃ p, f__law_pool_k63 60 c1 c2 c3 c4 c5 c6 c7 c8 c9 c10 c11 c12 [.d (.scr ns), .d (.int lap)] [] = .ok (.c 0) [pc p] := by
  have key : gives (f__law_pool_k63 60 c1 c2 c3 c4 c5 c6 c7 c8 c9 c10 c11 c12 [.d (.scr ns), .d (.int lap)] []) fun s μ => ∃ p, s = .c 0 ∧ μ = [pc p] := by
    have g1 : ∀ z, CMul z c1 := fun z => .inr ⟨by omega, by omega⟩
    have g3 : ∀ z, CMul z c3 := fun z => .inr ⟨by omega, by omega⟩
    have g5 : ∀ z, CMul z c5 := fun z => .inr ⟨by omega, by omega⟩
    have g10 : CMul c10 lap := .inl ⟨by omega, by omega⟩
    have g11 : CMul c11 lap := .inl ⟨by omega, by omega⟩
    have gp : CPow 10 15 := ⟨by decide, by decide, by decide⟩
    have gq : CPow 10 60 := ⟨by decide, by decide, by decide⟩
    have hcell : ∃ z : Int, ∀ ρ, ρ 0 = .d (.scr ns) → ρ 1 = .d (.int lap) → (fIf (fT (fOp ltF (fV 1) (fCall lenF (fCons (fV 0) fNil)))) (fCall intF (fCons (fOp ixF (fV 0) (fV 1)) fNil)) (fOp addF (fOp mulF (fC (.int c11)) (fV 1)) (fC (.int c12)))) ρ [] = .ok (.d (.int z)) [] := by
      by_cases hl : (lap : Int) < ns.length
      · have hl2 : lap < ns.length := by omega
        exact ⟨ns[lap], fun ρ r0 r1 => by simp [r0, r1, hl, hl2]⟩
      · exact ⟨c11 * lap + c12, fun ρ r0 r1 => by simp [r0, r1, hl, g11]⟩
    obtain ⟨z, hz⟩ := hcell
    have hz := hz (fstart [.d (.scr ns), .d (.int lap)]) rfl rfl
    simp only [f__law_pool_k63, fDef_s, fSeq_s, fAsg_s, hz, List.length_cons, List.length_nil, bR_ok, bnd_s, gN_s, ret_s, sK_nx]
    simp [g10]
    generalize el : fLoop _ _ _ _ = w
    obtain ⟨ρ', μ', rfl, r0, r2, ⟨s, r3⟩, rfl⟩ := loop_inv el (fun _ ρ μ => ρ 0 = .d (.scr ns) ∧ ρ 2 = .d (.int z) ∧ (∃ s : Int, ρ 3 = .d (.int s)) ∧ μ = []) ⟨rfl, rfl, ⟨_, rfl⟩, rfl⟩ (by
      rintro i d ρ μ hd ⟨r0, r2, ⟨s, r3⟩, rfl⟩
      obtain ⟨x, _, rfl⟩ := List.mem_map.mp (cutD_mem (List.mem_of_getElem? hd))
      simp [r3, g5, h6, h8]
      exact ⟨by simp [r0], by simp [r2], ⟨_, by simp; rfl⟩, rfl⟩)
    have hpow : (0 : Int) < 10 ^ (60 : Int).toNat := by decide
    by_cases hn : z < 0
    · simp [r2, r3, g1, g3, h2, h4, hn, gq, sizeLine_eq]
      exact gives_ok ⟨(_, _, _), rfl, rfl⟩
    · by_cases hn2 : (1000000000000000 : Int) ≤ z
      · simp [r2, r3, g1, g3, h2, h4, hn, hn2, gp, gq, sizeLine_eq]
        exact gives_ok ⟨(_, _, _), rfl, rfl⟩
      · simp [r2, r3, g1, g3, h2, h4, hn, hn2, gp, gq, sizeLine_eq]
        exact gives_ok ⟨(_, _, _), rfl, rfl⟩
  obtain ⟨_, _, e, p, rfl, rfl⟩ := key
  exact ⟨p, e⟩

end PL
namespace PL
open PySem PySem.Spec PyProof.Rows L2
open PySem.W (Datum DatumOrd)
noncomputable def f_rule_of : List SV → M SV := fDef 2 (fRet (fIf (fT (fOp leF (fV 0) (fV 1))) (fTup (fCons (fV 0) (fCons (fV 1) fNil))) (fTup (fCons (fV 1) (fCons (fV 0) fNil)))))
--.
noncomputable def f_strip_by : List SV → M SV := fDef 2 (fSeq (fAsg (fV 0) (gT [(gN 2), (gN 3), (gN 4), (gN 5)]))
  (fSeq (fAsg (fIf (fT (fOp eqF (fV 1) (fC (.int 1)))) (fV 2) (fOp subF (fV 2) (fV 4))) (gN 6))
  (fRet (fTup (fCons (fV 6) (fCons (fV 3) (fCons (fOp addF (fV 6) (fV 4)) (fCons (fOp addF (fV 3) (fV 5)) fNil))))))))
--.
noncomputable def f_do_overlap : List SV → M SV := fDef 2 (fSeq (fIfS (fTOr (fT (fOp leF (fOp ixF (fV 0) (fC (.int 2))) (fOp ixF (fV 1) (fC (.int 0))))) (fT (fOp leF (fOp ixF (fV 1) (fC (.int 2))) (fOp ixF (fV 0) (fC (.int 0)))))) (fRet (fC (.bl false))) fSkip)
  (fRet (fAnd (fOp ltF (fOp ixF (fV 0) (fC (.int 1))) (fOp ixF (fV 1) (fC (.int 3)))) (fOp ltF (fOp ixF (fV 1) (fC (.int 1))) (fOp ixF (fV 0) (fC (.int 3)))))))
--.
noncomputable def f_letters_of : List SV → M SV := fDef 1 (fRet (fCall tupF (fCons (fCall listSF (fCons (fSl slF (fC (.str "abcdefghijklmnopqrstuvwxyz")) fNone (fSome (fV 0))) fNil)) fNil)))
--.
noncomputable def f__law_strip : List SV → M SV := fDef 2 (fSeq (fAsg (fV 0) (gT [(gN 2), (gN 3), (gN 4), (gN 5)]))
  (fRet (fIf (fT (fOp eqF (fV 1) (fC (.int 1)))) (fTup (fCons (fV 2) (fCons (fV 3) (fCons (fOp addF (fV 2) (fV 4)) (fCons (fOp addF (fV 3) (fV 5)) fNil))))) (fTup (fCons (fOp subF (fV 2) (fV 4)) (fCons (fV 3) (fCons (fV 2) (fCons (fOp addF (fV 3) (fV 5)) fNil))))))))
--.
noncomputable def f__law_do_clash : List SV → M SV := fDef 2 (fRet (fAnd (fOp ltF (fOp ixF (fV 0) (fC (.int 0))) (fOp ixF (fV 1) (fC (.int 2)))) (fAnd (fOp ltF (fOp ixF (fV 1) (fC (.int 0))) (fOp ixF (fV 0) (fC (.int 2)))) (fAnd (fOp ltF (fOp ixF (fV 0) (fC (.int 1))) (fOp ixF (fV 1) (fC (.int 3)))) (fOp ltF (fOp ixF (fV 1) (fC (.int 1))) (fOp ixF (fV 0) (fC (.int 3))))))))
--.
noncomputable def f_do_clash_by : List SV → M SV := fDef 5 (fRet (fCall (callM f_do_overlap) (fCons (fCall (callM f_strip_by) (fCons (fOp ixF (fV 0) (fV 1)) (fCons (fV 2) fNil))) (fCons (fCall (callM f_strip_by) (fCons (fOp ixF (fV 0) (fV 3)) (fCons (fV 4) fNil))) fNil))))
--.
noncomputable def f_is_place : List SV → M SV := fDef 1 (fSeq (fIfS (fTNot (fT (fCall (callM f_are_between) (fCons (fV 0) (fCons (fC (.int 4)) (fCons (fC (.int 0)) (fCons (fC (.int 999)) fNil))))))) (fRet (fC (.bl false))) fSkip)
  (fSeq (fAsg (fV 0) (gT [(gN 1), (gN 2), (gN 3), (gN 4)]))
  (fRet (fAnd (fOp gtF (fV 3) (fC (.int 0))) (fAnd (fOp gtF (fV 4) (fC (.int 0))) (fOp geF (fV 1) (fV 3)))))))
--.
noncomputable def f_wrong_in_places : List SV → M SV := fDef 1 (fRet (fCall (callM (f_first_wrong (tabC "is_place" f_is_place tab0))) (fCons (fV 0) (fCons (fC (.int 1)) (fCons (fC (.int 14)) (fCons (fC (.fn "is_place")) (fCons (fC (.bl false)) fNil)))))))
--.
noncomputable def f_check_places : List SV → M SV := fDef 1 (fFor (itF (fCall (callM f_wrong_in_places) (fCons (fV 0) fNil))) (gN 1) fNever)
--.
--.
--.
--.
--.
noncomputable def f_rules_at_labelwork : List SV → M SV := fDef 3 (fSeq (fAsg (fLstC fNil) (gN 3))
  (fSeq (fFor (gcF [0, 1]) (gN 4) (fFor (gcF [0, 1]) (gN 5) (fIfS (fT (fCall (callM f_do_clash_by) (fCons (fV 0) (fCons (fV 1) (fCons (fV 4) (fCons (fV 2) (fCons (fV 5) fNil))))))) (fExpr (fMethL appendF (fV 3) (fCons (fCall (callM f_rule_of) (fCons (fTup (fCons (fOp ixF (fC (.str "abcdefghijklmnopqrstuvwxyz")) (fV 1)) (fCons (fOp subF (fC (.int 1)) (fV 4)) fNil))) (fCons (fTup (fCons (fOp ixF (fC (.str "abcdefghijklmnopqrstuvwxyz")) (fV 2)) (fCons (fOp subF (fC (.int 1)) (fV 5)) fNil))) fNil))) fNil))) fSkip)))
  (fRet (fV 3))))
--.
noncomputable def f_label_book_by : List SV → M SV := fDef 1 (fSeq (fPar 1 2 (fCons (fCall lenF (fCons (fV 0) fNil)) (fCons (fLstC fNil) fNil)))
  (fSeq (fFor (rng1F (fCons (fV 1) fNil)) (gN 3) (fFor (rng2F (fCons (fOp addF (fV 3) (fC (.int 1))) (fCons (fV 1) fNil))) (gN 4) (fExpr (fMethL extendF (fV 2) (fCons (fCall (callMF f_rules_at_labelwork) (fCons (fV 0) (fCons (fV 3) (fCons (fV 4) fNil)))) fNil)))))
  (fRet (fCall (callM f_with_rules) (fCons (fCall (callM f_letters_of) (fCons (fV 1) fNil)) (fCons (fV 2) fNil))))))
--.
noncomputable def f_labels_by : List SV → M SV := fDef 1 (fRet (fCall (callM f_choosing_by) (fCons (fCall (callM f_label_book_by) (fCons (fV 0) fNil)) fNil)))
--.
noncomputable def f_labels : List SV → M SV := fDef 1 (fSeq (fExpr (fCall (callM f_check_places) (fCons (fV 0) fNil)))
  (fRet (fCall (callM f_labels_by) (fCons (fV 0) fNil))))
--.
--.
noncomputable def f__law_places (BEL : List SV → M SV) : List SV → M SV := fDef 2 (fSeq (fAsg (fLstC fNil) (gN 2))
  (fSeq (fFor (rng1F (fCons (fV 1) fNil)) (gN 3) (fSeq (fAsg (fOp addF (fC (.int 1)) (fCall (callM BEL) (fCons (fV 0) (fCons (fC (.int 6)) fNil)))) (gN 4))
  (fExpr (fMethL appendF (fV 2) (fCons (fTup (fCons (fOp addF (fV 4) (fCall (callM BEL) (fCons (fV 0) (fCons (fC (.int 9)) fNil)))) (fCons (fCall (callM BEL) (fCons (fV 0) (fCons (fC (.int 6)) fNil))) (fCons (fV 4) (fCons (fOp addF (fC (.int 1)) (fCall (callM BEL) (fCons (fV 0) (fCons (fC (.int 4)) fNil)))) fNil))))) fNil)))))
  (fRet (fCall tupF (fCons (fV 2) fNil)))))
--.
noncomputable def f__law_fits : List SV → M SV := fDef 2 (fSeq (fAsg (fLc finLF (zipF (fCons (fV 0) (fCons (fV 1) fNil))) (gT [(gN 5), (gN 6)]) fYes (fCall (callM f__law_strip) (fCons (fV 5) (fCons (fV 6) fNil))) [5, 6]) (gN 2))
  (fSeq (fFor (enumF (fCons (fV 2) fNil)) (gT [(gN 3), (gN 4)]) (fIfS (fT (fCall anyF (fCons (fLc finLF (itF (fSl slF (fV 2) fNone (fSome (fV 3)))) (gN 7) fYes (fCall (callM f__law_do_clash) (fCons (fV 4) (fCons (fV 7) fNil))) [7]) fNil))) (fRet (fC (.bl false))) fSkip))
  (fRet (fC (.bl true)))))
--.
--.
/-- where a label is to stand, its size -/
abbrev Pla := Int × Int × Int × Int
abbrev plD (q : Pla) : D := .tup [.int q.1, .int q.2.1, .int q.2.2.1, .int q.2.2.2]
def okP (q : Pla) : Prop := (0 ≤ q.1 ∧ q.1 ≤ 999) ∧ (0 ≤ q.2.1 ∧ q.2.1 ≤ 999) ∧ (0 < q.2.2.1 ∧ q.2.2.1 ≤ 999) ∧ (0 < q.2.2.2 ∧ q.2.2.2 ≤ 999) ∧ q.2.2.1 ≤ q.1
def strip (q : Pla) (a : Int) : Pla := if a = 1 then (q.1, q.2.1, q.1 + q.2.2.1, q.2.1 + q.2.2.2) else (q.1 - q.2.2.1, q.2.1, q.1, q.2.1 + q.2.2.2)
def ovl (s r : Pla) : Bool := decide (s.1 < r.2.2.1) && (decide (r.1 < s.2.2.1) && (decide (s.2.1 < r.2.2.2) && decide (r.2.1 < s.2.2.2)))
theorem ovl_comm {s r : Pla} : ovl s r = ovl r s := by
  unfold ovl
  rw [Bool.eq_iff_iff]
  simp only [Bool.and_eq_true]
  constructor <;> (rintro ⟨a, b, c, d⟩; exact ⟨b, a, d, c⟩)
theorem strip_by_ok {q : Pla} {a : Int} {μ : Mem} : f_strip_by [.d (plD q), .d (.int a)] μ = .ok (.d (plD (strip q a))) μ := by
  obtain ⟨x, y, w, t⟩ := q
  by_cases h : a = 1
  · simp (disch := first | assumption | omega | (simp [sizeLine_eq]; done) | (simp [sizeLine_eq]; omega) | fail) [isK, isKB, tupD, sizeLine_eq, grd_pos, f_strip_by, h, strip]
  · have : x - w + w = x := by omega
    simp (disch := first | assumption | omega | (simp [sizeLine_eq]; done) | (simp [sizeLine_eq]; omega) | fail) [isK, isKB, tupD, sizeLine_eq, grd_pos, f_strip_by, h, strip, this]
theorem law_strip_ok {q : Pla} {a : Int} {μ : Mem} : f__law_strip [.d (plD q), .d (.int a)] μ = .ok (.d (plD (strip q a))) μ := by
  obtain ⟨x, y, w, t⟩ := q
  by_cases h : a = 1 <;> simp (disch := first | assumption | omega | (simp [sizeLine_eq]; done) | (simp [sizeLine_eq]; omega) | fail) [isK, isKB, tupD, sizeLine_eq, grd_pos, f__law_strip, h, strip]
theorem do_overlap_ok {s r : Pla} {μ : Mem} : f_do_overlap [.d (plD s), .d (plD r)] μ = .ok (.d (.bl (ovl s r))) μ := by
  obtain ⟨a, b, c, d⟩ := s
  obtain ⟨e, f, g, h⟩ := r
  by_cases h1 : c ≤ e
  · have h2 : ¬ e < c := by omega
    simp (disch := first | assumption | omega | (simp [sizeLine_eq]; done) | (simp [sizeLine_eq]; omega) | fail) [isK, isKB, tupD, sizeLine_eq, grd_pos, f_do_overlap, ovl, h1, h2]
  · have h2 : e < c := by omega
    by_cases h3 : g ≤ a
    · have h4 : ¬ a < g := by omega
      simp (disch := first | assumption | omega | (simp [sizeLine_eq]; done) | (simp [sizeLine_eq]; omega) | fail) [isK, isKB, tupD, sizeLine_eq, grd_pos, f_do_overlap, ovl, h1, h2, h3, h4]
    · have h4 : a < g := by omega
      by_cases h5 : b < h <;> simp (disch := first | assumption | omega | (simp [sizeLine_eq]; done) | (simp [sizeLine_eq]; omega) | fail) [isK, isKB, tupD, sizeLine_eq, grd_pos, f_do_overlap, ovl, h1, h2, h3, h4, h5]
theorem law_do_clash_ok {s r : Pla} {μ : Mem} : f__law_do_clash [.d (plD s), .d (plD r)] μ = .ok (.d (.bl (ovl s r))) μ := by
  obtain ⟨a, b, c, d⟩ := s
  obtain ⟨e, f, g, h⟩ := r
  by_cases h1 : a < g <;> by_cases h2 : e < c <;> by_cases h3 : b < h <;> simp (disch := first | assumption | omega | (simp [sizeLine_eq]; done) | (simp [sizeLine_eq]; omega) | fail) [isK, isKB, tupD, sizeLine_eq, grd_pos, f__law_do_clash, ovl, h1, h2, h3]
theorem plain_pl {q : Pla} : plain (plD q) = true := rfl
theorem is_place_ok {q : Pla} {μ : Mem} (h : okP q) : f_is_place [.d (plD q)] μ = .ok (.d (.bl true)) μ := by
  obtain ⟨⟨h1, h2⟩, ⟨h3, h4⟩, ⟨h5, h6⟩, ⟨h7, h8⟩, h9⟩ := h
  obtain ⟨x, y, w, t⟩ := q
  simp only at h1 h2 h3 h4 h5 h6 h7 h8 h9
  have ab : ∀ μ, f_are_between [.d (plD (x, y, w, t)), .d (.int 4), .d (.int 0), .d (.int 999)] μ = .ok (.d (.bl true)) μ := fun μ => (are_between_ok (v := plD (x, y, w, t)) (n := 4) (lo := 0) (hi := 999) (μ := μ) rfl).trans (by
    simp [tupD, betwB]
    omega)
  simp (disch := first | assumption | omega | (simp [sizeLine_eq]; done) | (simp [sizeLine_eq]; omega) | fail) [isK, isKB, tupD, sizeLine_eq, grd_pos, f_is_place, ab, h5, h7, h9]
theorem check_places_ok {P : List Pla} {w : D} {μ : Mem} (h : ∀ q ∈ P, okP q) (h0 : 1 ≤ P.length) (h1 : P.length ≤ 14) (hw : tupD w = some (P.map plD)) : f_check_places [.d w] μ = .ok (.d .non) μ := by
  have hp : plain w = true := by
    have : plains (P.map plD) = true := plains_iff.mpr fun d hd => by
      obtain ⟨q, _, rfl⟩ := List.mem_map.mp hd
      exact plain_pl
    cases w <;> simp [tupD] at hw <;> subst hw <;> simp [plain] <;> exact ⟨by omega, this⟩
  have key := fun μ => first_wrong_ok (T := tabC "is_place" f_is_place tab0) (f := "is_place") (g := f_is_place) (P := fun _ => true) (le := fun _ _ => true) (rise := false) (lo := 1) (hi := 14) (μ := μ) hp rfl (fun l e hl he => by
    rw [hw] at hl
    cases hl
    obtain ⟨q, hq, rfl⟩ := List.mem_map.mp he
    exact ⟨_, is_place_ok (h q hq)⟩) (fun _ _ _ _ _ _ _ _ z => by cases z)
  have e : wrongD (fun _ => true) (fun _ _ => true) false 1 14 w = .lst [] := by
    have hf : firstP (P.map plD).length (badAt (fun _ => true) (fun _ _ => true) false (P.map plD)) = none := firstP_none.mpr fun i _ => by
      unfold badAt
      split <;> rfl
    unfold wrongD
    rw [hw]
    simp only
    rw [if_pos ⟨by rw [List.length_map]; omega, by rw [List.length_map]; omega⟩, hf]
  rw [e] at key
  simp (disch := first | assumption | omega | (simp [sizeLine_eq]; done) | (simp [sizeLine_eq]; omega) | fail) [isK, isKB, tupD, sizeLine_eq, grd_pos, f_check_places, f_wrong_in_places, key]
def cl2 (p q : Pla) (a c : Int) : Bool := ovl (strip p a) (strip q c)
theorem clash_by_ok {P : List Pla} {w : D} {i j : Nat} {p q : Pla} {a c : Int} {μ : Mem} (hw : tupD w = some (P.map plD)) (hi : P[i]? = some p) (hj : P[j]? = some q) : f_do_clash_by [.d w, .d (.int i), .d (.int a), .d (.int j), .d (.int c)] μ = .ok (.d (.bl (cl2 p q a c))) μ := by
  have i1 := fun μ => ixT (w := w) (i := i) (μ := μ) hw (d := plD p) (by rw [List.getElem?_map, hi]; rfl)
  have i2 := fun μ => ixT (w := w) (i := j) (μ := μ) hw (d := plD q) (by rw [List.getElem?_map, hj]; rfl)
  have s1 := fun q a μ => strip_by_ok (q := q) (a := a) (μ := μ)
  have s2 := fun s r μ => do_overlap_ok (s := s) (r := r) (μ := μ)
  simp (disch := first | assumption | omega | (simp [sizeLine_eq]; done) | (simp [sizeLine_eq]; omega) | fail) [isK, isKB, tupD, sizeLine_eq, grd_pos, f_do_clash_by, i1, i2, s1, s2, cl2]
def four : List (Int × Int) := [(0, 0), (0, 1), (1, 0), (1, 1)]
def bar4 (p q : Pla) (x y : Str) : List Rule := (four.filter fun ac => cl2 p q ac.1 ac.2).map fun ac => ((x, ac.1), (y, ac.2))
theorem bar4_len {p q : Pla} {x y : Str} : (bar4 p q x y).length ≤ 4 := by
  unfold bar4
  rw [List.length_map]
  exact List.length_filter_le _ four
def barAt (ths : List Str) (P : List Pla) (i j : Nat) : List Rule := match P[i]?, P[j]?, ths[i]?, ths[j]? with
  | some p, some q, some x, some y => bar4 p q x y
  | _, _, _, _ => []
theorem barAt_eq {ths : List Str} {P : List Pla} {i j : Nat} {p q : Pla} {x y : Str} (h1 : P[i]? = some p) (h2 : P[j]? = some q) (h3 : ths[i]? = some x) (h4 : ths[j]? = some y) : barAt ths P i j = bar4 p q x y := by
  unfold barAt
  rw [h1, h2, h3, h4]
theorem barAt_len {ths : List Str} {P : List Pla} {i j : Nat} : (barAt ths P i j).length ≤ 4 := by
  unfold barAt
  split
  · exact bar4_len
  · simp
def rowTo (ths : List Str) (P : List Pla) (i k : Nat) : List Rule := (List.range k).flatMap fun k => barAt ths P i (i + 1 + k)
def barTo (ths : List Str) (P : List Pla) (i : Nat) : List Rule := (List.range i).flatMap fun i => rowTo ths P i (P.length - (i + 1))
abbrev bars (ths : List Str) (P : List Pla) : List Rule := barTo ths P P.length
theorem rowTo_succ {ths : List Str} {P : List Pla} {i k : Nat} : rowTo ths P i (k + 1) = rowTo ths P i k ++ barAt ths P i (i + 1 + k) := by
  unfold rowTo
  rw [List.range_succ, List.flatMap_append]
  simp
theorem barTo_succ {ths : List Str} {P : List Pla} {i : Nat} : barTo ths P (i + 1) = barTo ths P i ++ rowTo ths P i (P.length - (i + 1)) := by
  unfold barTo
  rw [List.range_succ, List.flatMap_append]
  simp
theorem rowTo_len {ths : List Str} {P : List Pla} {i : Nat} : ∀ {k : Nat}, (rowTo ths P i k).length ≤ 4 * k
  | 0 => by simp [rowTo]
  | k + 1 => by
    rw [rowTo_succ, List.length_append]
    have := rowTo_len (ths := ths) (P := P) (i := i) (k := k)
    have := barAt_len (ths := ths) (P := P) (i := i) (j := i + 1 + k)
    omega
/-- what it costs at most -/
theorem barTo_len {ths : List Str} {P : List Pla} (h : P.length ≤ 14) : ∀ {i : Nat}, i ≤ P.length → (barTo ths P i).length ≤ 56 * i
  | 0, _ => by simp [barTo]
  | i + 1, hi => by
    rw [barTo_succ, List.length_append]
    have := barTo_len (ths := ths) h (i := i) (by omega)
    have := rowTo_len (ths := ths) (P := P) (i := i) (k := P.length - (i + 1))
    omega
theorem bars_len8 {ths : List Str} {P : List Pla} (h : P.length ≤ 8) : (bars ths P).length ≤ 112 := by
  have l0 : (barTo ths P 0).length = 0 := by simp [barTo]
  have r := fun i => rowTo_len (ths := ths) (P := P) (i := i) (k := P.length - (i + 1))
  have s := fun i => congrArg List.length (barTo_succ (ths := ths) (P := P) (i := i))
  simp only [List.length_append] at s
  have r0 := r 0; have r1 := r 1; have r2 := r 2; have r3 := r 3; have r4 := r 4; have r5 := r 5; have r6 := r 6; have r7 := r 7
  have s0 := s 0; have s1 := s 1; have s2 := s 2; have s3 := s 3; have s4 := s 4; have s5 := s 5; have s6 := s 6; have s7 := s 7
  have hn : P.length = 0 ∨ P.length = 1 ∨ P.length = 2 ∨ P.length = 3 ∨ P.length = 4 ∨ P.length = 5 ∨ P.length = 6 ∨ P.length = 7 ∨ P.length = 8 := by omega
  show (barTo ths P P.length).length ≤ 112
  rcases hn with e | e | e | e | e | e | e | e | e <;> rw [e] at r0 r1 r2 r3 r4 r5 r6 r7 s0 s1 s2 s3 s4 s5 s6 s7 ⊢ <;> simp only [Nat.zero_add, Nat.reduceAdd, Nat.reduceSub] at * <;> omega
theorem bar4_mem {p q : Pla} {x y : Str} {r : Rule} : r ∈ bar4 p q x y ↔ r.1.1 = x ∧ r.2.1 = y ∧ (r.1.2 = 0 ∨ r.1.2 = 1) ∧ (r.2.2 = 0 ∨ r.2.2 = 1) ∧ cl2 p q r.1.2 r.2.2 = true := by
  unfold bar4
  simp only [List.mem_map, List.mem_filter]
  constructor
  · rintro ⟨⟨a, c⟩, ⟨hm, hc⟩, rfl⟩
    simp only [four, List.mem_cons, Prod.mk.injEq, List.not_mem_nil, or_false] at hm
    refine ⟨rfl, rfl, ?_, ?_, hc⟩ <;> simp only <;> omega
  · rintro ⟨rfl, rfl, ha, hc, h⟩
    refine ⟨(r.1.2, r.2.2), ⟨?_, h⟩, rfl⟩
    simp only [four, List.mem_cons, Prod.mk.injEq, List.not_mem_nil, or_false]
    omega
theorem at_of {α : Type} {l : List α} {i : Nat} (h : i < l.length) : ∃ a, l[i]? = some a := ⟨_, List.getElem?_eq_getElem h⟩
theorem rng_at {lo : Int} {n i : Nat} {d : D} (h : (rngD lo n)[i]? = some d) : i < n ∧ d = .int (lo + (i : Nat)) := by
  have hi := (List.getElem?_eq_some_iff.mp h).1
  rw [rngD_len] at hi
  unfold rngD at h
  rw [List.getElem?_map, List.getElem?_range hi] at h
  exact ⟨hi, (Option.some.inj h).symm⟩
def LT : List Str := ["a", "b", "c", "d", "e", "f", "g", "h", "i", "j", "k", "l", "m", "n"]
abbrev thsN (n : Nat) : List Str := LT.take n
theorem lt_ix {i : Nat} {x : Str} {μ : Mem} (h : LT[i]? = some x) : ixF (.d (.str "abcdefghijklmnopqrstuvwxyz")) (.d (.int i)) μ = .ok (.d (.str x)) μ := by
  have hi := (List.getElem?_eq_some_iff.mp h).1
  have hi : i < 14 := hi
  have hn : i = 0 ∨ i = 1 ∨ i = 2 ∨ i = 3 ∨ i = 4 ∨ i = 5 ∨ i = 6 ∨ i = 7 ∨ i = 8 ∨ i = 9 ∨ i = 10 ∨ i = 11 ∨ i = 12 ∨ i = 13 := by omega
  rcases hn with rfl | rfl | rfl | rfl | rfl | rfl | rfl | rfl | rfl | rfl | rfl | rfl | rfl | rfl <;> cases h <;> rfl
theorem thsN_ths {n : Nat} (h0 : 1 ≤ n) (h1 : n ≤ 14) : Ths (.ntp ((thsN n).map .str)) (thsN n) := by
  have hn : n = 1 ∨ n = 2 ∨ n = 3 ∨ n = 4 ∨ n = 5 ∨ n = 6 ∨ n = 7 ∨ n = 8 ∨ n = 9 ∨ n = 10 ∨ n = 11 ∨ n = 12 ∨ n = 13 ∨ n = 14 := by omega
  rcases hn with rfl | rfl | rfl | rfl | rfl | rfl | rfl | rfl | rfl | rfl | rfl | rfl | rfl | rfl <;> exact ⟨.inr rfl, by decide +kernel, by decide +kernel, by decide +kernel, by decide +kernel⟩
theorem rule_of_ok {ths : List Str} {p : Rule} {μ : Mem} (hnm : ∀ x ∈ ths, nmB x = true) (h : okS ths p.1 ∧ okS ths p.2 ∧ DatumOrd.lt p.1.1 p.2.1 = true) : f_rule_of [.d (sD p.1), .d (sD p.2)] μ = .ok (.d (rD p)) μ := by
  have le := fun μ => (is_side_is h.1 hnm).leF (is_side_is h.2.1 hnm) rfl rfl (μ := μ)
  have lt : DatumOrd.lt p.1 p.2 = true := by
    rw [dlt_pair, if_neg (dlt_ne h.2.2)]; exact h.2.2
  have : DatumOrd.lt p.2 p.1 = false := dlt_asymm lt
  simp (disch := first | assumption | omega | (simp [sizeLine_eq]; done) | (simp [sizeLine_eq]; omega) | fail) [isK, isKB, tupD, sizeLine_eq, grd_pos, f_rule_of, le, this]
theorem thsN_at {n i : Nat} {x : Str} (h : (thsN n)[i]? = some x) : LT[i]? = some x := by
  have hi := (List.getElem?_eq_some_iff.mp h).1
  rw [List.length_take] at hi
  rw [List.getElem?_take] at h
  rw [if_pos (by omega)] at h
  exact h
theorem thsN_lt {n i j : Nat} {x y : Str} (t : Ths (.ntp ((thsN n).map .str)) (thsN n)) (hx : (thsN n)[i]? = some x) (hy : (thsN n)[j]? = some y) (h : i < j) : DatumOrd.lt x y = true := by
  obtain ⟨l1, e1⟩ := List.getElem?_eq_some_iff.mp hx
  obtain ⟨l2, e2⟩ := List.getElem?_eq_some_iff.mp hy
  have := List.pairwise_iff_getElem.mp t.rise i j l1 l2 h
  rw [e1, e2] at this
  exact this
theorem rules_at_ok3 {n i j : Nat} {P : List Pla} {w : D} {p q : Pla} {x y : Str} (h1 : n ≤ 14) (hw : tupD w = some (P.map plD)) (hi : P[i]? = some p) (hj : P[j]? = some q) (hx : (thsN n)[i]? = some x) (hy : (thsN n)[j]? = some y) (ij : i < j) :
    f_rules_at_labelwork [.d w, .d (.int i), .d (.int j)] [] = .ok (.c 0) [.lst (((bar4 p q x y).map bk).map rD)] := by
  have n1 : 1 ≤ n := by
    have := (List.getElem?_eq_some_iff.mp hx).1
    rw [List.length_take] at this
    omega
  have t := thsN_ths n1 h1
  have hnm : ∀ x ∈ thsN n, nmB x = true := fun x hx => (t.name x hx).1
  have lt := thsN_lt t hx hy ij
  have mx := List.mem_of_getElem? hx
  have my := List.mem_of_getElem? hy
  have cb := fun (a c : Int) μ => clash_by_ok (a := a) (c := c) (μ := μ) hw hi hj
  have ro := fun (a c : Int) (ha : a = 0 ∨ a = 1) (hc : c = 0 ∨ c = 1) μ => rule_of_ok (p := ((x, a), (y, c))) (μ := μ) hnm ⟨⟨mx, ha⟩, ⟨my, hc⟩, lt⟩
  have r00 := ro 0 0 (.inl rfl) (.inl rfl)
  have r01 := ro 0 1 (.inl rfl) (.inr rfl)
  have r10 := ro 1 0 (.inr rfl) (.inl rfl)
  have r11 := ro 1 1 (.inr rfl) (.inr rfl)
  have i1 := fun μ => lt_ix (μ := μ) (thsN_at hx)
  have i2 := fun μ => lt_ix (μ := μ) (thsN_at hy)
  have sz : 1000000 ≤ sizeLine := sizeLine_le (n := 1000000) (by decide)
  have c00 := cb 0 0
  have c01 := cb 0 1
  have c10 := cb 1 0
  have c11 := cb 1 1
  have ap : ∀ (l : List D) (y : D), l.length < 5 → appendF (.c 0) [.d y] [.lst l] = .ok (.d .non) [.lst (l ++ [y])] := fun l y hl => appendF_c (k := 0) (y := y) (μ := [.lst l]) rfl (by omega)
  have lo : ∀ l : List D, lstOf (.c 0) [.lst l] = some l := fun _ => rfl
  unfold bar4 four
  cases g1 : cl2 p q 0 0 <;> cases g2 : cl2 p q 0 1 <;> cases g3 : cl2 p q 1 0 <;> cases g4 : cl2 p q 1 1 <;> rw [g1] at c00 <;> rw [g2] at c01 <;> rw [g3] at c10 <;> rw [g4] at c11 <;>
    simp (disch := first | assumption | omega | (simp [sizeLine_eq]; done) | (simp [sizeLine_eq]; omega) | fail) [isK, isKB, tupD, sizeLine_eq, grd_pos, f_rules_at_labelwork, fLoop_cons, c00, c01, c10, c11, i1, i2, r00, r01, r10, r11, ap, lo, g1, g2, g3, g4, bk, sBack]
theorem letters_ok {n : Nat} {μ : Mem} (h0 : 1 ≤ n) (h1 : n ≤ 14) : f_letters_of [.d (.int n)] μ = .ok (.d (.ntp ((thsN n).map .str))) μ := by
  have hn : n = 1 ∨ n = 2 ∨ n = 3 ∨ n = 4 ∨ n = 5 ∨ n = 6 ∨ n = 7 ∨ n = 8 ∨ n = 9 ∨ n = 10 ∨ n = 11 ∨ n = 12 ∨ n = 13 ∨ n = 14 := by omega
  have hz : (Str.ofString "abcdefghijklmnopqrstuvwxyz").length ≤ 16777216 := by decide +kernel
  have hc : (cutS (Str.ofString "abcdefghijklmnopqrstuvwxyz") none (some (n : Int))).cps.size ≤ 16777216 := by
    rcases hn with rfl | rfl | rfl | rfl | rfl | rfl | rfl | rfl | rfl | rfl | rfl | rfl | rfl | rfl <;> decide +kernel
  have hs : strD (cutS (Str.ofString "abcdefghijklmnopqrstuvwxyz") none (some (n : Int))) = (thsN n).map .str := by
    rcases hn with rfl | rfl | rfl | rfl | rfl | rfl | rfl | rfl | rfl | rfl | rfl | rfl | rfl | rfl <;> rfl
  simp (disch := first | assumption | omega | (simp [sizeLine_eq]; done) | (simp [sizeLine_eq]; omega) | fail) [isK, isKB, tupD, sizeLine_eq, grd_pos, f_letters_of, slF, hz, hc, hs]
theorem with_rules_c {ths : List Str} {rs : List Rule} (hr : ∀ r ∈ rs, okR ths r) (hnm : ∀ x ∈ ths, nmB x = true) (few : rs.length ≤ 300) : f_with_rules [.d (.ntp (ths.map .str)), .c 0] [.lst (rs.map rD)] = .ok (.d (.tup [.ntp (ths.map .str), .ntp ((ruleSet rs).map rD)])) [.lst (rs.map rD)] := by
  have e := sortSetF_c (k := 0) (l := rs.map rD) (μ := [.lst (rs.map rD)]) rfl
  rw [grd_pos (okSet_rules hr hnm (by omega)), sset_rules] at e
  simp (disch := first | assumption | omega | (simp [sizeLine_eq]; done) | (simp [sizeLine_eq]; omega) | fail) [isK, isKB, tupD, sizeLine_eq, grd_pos, f_with_rules, e]
theorem bar_ok {n : Nat} {P : List Pla} {r : Rule} (h1 : n ≤ 14) (hl : P.length = n) (h : r ∈ bars (thsN n) P) : okB (thsN n) r := by
  unfold bars barTo rowTo at h
  simp only [List.mem_flatMap, List.mem_range] at h
  obtain ⟨i, hi, k, hk, hr⟩ := h
  have hn : (thsN n).length = n := by
    rw [List.length_take]
    show min n 14 = n
    omega
  obtain ⟨p, hp⟩ := at_of hi
  obtain ⟨q, hq⟩ := at_of (l := P) (i := i + 1 + k) (by omega)
  obtain ⟨x, hx⟩ := at_of (l := thsN n) (i := i) (by omega)
  obtain ⟨y, hy⟩ := at_of (l := thsN n) (i := i + 1 + k) (by omega)
  rw [barAt_eq hp hq hx hy, bar4_mem] at hr
  obtain ⟨e1, e2, e3, e4, _⟩ := hr
  exact ⟨⟨by rw [e1]; exact List.mem_of_getElem? hx, e3⟩, ⟨by rw [e2]; exact List.mem_of_getElem? hy, e4⟩, by rw [e1, e2]; exact thsN_lt (thsN_ths (by omega) h1) hx hy (by omega)⟩
theorem extend_c {l m : List D} (h : l.length + m.length ≤ 1000) : extendF (.c 0) [.d (.lst m)] [.lst l] = .ok (.d .non) [.lst (l ++ m)] := by
  have sz : 1000000 ≤ sizeLine := sizeLine_le (n := 1000000) (by decide)
  unfold extendF
  simp [lstOf]
  omega
theorem rowTo_map {ths : List Str} {P : List Pla} {i k : Nat} : ((rowTo ths P i (k + 1)).map bk).map rD = ((rowTo ths P i k).map bk).map rD ++ ((barAt ths P i (i + 1 + k)).map bk).map rD := by
  rw [rowTo_succ, List.map_append, List.map_append]
theorem label_book_ok {P : List Pla} {w : D} (h0 : 1 ≤ P.length) (h1 : P.length ≤ 14) (h3 : (bars (thsN P.length) P).length ≤ 300) (hw : tupD w = some (P.map plD)) : ∃ R' : Mem, f_label_book_by [.d w] [] = .ok (.d (.tup [.ntp ((thsN P.length).map .str), .ntp ((ruleSet ((bars (thsN P.length) P).map bk)).map rD)])) R' := by
  have ln := fun μ => lenT (w := w) (l := P.map plD) (μ := μ) hw
  have le := fun μ => letters_ok (n := P.length) (μ := μ) h0 (by omega)
  have hn : (thsN P.length).length = P.length := by
    rw [List.length_take]
    show min P.length 14 = P.length
    omega
  have t := thsN_ths h0 (show P.length ≤ 14 by omega)
  have hnm : ∀ x ∈ thsN P.length, nmB x = true := fun x hx => (t.name x hx).1
  have wr := with_rules_c (ths := thsN P.length) (rs := (bars (thsN P.length) P).map bk) (fun r hr => by
    obtain ⟨p, hp, rfl⟩ := List.mem_map.mp hr
    exact okR_bk (bar_ok (by omega) rfl hp)) hnm (by rw [List.length_map]; omega)
  have key : gives (f_label_book_by [.d w] []) fun s μ => s = .d (.tup [.ntp ((thsN P.length).map .str), .ntp ((ruleSet ((bars (thsN P.length) P).map bk)).map rD)]) := by
    simp (disch := first | assumption | omega | (simp [sizeLine_eq]; done) | (simp [sizeLine_eq]; omega) | fail) [isK, isKB, tupD, sizeLine_eq, grd_pos, f_label_book_by, ln]
    generalize el : fLoop _ _ _ _ = z
    obtain ⟨ρ', μ', rfl, -, r1, r2, rfl⟩ := loop_inv el (fun i ρ μ => ρ 0 = .d w ∧ ρ 1 = .d (.int P.length) ∧ ρ 2 = .c 0 ∧ μ = [.lst (((barTo (thsN P.length) P i).map bk).map rD)]) ⟨by simp, by simp, by simp, by simp [barTo]⟩ (by
      rintro i d ρ μ hd ⟨r0, r1, r2, rfl⟩
      obtain ⟨hi, rfl⟩ := rng_at hd
      obtain ⟨p, hp⟩ := at_of hi
      obtain ⟨x, hx⟩ := at_of (l := thsN P.length) (i := i) (by omega)
      have bl := barTo_len (ths := thsN P.length) h1 (i := i) (by omega)
      have rl := fun k => rowTo_len (ths := thsN P.length) (P := P) (i := i) (k := k)
      simp (disch := first | assumption | omega | (simp [sizeLine_eq]; done) | (simp [sizeLine_eq]; omega) | fail) [isK, isKB, tupD, sizeLine_eq, grd_pos, r0, r1, r2]
      generalize el2 : fLoop _ _ _ _ = z2
      obtain ⟨ρ2, μ3, rfl, t0, t1, -, t2, rfl⟩ := loop_inv el2 (fun k ρ μ => ρ 0 = .d w ∧ ρ 1 = .d (.int P.length) ∧ ρ 3 = .d (.int i) ∧ ρ 2 = .c 0 ∧ μ = [.lst (((barTo (thsN P.length) P i).map bk).map rD ++ ((rowTo (thsN P.length) P i k).map bk).map rD)]) ⟨by simp [r0], by simp [r1], by simp, by simp [r2], by simp [rowTo]⟩ (by
        rintro k d ρ μ hd ⟨t0, t1, t3, t2, rfl⟩
        obtain ⟨hk, rfl⟩ := rng_at hd
        obtain ⟨j, ej⟩ : ∃ j : Nat, j = i + 1 + k := ⟨_, rfl⟩
        have hj : j < P.length := by omega
        obtain ⟨q, hq⟩ := at_of hj
        obtain ⟨y, hy⟩ := at_of (l := thsN P.length) (i := j) (by omega)
        have ij : ((i : Int) + 1 + (k : Nat)) = (j : Int) := by omega
        have ra := rules_at_ok3 (n := P.length) (by omega) hw hp hq hx hy (by omega)
        have fr : ∀ μ, callRF μ [] (.ok (.c 0) [.lst (((bar4 p q x y).map bk).map rD)]) = .ok (.d (.lst (((bar4 p q x y).map bk).map rD))) μ := fun μ => by
          rw [callRF_c (ks := []) (d := .lst (((bar4 p q x y).map bk).map rD)) rfl]
          simp
        have rl := rl k
        have b4 := bar4_len (p := p) (q := q) (x := x) (y := y)
        have ex := extend_c (l := ((barTo (thsN P.length) P i).map bk).map rD ++ ((rowTo (thsN P.length) P i k).map bk).map rD) (m := ((bar4 p q x y).map bk).map rD) (by simp only [List.length_append, List.length_map]; omega)
        rw [ij]
        simp (disch := first | assumption | omega | (simp [sizeLine_eq]; done) | (simp [sizeLine_eq]; omega) | fail) [isK, isKB, tupD, sizeLine_eq, grd_pos, t0, t1, t2, t3, ra, fr, ex, -List.map_append, -List.map_map]
        refine ⟨by simp [t0], by simp [t1], by simp [t3], by simp [t2], ?_⟩
        rw [rowTo_map, ← ej, barAt_eq hp hq hx hy])
      simp (disch := first | assumption | omega | (simp [sizeLine_eq]; done) | (simp [sizeLine_eq]; omega) | fail) [isK, isKB, tupD, sizeLine_eq, grd_pos, ]
      refine ⟨by simp [t0], by simp [t1], by simp [t2], ?_⟩
      rw [barTo_succ, List.map_append, List.map_append]
      have : ((P.length : Int) - ((i : Int) + 1)).toNat = P.length - (i + 1) := by omega
      rw [rngD_len, this])
    simp (disch := first | assumption | omega | (simp [sizeLine_eq]; done) | (simp [sizeLine_eq]; omega) | fail) [isK, isKB, tupD, sizeLine_eq, grd_pos, r1, r2, le, rngD_len, wr, -List.map_take, -List.map_map]
    exact gives_ok rfl
  obtain ⟨_, μ, e, rfl⟩ := key
  exact ⟨μ, e⟩

end PL
namespace PL
open PySem PySem.Spec PyProof.Rows L2
open PySem.W (Datum DatumOrd)
theorem lost_bk {ths : List Str} {cs : List Int} {p : Rule} (he : ths.length = cs.length) (hc : ∀ c ∈ cs, c = 0 ∨ c = 1) (o : okB ths p) : lost ths cs (bk p) = (hasS ths cs p.1 && hasS ths cs p.2) := by
  unfold lost bk
  rw [has_back he hc o.1, has_back he hc o.2.1, Bool.not_not, Bool.not_not]
theorem keep_bars {ths : List Str} {cs : List Int} {B : List Rule} (he : ths.length = cs.length) (hc : ∀ c ∈ cs, c = 0 ∨ c = 1) (o : ∀ p ∈ B, okB ths p) : keepB ths cs (ruleSet (B.map bk)) = true ↔ ∀ p ∈ B, (hasS ths cs p.1 && hasS ths cs p.2) = false := by
  unfold keepB
  rw [List.all_eq_true]
  constructor
  · intro h p hp
    have := h (bk p) (mem_ruleSet.mpr (List.mem_map.mpr ⟨p, hp, rfl⟩))
    rw [lost_bk he hc (o p hp)] at this
    exact (Bool.not_eq_true' _).mp this
  · intro h r hr
    obtain ⟨p, hp, rfl⟩ := List.mem_map.mp (mem_ruleSet.mp hr)
    rw [lost_bk he hc (o p hp), h p hp]
    rfl
theorem bars_mem {n : Nat} {P : List Pla} {r : Rule} (h1 : n ≤ 14) (hl : P.length = n) : r ∈ bars (thsN n) P ↔ ∃ (i j : Nat) (p q : Pla) (x y : Str), i < j ∧ P[i]? = some p ∧ P[j]? = some q ∧ (thsN n)[i]? = some x ∧ (thsN n)[j]? = some y ∧ r ∈ bar4 p q x y := by
  have hn : (thsN n).length = n := by
    rw [List.length_take]
    show min n 14 = n
    omega
  unfold bars barTo rowTo
  simp only [List.mem_flatMap, List.mem_range]
  constructor
  · rintro ⟨i, hi, k, hk, hr⟩
    obtain ⟨p, hp⟩ := at_of hi
    obtain ⟨q, hq⟩ := at_of (l := P) (i := i + 1 + k) (by omega)
    obtain ⟨x, hx⟩ := at_of (l := thsN n) (i := i) (by omega)
    obtain ⟨y, hy⟩ := at_of (l := thsN n) (i := i + 1 + k) (by omega)
    rw [barAt_eq hp hq hx hy] at hr
    exact ⟨i, i + 1 + k, p, q, x, y, by omega, hp, hq, hx, hy, hr⟩
  · rintro ⟨i, j, p, q, x, y, ij, hp, hq, hx, hy, hr⟩
    have lj := (List.getElem?_eq_some_iff.mp hq).1
    refine ⟨i, by omega, j - (i + 1), by omega, ?_⟩
    rw [show i + 1 + (j - (i + 1)) = j by omega, barAt_eq hp hq hx hy]
    exact hr
/-- no two labels clash -/
def fitsP (P : List Pla) (cs : List Int) : Prop := ∀ (i j : Nat) (p q : Pla) (a c : Int), i < j → P[i]? = some p → P[j]? = some q → cs[i]? = some a → cs[j]? = some c → cl2 p q a c = false
theorem keep_fits {n : Nat} {P : List Pla} {cs : List Int} (h1 : n ≤ 14) (hl : P.length = n) (he : cs.length = n) (hc : ∀ c ∈ cs, c = 0 ∨ c = 1) (t : Ths (.ntp ((thsN n).map .str)) (thsN n)) : keepB (thsN n) cs (ruleSet ((bars (thsN n) P).map bk)) = true ↔ fitsP P cs := by
  have hn : (thsN n).length = n := by
    rw [List.length_take]
    show min n 14 = n
    omega
  rw [keep_bars (by omega) hc fun p hp => bar_ok h1 hl hp]
  have hat : ∀ {i : Nat} {x : Str} {a b : Int}, (thsN n)[i]? = some x → cs[i]? = some a → (hasS (thsN n) cs (x, b) = true ↔ a = b) := fun {i x a b} hx ha => by
    have := vl_at (ths := thsN n) (cs := cs) (by omega) t.nodup hx
    rw [ha] at this
    have := Option.some.inj this
    unfold hasS
    rw [← this, decide_eq_true_eq]
  constructor
  · intro h i j p q a c ij hp hq ha hcj
    obtain ⟨x, hx⟩ := at_of (l := thsN n) (i := i) (by have := (List.getElem?_eq_some_iff.mp hp).1; omega)
    obtain ⟨y, hy⟩ := at_of (l := thsN n) (i := j) (by have := (List.getElem?_eq_some_iff.mp hq).1; omega)
    rw [Bool.eq_false_iff]
    intro hcl
    have hm : ((x, a), (y, c)) ∈ bars (thsN n) P := (bars_mem h1 hl).mpr ⟨i, j, p, q, x, y, ij, hp, hq, hx, hy, bar4_mem.mpr ⟨rfl, rfl, hc a (List.mem_of_getElem? ha), hc c (List.mem_of_getElem? hcj), hcl⟩⟩
    have := h _ hm
    rw [(hat hx ha).mpr rfl, (hat hy hcj).mpr rfl] at this
    cases this
  · intro h r hr
    obtain ⟨i, j, p, q, x, y, ij, hp, hq, hx, hy, hr⟩ := (bars_mem h1 hl).mp hr
    obtain ⟨⟨x', a⟩, ⟨y', c⟩⟩ := r
    obtain ⟨e1, e2, ha, hc', hcl⟩ := bar4_mem.mp hr
    simp only at e1 e2 ha hc' hcl
    subst e1 e2
    obtain ⟨a', ha'⟩ := at_of (l := cs) (i := i) (by have := (List.getElem?_eq_some_iff.mp hp).1; omega)
    obtain ⟨c', hcc⟩ := at_of (l := cs) (i := j) (by have := (List.getElem?_eq_some_iff.mp hq).1; omega)
    rw [Bool.eq_false_iff]
    intro z
    obtain ⟨z1, z2⟩ := Bool.and_eq_true_iff.mp z
    have e1 := (hat hx ha').mp z1
    have e2 := (hat hy hcc).mp z2
    subst e1 e2
    have := h i j p q _ _ ij hp hq ha' hcc
    rw [hcl] at this
    cases this
theorem zip_at {P : List Pla} {cs : List Int} {i : Nat} {s : Pla} (h : (List.zipWith strip P cs)[i]? = some s) : ∃ p a, P[i]? = some p ∧ cs[i]? = some a ∧ s = strip p a := by
  rw [List.getElem?_zipWith] at h
  cases hp : P[i]? with
  | none => rw [hp] at h; cases h
  | some p =>
    cases ha : cs[i]? with
    | none => rw [hp, ha] at h; cases h
    | some a =>
      rw [hp, ha] at h
      exact ⟨p, a, rfl, rfl, (Option.some.inj h).symm⟩
def fitsB (S : List Pla) : Bool := (List.range S.length).all fun i => match S[i]? with
  | some s => (S.take i).all fun r => !ovl s r
  | none => true
theorem fitsB_iff {P : List Pla} {cs : List Int} : fitsB (List.zipWith strip P cs) = true ↔ fitsP P cs := by
  unfold fitsB
  rw [List.all_eq_true]
  constructor
  · intro h i j p q a c ij hp hq ha hc
    have hi : (List.zipWith strip P cs)[i]? = some (strip p a) := by rw [List.getElem?_zipWith, hp, ha]
    have hj : (List.zipWith strip P cs)[j]? = some (strip q c) := by rw [List.getElem?_zipWith, hq, hc]
    have lj := (List.getElem?_eq_some_iff.mp hj).1
    have := h j (List.mem_range.mpr lj)
    rw [hj] at this
    simp only [List.all_eq_true] at this
    have hm : strip p a ∈ (List.zipWith strip P cs).take j := by
      refine List.mem_of_getElem? (i := i) ?_
      rw [List.getElem?_take, if_pos ij, hi]
    have := this _ hm
    unfold cl2
    rw [ovl_comm]
    simpa using this
  · intro h j hj
    obtain ⟨s, hs⟩ := at_of (List.mem_range.mp hj)
    rw [hs]
    simp only [List.all_eq_true]
    intro r hr
    obtain ⟨i, hi⟩ := List.getElem?_of_mem hr
    have li := (List.getElem?_eq_some_iff.mp hi).1
    rw [List.length_take] at li
    rw [List.getElem?_take, if_pos (by omega)] at hi
    obtain ⟨q, c, hq, hc, rfl⟩ := zip_at hs
    obtain ⟨p, a, hp, ha, rfl⟩ := zip_at hi
    have := h i j p q a c (by omega) hp hq ha hc
    unfold cl2 at this
    rw [ovl_comm, this]
    rfl
theorem law_fitsC {P : List Pla} {w c : D} {cs : List Int} {μ : Mem} (hw : tupD w = some (P.map plD)) (hcs : tupD c = some (cs.map .int)) (hl : P.length = cs.length) (h8 : P.length ≤ 14) : f__law_fits [.d w, .d c] μ = .ok (.d (.bl (fitsB (List.zipWith strip P cs)))) μ := by
  have sl : (List.zipWith strip P cs).length = P.length := by rw [List.length_zipWith]; omega
  have zl : ∀ (ρ : FEnv) μ, cLoop (cStep (gT [gN 5, gN 6]) fYes (fCall (callM f__law_strip) (fCons (fV 5) (fCons (fV 6) fNil))) [5, 6] ρ) (zipD (P.map plD) (cs.map .int)) μ = .ok ((List.zipWith strip P cs).map plD) μ := fun ρ μ => by
    have e : zipD (P.map plD) (cs.map .int) = (P.zip cs).map fun pa => .tup [plD pa.1, .int pa.2] := by
      unfold zipD
      rw [List.zipWith_map, List.zip, List.map_zipWith]
    have e2 : (List.zipWith strip P cs).map plD = (P.zip cs).map fun pa => plD (strip pa.1 pa.2) := by
      rw [List.zip, List.map_zipWith, List.map_zipWith]
    rw [e, e2]
    exact cLoop_mapT (en := fun pa : Pla × Int => .tup [plD pa.1, .int pa.2]) (f := fun pa => plD (strip pa.1 pa.2)) fun pa _ => by
      obtain ⟨p, a⟩ := pa
      have := fun μ => law_strip_ok (q := p) (a := a) (μ := μ)
      simp (disch := first | assumption | omega | (simp [sizeLine_eq]; done) | (simp [sizeLine_eq]; omega) | fail) [isK, isKB, tupD, sizeLine_eq, grd_pos, cStep, this]
  have hzl : (zipD (P.map plD) (cs.map .int)).length ≤ 14 := by
    unfold zipD
    rw [List.length_zipWith, List.length_map, List.length_map]
    omega
  generalize hS : List.zipWith strip P cs = S at zl sl
  have bad : ∀ (ρ : FEnv) (i : Nat) (s : Pla) μ, ρ 4 = .d (plD s) → cLoop (cStep (gN 7) fYes (fCall (callM f__law_do_clash) (fCons (fV 4) (fCons (fV 7) fNil))) [7] ρ) ((S.take i).map plD) μ = .ok ((S.take i).map fun r => .bl (ovl s r)) μ := fun ρ i s μ r4 => cLoop_mapT (f := fun r => .bl (ovl s r)) fun r _ => by
    have := fun μ => law_do_clash_ok (s := s) (r := r) (μ := μ)
    simp (disch := first | assumption | omega | (simp [sizeLine_eq]; done) | (simp [sizeLine_eq]; omega) | fail) [isK, isKB, tupD, sizeLine_eq, grd_pos, cStep, r4, this]
  have key : gives (f__law_fits [.d w, .d c] μ) fun s μ2 => s = .d (.bl (fitsB S)) ∧ μ2 = μ := by
    have main : ∀ w' c', (w' = .tup (P.map plD) ∨ w' = .ntp (P.map plD)) → (c' = .tup (cs.map .int) ∨ c' = .ntp (cs.map .int)) → gives (f__law_fits [.d w', .d c'] μ) fun s μ2 => s = .d (.bl (fitsB S)) ∧ μ2 = μ := by
      intro w' c' hw' hc'
      rcases hw' with rfl | rfl <;> rcases hc' with rfl | rfl
      all_goals
        simp (disch := first | assumption | omega | (simp [sizeLine_eq]; done) | (simp [sizeLine_eq]; omega) | fail) [isK, isKB, tupD, sizeLine_eq, grd_pos, f__law_fits, zl, finLF, hzl]
        generalize el : fLoop _ _ _ _ = z
        rcases loop_find el (fun ρ μ2 => ρ 2 = .d (.lst (S.map plD)) ∧ μ2 = μ) (fun μ2 => μ2 = μ) (fun i => match S[i]? with
          | some s => if (S.take i).any (ovl s) then some (.d (.bl false)) else none
          | none => none) ⟨by simp, rfl⟩ (by
          rintro i d ρ μ2 hd hb ⟨r2, rfl⟩
          obtain ⟨d', g1, _, rfl⟩ := enumD_get hd
          rw [List.getElem?_map] at g1
          obtain ⟨s, hs, rfl⟩ := Option.map_eq_some_iff.mp g1
          rw [hs]
          have sl2 : ∀ μ, slF (.d (.lst (S.map plD))) none (some (i : Int)) μ = .ok (.d (.lst ((S.take i).map plD))) μ := fun μ => by
            simp (disch := first | assumption | omega | (simp [sizeLine_eq]; done) | (simp [sizeLine_eq]; omega) | fail) [isK, isKB, tupD, sizeLine_eq, grd_pos, slF, cutD_take (show (0 : Int) ≤ i by omega)]
          have hlt : (S.take i).length ≤ 14 := by rw [List.length_take]; omega
          have bad := fun ρ μ => bad ρ i s μ
          have all2 : ((S.take i).map fun r => ovl s r).any id = (S.take i).any (ovl s) := by rw [List.any_map]; rfl
          simp only
          cases g : (S.take i).any (ovl s) with
          | true =>
            rw [g] at all2
            simp (disch := first | assumption | omega | (simp [sizeLine_eq]; done) | (simp [sizeLine_eq]; omega) | fail) [isK, isKB, tupD, sizeLine_eq, grd_pos, r2, sl2, bad, finLF, hlt, bools_map, all2, -List.map_take, -List.any_map]
          | false =>
            rw [g] at all2
            simp (disch := first | assumption | omega | (simp [sizeLine_eq]; done) | (simp [sizeLine_eq]; omega) | fail) [isK, isKB, tupD, sizeLine_eq, grd_pos, r2, sl2, bad, finLF, hlt, bools_map, all2, -List.map_take, -List.any_map]
            try exact ⟨by simp [r2], rfl⟩) with h | h
        · obtain ⟨hn, ρ', μ', rfl, r2, rfl⟩ := h
          have hf : fitsB S = true := by
            unfold fitsB
            rw [List.all_eq_true]
            intro i hi
            have hi := List.mem_range.mp hi
            obtain ⟨s, hs⟩ := at_of hi
            have := hn i (by rw [enumD_map, List.length_map, List.length_zipIdx]; exact hi)
            rw [hs] at this ⊢
            simp only at this ⊢
            cases g : (S.take i).any (ovl s) with
            | true => rw [g] at this; cases this
            | false =>
              rw [List.any_eq_false] at g
              rw [List.all_eq_true]
              intro r hr
              have := g r hr
              simpa using this
          simp (disch := first | assumption | omega | (simp [sizeLine_eq]; done) | (simp [sizeLine_eq]; omega) | fail) [isK, isKB, tupD, sizeLine_eq, grd_pos, hf]
          exact gives_ok ⟨by rw [hf], rfl⟩
        · obtain ⟨i, v, hi, _, hg, μ', rfl, rfl⟩ := h
          rw [enumD_map, List.length_map, List.length_zipIdx] at hi
          obtain ⟨s, hs⟩ := at_of hi
          rw [hs] at hg
          simp only at hg
          cases g : (S.take i).any (ovl s) with
          | false => rw [g] at hg; cases hg
          | true =>
            rw [g] at hg
            cases hg
            have hf : fitsB S = false := by
              rw [Bool.eq_false_iff]
              intro z
              unfold fitsB at z
              rw [List.all_eq_true] at z
              have := z i (List.mem_range.mpr hi)
              rw [hs] at this
              simp only [List.all_eq_true] at this
              obtain ⟨r, hr, hov⟩ := List.any_eq_true.mp g
              have := this r hr
              rw [hov] at this
              cases this
            simp (disch := first | assumption | omega | (simp [sizeLine_eq]; done) | (simp [sizeLine_eq]; omega) | fail) [isK, isKB, tupD, sizeLine_eq, grd_pos, hf]
            exact gives_ok ⟨by rw [hf], rfl⟩
    exact main w c (by cases w <;> simp [tupD] at hw <;> subst hw <;> simp) (by cases c <;> simp [tupD] at hcs <;> subst hcs <;> simp)
  obtain ⟨_, _, e, rfl, rfl⟩ := key
  exact e
theorem law_fits_ok {P : List Pla} {w : D} {cs : List Int} {μ : Mem} (hw : tupD w = some (P.map plD)) (hl : P.length = cs.length) (h8 : P.length ≤ 14) : f__law_fits [.d w, .d (rowD cs)] μ = .ok (.d (.bl (fitsB (List.zipWith strip P cs)))) μ := law_fitsC hw rfl hl h8

end PL
namespace PL
open PySem PySem.Spec PyProof.Rows L2
open PySem.W (Datum DatumOrd)
abbrev IRow := PySem.W.Tup Int
theorem ll_trans : ∀ {a b c : List Int}, PySem.W.listLt a b = true → PySem.W.listLt b c = true → PySem.W.listLt a c = true
  | [], [], _, h, _ => by cases h
  | [], _ :: _, [], _, h => by cases h
  | [], _ :: _, _ :: _, _, _ => rfl
  | _ :: _, [], _, h, _ => by cases h
  | _ :: _, _ :: _, [], _, h => by cases h
  | x :: xs, y :: ys, z :: zs, h1, h2 => by
    simp only [PySem.W.listLt] at h1 h2 ⊢
    by_cases e1 : x = y
    · subst e1
      rw [if_pos rfl] at h1
      by_cases e2 : x = z
      · rw [if_pos e2] at h2 ⊢
        exact ll_trans h1 h2
      · rw [if_neg e2] at h2 ⊢
        exact h2
    · rw [if_neg e1] at h1
      by_cases e2 : y = z
      · subst e2
        rw [if_neg e1]
        exact h1
      · rw [if_neg e2] at h2
        have h3 := Enc.trans _ _ _ h1 h2
        rw [if_neg (dlt_ne h3)]
        exact h3
theorem ll_tri : ∀ {a b : List Int}, PySem.W.listLt a b = false → PySem.W.listLt b a = false → a = b
  | [], [], _, _ => rfl
  | [], _ :: _, h, _ => by cases h
  | _ :: _, [], _, h => by cases h
  | x :: xs, y :: ys, h1, h2 => by
    simp only [PySem.W.listLt] at h1 h2
    by_cases e1 : x = y
    · subst e1
      rw [if_pos rfl] at h1 h2
      rw [ll_tri h1 h2]
    · rw [if_neg e1] at h1
      rw [if_neg fun e => e1 e.symm] at h2
      exact absurd (Enc.tri _ _ h1 h2) e1
instance : Enc IRow where
  en t := rowD t.items
  okk _ := true
  dep := 1
  py t := by
    have h : ∀ l : List Int, toPys (l.map .int) = l.map Datum.toD := fun l => by
      induction l with
      | nil => rfl
      | cons a l ih => simp only [List.map_cons, toPys, ih, toPy]; rfl
    simp only [toPy, h]
    rfl
  fl t k _ hk := by
    cases k with
    | zero => omega
    | succ k =>
      show flat (k + 1) (.tup _) = true
      rw [flat]
      exact flats_of fun d hd => by
        obtain ⟨x, _, rfl⟩ := List.mem_map.mp hd
        cases k <;> rfl
  trans a b c h1 h2 := ll_trans h1 h2
  tri a b h1 h2 := by
    have := ll_tri h1 h2
    cases a; cases b
    exact congrArg PySem.W.Tup.mk this
end PL
namespace PL
open PySem PySem.Spec PyProof.Rows L2
open PySem.W (Datum DatumOrd)
--.
--.
--.
--.
end PL
namespace PL
open PySem PySem.Spec PyProof.Rows L2
open PySem.W (Datum DatumOrd)
--.
--.
--.
--.
--.
--.
--.
--.
--.
--.
--.
end PL
namespace PL
open PySem PySem.Spec PyProof.Rows L2
open PySem.W (Datum DatumOrd)
--.
--.
theorem law_places_ok {B : List SV → M SV} (b : Bel B) {n : Nat} {p : Pool} (h1 : n ≤ 8) : ∃ (P : List Pla) (p' : Pool) (R' : Mem), P.length = n ∧ (∀ q ∈ P, okP q) ∧ f__law_places B [.c 0, .d (.int n)] [pc p] = .ok (.d (.ntp (P.map plD))) (pc p' :: R') := by
  have key : gives (f__law_places B [.c 0, .d (.int n)] [pc p]) fun s μ => ∃ (P : List Pla) (p' : Pool) (R' : Mem), s = .d (.ntp (P.map plD)) ∧ μ = pc p' :: R' ∧ P.length = n ∧ ∀ q ∈ P, okP q := by
    simp (disch := first | assumption | omega | (simp [sizeLine_eq]; done) | (simp [sizeLine_eq]; omega) | fail) [isK, isKB, tupD, sizeLine_eq, grd_pos, f__law_places]
    generalize el : fLoop _ _ _ _ = z
    obtain ⟨ρ', μ', rfl, ⟨r0, r2⟩, P, q, rfl, hl, ho⟩ := loop_inv el (fun i ρ μ => (ρ 0 = .c 0 ∧ ρ 2 = .c 1) ∧ ∃ (P : List Pla) (q : Pool), μ = [pc q, .lst (P.map plD)] ∧ P.length = i ∧ ∀ q ∈ P, okP q) ⟨⟨by simp, by simp⟩, [], p, rfl, rfl, by simp⟩ (by
      rintro i d ρ μ hd ⟨⟨r0, r2⟩, P, q, rfl, hl, ho⟩
      obtain ⟨hi, rfl⟩ := rng_at hd
      obtain ⟨x1, q1, a1, b1, e1⟩ := b.ok 6 q (by omega) (by omega)
      obtain ⟨x2, q2, a2, b2, e2⟩ := b.ok 9 q1 (by omega) (by omega)
      obtain ⟨x3, q3, a3, b3, e3⟩ := b.ok 6 q2 (by omega) (by omega)
      obtain ⟨x4, q4, a4, b4, e4⟩ := b.ok 4 q3 (by omega) (by omega)
      have ap := fun y => appendF_c (k := 1) (y := y) (μ := [pc q4, .lst (P.map plD)]) rfl (by have := sizeLine_le (n := 1000) (by decide); rw [List.length_map]; omega)
      simp (disch := first | assumption | omega | (simp [sizeLine_eq]; done) | (simp [sizeLine_eq]; omega) | fail) [isK, isKB, tupD, sizeLine_eq, grd_pos, r0, r2, e1, e2, e3, e4, ap]
      refine ⟨⟨by simp [r0], by simp [r2]⟩, P ++ [(1 + x1 + x2, x3, 1 + x1, 1 + x4)], q4, by simp, by simp [hl], fun u hu => ?_⟩
      rcases List.mem_append.mp hu with hu | hu
      · exact ho u hu
      · rw [List.mem_singleton.mp hu]
        unfold okP
        simp only
        omega)
    rw [rngD_len] at hl
    simp (disch := first | assumption | omega | (simp [sizeLine_eq]; done) | (simp [sizeLine_eq]; omega) | fail) [isK, isKB, tupD, sizeLine_eq, grd_pos, r2]
    exact gives_ok ⟨P, q, _, rfl, rfl, by omega, ho⟩
  obtain ⟨_, _, e, P, p', R', rfl, rfl, h⟩ := key
  exact ⟨P, p', R', h.1, h.2, e⟩
end PL
namespace PL
open PySem PySem.Spec PyProof.Rows L2
open PySem.W (Datum DatumOrd)
noncomputable def f__law_is_number_k62 : List SV → M SV := fDef 3 (fRet (fAnd (fUn (isiF .int) (fV 0)) (fAnd (fNot (fUn (isiF .bool) (fV 0))) (fChain ileF ileF (fV 1) (fV 0) (fV 2)))))
--.
noncomputable def f__law_is_told_k62 : List SV → M SV := fDef 3 (fSeq (fIfS (fTOr (fT (fUn isNF (fV 1))) (fTNot (fT (fV 2)))) (fRet (fAnd (fUn isNF (fV 1)) (fNot (fV 2)))) fSkip)
  (fRet (fAnd (fUn (isiF .tuple) (fV 1)) (fAnd (fOp eqF (fCall lenF (fCons (fV 1) fNil)) (fCall lenF (fCons (fV 0) fNil))) (fAnd (fCall allF (fCons (fLc finLF (itF (fV 1)) (gN 3) fYes (fCall (callM f__law_is_number_k62) (fCons (fV 3) (fCons (fC (.int 0)) (fCons (fC (.int 1)) fNil)))) [3]) fNil)) (fCall (callM f__law_fits) (fCons (fV 0) (fCons (fV 1) fNil))))))))
--.
noncomputable def f__law_right_k62 (BEL : List SV → M SV) : List SV → M SV := fDef 1 (fSeq (fFor (rng1F (fCons (fC (.int 14)) fNil)) (gN 1) (fSeq (fAsg (fOp addF (fC (.int 1)) (fOp modF (fCall intF (fCons (fV 1) fNil)) (fC (.int 8)))) (gN 2))
  (fSeq (fAsg (fCall (callM (f__law_places BEL)) (fCons (fV 0) (fCons (fV 2) fNil))) (gN 3))
  (fSeq (fAsg (fCall anyF (fCons (fLc finLF (itF (fCall (callM f__law_all) (fCons (fV 2) fNil))) (gN 6) fYes (fCall (callM f__law_fits) (fCons (fV 3) (fCons (fV 6) fNil))) [6]) fNil)) (gN 4))
  (fSeq (fIfS (fTOr (fTNot (fT (fCall (callM f__law_is_told_k62) (fCons (fV 3) (fCons (fIf (fT (fOp eqF (fV 1) (fC (.int 1)))) (permM [0] (callM f_labels) 0 1 fNil (fCons (fV 3) fNil)) (fCall (callM f_labels) (fCons (fV 3) fNil))) (fCons (fV 4) fNil)))))) (fTNot (fT (fCall (callM f__law_is_told_k62) (fCons (fUn revF (fV 3)) (fCons (fCall (callM f_labels) (fCons (fUn revF (fV 3)) fNil)) (fCons (fV 4) fNil))))))) (fRet (fC (.bl false))) fSkip)
  (fIfS (fTAnd (fT (fOp gtF (fV 2) (fC (.int 1)))) (fTAnd (fT (fV 4)) (fT (fUn isNF (fCall (callM f_labels) (fCons (fSl slF (fV 3) (fSome (fC (.int 1))) fNone) fNil)))))) (fRet (fC (.bl false))) fSkip))))))
  (fSeq (fAsg (fCall tupF (fCons (fLc finLF (rng1F (fCons (fC (.int 14)) fNil)) (gN 7) fYes (fTup (fCons (fOp addF (fC (.int 10)) (fOp mulF (fC (.int 4)) (fV 7))) (fCons (fC (.int 0)) (fCons (fC (.int 4)) (fCons (fC (.int 1)) fNil))))) [7]) fNil)) (gN 5))
  (fSeq (fIfS (fTOr (fTNot (fT (fCall (callM f__law_is_told_k62) (fCons (fV 5) (fCons (fCall (callM f_labels) (fCons (fV 5) fNil)) (fCons (fC (.bl true)) fNil)))))) (fT (fUn notNF (fCall (callM f_labels) (fCons (fOp mulF (fTup (fCons (fTup (fCons (fC (.int 5)) (fCons (fC (.int 0)) (fCons (fC (.int 2)) (fCons (fC (.int 2)) fNil))))) fNil)) (fC (.int 3))) fNil))))) (fRet (fC (.bl false))) fSkip)
  (fRet (fCall (callM f__law_is_told_k62) (fCons (fOp mulF (fTup (fCons (fTup (fCons (fC (.int 5)) (fCons (fC (.int 0)) (fCons (fC (.int 2)) (fCons (fC (.int 2)) fNil))))) fNil)) (fC (.int 2))) (fCons (fCall (callM f_labels) (fCons (fOp mulF (fTup (fCons (fTup (fCons (fC (.int 5)) (fCons (fC (.int 0)) (fCons (fC (.int 2)) (fCons (fC (.int 2)) fNil))))) fNil)) (fC (.int 2))) fNil)) (fCons (fC (.bl true)) fNil))))))))
--.
noncomputable def f_law_k62 : List SV → M SV := fDef 1 (fRet (fCall allF (fCons (fLc finLF (rng1F (fCons (fCall maxF (fCons (fC (.int 1)) (fCons (fCall minF (fCons (fCall lenF (fCons (fV 0) fNil)) (fCons (fC (.int 2)) fNil))) fNil))) fNil)) (gN 1) fYes (fCall (callM (f__law_right_k62 (f__law_below_k63 359 3989 15515 2147483563 33821 6501 71 2147483563))) (fCons (fCall (callM (f__law_pool_k63 60 73 2147483587 15055 2147483647 52151 2147483587 61 2147483647 36229 9917 8085 817)) (fCons (fV 0) (fCons (fV 1) fNil))) fNil)) [1]) fNil)))
--.
def page (cs : List Int) : Prop := ∀ x ∈ cs, x = 0 ∨ x = 1
/-- there are pages by which no two labels clash -/
def Fz (P : List Pla) : Prop := ∃ cs : List Int, cs.length = P.length ∧ page cs ∧ fitsP P cs
theorem cl2_comm {p q : Pla} {a c : Int} : cl2 p q a c = cl2 q p c a := ovl_comm
theorem fits_rev {P : List Pla} {cs : List Int} (hl : cs.length = P.length) (h : fitsP P cs) : fitsP P.reverse cs.reverse := by
  intro i j p q a c ij hp hq ha hc
  have li := (List.getElem?_eq_some_iff.mp hp).1
  have lj := (List.getElem?_eq_some_iff.mp hq).1
  rw [List.length_reverse] at li lj
  rw [List.getElem?_reverse (by omega)] at hp hq ha hc
  rw [hl] at ha hc
  rw [cl2_comm]
  exact h _ _ q p c a (by omega) hq hp hc ha
theorem Fz_rev {P : List Pla} (h : Fz P) : Fz P.reverse := by
  obtain ⟨cs, h1, h2, h3⟩ := h
  exact ⟨cs.reverse, by simp [h1], fun x hx => h2 x (List.mem_reverse.mp hx), fits_rev h1 h3⟩
theorem Fz_rev_iff {P : List Pla} : Fz P.reverse ↔ Fz P := ⟨fun h => by have := Fz_rev h; rwa [List.reverse_reverse] at this, Fz_rev⟩
theorem Fz_drop {P : List Pla} (h : Fz P) : Fz (P.drop 1) := by
  obtain ⟨cs, h1, h2, h3⟩ := h
  refine ⟨cs.drop 1, by simp [h1], fun x hx => h2 x (List.mem_of_mem_drop hx), ?_⟩
  intro i j p q a c ij hp hq ha hc
  rw [List.getElem?_drop] at hp hq ha hc
  exact h3 _ _ p q a c (by omega) hp hq ha hc
theorem labels_okG {P : List Pla} {w : D} (o : ∀ q ∈ P, okP q) (h0 : 1 ≤ P.length) (h1 : P.length ≤ 14) (h2 : (bars (thsN P.length) P).length ≤ 200) (hw : tupD w = some (P.map plD)) :
    ∃ (c : Option (List Int)) (R' : Mem), (∀ cs, c = some cs → cs.length = P.length ∧ page cs ∧ fitsP P cs) ∧ (c = none → ¬ Fz P) ∧ f_labels [.d w] [] = .ok (.d (choD c)) R' := by
  have t := thsN_ths h0 h1
  have hn : (thsN P.length).length = P.length := by
    rw [List.length_take]
    show min P.length 14 = P.length
    omega
  have hb : Bk (.tup [.ntp ((thsN P.length).map .str), .ntp ((ruleSet ((bars (thsN P.length) P).map bk)).map rD)]) (thsN P.length) (ruleSet ((bars (thsN P.length) P).map bk)) := {
    eq := .inl rfl
    tth := t
    rule := fun r hr => by
      obtain ⟨p, hp, rfl⟩ := List.mem_map.mp (mem_ruleSet.mp hr)
      exact okR_bk (bar_ok h1 rfl hp)
    few := by
      refine Nat.le_trans ruleSet_len ?_
      rw [List.length_map]
      omega }
  obtain ⟨c, R', k1, k2, e⟩ := choosing_byK hb
  obtain ⟨R2, e2⟩ := label_book_ok h0 h1 (by omega) hw
  have e3 := fun μ => check_places_ok (μ := μ) o h0 h1 hw
  have key : gives (f_labels [.d w] []) fun s _ => s = .d (choD c) := by
    simp (disch := first | assumption | omega | (simp [sizeLine_eq]; done) | (simp [sizeLine_eq]; omega) | fail) [isK, isKB, tupD, sizeLine_eq, grd_pos, f_labels, f_labels_by, e, e2, e3, -List.map_take, -List.map_map]
    exact gives_ok rfl
  obtain ⟨_, R3, e4, rfl⟩ := key
  refine ⟨c, R3, fun cs h => ?_, fun h => ?_, e4⟩
  · obtain ⟨z1, z2, z3⟩ := k1 cs h
    exact ⟨by omega, z2, (keep_fits h1 rfl (by omega) z2 t).mp z3⟩
  · rintro ⟨cs, z1, z2, z3⟩
    obtain ⟨x, hx, l1, l2⟩ := k2 h
    exact Kp.noknot (cs := cs) ⟨by omega, z2, (keep_fits h1 rfl z1 z2 t).mpr z3⟩ hb.rule x hx ⟨l1, l2⟩
theorem is_number62_ok {i : Int} {μ : Mem} (h : i = 0 ∨ i = 1) : f__law_is_number_k62 [.d (.int i), .d (.int 0), .d (.int 1)] μ = .ok (.d (.bl true)) μ := by
  rcases h with rfl | rfl <;> simp (disch := first | assumption | omega | (simp [sizeLine_eq]; done) | (simp [sizeLine_eq]; omega) | fail) [isK, isKB, tupD, sizeLine_eq, grd_pos, f__law_is_number_k62]
/-- pages that are told right -/
theorem is_told62_ok {P : List Pla} {w : D} {due : Bool} {c : Option (List Int)} {μ : Mem} (hw : tupD w = some (P.map plD)) (h1 : P.length ≤ 14) (k1 : ∀ cs, c = some cs → cs.length = P.length ∧ page cs ∧ fitsP P cs) (k2 : c = none ↔ due = false) :
    f__law_is_told_k62 [.d w, .d (choD c), .d (.bl due)] μ = .ok (.d (.bl true)) μ := by
  cases c with
  | none =>
    have : due = false := k2.mp rfl
    subst this
    simp (disch := first | assumption | omega | (simp [sizeLine_eq]; done) | (simp [sizeLine_eq]; omega) | fail) [isK, isKB, tupD, sizeLine_eq, grd_pos, f__law_is_told_k62, choD]
  | some cs =>
    have : due = true := by
      cases due with
      | true => rfl
      | false => cases k2.mpr rfl
    subst this
    obtain ⟨z1, z2, z3⟩ := k1 cs rfl
    have ln := fun μ => lenT (w := w) (l := P.map plD) (μ := μ) hw
    have lp : ∀ (ρ : FEnv) μ, cLoop (cStep (gN 3) fYes (fCall (callM f__law_is_number_k62) (fCons (fV 3) (fCons (fC (.int 0)) (fCons (fC (.int 1)) fNil)))) [3] ρ) (cs.map .int) μ = .ok (cs.map fun _ => D.bl true) μ := fun ρ μ => cLoop_mapT (en := D.int) (f := fun _ => D.bl true) fun x hx => by
      have := fun μ => is_number62_ok (μ := μ) (z2 x hx)
      simp (disch := first | assumption | omega | (simp [sizeLine_eq]; done) | (simp [sizeLine_eq]; omega) | fail) [isK, isKB, tupD, sizeLine_eq, grd_pos, cStep, this]
    have ef : ∀ μ, f__law_fits [.d w, .d (.ntp (cs.map .int))] μ = .ok (.d (.bl true)) μ := fun μ => by
      have a := law_fitsC (μ := μ) (c := .ntp (cs.map .int)) (cs := cs) hw rfl (by omega) h1
      have b : fitsB (List.zipWith strip P cs) = true := fitsB_iff.mpr z3
      rw [b] at a
      exact a
    have hc : cs.length ≤ 14 := by omega
    have ha : ((cs.map fun _ => true) : List Bool).all id = true := by simp
    simp (disch := first | assumption | omega | (simp [sizeLine_eq]; done) | (simp [sizeLine_eq]; omega) | fail) [isK, isKB, tupD, sizeLine_eq, grd_pos, f__law_is_told_k62, choD, ln, lp, finLF, hc, z1, ef, bools_map, ha]
/-- labels(places) is told right -/
theorem told_row {P : List Pla} {w : D} (o : ∀ q ∈ P, okP q) (h0 : 1 ≤ P.length) (h1 : P.length ≤ 14) (h2 : (bars (thsN P.length) P).length ≤ 200) (hw : tupD w = some (P.map plD)) {due : Bool} (hd : due = true ↔ Fz P) :
    ∃ (c : D) (R' : Mem), f_labels [.d w] [] = .ok (.d c) R' ∧ (c = .non ↔ due = false) ∧ (c = .non ∨ ∃ l, c = .ntp l) ∧ ∀ μ, f__law_is_told_k62 [.d w, .d c, .d (.bl due)] μ = .ok (.d (.bl true)) μ := by
  obtain ⟨c, R', k1, k2, e⟩ := labels_okG o h0 h1 h2 hw
  have k3 : c = none ↔ due = false := by
    constructor
    · intro h
      have := k2 h
      cases due with
      | false => rfl
      | true => exact (this (hd.mp rfl)).elim
    · intro h
      cases c with
      | none => rfl
      | some cs => rw [hd.mpr ⟨cs, k1 cs rfl⟩] at h; cases h
  refine ⟨choD c, R', e, ?_, ?_, fun μ => is_told62_ok hw h1 k1 k3⟩
  · rw [← k3]
    cases c <;> simp [choD]
  · cases c with
    | none => exact .inl rfl
    | some cs => exact .inr ⟨_, rfl⟩
def P14 : List Pla := (List.range 14).map fun i : Nat => (10 + 4 * (i : Int), 0, 4, 1)
theorem P14_ok : ∀ q ∈ P14, okP q := fun q hq => by
  obtain ⟨i, hi, rfl⟩ := List.mem_map.mp hq
  have hi := List.mem_range.mp hi
  unfold okP
  simp only
  omega
theorem P14_fz : Fz P14 := ⟨List.replicate 14 1, rfl, fun x hx => .inr (List.eq_of_mem_replicate hx), fitsB_iff.mp (by decide +kernel)⟩
abbrev q5 : Pla := (5, 0, 2, 2)
theorem q5_ok : okP q5 := by unfold okP; simp only; omega
theorem two_fz : Fz [q5, q5] := ⟨[0, 1], rfl, by intro x hx; simpa using hx, fitsB_iff.mp (by decide +kernel)⟩
theorem three_fz : ¬ Fz [q5, q5, q5] := by
  rintro ⟨cs, h1, h2, h3⟩
  match cs, h1 with
  | [a, b, c], _ =>
    have := fitsB_iff.mpr h3
    rcases h2 a (by simp) with rfl | rfl <;> rcases h2 b (by simp) with rfl | rfl <;> rcases h2 c (by simp) with rfl | rfl <;> exact absurd this (by decide +kernel)
theorem due_lp {P : List Pla} {w : D} {css : List (List Int)} (hw : tupD w = some (P.map plD)) (h14 : P.length ≤ 14) (c2 : ∀ cs ∈ css, cs.length = P.length) : ∀ (ρ : FEnv) μ, ρ 3 = .d w →
    cLoop (cStep (gN 6) fYes (fCall (callM f__law_fits) (fCons (fV 3) (fCons (fV 6) fNil))) [6] ρ) (css.map rowD) μ = .ok (css.map fun cs => .bl (fitsB (List.zipWith strip P cs))) μ := fun ρ μ r3 => cLoop_mapT (f := fun cs => .bl (fitsB (List.zipWith strip P cs))) fun cs hcs => by
  have := fun μ => law_fits_ok (μ := μ) hw (c2 cs hcs).symm h14
  simp (disch := first | assumption | omega | (simp [sizeLine_eq]; done) | (simp [sizeLine_eq]; omega) | fail) [isK, isKB, tupD, sizeLine_eq, grd_pos, cStep, r3, this]
theorem row_lp : ∀ (ρ : FEnv) μ, cLoop (cStep (gN 7) fYes (fTup (fCons (fOp addF (fC (.int 10)) (fOp mulF (fC (.int 4)) (fV 7))) (fCons (fC (.int 0)) (fCons (fC (.int 4)) (fCons (fC (.int 1)) fNil))))) [7] ρ) (rngD 0 14) μ = .ok (P14.map plD) μ := fun ρ μ => by
  have e : P14.map plD = (List.range 14).map fun i : Nat => plD (10 + 4 * (i : Int), 0, 4, 1) := by
    unfold P14
    rw [List.map_map]; rfl
  rw [e, rngD]
  exact cLoop_mapT (en := fun i : Nat => .int (0 + (i : Int))) (f := fun i : Nat => plD (10 + 4 * (i : Int), 0, 4, 1)) fun i hi => by
    have hi := List.mem_range.mp hi
    have g : CMul 4 (i : Int) := .inl ⟨by omega, by omega⟩
    simp (disch := first | assumption | omega | (simp [sizeLine_eq]; done) | (simp [sizeLine_eq]; omega) | fail) [isK, isKB, tupD, sizeLine_eq, grd_pos, cStep, g]
theorem mul3 {μ : Mem} : mulF (.d (.tup [plD q5])) (.d (.int 3)) μ = .ok (.d (.tup [plD q5, plD q5, plD q5])) μ := grd_pos (by simp)
theorem mul2 {μ : Mem} : mulF (.d (.tup [plD q5])) (.d (.int 2)) μ = .ok (.d (.tup [plD q5, plD q5])) μ := grd_pos (by simp)
theorem right_ok_k62 {B : List SV → M SV} (b : Bel B) {p : Pool} : ∃ p', f__law_right_k62 B [.c 0] [pc p] = .ok (.d (.bl true)) [pc p'] := by
  obtain ⟨c14, R14, e14, -, -, t14⟩ := told_row (P := P14) (w := .ntp (P14.map plD)) (due := true) P14_ok (by decide) (by decide) (by decide +kernel) rfl ⟨fun _ => P14_fz, fun _ => rfl⟩
  obtain ⟨c14b, R14b, e14b, -, -, t14b⟩ := told_row (P := P14) (w := .tup (P14.map plD)) (due := true) P14_ok (by decide) (by decide) (by decide +kernel) rfl ⟨fun _ => P14_fz, fun _ => rfl⟩
  obtain ⟨c3, R3, e3, n3, -, -⟩ := told_row (P := [q5, q5, q5]) (w := .tup [plD q5, plD q5, plD q5]) (due := false) (by simp [q5_ok]) (by decide) (by decide) (by decide +kernel) rfl (by simp [three_fz])
  have n3 := n3.mpr rfl
  subst n3
  obtain ⟨c2, R2, e2, -, -, t2⟩ := told_row (P := [q5, q5]) (w := .tup [plD q5, plD q5]) (due := true) (by simp [q5_ok]) (by decide) (by decide) (by decide +kernel) rfl ⟨fun _ => two_fz, fun _ => rfl⟩
  have l14 : P14.length = 14 := rfl
  have key : gives (f__law_right_k62 B [.c 0] [pc p]) fun s μ => ∃ p', s = .d (.bl true) ∧ μ = [pc p'] := by
    simp (disch := first | assumption | omega | (simp [sizeLine_eq]; done) | (simp [sizeLine_eq]; omega) | fail) [isK, isKB, tupD, sizeLine_eq, grd_pos, f__law_right_k62]
    generalize el : fLoop _ _ _ _ = z
    obtain ⟨ρ', μ', rfl, r0, p1, rfl⟩ := loop_inv el (fun i ρ μ => ρ 0 = .c 0 ∧ ∃ p, μ = [pc p]) ⟨rfl, p, rfl⟩ (by
      rintro i d ρ μ hd ⟨r0, p, rfl⟩
      obtain ⟨hi, rfl⟩ := rng_at hd
      obtain ⟨n, en⟩ : ∃ n : Nat, n = 1 + i % 8 := ⟨_, rfl⟩
      have h0 : 1 ≤ n := by omega
      have h8 : n ≤ 8 := by omega
      have hin : (1 : Int) + (i : Int) % 8 = (n : Int) := by omega
      obtain ⟨P, q, R1, hl, ho, e1⟩ := law_places_ok b (p := p) h8
      have b1 := bars_len8 (ths := thsN P.length) (P := P) (by omega)
      have b2 := bars_len8 (ths := thsN P.reverse.length) (P := P.reverse) (by rw [List.length_reverse]; omega)
      have b3 := bars_len8 (ths := thsN (P.drop 1).length) (P := P.drop 1) (by rw [List.length_drop]; omega)
      obtain ⟨css, c1, c2, c3, e5⟩ := all_okA (n := n) (μ := []) (by omega)
      have dl := due_lp (w := .ntp (P.map plD)) (css := css) rfl (by omega) fun cs hcs => by rw [(c2 cs hcs).1, hl]
      obtain ⟨due, hdue⟩ : ∃ due : Bool, due = (css.map fun cs => fitsB (List.zipWith strip P cs)).any id := ⟨_, rfl⟩
      have hd : due = true ↔ Fz P := by
        rw [hdue, List.any_eq_true]
        simp only [List.mem_map, id]
        constructor
        · rintro ⟨_, ⟨cs, hcs, rfl⟩, h⟩
          exact ⟨cs, by rw [(c2 cs hcs).1, hl], (c2 cs hcs).2, fitsB_iff.mp h⟩
        · rintro ⟨cs, z1, z2, z3⟩
          exact ⟨_, ⟨cs, c3 cs (by omega) z2, rfl⟩, fitsB_iff.mpr z3⟩
      obtain ⟨ca, Ra, ea, -, -, ta⟩ := told_row (P := P) (w := .ntp (P.map plD)) ho (by omega) (by omega) (by omega) rfl hd
      obtain ⟨cb, Rb, eb, -, -, tb⟩ := told_row (P := P.reverse) (w := .tup (P.map plD).reverse) (fun q hq => ho q (List.mem_reverse.mp hq)) (by rw [List.length_reverse]; omega) (by rw [List.length_reverse]; omega) (by omega) (by simp [tupD, List.map_reverse]) (hd.trans Fz_rev_iff.symm)
      have cl : css.length ≤ 256 := by
        rw [c1]
        exact Nat.le_trans (Nat.pow_le_pow_right (by omega) h8) (by decide)
      have hw1 : tupD (cutN (P.map plD) (some 1) none) = some ((P.drop 1).map plD) := by
        rw [cutN_tup, cutD_drop (by omega), List.map_drop]
        rfl
      have sl : ∀ μ, slF (.d (.ntp (P.map plD))) (some (1 : Int)) none μ = .ok (.d (cutN (P.map plD) (some 1) none)) μ := fun μ => rfl
      generalize cutN (P.map plD) (some 1) none = w1 at hw1 sl
      have h1s : ((i : Int) = 1) = True ∨ ((i : Int) = 1) = False := by
        by_cases h : (i : Int) = 1
        · exact .inl (eq_true h)
        · exact .inr (eq_false h)
      by_cases hn1 : n = 1
      · have hx : ¬ (1 : Int) < n := by omega
        rcases h1s with h1 | h1 <;> simp (disch := first | assumption | omega | (simp [sizeLine_eq]; done) | (simp [sizeLine_eq]; omega) | fail) [isK, isKB, tupD, sizeLine_eq, grd_pos, r0, hin, e1, e5, dl, finLF, cl, bools_map, ← hdue, ea, ta, eb, tb, hx, h1]
        all_goals exact ⟨by simp [r0], q, rfl⟩
      · have hx : (1 : Int) < n := by omega
        cases due with
        | false =>
          rcases h1s with h1 | h1 <;> simp (disch := first | assumption | omega | (simp [sizeLine_eq]; done) | (simp [sizeLine_eq]; omega) | fail) [isK, isKB, tupD, sizeLine_eq, grd_pos, r0, hin, e1, e5, dl, finLF, cl, bools_map, ← hdue, ea, ta, eb, tb, hx, h1]
          all_goals exact ⟨by simp [r0], q, rfl⟩
        | true =>
          obtain ⟨cc, Rc, ec, nc, oc, -⟩ := told_row (P := P.drop 1) (w := w1) (due := true) (fun q hq => ho q (List.mem_of_mem_drop hq)) (by rw [List.length_drop]; omega) (by rw [List.length_drop]; omega) (by omega) hw1 ⟨fun _ => Fz_drop (hd.mp rfl), fun _ => rfl⟩
          have nc : cc ≠ .non := fun h => by cases nc.mp h
          obtain ⟨l, rfl⟩ := oc.resolve_left nc
          rcases h1s with h1 | h1 <;> simp (disch := first | assumption | omega | (simp [sizeLine_eq]; done) | (simp [sizeLine_eq]; omega) | fail) [isK, isKB, tupD, sizeLine_eq, grd_pos, r0, hin, e1, e5, dl, finLF, cl, bools_map, ← hdue, ea, ta, eb, tb, hx, sl, ec, h1]
          all_goals exact ⟨by simp [r0], q, rfl⟩)
    simp (disch := first | assumption | omega | (simp [sizeLine_eq]; done) | (simp [sizeLine_eq]; omega) | fail) [isK, isKB, tupD, sizeLine_eq, grd_pos, row_lp, finLF, l14, e14, t14, e14b, t14b, mul3, mul2, e3, e2, t2]
    exact gives_ok ⟨p1, rfl, rfl⟩
  obtain ⟨_, _, e, p', rfl, rfl⟩ := key
  exact ⟨p', e⟩
theorem law_ok_k62 (ns : List Int) (hl : ns.length ≤ 63) : ∃ μ, f_law_k62 [.d (.scr ns)] [] = .ok (.d (.bl true)) μ := by
  have bel : Bel (f__law_below_k63 359 3989 15515 2147483563 33821 6501 71 2147483563) := below3_bel (by decide) (by decide) (by decide) (by decide) (by decide) (by decide) (by decide)
  have hmin : ∃ n : Nat, n ≤ 2 ∧ (if (1 : Int) < (if (2 : Int) < (ns.length : Int) then (2 : Int) else (ns.length : Int)) then (if (2 : Int) < (ns.length : Int) then (2 : Int) else (ns.length : Int)) else (1 : Int)) = (n : Int) := by
    by_cases h1 : (2 : Int) < ns.length
    · exact ⟨2, by omega, by simp [h1]⟩
    · by_cases h2 : (1 : Int) < ns.length
      · exact ⟨ns.length, by omega, by simp [h1, h2]⟩
      · exact ⟨1, by omega, by simp [h1, h2]⟩
  obtain ⟨n, hn, hmin⟩ := hmin
  have key : gives (f_law_k62 [.d (.scr ns)] []) fun s μ => s = .d (.bl true) := by
    have hz : (n : Int) < 4611686018427387904 := by omega
    have hz2 : (-4611686018427387904 : Int) ≤ n := by omega
    have hz3 : n ≤ 16777216 := by omega
    simp (disch := first | assumption | omega | (simp [sizeLine_eq]; done) | (simp [sizeLine_eq]; omega) | fail) [isK, isKB, tupD, sizeLine_eq, grd_pos, f_law_k62]
    simp only [hmin]
    simp (disch := first | assumption | omega | (simp [sizeLine_eq]; done) | (simp [sizeLine_eq]; omega) | fail) [isK, isKB, tupD, sizeLine_eq, grd_pos, hz, hz2, hz3]
    generalize el : cLoop _ _ _ = z
    obtain ⟨ys, μ', rfl, hl, hg, -⟩ := loop_draw el (fun _ => True) (fun y => y = .bl true) trivial (by
      rintro d hd μ -
      obtain ⟨x, hx, rfl⟩ := List.mem_map.mp hd
      have hx := List.mem_range.mp hx
      obtain ⟨q, e1⟩ := pool3_ok (c1 := 73) (c2 := 2147483587) (c3 := 15055) (c4 := 2147483647) (c5 := 52151) (c6 := 2147483587) (c7 := 61) (c8 := 2147483647) (c9 := 36229) (c10 := 9917) (c11 := 8085) (c12 := 817) (ns := ns) (lap := x) (by omega) (by decide) (by decide) (by decide) (by decide) (by decide) (by decide) (by decide) (by decide) (by decide)
      obtain ⟨q2, e2⟩ := right_ok_k62 bel (p := q)
      refine ⟨.bl true, (μ ++ [pc q]).set μ.length (pc q2), ?_, rfl, trivial⟩
      simp (disch := first | assumption | omega | (simp [sizeLine_eq]; done) | (simp [sizeLine_eq]; omega) | fail) [isK, isKB, tupD, sizeLine_eq, grd_pos, cStep, e1, e2])
    obtain ⟨bs, hb1, hb2⟩ := trues hg
    simp (disch := first | assumption | omega | (simp [sizeLine_eq]; done) | (simp [sizeLine_eq]; omega) | fail) [isK, isKB, tupD, sizeLine_eq, grd_pos, finLF, hb1, hb2]
    exact gives_ok rfl
  obtain ⟨_, μ, e, rfl⟩ := key
  exact ⟨μ, e⟩

end PL
namespace Lk62
open PySem PySem.Spec PyProof.Rows L2 PL
theorem sc_is_whole : FnScope N_is_whole ["value"] (defScope s_is_whole) := ⟨rfl, rfl, rfl, by decide +kernel, rfl, by decide +kernel, by decide +kernel⟩
theorem sc_is_tuple_of : FnScope N_is_tuple_of ["value", "many"] (defScope s_is_tuple_of) := ⟨rfl, rfl, rfl, by decide +kernel, rfl, by decide +kernel, by decide +kernel⟩
theorem sc_back_of : FnScope N_back_of ["side"] (defScope s_back_of) := ⟨rfl, rfl, rfl, by decide +kernel, rfl, by decide +kernel, by decide +kernel⟩
theorem sc_all_sides : FnScope N_all_sides ["things"] (defScope s_all_sides) := ⟨rfl, rfl, rfl, by decide +kernel, rfl, by decide +kernel, by decide +kernel⟩
theorem sc_rule_of : FnScope N_rule_of ["side", "other"] (defScope s_rule_of) := ⟨rfl, rfl, rfl, by decide +kernel, rfl, by decide +kernel, by decide +kernel⟩
theorem sc_with_rules : FnScope N_with_rules ["things", "rules"] (defScope s_with_rules) := ⟨rfl, rfl, rfl, by decide +kernel, rfl, by decide +kernel, by decide +kernel⟩
theorem sc_Leads_come_from : FnScope N_Leads_come_from ["self", "side"] (defScope s_Leads_come_from) := ⟨rfl, rfl, rfl, by decide +kernel, rfl, by decide +kernel, by decide +kernel⟩
theorem sc_choosing_of : FnScope N_choosing_of ["things", "told"] (defScope s_choosing_of) := ⟨rfl, rfl, rfl, by decide +kernel, rfl, by decide +kernel, by decide +kernel⟩
theorem sc_strip_by : FnScope N_strip_by ["place", "page"] (defScope s_strip_by) := ⟨rfl, rfl, rfl, by decide +kernel, rfl, by decide +kernel, by decide +kernel⟩
theorem sc_do_overlap : FnScope N_do_overlap ["strip", "other"] (defScope s_do_overlap) := ⟨rfl, rfl, rfl, by decide +kernel, rfl, by decide +kernel, by decide +kernel⟩
theorem sc_letters_of : FnScope N_letters_of ["many"] (defScope s_letters_of) := ⟨rfl, rfl, rfl, by decide +kernel, rfl, by decide +kernel, by decide +kernel⟩
theorem sc__law_pool : FnScope N__law_pool ["script", "lap"] (defScope s__law_pool) := ⟨rfl, rfl, rfl, by decide +kernel, rfl, by decide +kernel, by decide +kernel⟩
theorem sc__law_below : FnScope N__law_below ["pool", "many"] (defScope s__law_below) := ⟨rfl, rfl, rfl, by decide +kernel, rfl, by decide +kernel, by decide +kernel⟩
theorem sc__law_is_number : FnScope N__law_is_number ["thing", "low", "high"] (defScope s__law_is_number) := ⟨rfl, rfl, rfl, by decide +kernel, rfl, by decide +kernel, by decide +kernel⟩
theorem sc__law_choices : FnScope N__law_choices ["many"] (defScope s__law_choices) := ⟨rfl, rfl, rfl, by decide +kernel, rfl, by decide +kernel, by decide +kernel⟩
theorem sc__law_strip : FnScope N__law_strip ["place", "page"] (defScope s__law_strip) := ⟨rfl, rfl, rfl, by decide +kernel, rfl, by decide +kernel, by decide +kernel⟩
theorem sc__law_do_clash : FnScope N__law_do_clash ["one", "two"] (defScope s__law_do_clash) := ⟨rfl, rfl, rfl, by decide +kernel, rfl, by decide +kernel, by decide +kernel⟩
theorem sc_is_between : FnScope N_is_between ["value", "low", "high"] (defScope s_is_between) := ⟨rfl, rfl, rfl, by decide +kernel, rfl, by decide +kernel, by decide +kernel⟩
theorem sc_Leads___init__ : FnScope N_Leads___init__ ["self", "book"] (defScope s_Leads___init__) := ⟨rfl, rfl, rfl, by decide +kernel, rfl, by decide +kernel, by decide +kernel⟩
theorem sc_Leads_does_lead : FnScope N_Leads_does_lead ["self", "side", "other"] (defScope s_Leads_does_lead) := ⟨rfl, rfl, rfl, by decide +kernel, rfl, by decide +kernel, by decide +kernel⟩
theorem sc_do_clash_by : FnScope N_do_clash_by ["places", "index", "page", "second_index", "second_page"] (defScope s_do_clash_by) := ⟨rfl, rfl, rfl, by decide +kernel, rfl, by decide +kernel, by decide +kernel⟩
theorem sc__law_places : FnScope N__law_places ["pool", "many"] (defScope s__law_places) := ⟨rfl, rfl, rfl, by decide +kernel, rfl, by decide +kernel, by decide +kernel⟩
theorem sc__law_fits : FnScope N__law_fits ["places", "pages"] (defScope s__law_fits) := ⟨rfl, rfl, rfl, by decide +kernel, rfl, by decide +kernel, by decide +kernel⟩
theorem sc_are_between : FnScope N_are_between ["value", "many", "low", "high"] (defScope s_are_between) := ⟨rfl, rfl, rfl, by decide +kernel, rfl, by decide +kernel, by decide +kernel⟩
theorem sc_Leads_does_lead_to_back : FnScope N_Leads_does_lead_to_back ["self", "side"] (defScope s_Leads_does_lead_to_back) := ⟨rfl, rfl, rfl, by decide +kernel, rfl, by decide +kernel, by decide +kernel⟩
theorem sc_rules_at : FnScope N_rules_at ["places", "index", "second_index"] (defScope s_rules_at) := ⟨rfl, rfl, rfl, by decide +kernel, rfl, by decide +kernel, by decide +kernel⟩
theorem sc__law_is_told : FnScope N__law_is_told ["places", "told", "due"] (defScope s__law_is_told) := ⟨rfl, rfl, rfl, by decide +kernel, rfl, by decide +kernel, by decide +kernel⟩
theorem sc_fitting_side : FnScope N_fitting_side ["leads", "name"] (defScope s_fitting_side) := ⟨rfl, rfl, rfl, by decide +kernel, rfl, by decide +kernel, by decide +kernel⟩
theorem sc_is_place : FnScope N_is_place ["value"] (defScope s_is_place) := ⟨rfl, rfl, rfl, by decide +kernel, rfl, by decide +kernel, by decide +kernel⟩
theorem sc_label_book_by : FnScope N_label_book_by ["places"] (defScope s_label_book_by) := ⟨rfl, rfl, rfl, by decide +kernel, rfl, by decide +kernel, by decide +kernel⟩
theorem sc_first_wrong : FnScope N_first_wrong ["value", "low", "high", "is_one", "is_rising"] (defScope s_first_wrong) := ⟨rfl, rfl, rfl, by decide +kernel, rfl, by decide +kernel, by decide +kernel⟩
theorem sc_carried_by : FnScope N_carried_by ["leads", "told"] (defScope s_carried_by) := ⟨rfl, rfl, rfl, by decide +kernel, rfl, by decide +kernel, by decide +kernel⟩
theorem sc_choosing_by : FnScope N_choosing_by ["book"] (defScope s_choosing_by) := ⟨rfl, rfl, rfl, by decide +kernel, rfl, by decide +kernel, by decide +kernel⟩
theorem sc_wrong_in_places : FnScope N_wrong_in_places ["value"] (defScope s_wrong_in_places) := ⟨rfl, rfl, rfl, by decide +kernel, rfl, by decide +kernel, by decide +kernel⟩
theorem sc_labels_by : FnScope N_labels_by ["places"] (defScope s_labels_by) := ⟨rfl, rfl, rfl, by decide +kernel, rfl, by decide +kernel, by decide +kernel⟩
theorem sc_check_places : FnScope N_check_places ["value"] (defScope s_check_places) := ⟨rfl, rfl, rfl, by decide +kernel, rfl, by decide +kernel, by decide +kernel⟩
theorem sc_labels : FnScope N_labels ["places"] (defScope s_labels) := ⟨rfl, rfl, rfl, by decide +kernel, rfl, by decide +kernel, by decide +kernel⟩
theorem sc__law_right : FnScope N__law_right ["pool"] (defScope s__law_right) := ⟨rfl, rfl, rfl, by decide +kernel, rfl, by decide +kernel, by decide +kernel⟩
theorem sc_law : FnScope N_law ["script"] (defScope s_law) := ⟨rfl, rfl, rfl, by decide +kernel, rfl, by decide +kernel, by decide +kernel⟩
structure C (K : PySem.W.Frag) (mg : Str → Option Value) : Prop where
  d__wall : Def K mg "_wall" s__wall
  d_is_whole : Def K mg "is_whole" s_is_whole
  d_is_tuple_of : Def K mg "is_tuple_of" s_is_tuple_of
  d_back_of : Def K mg "back_of" s_back_of
  d_all_sides : Def K mg "all_sides" s_all_sides
  d_rule_of : Def K mg "rule_of" s_rule_of
  d_with_rules : Def K mg "with_rules" s_with_rules
  d_Leads_come_from : MDef K "Leads" "come_from" "Leads.come_from" s_Leads_come_from
  d_choosing_of : Def K mg "choosing_of" s_choosing_of
  d_strip_by : Def K mg "strip_by" s_strip_by
  d_do_overlap : Def K mg "do_overlap" s_do_overlap
  d_letters_of : Def K mg "letters_of" s_letters_of
  d__law_pool : Def K mg "_law_pool" s__law_pool
  d__law_below : Def K mg "_law_below" s__law_below
  d__law_is_number : Def K mg "_law_is_number" s__law_is_number
  d__law_choices : Def K mg "_law_choices" s__law_choices
  d__law_strip : Def K mg "_law_strip" s__law_strip
  d__law_do_clash : Def K mg "_law_do_clash" s__law_do_clash
  d__law_same : Def K mg "_law_same" s__law_same
  d_is_between : Def K mg "is_between" s_is_between
  d_Leads___init__ : MDef K "Leads" "__init__" "Leads.__init__" s_Leads___init__
  d_Leads_does_lead : MDef K "Leads" "does_lead" "Leads.does_lead" s_Leads_does_lead
  d_do_clash_by : Def K mg "do_clash_by" s_do_clash_by
  d__law_places : Def K mg "_law_places" s__law_places
  d__law_fits : Def K mg "_law_fits" s__law_fits
  d_are_between : Def K mg "are_between" s_are_between
  d_Leads_does_lead_to_back : MDef K "Leads" "does_lead_to_back" "Leads.does_lead_to_back" s_Leads_does_lead_to_back
  d_rules_at : Def K mg "rules_at" s_rules_at
  d__law_is_told : Def K mg "_law_is_told" s__law_is_told
  d_fitting_side : Def K mg "fitting_side" s_fitting_side
  d_is_place : Def K mg "is_place" s_is_place
  d_label_book_by : Def K mg "label_book_by" s_label_book_by
  d_first_wrong : Def K mg "first_wrong" s_first_wrong
  d_carried_by : Def K mg "carried_by" s_carried_by
  d_choosing_by : Def K mg "choosing_by" s_choosing_by
  d_wrong_in_places : Def K mg "wrong_in_places" s_wrong_in_places
  d_labels_by : Def K mg "labels_by" s_labels_by
  d_check_places : Def K mg "check_places" s_check_places
  d_labels : Def K mg "labels" s_labels
  d__law_right : Def K mg "_law_right" s__law_right
  d_law : Def K mg "law" s_law
  f_cls_Leads : Cls K (He.ga K "Leads")
  f_noat_Leads_steps : NoAttr K (He.ga K "Leads") "steps"
  f_noat_Leads_things : NoAttr K (He.ga K "Leads") "things"
  f_meth_Leads_come_from : Meth K (He.ga K "Leads") "come_from" (He.fAd K ("Leads", some "come_from"))
  f_meth_Leads_does_lead : Meth K (He.ga K "Leads") "does_lead" (He.fAd K ("Leads", some "does_lead"))
  f_meth_Leads_does_lead_to_back : Meth K (He.ga K "Leads") "does_lead_to_back" (He.fAd K ("Leads", some "does_lead_to_back"))
  f_mkr_Leads : Mk K (He.ga K "Leads") (He.fAd K ("Leads", some "__init__"))
  f_glo_Leads : mg "Leads" = some (.ref (He.ga K "Leads"))
  t_PAGES : GTup K mg "PAGES" [0, 1]
  n_abs : mg "abs" = none
  n_all : mg "all" = none
  n_any : mg "any" = none
  n_bool : mg "bool" = none
  n_dict : mg "dict" = none
  n_divmod : mg "divmod" = none
  n_enumerate : mg "enumerate" = none
  n_int : mg "int" = none
  n_isinstance : mg "isinstance" = none
  n_len : mg "len" = none
  n_list : mg "list" = none
  n_max : mg "max" = none
  n_min : mg "min" = none
  n_range : mg "range" = none
  n_set : mg "set" = none
  n_sorted : mg "sorted" = none
  n_str : mg "str" = none
  n_tuple : mg "tuple" = none
  n_zip : mg "zip" = none
  m_IS_TAKEN : ∃ t, mg "IS_TAKEN" = some (.int 1 t)
  m_LETTERS : ∃ t, mg "LETTERS" = some (.str "abcdefghijklmnopqrstuvwxyz" t)
  m_MOST_NUMBER : ∃ t, mg "MOST_NUMBER" = some (.int 999 t)
  m_MOST_PLACES : ∃ t, mg "MOST_PLACES" = some (.int 14 t)
  m_NAME : ∃ t, mg "NAME" = some (.int 0 t)
  m_RULES : ∃ t, mg "RULES" = some (.int 1 t)
  m_SIZE : ∃ t, mg "SIZE" = some (.int 4 t)
  m_THINGS : ∃ t, mg "THINGS" = some (.int 0 t)
section
variable {P : Program} {w : World} {K : PySem.W.Frag} {mg : Str → Option Value} {base : Heap}
theorem h_is_whole (c : C K mg) : Has P w K mg base 1 "is_whole" ["value"] (pF f_is_whole) := by
  exact has_f (k := 0) c.d_is_whole sc_is_whole (fun _ _ _ _ _ _ us hl => match us, hl with | [_], _ => rfl) rfl rfl (by decide) (fun f cdv A outer s H E hr => (pfss_one (pfs_ret (pf_and (pf_isiK .int rfl c.n_isinstance rfl c.n_int (by decide +kernel) (pf_name 0)) (pf_one (pf_not (pf_isiK .bool rfl c.n_isinstance rfl c.n_bool (by decide +kernel) (pf_name 0))))))))
theorem h_is_tuple_of (c : C K mg) : Has P w K mg base 1 "is_tuple_of" ["value", "many"] (pF f_is_tuple_of) := by
  exact has_f (k := 0) c.d_is_tuple_of sc_is_tuple_of (fun _ _ _ _ _ _ us hl => match us, hl with | [_, _], _ => rfl) rfl rfl (by decide) (fun f cdv A outer s H E hr => (pfss_one (pfs_ret (pf_and (pf_isiK .tuple rfl c.n_isinstance rfl c.n_tuple (by decide +kernel) (pf_name 0)) (pf_one (pf_eq (pf_len rfl c.n_len (pfa_cons (pf_name 0) pfa_nil)) (pf_name 1) (hu_of hr)))))))
theorem h_back_of (c : C K mg) : Has P w K mg base 1 "back_of" ["side"] (pF f__law_back) := by
  exact has_f (k := 0) c.d_back_of sc_back_of (fun _ _ _ _ _ _ us hl => match us, hl with | [_], _ => rfl) rfl rfl (by decide) (fun f cdv A outer s H E hr => (pfss_one (pfs_ret (pf_tup (pfa_cons (pf_ix (pf_name 0) (pf_c (px_gintC rfl c.m_NAME))) (pfa_cons (pf_sub (pf_c px_int) (pf_ix (pf_name 0) (pf_c (px_gintC rfl c.m_IS_TAKEN)))) pfa_nil))))))
theorem h_all_sides (c : C K mg) : Has P w K mg base 1 "all_sides" ["things"] (pF f_all_sides) := by
  exact has_f (k := 0) c.d_all_sides sc_all_sides (fun _ _ _ _ _ _ us hl => match us, hl with | [_], _ => rfl) rfl rfl (by decide) (fun f cdv A outer s H E hr => (pfss_one (pfs_ret (pf_tuple rfl c.n_tuple (pfa_cons (pf_lc2 (own := [("name", 1), ("taken", 2)]) [2] rfl sc_all_sides.nd (pfi_U (pf_name 0)) (by exact (show BlkOk N_all_sides (defScope s_all_sides) _ _ from ⟨rfl, by decide +kernel, by decide +kernel, by decide +kernel, by decide +kernel⟩)) (by decide) (fun _ _ _ _ _ => (pfg_name (own := [1, 2]) (by decide) sc_all_sides.nd (i := 1) rfl (by first | exact Or.inl rfl | exact Or.inr rfl))) (fun _ _ _ _ _ => pfts_nil) (fun _ _ _ _ _ => (pfi_U (pf_tup (pfa_cons (pf_c px_int) (pfa_cons (pf_c px_int) pfa_nil))))) (fun _ _ _ _ _ => (pfg_name (own := [2]) (by decide) sc_all_sides.nd (i := 2) rfl (by first | exact Or.inl rfl | exact Or.inr rfl))) (fun _ _ _ _ _ => pfts_nil) (fun _ _ _ _ _ => (pf_tup (pfa_cons (pf_name 1) (pfa_cons (pf_name 2) pfa_nil))))) pfa_nil)))))
theorem h_rule_of (c : C K mg) : Has P w K mg base 1 "rule_of" ["side", "other"] (pF f_rule_of) := by
  exact has_f (k := 0) c.d_rule_of sc_rule_of (fun _ _ _ _ _ _ us hl => match us, hl with | [_, _], _ => rfl) rfl rfl (by decide) (fun f cdv A outer s H E hr => (pfss_one (pfs_ret (pf_if (pft_le (pf_name 0) (pf_name 1) (hu_of hr)) (pf_tup (pfa_cons (pf_name 0) (pfa_cons (pf_name 1) pfa_nil))) (pf_tup (pfa_cons (pf_name 1) (pfa_cons (pf_name 0) pfa_nil)))))))
theorem h_with_rules (c : C K mg) : Has P w K mg base 1 "with_rules" ["things", "rules"] (pF f_with_rules) := by
  exact has_f (k := 0) c.d_with_rules sc_with_rules (fun _ _ _ _ _ _ us hl => match us, hl with | [_, _], _ => rfl) rfl rfl (by decide) (fun f cdv A outer s H E hr => (pfss_one (pfs_ret (pf_tup (pfa_cons (pf_name 0) (pfa_cons (pf_tuple rfl c.n_tuple (pfa_cons (pf_sortSet rfl (hu_of hr) rfl c.n_sorted rfl c.n_set (pfa_cons (pf_name 1) pfa_nil)) pfa_nil)) pfa_nil))))))
theorem h_Leads_come_from (c : C K mg) : HasM P w K mg base 1 "Leads" "come_from" ["self", "side"] (pF f_Leads_come_from) := by
  exact hasM_f (k := 0) c.d_Leads_come_from sc_Leads_come_from (fun _ _ _ _ _ _ us hl => match us, hl with | [_, _], _ => rfl) rfl rfl (by decide) (fun f cdv A outer s H E hr => (pfss_cons (pfs_par3 (i := 2) (j := 3) (l := 4) rfl sc_Leads_come_from.nd rfl rfl rfl (by decide) (by decide) (by decide) rfl rfl rfl (pfa_cons (pf_oneT (Nat.lt_of_succ_lt (hu1_of hr)) (pf_name 1) (pf_c px_non)) (pfa_cons (pf_lstC (pfa_cons (pf_name 1) pfa_nil)) (pfa_cons (pf_c px_int) pfa_nil))) (by rfl))
  (pfss_cons (pfs_while hp_of (pft_lt (pf_name 4) (pf_len rfl c.n_len (pfa_cons (pf_name 3) pfa_nil)) (hu_of hr)) (pfss_cons (pfs_for hp_of rfl (pfi_U (pf_dget (pf_attr (C := "Leads") c.f_cls_Leads c.f_noat_Leads_steps (pf_name 0)) (pf_ix (pf_name 3) (pf_name 4)) (hu1_of hr))) (pfg_tup (own := [5, 6]) rfl (pfgs_cons (pfg_name (own := [5, 6]) (by decide) sc_Leads_come_from.nd (i := 5) rfl (by first | exact Or.inl rfl | exact Or.inr rfl)) (pfgs_cons (pfg_name (own := [5, 6]) (by decide) sc_Leads_come_from.nd (i := 6) rfl (by first | exact Or.inl rfl | exact Or.inr rfl)) pfgs_nil))) (pfss_one (pfs_if (pft_notin (pf_name 6) (pf_name 2) (hu_of hr)) (pfss_cons (pfs_dput (hu1_of hr) (pf_name 2) (pf_name 6) (pf_tup (pfa_cons (pf_name 5) (pfa_cons (pf_ix (pf_name 3) (pf_name 4)) pfa_nil))))
  (pfss_one (pfs_expr (pf_append (pf_name 3) (pfa_cons (pf_name 6) pfa_nil))))) pfss_nil)))
  (pfss_one (pfs_set (i := 4) sc_Leads_come_from.nd rfl (by first | exact Or.inl rfl | exact Or.inr rfl) (pf_add (pf_name 4) (pf_c px_int))))))
  (pfss_one (pfs_ret (pf_name 2))))))
theorem h_choosing_of (c : C K mg) : Has P w K mg base 1 "choosing_of" ["things", "told"] (pF f_choosing_of) := by
  exact has_f (k := 0) c.d_choosing_of sc_choosing_of (fun _ _ _ _ _ _ us hl => match us, hl with | [_, _], _ => rfl) rfl rfl (by decide) (fun f cdv A outer s H E hr => (pfss_one (pfs_ret (pf_tuple rfl c.n_tuple (pfa_cons (pf_lc (own := [("name", 2)]) rfl sc_choosing_of.nd (pfi_U (pf_name 0)) (by exact (show BlkOk N_choosing_of (defScope s_choosing_of) _ _ from ⟨rfl, by decide +kernel, by decide +kernel, by decide +kernel, by decide +kernel⟩)) (fun _ _ _ _ _ => (pfg_name (own := [2]) (by decide) sc_choosing_of.nd (i := 2) rfl (by first | exact Or.inl rfl | exact Or.inr rfl))) (fun _ _ _ _ _ => pfts_nil) (fun _ _ _ _ _ => (pf_dget (pf_name 1) (pf_name 2) (hu1_of hr)))) pfa_nil)))))
theorem h_strip_by (c : C K mg) : Has P w K mg base 1 "strip_by" ["place", "page"] (pF f_strip_by) := by
  exact has_f (k := 0) c.d_strip_by sc_strip_by (fun _ _ _ _ _ _ us hl => match us, hl with | [_, _], _ => rfl) rfl rfl (by decide) (fun f cdv A outer s H E hr => (pfss_cons (pfs_asg (pf_name 0) (pfg_tup (own := [2, 3, 4, 5]) rfl (pfgs_cons (pfg_name (own := [2, 3, 4, 5]) (by decide) sc_strip_by.nd (i := 2) rfl (by first | exact Or.inl rfl | exact Or.inr rfl)) (pfgs_cons (pfg_name (own := [2, 3, 4, 5]) (by decide) sc_strip_by.nd (i := 3) rfl (by first | exact Or.inl rfl | exact Or.inr rfl)) (pfgs_cons (pfg_name (own := [2, 3, 4, 5]) (by decide) sc_strip_by.nd (i := 4) rfl (by first | exact Or.inl rfl | exact Or.inr rfl)) (pfgs_cons (pfg_name (own := [2, 3, 4, 5]) (by decide) sc_strip_by.nd (i := 5) rfl (by first | exact Or.inl rfl | exact Or.inr rfl)) pfgs_nil))))))
  (pfss_cons (pfs_set (i := 6) sc_strip_by.nd rfl (by first | exact Or.inl rfl | exact Or.inr rfl) (pf_if (pft_eq (pf_name 1) (pf_c px_int) (hu_of hr)) (pf_name 2) (pf_sub (pf_name 2) (pf_name 4))))
  (pfss_one (pfs_ret (pf_tup (pfa_cons (pf_name 6) (pfa_cons (pf_name 3) (pfa_cons (pf_add (pf_name 6) (pf_name 4)) (pfa_cons (pf_add (pf_name 3) (pf_name 5)) pfa_nil))))))))))
theorem h_do_overlap (c : C K mg) : Has P w K mg base 1 "do_overlap" ["strip", "other"] (pF f_do_overlap) := by
  exact has_f (k := 0) c.d_do_overlap sc_do_overlap (fun _ _ _ _ _ _ us hl => match us, hl with | [_, _], _ => rfl) rfl rfl (by decide) (fun f cdv A outer s H E hr => (pfss_cons (pfs_if (PXW.pt (pfw_or (pft_le (pf_ix (pf_name 0) (pf_c px_int)) (pf_ix (pf_name 1) (pf_c px_int)) (hu_of hr)) (pfw_or1 (pft_le (pf_ix (pf_name 1) (pf_c px_int)) (pf_ix (pf_name 0) (pf_c px_int)) (hu_of hr))))) (pfss_one (pfs_ret (pf_c px_bl))) pfss_nil)
  (pfss_one (pfs_ret (pf_and (pf_lt (pf_ix (pf_name 0) (pf_c px_int)) (pf_ix (pf_name 1) (pf_c px_int)) (hu_of hr)) (pf_one (pf_lt (pf_ix (pf_name 1) (pf_c px_int)) (pf_ix (pf_name 0) (pf_c px_int)) (hu_of hr))))))))
theorem h_letters_of (c : C K mg) : Has P w K mg base 1 "letters_of" ["many"] (pF f_letters_of) := by
  exact has_f (k := 0) c.d_letters_of sc_letters_of (fun _ _ _ _ _ _ us hl => match us, hl with | [_], _ => rfl) rfl rfl (by decide) (fun f cdv A outer s H E hr => (pfss_one (pfs_ret (pf_tuple rfl c.n_tuple (pfa_cons (pf_listS rfl rfl c.n_list (pfa_cons (pf_sl (pf_c (px_gstrC rfl c.m_LETTERS)) pfo_none (pfo_some (pf_name 0))) pfa_nil)) pfa_nil)))))
theorem h__law_pool (c : C K mg) : Has P w K mg base 1 "_law_pool" ["script", "lap"] (pF (f__law_pool_k63 60 73 2147483587 15055 2147483647 52151 2147483587 61 2147483647 36229 9917 8085 817)) := by
  exact has_f (k := 0) c.d__law_pool sc__law_pool (fun _ _ _ _ _ _ us hl => match us, hl with | [_, _], _ => rfl) rfl rfl (by decide) (fun f cdv A outer s H E hr => (pfss_cons (pfs_set (i := 2) sc__law_pool.nd rfl (by first | exact Or.inl rfl | exact Or.inr rfl) (pf_if (pft_lt (pf_name 1) (pf_len rfl c.n_len (pfa_cons (pf_name 0) pfa_nil)) (hu_of hr)) (pf_intc rfl c.n_int (pfa_cons (pf_ix (pf_name 0) (pf_name 1)) pfa_nil)) (pf_add (pf_mul (pf_c px_int) (pf_name 1)) (pf_c px_int))))
  (pfss_cons (pfs_set (i := 3) sc__law_pool.nd rfl (by first | exact Or.inl rfl | exact Or.inr rfl) (pf_add (pf_c px_int) (pf_mul (pf_c px_int) (pf_name 1))))
  (pfss_cons (pfs_for hp_of rfl (pfi_U (pf_sl (pf_name 0) pfo_none (pfo_some (pf_c px_int)))) (pfg_name (own := [4]) (by decide) sc__law_pool.nd (i := 4) rfl (by first | exact Or.inl rfl | exact Or.inr rfl)) (pfss_one (pfs_set (i := 3) sc__law_pool.nd rfl (by first | exact Or.inl rfl | exact Or.inr rfl) (pf_mod (pf_intc rfl c.n_int (pfa_cons (pf_add (pf_add (pf_mul (pf_name 3) (pf_c px_int)) (pf_mod (pf_intc rfl c.n_int (pfa_cons (pf_name 4) pfa_nil)) (pf_c px_int))) (pf_c px_int)) pfa_nil)) (pf_c px_int)))))
  (pfss_cons (pfs_set (i := 3) sc__law_pool.nd rfl (by first | exact Or.inl rfl | exact Or.inr rfl) (pf_mod (pf_intc rfl c.n_int (pfa_cons (pf_add (pf_add (pf_mul (pf_name 3) (pf_c px_int)) (pf_mul (pf_mod (pf_intc rfl c.n_int (pfa_cons (pf_name 2) pfa_nil)) (pf_c px_int)) (pf_c px_int))) (pf_c px_int)) pfa_nil)) (pf_c px_int)))
  (pfss_one (pfs_ret (pf_lstC (pfa_cons (pf_if (PXW.pt (pfw_or (pft_lt (pf_name 2) (pf_c px_int) (hu_of hr)) (pfw_or1 (pft_ge (pf_name 2) (pf_pow (pf_c px_int) (pf_c px_int)) (hu_of hr))))) (pf_mod (pf_intc rfl c.n_int (pfa_cons (pf_abs rfl c.n_abs (pfa_cons (pf_name 2) pfa_nil)) pfa_nil)) (pf_pow (pf_c px_int) (pf_c px_int))) (pf_c px_int)) (pfa_cons (pf_name 3) (pfa_cons (pf_c px_int) pfa_nil)))))))))))
theorem h__law_below (c : C K mg) : Has P w K mg base 1 "_law_below" ["pool", "many"] (pF (f__law_below_k63 359 3989 15515 2147483563 33821 6501 71 2147483563)) := by
  exact has_f (k := 0) c.d__law_below sc__law_below (fun _ _ _ _ _ _ us hl => match us, hl with | [_, _], _ => rfl) rfl rfl (by decide) (fun f cdv A outer s H E hr => (pfss_cons (pfs_if (pft_gt (pf_ix (pf_name 0) (pf_c px_int)) (pf_c px_int) (hu_of hr)) (pfss_cons (pfs_asg (pf_divmod rfl c.n_divmod (pfa_cons (pf_ix (pf_name 0) (pf_c px_int)) (pfa_cons (pf_name 1) pfa_nil))) (pfg_tup (own := [2]) rfl (pfgs_cons (pfg_sub (own := [2]) (pf_name 0) (pf_c px_int)) (pfgs_cons (pfg_name (own := [2]) (by decide) sc__law_below.nd (i := 2) rfl (by first | exact Or.inl rfl | exact Or.inr rfl)) pfgs_nil))))
  (pfss_one (pfs_ret (pf_name 2)))) pfss_nil)
  (pfss_cons (pfs_asg (pf_add (pf_ix (pf_name 0) (pf_c px_int)) (pf_c px_int)) (pfg_sub (own := []) (pf_name 0) (pf_c px_int)))
  (pfss_cons (pfs_set (i := 3) sc__law_below.nd rfl (by first | exact Or.inl rfl | exact Or.inr rfl) (pf_mod (pf_intc rfl c.n_int (pfa_cons (pf_add (pf_add (pf_mul (pf_ix (pf_name 0) (pf_c px_int)) (pf_c px_int)) (pf_mul (pf_c px_int) (pf_ix (pf_name 0) (pf_c px_int)))) (pf_c px_int)) pfa_nil)) (pf_c px_int)))
  (pfss_cons (pfs_asg (pf_mod (pf_intc rfl c.n_int (pfa_cons (pf_add (pf_mul (pf_name 3) (pf_add (pf_mod (pf_intc rfl c.n_int (pfa_cons (pf_name 3) pfa_nil)) (pf_c px_int)) (pf_c px_int))) (pf_ix (pf_name 0) (pf_c px_int))) pfa_nil)) (pf_c px_int)) (pfg_sub (own := []) (pf_name 0) (pf_c px_int)))
  (pfss_one (pfs_ret (pf_mod (pf_intc rfl c.n_int (pfa_cons (pf_div (pf_ix (pf_name 0) (pf_c px_int)) (pf_c px_int)) pfa_nil)) (pf_name 1)))))))))
theorem h__law_is_number (c : C K mg) : Has P w K mg base 1 "_law_is_number" ["thing", "low", "high"] (pF f__law_is_number_k62) := by
  exact has_f (k := 0) c.d__law_is_number sc__law_is_number (fun _ _ _ _ _ _ us hl => match us, hl with | [_, _, _], _ => rfl) rfl rfl (by decide) (fun f cdv A outer s H E hr => (pfss_one (pfs_ret (pf_and (pf_isiK .int rfl c.n_isinstance rfl c.n_int (by decide +kernel) (pf_name 0)) (pf_and (pf_not (pf_isiK .bool rfl c.n_isinstance rfl c.n_bool (by decide +kernel) (pf_name 0))) (pf_one (pf_lele (pf_name 1) (pf_name 0) (pf_name 2))))))))
theorem h__law_choices (c : C K mg) : Has P w K mg base 1 "_law_choices" ["many"] (pF f__law_all) := by
  exact has_f (k := 0) c.d__law_choices sc__law_choices (fun _ _ _ _ _ _ us hl => match us, hl with | [_], _ => rfl) rfl rfl (by decide) (fun f cdv A outer s H E hr => (pfss_cons (pfs_set (i := 1) sc__law_choices.nd rfl (by first | exact Or.inl rfl | exact Or.inr rfl) (pf_lst (pfa_cons (pf_tup pfa_nil) pfa_nil)))
  (pfss_cons (pfs_for hp_of rfl (pfi_range1 rfl c.n_range (pfa_cons (pf_name 0) pfa_nil)) (pfg_name (own := [2]) (by decide) sc__law_choices.nd (i := 2) rfl (by first | exact Or.inl rfl | exact Or.inr rfl)) (pfss_one (pfs_set (i := 1) sc__law_choices.nd rfl (by first | exact Or.inl rfl | exact Or.inr rfl) (pf_add (pf_lc (own := [("row", 3)]) rfl sc__law_choices.nd (pfi_U (pf_name 1)) (by exact (show BlkOk N__law_choices (defScope s__law_choices) _ _ from ⟨rfl, by decide +kernel, by decide +kernel, by decide +kernel, by decide +kernel⟩)) (fun _ _ _ _ _ => (pfg_name (own := [3]) (by decide) sc__law_choices.nd (i := 3) rfl (by first | exact Or.inl rfl | exact Or.inr rfl))) (fun _ _ _ _ _ => pfts_nil) (fun _ _ _ _ _ => (pf_add (pf_name 3) (pf_tup (pfa_cons (pf_c px_int) pfa_nil))))) (pf_lc (own := [("row", 3)]) rfl sc__law_choices.nd (pfi_U (pf_name 1)) (by exact (show BlkOk N__law_choices (defScope s__law_choices) _ _ from ⟨rfl, by decide +kernel, by decide +kernel, by decide +kernel, by decide +kernel⟩)) (fun _ _ _ _ _ => (pfg_name (own := [3]) (by decide) sc__law_choices.nd (i := 3) rfl (by first | exact Or.inl rfl | exact Or.inr rfl))) (fun _ _ _ _ _ => pfts_nil) (fun _ _ _ _ _ => (pf_add (pf_name 3) (pf_tup (pfa_cons (pf_c px_int) pfa_nil)))))))))
  (pfss_one (pfs_ret (pf_name 1))))))
theorem h__law_strip (c : C K mg) : Has P w K mg base 1 "_law_strip" ["place", "page"] (pF f__law_strip) := by
  exact has_f (k := 0) c.d__law_strip sc__law_strip (fun _ _ _ _ _ _ us hl => match us, hl with | [_, _], _ => rfl) rfl rfl (by decide) (fun f cdv A outer s H E hr => (pfss_cons (pfs_asg (pf_name 0) (pfg_tup (own := [2, 3, 4, 5]) rfl (pfgs_cons (pfg_name (own := [2, 3, 4, 5]) (by decide) sc__law_strip.nd (i := 2) rfl (by first | exact Or.inl rfl | exact Or.inr rfl)) (pfgs_cons (pfg_name (own := [2, 3, 4, 5]) (by decide) sc__law_strip.nd (i := 3) rfl (by first | exact Or.inl rfl | exact Or.inr rfl)) (pfgs_cons (pfg_name (own := [2, 3, 4, 5]) (by decide) sc__law_strip.nd (i := 4) rfl (by first | exact Or.inl rfl | exact Or.inr rfl)) (pfgs_cons (pfg_name (own := [2, 3, 4, 5]) (by decide) sc__law_strip.nd (i := 5) rfl (by first | exact Or.inl rfl | exact Or.inr rfl)) pfgs_nil))))))
  (pfss_one (pfs_ret (pf_if (pft_eq (pf_name 1) (pf_c px_int) (hu_of hr)) (pf_tup (pfa_cons (pf_name 2) (pfa_cons (pf_name 3) (pfa_cons (pf_add (pf_name 2) (pf_name 4)) (pfa_cons (pf_add (pf_name 3) (pf_name 5)) pfa_nil))))) (pf_tup (pfa_cons (pf_sub (pf_name 2) (pf_name 4)) (pfa_cons (pf_name 3) (pfa_cons (pf_name 2) (pfa_cons (pf_add (pf_name 3) (pf_name 5)) pfa_nil))))))))))
theorem h__law_do_clash (c : C K mg) : Has P w K mg base 1 "_law_do_clash" ["one", "two"] (pF f__law_do_clash) := by
  exact has_f (k := 0) c.d__law_do_clash sc__law_do_clash (fun _ _ _ _ _ _ us hl => match us, hl with | [_, _], _ => rfl) rfl rfl (by decide) (fun f cdv A outer s H E hr => (pfss_one (pfs_ret (pf_and (pf_lt (pf_ix (pf_name 0) (pf_c px_int)) (pf_ix (pf_name 1) (pf_c px_int)) (hu_of hr)) (pf_and (pf_lt (pf_ix (pf_name 1) (pf_c px_int)) (pf_ix (pf_name 0) (pf_c px_int)) (hu_of hr)) (pf_and (pf_lt (pf_ix (pf_name 0) (pf_c px_int)) (pf_ix (pf_name 1) (pf_c px_int)) (hu_of hr)) (pf_one (pf_lt (pf_ix (pf_name 1) (pf_c px_int)) (pf_ix (pf_name 0) (pf_c px_int)) (hu_of hr)))))))))
theorem h_is_between (c : C K mg) : Has P w K mg base 2 "is_between" ["value", "low", "high"] (pF f_is_between) := by
  exact has_f (k := 1) c.d_is_between sc_is_between (fun _ _ _ _ _ _ us hl => match us, hl with | [_, _, _], _ => rfl) rfl rfl (by decide) (fun f cdv A outer s H E hr => (pfss_one (pfs_ret (pf_and (pf_user (h_is_whole c) tk_of hr (by omega) rfl (pfa_cons (pf_name 0) pfa_nil)) (pf_one (pf_lele (pf_name 1) (pf_name 0) (pf_name 2)))))))
theorem h_Leads___init__ (c : C K mg) : HasM P w K mg base 2 "Leads" "__init__" ["self", "book"] (pF f_Leads___init__) := by
  exact hasM_f (k := 1) c.d_Leads___init__ sc_Leads___init__ (fun _ _ _ _ _ _ us hl => match us, hl with | [_, _], _ => rfl) rfl rfl (by decide) (fun f cdv A outer s H E hr => (pfss_cons (pfs_fld (C := "Leads") c.f_cls_Leads c.f_noat_Leads_things (pf_name 0) (pf_ix (pf_name 1) (pf_c (px_gintC rfl c.m_THINGS))))
  (pfss_cons (pfs_fld (C := "Leads") c.f_cls_Leads c.f_noat_Leads_steps (pf_name 0) (pf_dcC (own := [("side", 3)]) rfl (Nat.lt_of_succ_lt (hu1_of hr)) sc_Leads___init__.nd (pfi_U (pf_user (h_all_sides c) tk_of hr (by omega) rfl (pfa_cons (pf_attr (C := "Leads") c.f_cls_Leads c.f_noat_Leads_things (pf_name 0)) pfa_nil))) (by exact (show BlkOk N_Leads___init__ (defScope s_Leads___init__) _ _ from ⟨rfl, by decide +kernel, by decide +kernel, by decide +kernel, by decide +kernel⟩)) (fun _ _ _ _ _ => (pfg_name (own := [3]) (by decide) sc_Leads___init__.nd (i := 3) rfl (by first | exact Or.inl rfl | exact Or.inr rfl))) (fun _ _ _ _ _ => pfts_nil) (fun _ _ _ _ _ => (pf_name 3)) (fun _ _ _ _ _ => (pf_lstC pfa_nil))))
  (pfss_one (pfs_for hp_of rfl (pfi_enum rfl c.n_enumerate (pfa_cons (pf_ix (pf_name 1) (pf_c (px_gintC rfl c.m_RULES))) pfa_nil)) (pfg_tup (own := [2, 3, 4]) rfl (pfgs_cons (pfg_name (own := [2, 3, 4]) (by decide) sc_Leads___init__.nd (i := 2) rfl (by first | exact Or.inl rfl | exact Or.inr rfl)) (pfgs_cons (pfg_tup (own := [2, 3, 4]) rfl (pfgs_cons (pfg_name (own := [2, 3, 4]) (by decide) sc_Leads___init__.nd (i := 3) rfl (by first | exact Or.inl rfl | exact Or.inr rfl)) (pfgs_cons (pfg_name (own := [2, 3, 4]) (by decide) sc_Leads___init__.nd (i := 4) rfl (by first | exact Or.inl rfl | exact Or.inr rfl)) pfgs_nil))) pfgs_nil))) (pfss_cons (pfs_expr (pf_append (pf_cget (hu1_of hr) (pf_attr (C := "Leads") c.f_cls_Leads c.f_noat_Leads_steps (pf_name 0)) (pf_user (h_back_of c) tk_of hr (by omega) rfl (pfa_cons (pf_name 3) pfa_nil))) (pfa_cons (pf_tup (pfa_cons (pf_name 2) (pfa_cons (pf_name 4) pfa_nil))) pfa_nil)))
  (pfss_one (pfs_if (pft_ne (pf_name 3) (pf_name 4) (hu_of hr)) (pfss_one (pfs_expr (pf_append (pf_cget (hu1_of hr) (pf_attr (C := "Leads") c.f_cls_Leads c.f_noat_Leads_steps (pf_name 0)) (pf_user (h_back_of c) tk_of hr (by omega) rfl (pfa_cons (pf_name 4) pfa_nil))) (pfa_cons (pf_tup (pfa_cons (pf_name 2) (pfa_cons (pf_name 3) pfa_nil))) pfa_nil)))) pfss_nil))))))))
theorem h_Leads_does_lead (c : C K mg) : HasM P w K mg base 2 "Leads" "does_lead" ["self", "side", "other"] (pF f_Leads_does_lead) := by
  exact hasM_f (k := 1) c.d_Leads_does_lead sc_Leads_does_lead (fun _ _ _ _ _ _ us hl => match us, hl with | [_, _, _], _ => rfl) rfl rfl (by decide) (fun f cdv A outer s H E hr => (pfss_one (pfs_ret (pf_in (pf_name 2) (pf_methF (h_Leads_come_from c) c.f_cls_Leads c.f_meth_Leads_come_from tk_of hr (by omega) (pf_name 0) (pfa_cons (pf_name 1) pfa_nil)) (hu_of hr)))))
theorem h_do_clash_by (c : C K mg) : Has P w K mg base 2 "do_clash_by" ["places", "index", "page", "second_index", "second_page"] (pF f_do_clash_by) := by
  exact has_f (k := 1) c.d_do_clash_by sc_do_clash_by (fun _ _ _ _ _ _ us hl => match us, hl with | [_, _, _, _, _], _ => rfl) rfl rfl (by decide) (fun f cdv A outer s H E hr => (pfss_one (pfs_ret (pf_user (h_do_overlap c) tk_of hr (by omega) rfl (pfa_cons (pf_user (h_strip_by c) tk_of hr (by omega) rfl (pfa_cons (pf_ix (pf_name 0) (pf_name 1)) (pfa_cons (pf_name 2) pfa_nil))) (pfa_cons (pf_user (h_strip_by c) tk_of hr (by omega) rfl (pfa_cons (pf_ix (pf_name 0) (pf_name 3)) (pfa_cons (pf_name 4) pfa_nil))) pfa_nil))))))
theorem h__law_places (c : C K mg) : Has P w K mg base 2 "_law_places" ["pool", "many"] (pF (f__law_places (f__law_below_k63 359 3989 15515 2147483563 33821 6501 71 2147483563))) := by
  exact has_f (k := 1) c.d__law_places sc__law_places (fun _ _ _ _ _ _ us hl => match us, hl with | [_, _], _ => rfl) rfl rfl (by decide) (fun f cdv A outer s H E hr => (pfss_cons (pfs_set (i := 2) sc__law_places.nd rfl (by first | exact Or.inl rfl | exact Or.inr rfl) (pf_lstC pfa_nil))
  (pfss_cons (pfs_for hp_of rfl (pfi_range1 rfl c.n_range (pfa_cons (pf_name 1) pfa_nil)) (pfg_name (own := [3]) (by decide) sc__law_places.nd (i := 3) rfl (by first | exact Or.inl rfl | exact Or.inr rfl)) (pfss_cons (pfs_set (i := 4) sc__law_places.nd rfl (by first | exact Or.inl rfl | exact Or.inr rfl) (pf_add (pf_c px_int) (pf_user (h__law_below c) tk_of hr (by omega) rfl (pfa_cons (pf_name 0) (pfa_cons (pf_c px_int) pfa_nil)))))
  (pfss_one (pfs_expr (pf_append (pf_name 2) (pfa_cons (pf_tup (pfa_cons (pf_add (pf_name 4) (pf_user (h__law_below c) tk_of hr (by omega) rfl (pfa_cons (pf_name 0) (pfa_cons (pf_c px_int) pfa_nil)))) (pfa_cons (pf_user (h__law_below c) tk_of hr (by omega) rfl (pfa_cons (pf_name 0) (pfa_cons (pf_c px_int) pfa_nil))) (pfa_cons (pf_name 4) (pfa_cons (pf_add (pf_c px_int) (pf_user (h__law_below c) tk_of hr (by omega) rfl (pfa_cons (pf_name 0) (pfa_cons (pf_c px_int) pfa_nil)))) pfa_nil))))) pfa_nil))))))
  (pfss_one (pfs_ret (pf_tuple rfl c.n_tuple (pfa_cons (pf_name 2) pfa_nil)))))))
theorem h__law_fits (c : C K mg) : Has P w K mg base 2 "_law_fits" ["places", "pages"] (pF f__law_fits) := by
  exact has_f (k := 1) c.d__law_fits sc__law_fits (fun _ _ _ _ _ _ us hl => match us, hl with | [_, _], _ => rfl) rfl rfl (by decide) (fun f cdv A outer s H E hr => (pfss_cons (pfs_setLc (i := 2) (own := [("place", 5), ("page", 6)]) rfl sc__law_fits.nd rfl rfl (sw_true rfl rfl rfl rfl) (pfi_zip rfl c.n_zip (pfa_cons (pf_name 0) (pfa_cons (pf_name 1) pfa_nil))) (by exact (show BlkOk N__law_fits (defScope s__law_fits) _ _ from ⟨rfl, by decide +kernel, by decide +kernel, by decide +kernel, by decide +kernel⟩)) (fun _ _ _ _ _ => (pfg_tup (own := [5, 6]) rfl (pfgs_cons (pfg_name (own := [5, 6]) (by decide) sc__law_fits.nd (i := 5) rfl (by first | exact Or.inl rfl | exact Or.inr rfl)) (pfgs_cons (pfg_name (own := [5, 6]) (by decide) sc__law_fits.nd (i := 6) rfl (by first | exact Or.inl rfl | exact Or.inr rfl)) pfgs_nil)))) (fun _ _ _ _ _ => pfts_nil) (fun _ _ _ _ _ => (pf_user (h__law_strip c) takes0 hr (by omega) rfl (pfa_cons (pf_name 5) (pfa_cons (pf_name 6) pfa_nil)))))
  (pfss_cons (pfs_for hp_of rfl (pfi_enum rfl c.n_enumerate (pfa_cons (pf_name 2) pfa_nil)) (pfg_tup (own := [3, 4]) rfl (pfgs_cons (pfg_name (own := [3, 4]) (by decide) sc__law_fits.nd (i := 3) rfl (by first | exact Or.inl rfl | exact Or.inr rfl)) (pfgs_cons (pfg_name (own := [3, 4]) (by decide) sc__law_fits.nd (i := 4) rfl (by first | exact Or.inl rfl | exact Or.inr rfl)) pfgs_nil))) (pfss_one (pfs_if (pft_val (pf_any rfl rfl c.n_any (pfa_cons (pf_lc (own := [("two", 7)]) rfl sc__law_fits.nd (pfi_U (pf_sl (pf_name 2) pfo_none (pfo_some (pf_name 3)))) (by exact (show BlkOk N__law_fits (defScope s__law_fits) _ _ from ⟨rfl, by decide +kernel, by decide +kernel, by decide +kernel, by decide +kernel⟩)) (fun _ _ _ _ _ => (pfg_name (own := [7]) (by decide) sc__law_fits.nd (i := 7) rfl (by first | exact Or.inl rfl | exact Or.inr rfl))) (fun _ _ _ _ _ => pfts_nil) (fun _ _ _ _ _ => (pf_user (h__law_do_clash c) takes0 hr (by omega) rfl (pfa_cons (pf_name 4) (pfa_cons (pf_name 7) pfa_nil))))) pfa_nil))) (pfss_one (pfs_ret (pf_c px_bl))) pfss_nil)))
  (pfss_one (pfs_ret (pf_c px_bl))))))
theorem h_are_between (c : C K mg) : Has P w K mg base 3 "are_between" ["value", "many", "low", "high"] (pF f_are_between) := by
  exact has_f (k := 2) c.d_are_between sc_are_between (fun _ _ _ _ _ _ us hl => match us, hl with | [_, _, _, _], _ => rfl) rfl rfl (by decide) (fun f cdv A outer s H E hr => (pfss_one (pfs_ret (pf_and (pf_user (h_is_tuple_of c) tk_of hr (by omega) rfl (pfa_cons (pf_name 0) (pfa_cons (pf_name 1) pfa_nil))) (pf_one (pf_all rfl rfl c.n_all (pfa_cons (pf_lc (own := [("each", 4)]) rfl sc_are_between.nd (pfi_U (pf_name 0)) (by exact (show BlkOk N_are_between (defScope s_are_between) _ _ from ⟨rfl, by decide +kernel, by decide +kernel, by decide +kernel, by decide +kernel⟩)) (fun _ _ _ _ _ => (pfg_name (own := [4]) (by decide) sc_are_between.nd (i := 4) rfl (by first | exact Or.inl rfl | exact Or.inr rfl))) (fun _ _ _ _ _ => pfts_nil) (fun _ _ _ _ _ => (pf_user (h_is_between c) takes0 hr (by omega) rfl (pfa_cons (pf_name 4) (pfa_cons (pf_name 2) (pfa_cons (pf_name 3) pfa_nil)))))) pfa_nil)))))))
theorem h_Leads_does_lead_to_back (c : C K mg) : HasM P w K mg base 3 "Leads" "does_lead_to_back" ["self", "side"] (pF f_Leads_does_lead_to_back) := by
  exact hasM_f (k := 2) c.d_Leads_does_lead_to_back sc_Leads_does_lead_to_back (fun _ _ _ _ _ _ us hl => match us, hl with | [_, _], _ => rfl) rfl rfl (by decide) (fun f cdv A outer s H E hr => (pfss_one (pfs_ret (pf_meth (h_Leads_does_lead c) c.f_cls_Leads c.f_meth_Leads_does_lead tk_of hr (by omega) (pf_name 0) (pfa_cons (pf_name 1) (pfa_cons (pf_user (h_back_of c) tk_of hr (by omega) rfl (pfa_cons (pf_name 1) pfa_nil)) pfa_nil))))))
theorem h_rules_at (c : C K mg) : Has P w K mg base 3 "rules_at" ["places", "index", "second_index"] (pF f_rules_at_labelwork) := by
  exact has_f (k := 2) c.d_rules_at sc_rules_at (fun _ _ _ _ _ _ us hl => match us, hl with | [_, _, _], _ => rfl) rfl rfl (by decide) (fun f cdv A outer s H E hr => (pfss_cons (pfs_set (i := 3) sc_rules_at.nd rfl (by first | exact Or.inl rfl | exact Or.inr rfl) (pf_lstC pfa_nil))
  (pfss_cons (pfs_for hp_of rfl (pfi_gtup rfl c.t_PAGES) (pfg_name (own := [4]) (by decide) sc_rules_at.nd (i := 4) rfl (by first | exact Or.inl rfl | exact Or.inr rfl)) (pfss_one (pfs_for hp_of rfl (pfi_gtup rfl c.t_PAGES) (pfg_name (own := [5]) (by decide) sc_rules_at.nd (i := 5) rfl (by first | exact Or.inl rfl | exact Or.inr rfl)) (pfss_one (pfs_if (pft_val (pf_user (h_do_clash_by c) tk_of hr (by omega) rfl (pfa_cons (pf_name 0) (pfa_cons (pf_name 1) (pfa_cons (pf_name 4) (pfa_cons (pf_name 2) (pfa_cons (pf_name 5) pfa_nil))))))) (pfss_one (pfs_expr (pf_append (pf_name 3) (pfa_cons (pf_user (h_rule_of c) tk_of hr (by omega) rfl (pfa_cons (pf_tup (pfa_cons (pf_ix (pf_c (px_gstrC rfl c.m_LETTERS)) (pf_name 1)) (pfa_cons (pf_sub (pf_c px_int) (pf_name 4)) pfa_nil))) (pfa_cons (pf_tup (pfa_cons (pf_ix (pf_c (px_gstrC rfl c.m_LETTERS)) (pf_name 2)) (pfa_cons (pf_sub (pf_c px_int) (pf_name 5)) pfa_nil))) pfa_nil))) pfa_nil)))) pfss_nil)))))
  (pfss_one (pfs_ret (pf_name 3))))))
theorem h__law_is_told (c : C K mg) : Has P w K mg base 3 "_law_is_told" ["places", "told", "due"] (pF f__law_is_told_k62) := by
  exact has_f (k := 2) c.d__law_is_told sc__law_is_told (fun _ _ _ _ _ _ us hl => match us, hl with | [_, _, _], _ => rfl) rfl rfl (by decide) (fun f cdv A outer s H E hr => (pfss_cons (pfs_if (PXW.pt (pfw_or (pft_isN (pf_name 1)) (pfw_or1 (pft_not (pft_val (pf_name 2)))))) (pfss_one (pfs_ret (pf_and (pf_isN (pf_name 1)) (pf_one (pf_not (pf_name 2)))))) pfss_nil)
  (pfss_one (pfs_ret (pf_and (pf_isiK .tuple rfl c.n_isinstance rfl c.n_tuple (by decide +kernel) (pf_name 1)) (pf_and (pf_eq (pf_len rfl c.n_len (pfa_cons (pf_name 1) pfa_nil)) (pf_len rfl c.n_len (pfa_cons (pf_name 0) pfa_nil)) (hu_of hr)) (pf_and (pf_all rfl rfl c.n_all (pfa_cons (pf_lc (own := [("page", 3)]) rfl sc__law_is_told.nd (pfi_U (pf_name 1)) (by exact (show BlkOk N__law_is_told (defScope s__law_is_told) _ _ from ⟨rfl, by decide +kernel, by decide +kernel, by decide +kernel, by decide +kernel⟩)) (fun _ _ _ _ _ => (pfg_name (own := [3]) (by decide) sc__law_is_told.nd (i := 3) rfl (by first | exact Or.inl rfl | exact Or.inr rfl))) (fun _ _ _ _ _ => pfts_nil) (fun _ _ _ _ _ => (pf_user (h__law_is_number c) takes0 hr (by omega) rfl (pfa_cons (pf_name 3) (pfa_cons (pf_c px_int) (pfa_cons (pf_c px_int) pfa_nil)))))) pfa_nil)) (pf_one (pf_user (h__law_fits c) tk_of hr (by omega) rfl (pfa_cons (pf_name 0) (pfa_cons (pf_name 1) pfa_nil)))))))))))
theorem h_fitting_side (c : C K mg) : Has P w K mg base 4 "fitting_side" ["leads", "name"] (pF f_fitting_side) := by
  exact has_f (k := 3) c.d_fitting_side sc_fitting_side (fun _ _ _ _ _ _ us hl => match us, hl with | [_, _], _ => rfl) rfl rfl (by decide) (fun f cdv A outer s H E hr => (pfss_one (pfs_ret (pf_sl (pf_lc (own := [("side", 2)]) rfl sc_fitting_side.nd (pfi_U (pf_tup (pfa_cons (pf_tup (pfa_cons (pf_name 1) (pfa_cons (pf_c px_int) pfa_nil))) (pfa_cons (pf_tup (pfa_cons (pf_name 1) (pfa_cons (pf_c px_int) pfa_nil))) pfa_nil)))) (by exact (show BlkOk N_fitting_side (defScope s_fitting_side) _ _ from ⟨rfl, by decide +kernel, by decide +kernel, by decide +kernel, by decide +kernel⟩)) (fun _ _ _ _ _ => (pfg_name (own := [2]) (by decide) sc_fitting_side.nd (i := 2) rfl (by first | exact Or.inl rfl | exact Or.inr rfl))) (fun _ _ _ _ _ => (pfts_one (pft_not (pft_val (pf_meth (h_Leads_does_lead_to_back c) c.f_cls_Leads c.f_meth_Leads_does_lead_to_back takes0 hr (by omega) (pf_name 0) (pfa_cons (pf_name 2) pfa_nil)))))) (fun _ _ _ _ _ => (pf_name 2))) pfo_none (pfo_some (pf_c px_int))))))
theorem h_is_place (c : C K mg) : Has P w K mg base 4 "is_place" ["value"] (pF f_is_place) := by
  exact has_f (k := 3) c.d_is_place sc_is_place (fun _ _ _ _ _ _ us hl => match us, hl with | [_], _ => rfl) rfl rfl (by decide) (fun f cdv A outer s H E hr => (pfss_cons (pfs_if (pft_not (pft_val (pf_user (h_are_between c) tk_of hr (by omega) rfl (pfa_cons (pf_name 0) (pfa_cons (pf_c (px_gintC rfl c.m_SIZE)) (pfa_cons (pf_c px_int) (pfa_cons (pf_c (px_gintC rfl c.m_MOST_NUMBER)) pfa_nil))))))) (pfss_one (pfs_ret (pf_c px_bl))) pfss_nil)
  (pfss_cons (pfs_asg (pf_name 0) (pfg_tup (own := [1, 2, 3, 4]) rfl (pfgs_cons (pfg_name (own := [1, 2, 3, 4]) (by decide) sc_is_place.nd (i := 1) rfl (by first | exact Or.inl rfl | exact Or.inr rfl)) (pfgs_cons (pfg_name (own := [1, 2, 3, 4]) (by decide) sc_is_place.nd (i := 2) rfl (by first | exact Or.inl rfl | exact Or.inr rfl)) (pfgs_cons (pfg_name (own := [1, 2, 3, 4]) (by decide) sc_is_place.nd (i := 3) rfl (by first | exact Or.inl rfl | exact Or.inr rfl)) (pfgs_cons (pfg_name (own := [1, 2, 3, 4]) (by decide) sc_is_place.nd (i := 4) rfl (by first | exact Or.inl rfl | exact Or.inr rfl)) pfgs_nil))))))
  (pfss_one (pfs_ret (pf_and (pf_gt (pf_name 3) (pf_c px_int) (hu_of hr)) (pf_and (pf_gt (pf_name 4) (pf_c px_int) (hu_of hr)) (pf_one (pf_ge (pf_name 1) (pf_name 3) (hu_of hr))))))))))
theorem h_label_book_by (c : C K mg) : Has P w K mg base 4 "label_book_by" ["places"] (pF f_label_book_by) := by
  exact has_f (k := 3) c.d_label_book_by sc_label_book_by (fun _ _ _ _ _ _ us hl => match us, hl with | [_], _ => rfl) rfl rfl (by decide) (fun f cdv A outer s H E hr => (pfss_cons (pfs_par (i := 1) (j := 2) rfl sc_label_book_by.nd rfl rfl (by decide) rfl rfl (pfa_cons (pf_len rfl c.n_len (pfa_cons (pf_name 0) pfa_nil)) (pfa_cons (pf_lstC pfa_nil) pfa_nil)) (by rfl))
  (pfss_cons (pfs_for hp_of rfl (pfi_range1 rfl c.n_range (pfa_cons (pf_name 1) pfa_nil)) (pfg_name (own := [3]) (by decide) sc_label_book_by.nd (i := 3) rfl (by first | exact Or.inl rfl | exact Or.inr rfl)) (pfss_one (pfs_for hp_of rfl (pfi_range2 rfl c.n_range (pfa_cons (pf_add (pf_name 3) (pf_c px_int)) (pfa_cons (pf_name 1) pfa_nil))) (pfg_name (own := [4]) (by decide) sc_label_book_by.nd (i := 4) rfl (by first | exact Or.inl rfl | exact Or.inr rfl)) (pfss_one (pfs_expr (pf_extend (pf_name 2) (pfa_cons (pf_userF (h_rules_at c) tk_of hr (by omega) rfl (pfa_cons (pf_name 0) (pfa_cons (pf_name 3) (pfa_cons (pf_name 4) pfa_nil)))) pfa_nil)))))))
  (pfss_one (pfs_ret (pf_user (h_with_rules c) tk_of hr (by omega) rfl (pfa_cons (pf_user (h_letters_of c) tk_of hr (by omega) rfl (pfa_cons (pf_name 1) pfa_nil)) (pfa_cons (pf_name 2) pfa_nil))))))))
theorem h_first_wrong (c : C K mg) (T : Tab) (hT : TabOk P w K mg base 4 T) : Has P w K mg base 5 "first_wrong" ["value", "low", "high", "is_one", "is_rising"] (pF (f_first_wrong T)) := by
  exact has_f (k := 4) c.d_first_wrong sc_first_wrong (fun _ _ _ _ _ _ us hl => match us, hl with | [_, _, _, _, _], _ => rfl) rfl rfl (by decide) (fun f cdv A outer s H E hr => (pfss_cons (pfs_if (PXW.pt (pfw_or (pft_not (pft_val (pf_isiK .tuple rfl c.n_isinstance rfl c.n_tuple (by decide +kernel) (pf_name 0)))) (pfw_or1 (pft_not (pft_lele (pf_name 1) (pf_len rfl c.n_len (pfa_cons (pf_name 0) pfa_nil)) (pf_name 2)))))) (pfss_one (pfs_ret (pf_lst (pfa_cons (pf_c px_non) pfa_nil)))) pfss_nil)
  (pfss_cons (pfs_for hp_of rfl (pfi_enum rfl c.n_enumerate (pfa_cons (pf_name 0) pfa_nil)) (pfg_tup (own := [5, 6]) rfl (pfgs_cons (pfg_name (own := [5, 6]) (by decide) sc_first_wrong.nd (i := 5) rfl (by first | exact Or.inl rfl | exact Or.inr rfl)) (pfgs_cons (pfg_name (own := [5, 6]) (by decide) sc_first_wrong.nd (i := 6) rfl (by first | exact Or.inl rfl | exact Or.inr rfl)) pfgs_nil))) (pfss_one (pfs_if (PXW.pt (pfw_or (pft_not (pft_val (pf_local (i := 3) tk_of hT hr (by omega) rfl (by decide) (by first | exact Or.inl rfl | exact Or.inr (Or.inl rfl) | exact Or.inr (Or.inr rfl)) (pfa_cons (pf_name 6) pfa_nil)))) (pfw_or1 (PXW.pt (pfw_and (pft_val (pf_name 4)) (pfw_and (pft_gt (pf_name 5) (pf_c px_int) (hu_of hr)) (pfw_and1 (pft_le (pf_name 6) (pf_ix (pf_name 0) (pf_sub (pf_name 5) (pf_c px_int))) (hu_of hr))))))))) (pfss_one (pfs_ret (pf_lst (pfa_cons (pf_name 5) pfa_nil)))) pfss_nil)))
  (pfss_one (pfs_ret (pf_lst pfa_nil))))))
theorem h_carried_by (c : C K mg) : Has P w K mg base 5 "carried_by" ["leads", "told"] (pF f_carried_by) := by
  exact has_f (k := 4) c.d_carried_by sc_carried_by (fun _ _ _ _ _ _ us hl => match us, hl with | [_, _], _ => rfl) rfl rfl (by decide) (fun f cdv A outer s H E hr => (pfss_cons (pfs_set (i := 1) sc_carried_by.nd rfl (by first | exact Or.inl rfl | exact Or.inr rfl) (pf_dictCopy rfl c.n_dict (pfa_cons (pf_name 1) pfa_nil)))
  (pfss_cons (pfs_for hp_of rfl (pfi_U (pf_attr (C := "Leads") c.f_cls_Leads c.f_noat_Leads_things (pf_name 0))) (pfg_name (own := [2]) (by decide) sc_carried_by.nd (i := 2) rfl (by first | exact Or.inl rfl | exact Or.inr rfl)) (pfss_one (pfs_if (pft_notin (pf_name 2) (pf_name 1) (hu_of hr)) (pfss_cons (pfs_set (i := 3) sc_carried_by.nd rfl (by first | exact Or.inl rfl | exact Or.inr rfl) (pf_user (h_fitting_side c) tk_of hr (by omega) rfl (pfa_cons (pf_name 0) (pfa_cons (pf_name 2) pfa_nil))))
  (pfss_cons (pfs_if (pft_eq (pf_name 3) (pf_lst pfa_nil) (hu_of hr)) (pfss_one (pfs_ret (pf_c px_non))) pfss_nil)
  (pfss_one (pfs_expr (pf_update (pf_name 1) (pf_dictPK rfl rfl c.n_dict (pfa_cons (pf_listDic rfl rfl c.n_list (pfa_cons (pf_methF (h_Leads_come_from c) c.f_cls_Leads c.f_meth_Leads_come_from tk_of hr (by omega) (pf_name 0) (pfa_cons (pf_ix (pf_name 3) (pf_c px_int)) pfa_nil)) pfa_nil)) pfa_nil))))))) pfss_nil)))
  (pfss_one (pfs_ret (pf_user (h_choosing_of c) tk_of hr (by omega) rfl (pfa_cons (pf_attr (C := "Leads") c.f_cls_Leads c.f_noat_Leads_things (pf_name 0)) (pfa_cons (pf_name 1) pfa_nil))))))))
theorem h_choosing_by (c : C K mg) : Has P w K mg base 6 "choosing_by" ["book"] (pF f_choosing_by) := by
  exact has_f (k := 5) c.d_choosing_by sc_choosing_by (fun _ _ _ _ _ _ us hl => match us, hl with | [_], _ => rfl) rfl rfl (by decide) (fun f cdv A outer s H E hr => (pfss_one (pfs_ret (pf_user (h_carried_by c) tk_of hr (by omega) rfl (pfa_cons (pf_make (h_Leads___init__ c) c.f_mkr_Leads c.f_glo_Leads tk_of hr (by omega) rfl (pfa_cons (pf_name 0) pfa_nil)) (pfa_cons pf_newK pfa_nil))))))
theorem h_wrong_in_places (c : C K mg) : Has P w K mg base 6 "wrong_in_places" ["value"] (pF f_wrong_in_places) := by
  exact has_f (k := 5) c.d_wrong_in_places sc_wrong_in_places (fun _ _ _ _ _ _ us hl => match us, hl with | [_], _ => rfl) rfl rfl (by decide) (fun f cdv A outer s H E hr => (pfss_one (pfs_ret (pf_user (h_first_wrong c (tabC "is_place" f_is_place tab0) (tabOkC (h_is_place c) (by omega) tabOk0)) tk_of hr (by omega) rfl (pfa_cons (pf_name 0) (pfa_cons (pf_c px_int) (pfa_cons (pf_c (px_gintC rfl c.m_MOST_PLACES)) (pfa_cons (pf_c (px_fn (h_is_place c) rfl)) (pfa_cons (pf_c px_bl) pfa_nil)))))))))
theorem h_labels_by (c : C K mg) : Has P w K mg base 7 "labels_by" ["places"] (pF f_labels_by) := by
  exact has_f (k := 6) c.d_labels_by sc_labels_by (fun _ _ _ _ _ _ us hl => match us, hl with | [_], _ => rfl) rfl rfl (by decide) (fun f cdv A outer s H E hr => (pfss_one (pfs_ret (pf_user (h_choosing_by c) tk_of hr (by omega) rfl (pfa_cons (pf_user (h_label_book_by c) tk_of hr (by omega) rfl (pfa_cons (pf_name 0) pfa_nil)) pfa_nil)))))
theorem h_check_places (c : C K mg) : Has P w K mg base 7 "check_places" ["value"] (pF f_check_places) := by
  exact has_f (k := 6) c.d_check_places sc_check_places (fun _ _ _ _ _ _ us hl => match us, hl with | [_], _ => rfl) rfl rfl (by decide) (fun f cdv A outer s H E hr => (pfss_one (pfs_for hp_of rfl (pfi_U (pf_user (h_wrong_in_places c) tk_of hr (by omega) rfl (pfa_cons (pf_name 0) pfa_nil))) (pfg_name (own := [1]) (by decide) sc_check_places.nd (i := 1) rfl (by first | exact Or.inl rfl | exact Or.inr rfl)) (pfss_one pfs_never))))
theorem h_labels (c : C K mg) : Has P w K mg base 8 "labels" ["places"] (pF f_labels) := by
  exact has_f (k := 7) c.d_labels sc_labels (fun _ _ _ _ _ _ us hl => match us, hl with | [_], _ => rfl) rfl rfl (by decide) (fun f cdv A outer s H E hr => (pfss_cons (pfs_expr (pf_user (h_check_places c) tk_of hr (by omega) rfl (pfa_cons (pf_name 0) pfa_nil)))
  (pfss_one (pfs_ret (pf_user (h_labels_by c) tk_of hr (by omega) rfl (pfa_cons (pf_name 0) pfa_nil))))))
theorem h__law_right (c : C K mg) : Has P w K mg base 9 "_law_right" ["pool"] (pF (f__law_right_k62 (f__law_below_k63 359 3989 15515 2147483563 33821 6501 71 2147483563))) := by
  exact has_f (k := 8) c.d__law_right sc__law_right (fun _ _ _ _ _ _ us hl => match us, hl with | [_], _ => rfl) rfl rfl (by decide) (fun f cdv A outer s H E hr => (pfss_cons (pfs_for hp_of rfl (pfi_range1 rfl c.n_range (pfa_cons (pf_c px_int) pfa_nil)) (pfg_name (own := [1]) (by decide) sc__law_right.nd (i := 1) rfl (by first | exact Or.inl rfl | exact Or.inr rfl)) (pfss_cons (pfs_set (i := 2) sc__law_right.nd rfl (by first | exact Or.inl rfl | exact Or.inr rfl) (pf_add (pf_c px_int) (pf_mod (pf_intc rfl c.n_int (pfa_cons (pf_name 1) pfa_nil)) (pf_c px_int))))
  (pfss_cons (pfs_set (i := 3) sc__law_right.nd rfl (by first | exact Or.inl rfl | exact Or.inr rfl) (pf_user (h__law_places c) tk_of hr (by omega) rfl (pfa_cons (pf_name 0) (pfa_cons (pf_name 2) pfa_nil))))
  (pfss_cons (pfs_set (i := 4) sc__law_right.nd rfl (by first | exact Or.inl rfl | exact Or.inr rfl) (pf_any rfl rfl c.n_any (pfa_cons (pf_lc (own := [("pages", 6)]) rfl sc__law_right.nd (pfi_U (pf_user (h__law_choices c) tk_of hr (by omega) rfl (pfa_cons (pf_name 2) pfa_nil))) (by exact (show BlkOk N__law_right (defScope s__law_right) _ _ from ⟨rfl, by decide +kernel, by decide +kernel, by decide +kernel, by decide +kernel⟩)) (fun _ _ _ _ _ => (pfg_name (own := [6]) (by decide) sc__law_right.nd (i := 6) rfl (by first | exact Or.inl rfl | exact Or.inr rfl))) (fun _ _ _ _ _ => pfts_nil) (fun _ _ _ _ _ => (pf_user (h__law_fits c) takes0 hr (by omega) rfl (pfa_cons (pf_name 3) (pfa_cons (pf_name 6) pfa_nil))))) pfa_nil)))
  (pfss_cons (pfs_if (PXW.pt (pfw_or (pft_not (pft_val (pf_user (h__law_is_told c) tk_of hr (by omega) rfl (pfa_cons (pf_name 3) (pfa_cons (pf_if (pft_eq (pf_name 1) (pf_c px_int) (hu_of hr)) (pf_userK0 (ks := ["places"]) (perm := [0]) (Has.withK (h_labels c) c.d_labels) tk_of hr (by omega) rfl (fun _ _ _ _ _ _ us ws h1 h2 => match us, ws, h1, h2 with | [], [_], _, _ => rfl) (pfk_cons (pf_name 3) pfk_nil)) (pf_user (h_labels c) tk_of hr (by omega) rfl (pfa_cons (pf_name 3) pfa_nil))) (pfa_cons (pf_name 4) pfa_nil)))))) (pfw_or1 (pft_not (pft_val (pf_user (h__law_is_told c) tk_of hr (by omega) rfl (pfa_cons (pf_rev (pf_name 3)) (pfa_cons (pf_user (h_labels c) tk_of hr (by omega) rfl (pfa_cons (pf_rev (pf_name 3)) pfa_nil)) (pfa_cons (pf_name 4) pfa_nil))))))))) (pfss_one (pfs_ret (pf_c px_bl))) pfss_nil)
  (pfss_one (pfs_if (PXW.pt (pfw_and (pft_gt (pf_name 2) (pf_c px_int) (hu_of hr)) (pfw_and (pft_val (pf_name 4)) (pfw_and1 (pft_isN (pf_user (h_labels c) tk_of hr (by omega) rfl (pfa_cons (pf_sl (pf_name 3) (pfo_some (pf_c px_int)) pfo_none) pfa_nil))))))) (pfss_one (pfs_ret (pf_c px_bl))) pfss_nil)))))))
  (pfss_cons (pfs_set (i := 5) sc__law_right.nd rfl (by first | exact Or.inl rfl | exact Or.inr rfl) (pf_tuple rfl c.n_tuple (pfa_cons (pf_lc (own := [("spot", 7)]) rfl sc__law_right.nd (pfi_range1 rfl c.n_range (pfa_cons (pf_c px_int) pfa_nil)) (by exact (show BlkOk N__law_right (defScope s__law_right) _ _ from ⟨rfl, by decide +kernel, by decide +kernel, by decide +kernel, by decide +kernel⟩)) (fun _ _ _ _ _ => (pfg_name (own := [7]) (by decide) sc__law_right.nd (i := 7) rfl (by first | exact Or.inl rfl | exact Or.inr rfl))) (fun _ _ _ _ _ => pfts_nil) (fun _ _ _ _ _ => (pf_tup (pfa_cons (pf_add (pf_c px_int) (pf_mul (pf_c px_int) (pf_name 7))) (pfa_cons (pf_c px_int) (pfa_cons (pf_c px_int) (pfa_cons (pf_c px_int) pfa_nil))))))) pfa_nil)))
  (pfss_cons (pfs_if (PXW.pt (pfw_or (pft_not (pft_val (pf_user (h__law_is_told c) tk_of hr (by omega) rfl (pfa_cons (pf_name 5) (pfa_cons (pf_user (h_labels c) tk_of hr (by omega) rfl (pfa_cons (pf_name 5) pfa_nil)) (pfa_cons (pf_c px_bl) pfa_nil)))))) (pfw_or1 (pft_notN (pf_user (h_labels c) tk_of hr (by omega) rfl (pfa_cons (pf_mul (pf_tup (pfa_cons (pf_tup (pfa_cons (pf_c px_int) (pfa_cons (pf_c px_int) (pfa_cons (pf_c px_int) (pfa_cons (pf_c px_int) pfa_nil))))) pfa_nil)) (pf_c px_int)) pfa_nil)))))) (pfss_one (pfs_ret (pf_c px_bl))) pfss_nil)
  (pfss_one (pfs_ret (pf_user (h__law_is_told c) tk_of hr (by omega) rfl (pfa_cons (pf_mul (pf_tup (pfa_cons (pf_tup (pfa_cons (pf_c px_int) (pfa_cons (pf_c px_int) (pfa_cons (pf_c px_int) (pfa_cons (pf_c px_int) pfa_nil))))) pfa_nil)) (pf_c px_int)) (pfa_cons (pf_user (h_labels c) tk_of hr (by omega) rfl (pfa_cons (pf_mul (pf_tup (pfa_cons (pf_tup (pfa_cons (pf_c px_int) (pfa_cons (pf_c px_int) (pfa_cons (pf_c px_int) (pfa_cons (pf_c px_int) pfa_nil))))) pfa_nil)) (pf_c px_int)) pfa_nil)) (pfa_cons (pf_c px_bl) pfa_nil))))))))))
theorem h_law (c : C K mg) : Has P w K mg base 10 "law" ["script"] (pF f_law_k62) := by
  exact has_f (k := 9) c.d_law sc_law (fun _ _ _ _ _ _ us hl => match us, hl with | [_], _ => rfl) rfl rfl (by decide) (fun f cdv A outer s H E hr => (pfss_one (pfs_ret (pf_all rfl rfl c.n_all (pfa_cons (pf_lc (own := [("lap", 1)]) rfl sc_law.nd (pfi_range1 rfl c.n_range (pfa_cons (pf_max (hu_of hr) rfl rfl c.n_max (pfa_cons (pf_c px_int) (pfa_cons (pf_min (hu_of hr) rfl rfl c.n_min (pfa_cons (pf_len rfl c.n_len (pfa_cons (pf_name 0) pfa_nil)) (pfa_cons (pf_c px_int) pfa_nil))) pfa_nil))) pfa_nil)) (by exact (show BlkOk N_law (defScope s_law) _ _ from ⟨rfl, by decide +kernel, by decide +kernel, by decide +kernel, by decide +kernel⟩)) (fun _ _ _ _ _ => (pfg_name (own := [1]) (by decide) sc_law.nd (i := 1) rfl (by first | exact Or.inl rfl | exact Or.inr rfl))) (fun _ _ _ _ _ => pfts_nil) (fun _ _ _ _ _ => (pf_user (h__law_right c) takes0 hr (by omega) rfl (pfa_cons (pf_user (h__law_pool c) takes0 hr (by omega) rfl (pfa_cons (pf_name 0) (pfa_cons (pf_name 1) pfa_nil))) pfa_nil)))) pfa_nil)))))
end
theorem hdC {K : PySem.W.Frag} {h : Heap} {mg : Str → Option Value} (X : K.In h) (G : h.Ns mainGlobals mg) (c : He.SaysD hdFa hdFn K) (cb : hdBok K = true) : C K mg where
  d__wall := by
    obtain ⟨fd, F⟩ := c.def_ 0 (d := hd__wall) rfl
    exact ⟨fd, F, He.glo_ok X G (c.fact 0 (f := .glo "_wall") rfl)⟩
  d_is_whole := by
    obtain ⟨fd, F⟩ := c.def_ 1 (d := hd_is_whole) rfl
    exact ⟨fd, F, He.glo_ok X G (c.fact 1 (f := .glo "is_whole") rfl)⟩
  d_is_tuple_of := by
    obtain ⟨fd, F⟩ := c.def_ 2 (d := hd_is_tuple_of) rfl
    exact ⟨fd, F, He.glo_ok X G (c.fact 2 (f := .glo "is_tuple_of") rfl)⟩
  d_back_of := by
    obtain ⟨fd, F⟩ := c.def_ 3 (d := hd_back_of) rfl
    exact ⟨fd, F, He.glo_ok X G (c.fact 3 (f := .glo "back_of") rfl)⟩
  d_all_sides := by
    obtain ⟨fd, F⟩ := c.def_ 4 (d := hd_all_sides) rfl
    exact ⟨fd, F, He.glo_ok X G (c.fact 4 (f := .glo "all_sides") rfl)⟩
  d_rule_of := by
    obtain ⟨fd, F⟩ := c.def_ 5 (d := hd_rule_of) rfl
    exact ⟨fd, F, He.glo_ok X G (c.fact 5 (f := .glo "rule_of") rfl)⟩
  d_with_rules := by
    obtain ⟨fd, F⟩ := c.def_ 6 (d := hd_with_rules) rfl
    exact ⟨fd, F, He.glo_ok X G (c.fact 6 (f := .glo "with_rules") rfl)⟩
  d_Leads_come_from := by
    obtain ⟨fd, F⟩ := c.def_ 7 (d := hd_Leads_come_from) rfl
    exact ⟨⟨fd, F⟩⟩
  d_choosing_of := by
    obtain ⟨fd, F⟩ := c.def_ 8 (d := hd_choosing_of) rfl
    exact ⟨fd, F, He.glo_ok X G (c.fact 7 (f := .glo "choosing_of") rfl)⟩
  d_strip_by := by
    obtain ⟨fd, F⟩ := c.def_ 9 (d := hd_strip_by) rfl
    exact ⟨fd, F, He.glo_ok X G (c.fact 8 (f := .glo "strip_by") rfl)⟩
  d_do_overlap := by
    obtain ⟨fd, F⟩ := c.def_ 10 (d := hd_do_overlap) rfl
    exact ⟨fd, F, He.glo_ok X G (c.fact 9 (f := .glo "do_overlap") rfl)⟩
  d_letters_of := by
    obtain ⟨fd, F⟩ := c.def_ 11 (d := hd_letters_of) rfl
    exact ⟨fd, F, He.glo_ok X G (c.fact 10 (f := .glo "letters_of") rfl)⟩
  d__law_pool := by
    obtain ⟨fd, F⟩ := c.def_ 12 (d := hd__law_pool) rfl
    exact ⟨fd, F, He.glo_ok X G (c.fact 11 (f := .glo "_law_pool") rfl)⟩
  d__law_below := by
    obtain ⟨fd, F⟩ := c.def_ 13 (d := hd__law_below) rfl
    exact ⟨fd, F, He.glo_ok X G (c.fact 12 (f := .glo "_law_below") rfl)⟩
  d__law_is_number := by
    obtain ⟨fd, F⟩ := c.def_ 14 (d := hd__law_is_number) rfl
    exact ⟨fd, F, He.glo_ok X G (c.fact 13 (f := .glo "_law_is_number") rfl)⟩
  d__law_choices := by
    obtain ⟨fd, F⟩ := c.def_ 15 (d := hd__law_choices) rfl
    exact ⟨fd, F, He.glo_ok X G (c.fact 14 (f := .glo "_law_choices") rfl)⟩
  d__law_strip := by
    obtain ⟨fd, F⟩ := c.def_ 16 (d := hd__law_strip) rfl
    exact ⟨fd, F, He.glo_ok X G (c.fact 15 (f := .glo "_law_strip") rfl)⟩
  d__law_do_clash := by
    obtain ⟨fd, F⟩ := c.def_ 17 (d := hd__law_do_clash) rfl
    exact ⟨fd, F, He.glo_ok X G (c.fact 16 (f := .glo "_law_do_clash") rfl)⟩
  d__law_same := by
    obtain ⟨fd, F⟩ := c.def_ 18 (d := hd__law_same) rfl
    exact ⟨fd, F, He.glo_ok X G (c.fact 17 (f := .glo "_law_same") rfl)⟩
  d_is_between := by
    obtain ⟨fd, F⟩ := c.def_ 19 (d := hd_is_between) rfl
    exact ⟨fd, F, He.glo_ok X G (c.fact 18 (f := .glo "is_between") rfl)⟩
  d_Leads___init__ := by
    obtain ⟨fd, F⟩ := c.def_ 20 (d := hd_Leads___init__) rfl
    exact ⟨⟨fd, F⟩⟩
  d_Leads_does_lead := by
    obtain ⟨fd, F⟩ := c.def_ 21 (d := hd_Leads_does_lead) rfl
    exact ⟨⟨fd, F⟩⟩
  d_do_clash_by := by
    obtain ⟨fd, F⟩ := c.def_ 22 (d := hd_do_clash_by) rfl
    exact ⟨fd, F, He.glo_ok X G (c.fact 19 (f := .glo "do_clash_by") rfl)⟩
  d__law_places := by
    obtain ⟨fd, F⟩ := c.def_ 23 (d := hd__law_places) rfl
    exact ⟨fd, F, He.glo_ok X G (c.fact 20 (f := .glo "_law_places") rfl)⟩
  d__law_fits := by
    obtain ⟨fd, F⟩ := c.def_ 24 (d := hd__law_fits) rfl
    exact ⟨fd, F, He.glo_ok X G (c.fact 21 (f := .glo "_law_fits") rfl)⟩
  d_are_between := by
    obtain ⟨fd, F⟩ := c.def_ 25 (d := hd_are_between) rfl
    exact ⟨fd, F, He.glo_ok X G (c.fact 22 (f := .glo "are_between") rfl)⟩
  d_Leads_does_lead_to_back := by
    obtain ⟨fd, F⟩ := c.def_ 26 (d := hd_Leads_does_lead_to_back) rfl
    exact ⟨⟨fd, F⟩⟩
  d_rules_at := by
    obtain ⟨fd, F⟩ := c.def_ 27 (d := hd_rules_at) rfl
    exact ⟨fd, F, He.glo_ok X G (c.fact 23 (f := .glo "rules_at") rfl)⟩
  d__law_is_told := by
    obtain ⟨fd, F⟩ := c.def_ 28 (d := hd__law_is_told) rfl
    exact ⟨fd, F, He.glo_ok X G (c.fact 24 (f := .glo "_law_is_told") rfl)⟩
  d_fitting_side := by
    obtain ⟨fd, F⟩ := c.def_ 29 (d := hd_fitting_side) rfl
    exact ⟨fd, F, He.glo_ok X G (c.fact 25 (f := .glo "fitting_side") rfl)⟩
  d_is_place := by
    obtain ⟨fd, F⟩ := c.def_ 30 (d := hd_is_place) rfl
    exact ⟨fd, F, He.glo_ok X G (c.fact 26 (f := .glo "is_place") rfl)⟩
  d_label_book_by := by
    obtain ⟨fd, F⟩ := c.def_ 31 (d := hd_label_book_by) rfl
    exact ⟨fd, F, He.glo_ok X G (c.fact 27 (f := .glo "label_book_by") rfl)⟩
  d_first_wrong := by
    obtain ⟨fd, F⟩ := c.def_ 32 (d := hd_first_wrong) rfl
    exact ⟨fd, F, He.glo_ok X G (c.fact 28 (f := .glo "first_wrong") rfl)⟩
  d_carried_by := by
    obtain ⟨fd, F⟩ := c.def_ 33 (d := hd_carried_by) rfl
    exact ⟨fd, F, He.glo_ok X G (c.fact 29 (f := .glo "carried_by") rfl)⟩
  d_choosing_by := by
    obtain ⟨fd, F⟩ := c.def_ 34 (d := hd_choosing_by) rfl
    exact ⟨fd, F, He.glo_ok X G (c.fact 30 (f := .glo "choosing_by") rfl)⟩
  d_wrong_in_places := by
    obtain ⟨fd, F⟩ := c.def_ 35 (d := hd_wrong_in_places) rfl
    exact ⟨fd, F, He.glo_ok X G (c.fact 31 (f := .glo "wrong_in_places") rfl)⟩
  d_labels_by := by
    obtain ⟨fd, F⟩ := c.def_ 36 (d := hd_labels_by) rfl
    exact ⟨fd, F, He.glo_ok X G (c.fact 32 (f := .glo "labels_by") rfl)⟩
  d_check_places := by
    obtain ⟨fd, F⟩ := c.def_ 37 (d := hd_check_places) rfl
    exact ⟨fd, F, He.glo_ok X G (c.fact 33 (f := .glo "check_places") rfl)⟩
  d_labels := by
    obtain ⟨fd, F⟩ := c.def_ 38 (d := hd_labels) rfl
    exact ⟨fd, F, He.glo_ok X G (c.fact 34 (f := .glo "labels") rfl)⟩
  d__law_right := by
    obtain ⟨fd, F⟩ := c.def_ 39 (d := hd__law_right) rfl
    exact ⟨fd, F, He.glo_ok X G (c.fact 35 (f := .glo "_law_right") rfl)⟩
  d_law := by
    obtain ⟨fd, F⟩ := c.def_ 40 (d := hd_law) rfl
    exact ⟨fd, F, He.glo_ok X G (c.fact 36 (f := .glo "law") rfl)⟩
  f_cls_Leads := He.cls_ok (c.fact 37 (f := .cls "Leads") rfl)
  f_noat_Leads_steps := He.noat_ok (c.fact 38 (f := .noat "Leads" "steps") rfl)
  f_noat_Leads_things := He.noat_ok (c.fact 39 (f := .noat "Leads" "things") rfl)
  f_meth_Leads_come_from := He.meth_ok (c.fact 40 (f := .meth "Leads" "come_from") rfl)
  f_meth_Leads_does_lead := He.meth_ok (c.fact 41 (f := .meth "Leads" "does_lead") rfl)
  f_meth_Leads_does_lead_to_back := He.meth_ok (c.fact 42 (f := .meth "Leads" "does_lead_to_back") rfl)
  f_mkr_Leads := He.mkr_ok (c.fact 43 (f := .mkr "Leads") rfl)
  f_glo_Leads := He.glo_ok X G (c.fact 44 (f := .glo "Leads") rfl)
  t_PAGES := gtB_ok X G (show gtB K _ _ = true from List.all_eq_true.mp (Bool.and_eq_true_iff.mp cb).2 ("PAGES", [0, 1]) (by simp [hdT]))
  n_abs := He.free_ok X G (c.fact 45 (f := .free "abs") rfl)
  n_all := He.free_ok X G (c.fact 46 (f := .free "all") rfl)
  n_any := He.free_ok X G (c.fact 47 (f := .free "any") rfl)
  n_bool := He.free_ok X G (c.fact 48 (f := .free "bool") rfl)
  n_dict := He.free_ok X G (c.fact 49 (f := .free "dict") rfl)
  n_divmod := He.free_ok X G (c.fact 50 (f := .free "divmod") rfl)
  n_enumerate := He.free_ok X G (c.fact 51 (f := .free "enumerate") rfl)
  n_int := He.free_ok X G (c.fact 52 (f := .free "int") rfl)
  n_isinstance := He.free_ok X G (c.fact 53 (f := .free "isinstance") rfl)
  n_len := He.free_ok X G (c.fact 54 (f := .free "len") rfl)
  n_list := He.free_ok X G (c.fact 55 (f := .free "list") rfl)
  n_max := He.free_ok X G (c.fact 56 (f := .free "max") rfl)
  n_min := He.free_ok X G (c.fact 57 (f := .free "min") rfl)
  n_range := He.free_ok X G (c.fact 58 (f := .free "range") rfl)
  n_set := He.free_ok X G (c.fact 59 (f := .free "set") rfl)
  n_sorted := He.free_ok X G (c.fact 60 (f := .free "sorted") rfl)
  n_str := He.free_ok X G (c.fact 61 (f := .free "str") rfl)
  n_tuple := He.free_ok X G (c.fact 62 (f := .free "tuple") rfl)
  n_zip := He.free_ok X G (c.fact 63 (f := .free "zip") rfl)
  m_IS_TAKEN := He.int_ok X G (c.fact 64 (f := .int "IS_TAKEN" 1) rfl)
  m_LETTERS := He.str_ok X G (c.fact 65 (f := .str "LETTERS" "abcdefghijklmnopqrstuvwxyz") rfl)
  m_MOST_NUMBER := He.int_ok X G (c.fact 66 (f := .int "MOST_NUMBER" 999) rfl)
  m_MOST_PLACES := He.int_ok X G (c.fact 67 (f := .int "MOST_PLACES" 14) rfl)
  m_NAME := He.int_ok X G (c.fact 68 (f := .int "NAME" 0) rfl)
  m_RULES := He.int_ok X G (c.fact 69 (f := .int "RULES" 1) rfl)
  m_SIZE := He.int_ok X G (c.fact 70 (f := .int "SIZE" 4) rfl)
  m_THINGS := He.int_ok X G (c.fact 71 (f := .int "THINGS" 0) rfl)
theorem hdLaw {P : Program} {w : World} {K : PySem.W.Frag} {h : Heap} {mg : Str → Option Value} {f : Addr} (X : K.In h) (G : h.Ns mainGlobals mg) (hfa : mg ("law" : Str) = some (.ref f)) (c : He.SaysD hdFa hdFn K) (cb : hdBok K = true) :
    ∃ fd : FuncData, (∀ (s : Shared) (v : Value), BindsTo s fd ⟨[v], []⟩ [("script", v)]) ∧ ∀ base : Heap, K.In base → base.Ns mainGlobals mg → FnOk P w K mg base (L2.CX P w) 10 f fd ["script"] (low K (pF f_law_k62)) := by
  obtain ⟨fd, F⟩ := c.def_ 40 (d := hd_law) rfl
  have e := hfa.symm.trans (He.glo_ok X G (c.fact 36 (f := .glo "law") rfl))
  cases e
  have b := FunD.bindsA (ps := ["script"]) F fun _ _ _ _ _ _ us hl => match us, hl with | [_], _ => rfl
  refine ⟨fd, fun s v => b s [v] rfl, fun base _ _ => ?_⟩
  obtain ⟨fd2, Fk, hm, _, _, _, st, F2⟩ := (h_law (P := P) (w := w) (base := base) (hdC X G c cb)).ex
  have e3 : fd2 = fd := by
    obtain ⟨_, _, _, _, _, _, _, _, _, _, _, l1, _⟩ := F2.ex
    obtain ⟨_, _, _, _, _, _, _, _, _, _, _, l2, _⟩ := F.ex
    rw [show (He.fAd K hd_law.at_) = He.ga K "law" from rfl] at l2
    rw [l1] at l2
    cases l2
    rfl
  rw [← e3]
  exact Fk
theorem hdSp {K : PySem.W.Frag} {H : Hp} {a : Addr} {ns : List Int} (hl : ns.length ≤ 63) (hS : SqL K H a (ns.map V.int)) : low K (pF f_law_k62) [.ref a] H (fun v _ => v = .bl true) (fun _ _ _ => False) := by
  obtain ⟨μ', e⟩ := law_ok_k62 ns hl
  refine ⟨[], [.d (.scr ns)], [], H, fun r _ => r = .d (.bl true), fun _ _ _ => False, ⟨Le.refl H, rfl, List.nodup_nil, fun a ha => by simp at ha, fun k a c h => by simp at h⟩, .cons (.scr hS) .nil, ?_, fun _ _ _ _ _ _ _ z => z.elim, fun r μ' A' G' H' v q _ _ rr => ?_⟩
  · show (f_law_k62 [.d (.scr ns)] []).fin _ _
    rw [e]; rfl
  · subst q
    cases rr
    rfl
end Lk62
open PySem PySem.W PySem.Calls PyProof.Rows
theorem PySem.Challenge.cw_takenorleft_k62_whole_labels_by_all_page_holds : PySem.Challenge.rw_takenorleft_k62_whole_labels_by_all_page.Holds := by
  w_on; o_law
  refine HandSHeadRun.head_any (r := OpenLaw.row PySem.Challenge.rw_takenorleft_k62_whole_labels_by_all_page) (q := view (OpenLaw.row PySem.Challenge.rw_takenorleft_k62_whole_labels_by_all_page).prog [56]) (H := Lk62.hdK) (ob := Lk62.hdOb) (M := 6000) (loose := Lk62.hdLoose) (d := HandSHeadRun.topDef (OpenLaw.row PySem.Challenge.rw_takenorleft_k62_whole_labels_by_all_page).prog 56) (kwd := []) Lk62.hdOb_eq
    (by kernel_rfl) (fun s => by kernel_rfl) Lk62.hdRun (by kernel_rfl) (by kernel_rfl) (by kernel_rfl) (by rfl) (by first | assumption | decide +kernel) (by decide +kernel) ⟨rfl, rfl, rfl, rfl, rfl, by decide +kernel⟩ ?hw ?hc
  case hw => w_witness2
  case hc =>
    refine L2.walk_ofE (l := PySem.Challenge.rw_takenorleft_k62_whole_labels_by_all_page) (n := 63) (k := 10) (x := "script") (CX := L2.CX0) rfl (by decide) (by kernel_rfl) ⟨rfl, by decide, by decide⟩ ?F (fun _ _ _ _ z => z)
    intro w mg fa h Y G hmg0
    obtain ⟨K, KX, c, cb⟩ := Y
    have hmg : mg ("law" : PySem.Str) = some (.ref fa) := by
      have e : (HandSHeadRun.topDef (OpenLaw.row PySem.Challenge.rw_takenorleft_k62_whole_labels_by_all_page).prog 56).name = ("law" : PySem.Str) := by kernel_rfl
      rw [← e]
      exact hmg0
    obtain ⟨fd, hb, hF⟩ := Lk62.hdLaw (P := (PySem.Challenge.rw_takenorleft_k62_whole_labels_by_all_page).prog) (w := w) KX G hmg c cb
    exact ⟨K, fd, fun vs H Q _ => PL.low K (PL.pF PL.f_law_k62) vs H Q fun _ _ _ => False, KX, hb, fun H a ns hl _ hS => Lk62.hdSp hl hS, fun base kb gb => (hF base kb gb).ground⟩
