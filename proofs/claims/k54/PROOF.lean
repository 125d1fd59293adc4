import PyProof.Rows.All
import Wide.All
import OpenK.AllK
import Wide.FinOn
import HandS.ForMost
import HandS.Walk
import HandS.Exc
import HandS.WordsExc
import HandS.ExcInit
import HandS.HeadHook1
import HandS.IsInst
import HandS.TupAny
import KE.GoesMore
import KE.GoesEnum
import HandS.Zip
import HandS.Iter
import HandS.Defaults
import HandS.MakeKwOnly
import HandS.CallLocal
import HandS.Dict
import HandS.HeadHook2
import HandS.Deep
import HandS.Text
import KE.DataCmp
import KE.SortData
import KE.DataMinMax
import HandS.Style
import HandS.Strs
import HandS.TupMul
import PyProof.StrBlock2
import KE.KDictZip
import HandS.Zip0
import KE.KDictPairs
import HandS.DictComp
import HandS.TupLen
import KE.KStateDown
import HandS.Ends
import HandS.More
import HandS.Head0
import HandS.Head1
import HandS.Head2
import HandS.HeadEnd
import PySem.Challenge.RW_takenorleft_k54_whole_names_and_books_of
import KE.DatumOrd
import PyProof.SeqIndex
import KE.KDictKeyed
import PyProof.DictUpdate
import HandS.TupSets
import KE.KeyNested
import HandS.Conv
import HandS.Gcd
import PyProof.ListStr
import HandS.Star
import HandS.List
set_option Elab.async false
set_option linter.all false
set_option maxRecDepth 100000
set_option maxHeartbeats 0
namespace Lk54
open PySem PySem.Spec PyProof.Rows L2
def top (i : Nat) : Stmt := PySem.Challenge.pw_takenorleft_k54_whole_names_and_books_of.main.body.getD i (.Pass ⟨0, 0, 0, 0⟩)
abbrev s_is_whole : Stmt := top 6
abbrev N_is_whole : List Str := ["value"]
abbrev s_is_name : Stmt := top 8
abbrev N_is_name : List Str := ["value", "letter"]
abbrev s_is_tuple_of : Stmt := top 9
abbrev N_is_tuple_of : List Str := ["value", "many"]
abbrev s_with_rules : Stmt := top 12
abbrev N_with_rules : List Str := ["things", "rules"]
abbrev s_names_of_by : Stmt := top 19
abbrev N_names_of_by : List Str := ["ties", "tie", "name"]
abbrev s_rules_of_tie : Stmt := top 22
abbrev N_rules_of_tie : List Str := ["tie", "one", "two", "sign"]
abbrev s__law_urn : Stmt := top 29
abbrev N__law_urn : List Str := ["script", "lap", "own", "stir", "each"]
abbrev s__law_nip : Stmt := top 30
abbrev N__law_nip : List Str := ["urn", "many", "found", "lap"]
abbrev s__law_same : Stmt := top 32
abbrev N__law_same : List Str := ["one", "two", "a", "b"]
abbrev s__law_keeps : Stmt := top 33
abbrev N__law_keeps : List Str := ["book", "choosing", "told", "one", "two"]
abbrev s__law_all_choosings : Stmt := top 36
abbrev N__law_all_choosings : List Str := ["many", "found", "k", "row"]
abbrev s__law_names_of : Stmt := top 37
abbrev N__law_names_of : List Str := ["ties", "tie"]
abbrev s__law_is_kept : Stmt := top 38
abbrev N__law_is_kept : List Str := ["names", "ties", "choosing", "told", "one", "two", "sign"]
abbrev s__law_rules : Stmt := top 39
abbrev N__law_rules : List Str := ["tie", "one", "two", "sign", "number"]
abbrev s_is_between : Stmt := top 7
abbrev N_is_between : List Str := ["value", "low", "high"]
abbrev s_book_of_ties_by : Stmt := top 23
abbrev N_book_of_ties_by : List Str := ["ties", "tie", "rule"]
abbrev s__law_any_of : Stmt := top 31
abbrev N__law_any_of : List Str := ["urn", "some"]
abbrev s__law_any_things : Stmt := top 34
abbrev N__law_any_things : List Str := ["urn", "most", "names", "found", "lap"]
abbrev s_is_tie : Stmt := top 18
abbrev N_is_tie : List Str := ["value"]
abbrev s__law_any_ties : Stmt := top 35
abbrev N__law_any_ties : List Str := ["urn", "most", "many", "names", "found", "k", "one", "two"]
abbrev s__law_great_ties : Stmt := top 41
abbrev N__law_great_ties : List Str := ["urn", "names", "rows", "lap", "k", "one", "two"]
abbrev s_does_fit_behind : Stmt := top 20
abbrev N_does_fit_behind : List Str := ["ties", "value"]
abbrev s_wrong_in_ties : Stmt := top 21
abbrev N_wrong_in_ties : List Str := ["value", "index", "each"]
abbrev s_check_ties : Stmt := top 25
abbrev N_check_ties : List Str := ["value", "index"]
abbrev s_names_of : Stmt := top 26
abbrev N_names_of : List Str := ["ties"]
abbrev s_book_of_ties : Stmt := top 27
abbrev N_book_of_ties : List Str := ["ties"]
abbrev s__law_is_told : Stmt := top 40
abbrev N__law_is_told : List Str := ["urn", "ties", "names", "rules", "tie", "is_named", "told", "book", "some", "k", "name", "choosing"]
abbrev s__law_right : Stmt := top 42
abbrev N__law_right : List Str := ["urn", "lap", "twice"]
abbrev s_law : Stmt := top 43
abbrev N_law : List Str := ["script", "lap"]
def hd_is_whole : He.DefD := ⟨("is_whole", none), "is_whole", "is_whole", defArgs s_is_whole, defBody s_is_whole, defScope s_is_whole, [], []⟩
def hd_is_name : He.DefD := ⟨("is_name", none), "is_name", "is_name", defArgs s_is_name, defBody s_is_name, defScope s_is_name, [], []⟩
def hd_is_tuple_of : He.DefD := ⟨("is_tuple_of", none), "is_tuple_of", "is_tuple_of", defArgs s_is_tuple_of, defBody s_is_tuple_of, defScope s_is_tuple_of, [], []⟩
def hd_with_rules : He.DefD := ⟨("with_rules", none), "with_rules", "with_rules", defArgs s_with_rules, defBody s_with_rules, defScope s_with_rules, [], []⟩
def hd_names_of_by : He.DefD := ⟨("names_of_by", none), "names_of_by", "names_of_by", defArgs s_names_of_by, defBody s_names_of_by, defScope s_names_of_by, [], []⟩
def hd_rules_of_tie : He.DefD := ⟨("rules_of_tie", none), "rules_of_tie", "rules_of_tie", defArgs s_rules_of_tie, defBody s_rules_of_tie, defScope s_rules_of_tie, [], []⟩
def hd__law_urn : He.DefD := ⟨("_law_urn", none), "_law_urn", "_law_urn", defArgs s__law_urn, defBody s__law_urn, defScope s__law_urn, [], []⟩
def hd__law_nip : He.DefD := ⟨("_law_nip", none), "_law_nip", "_law_nip", defArgs s__law_nip, defBody s__law_nip, defScope s__law_nip, [], []⟩
def hd__law_same : He.DefD := ⟨("_law_same", none), "_law_same", "_law_same", defArgs s__law_same, defBody s__law_same, defScope s__law_same, [], []⟩
def hd__law_keeps : He.DefD := ⟨("_law_keeps", none), "_law_keeps", "_law_keeps", defArgs s__law_keeps, defBody s__law_keeps, defScope s__law_keeps, [], []⟩
def hd__law_all_choosings : He.DefD := ⟨("_law_all_choosings", none), "_law_all_choosings", "_law_all_choosings", defArgs s__law_all_choosings, defBody s__law_all_choosings, defScope s__law_all_choosings, [], []⟩
def hd__law_names_of : He.DefD := ⟨("_law_names_of", none), "_law_names_of", "_law_names_of", defArgs s__law_names_of, defBody s__law_names_of, defScope s__law_names_of, [], []⟩
def hd__law_is_kept : He.DefD := ⟨("_law_is_kept", none), "_law_is_kept", "_law_is_kept", defArgs s__law_is_kept, defBody s__law_is_kept, defScope s__law_is_kept, [], []⟩
def hd__law_rules : He.DefD := ⟨("_law_rules", none), "_law_rules", "_law_rules", defArgs s__law_rules, defBody s__law_rules, defScope s__law_rules, [], []⟩
def hd_is_between : He.DefD := ⟨("is_between", none), "is_between", "is_between", defArgs s_is_between, defBody s_is_between, defScope s_is_between, [], []⟩
def hd_book_of_ties_by : He.DefD := ⟨("book_of_ties_by", none), "book_of_ties_by", "book_of_ties_by", defArgs s_book_of_ties_by, defBody s_book_of_ties_by, defScope s_book_of_ties_by, [], []⟩
def hd__law_any_of : He.DefD := ⟨("_law_any_of", none), "_law_any_of", "_law_any_of", defArgs s__law_any_of, defBody s__law_any_of, defScope s__law_any_of, [], []⟩
def hd__law_any_things : He.DefD := ⟨("_law_any_things", none), "_law_any_things", "_law_any_things", defArgs s__law_any_things, defBody s__law_any_things, defScope s__law_any_things, [], []⟩
def hd_is_tie : He.DefD := ⟨("is_tie", none), "is_tie", "is_tie", defArgs s_is_tie, defBody s_is_tie, defScope s_is_tie, [], []⟩
def hd__law_any_ties : He.DefD := ⟨("_law_any_ties", none), "_law_any_ties", "_law_any_ties", defArgs s__law_any_ties, defBody s__law_any_ties, defScope s__law_any_ties, [], []⟩
def hd__law_great_ties : He.DefD := ⟨("_law_great_ties", none), "_law_great_ties", "_law_great_ties", defArgs s__law_great_ties, defBody s__law_great_ties, defScope s__law_great_ties, [], []⟩
def hd_does_fit_behind : He.DefD := ⟨("does_fit_behind", none), "does_fit_behind", "does_fit_behind", defArgs s_does_fit_behind, defBody s_does_fit_behind, defScope s_does_fit_behind, [], []⟩
def hd_wrong_in_ties : He.DefD := ⟨("wrong_in_ties", none), "wrong_in_ties", "wrong_in_ties", defArgs s_wrong_in_ties, defBody s_wrong_in_ties, defScope s_wrong_in_ties, [], []⟩
def hd_check_ties : He.DefD := ⟨("check_ties", none), "check_ties", "check_ties", defArgs s_check_ties, defBody s_check_ties, defScope s_check_ties, [], []⟩
def hd_names_of : He.DefD := ⟨("names_of", none), "names_of", "names_of", defArgs s_names_of, defBody s_names_of, defScope s_names_of, [], []⟩
def hd_book_of_ties : He.DefD := ⟨("book_of_ties", none), "book_of_ties", "book_of_ties", defArgs s_book_of_ties, defBody s_book_of_ties, defScope s_book_of_ties, [], []⟩
def hd__law_is_told : He.DefD := ⟨("_law_is_told", none), "_law_is_told", "_law_is_told", defArgs s__law_is_told, defBody s__law_is_told, defScope s__law_is_told, [], []⟩
def hd__law_right : He.DefD := ⟨("_law_right", none), "_law_right", "_law_right", defArgs s__law_right, defBody s__law_right, defScope s__law_right, [], []⟩
def hd_law : He.DefD := ⟨("law", none), "law", "law", defArgs s_law, defBody s_law, defScope s_law, [], []⟩
def hdFn : List He.DefD := [hd_is_whole, hd_is_name, hd_is_tuple_of, hd_with_rules, hd_names_of_by, hd_rules_of_tie, hd__law_urn, hd__law_nip, hd__law_same, hd__law_keeps, hd__law_all_choosings, hd__law_names_of, hd__law_is_kept, hd__law_rules, hd_is_between, hd_book_of_ties_by, hd__law_any_of, hd__law_any_things, hd_is_tie, hd__law_any_ties, hd__law_great_ties, hd_does_fit_behind, hd_wrong_in_ties, hd_check_ties, hd_names_of, hd_book_of_ties, hd__law_is_told, hd__law_right, hd_law]
def hdFa : List He.Fa := [.glo "is_whole", .glo "is_name", .glo "is_tuple_of", .glo "with_rules", .glo "names_of_by", .glo "rules_of_tie", .glo "_law_urn", .glo "_law_nip", .glo "_law_same", .glo "_law_keeps", .glo "_law_all_choosings", .glo "_law_names_of", .glo "_law_is_kept", .glo "_law_rules", .glo "is_between", .glo "book_of_ties_by", .glo "_law_any_of", .glo "_law_any_things", .glo "is_tie", .glo "_law_any_ties", .glo "_law_great_ties", .glo "does_fit_behind", .glo "wrong_in_ties", .glo "check_ties", .glo "names_of", .glo "book_of_ties", .glo "_law_is_told", .glo "_law_right", .glo "law", .free "abs", .free "all", .free "bool", .free "dict", .free "divmod", .free "enumerate", .free "int", .free "isinstance", .free "len", .free "list", .free "max", .free "min", .free "range", .free "set", .free "sorted", .free "str", .free "sum", .free "tuple", .free "zip", .str "LETTERS" "abcdefghijklmnopqrstuvwxyz", .int "MOST_LETTERS" 8, .int "MOST_THINGS" 14, .int "MOST_TIES" 60, .int "NAME" 0, .int "OTHER" 1, .int "SIGN" 2]
abbrev hdR : PySem.W.OpenRow := PySem.W.OpenLaw.row PySem.Challenge.rw_takenorleft_k54_whole_names_and_books_of
abbrev hdK : PySem.W.Hook := He.hookD 4 hdFa hdFn
def hdOb (s : PySem.W.SharedT) : He.AlD := He.obsDG 4 hdFa hdFn (HandSHeadRun.getT s)
theorem hdOb_eq (s : PySem.W.SharedT) : hdOb s = hdK.obs s.abs := He.obsDG_eq (HandSHeadRun.getT_eq s)
def hdL0 : List PySem.Str := ["RuleError", "InvalidTies", "LETTERS", "MOST_LETTERS", "is_whole", "is_between", "is_name", "is_tuple_of", "MOST_THINGS", "with_rules", "MOST_TIES", "NAME", "OTHER", "SIGN", "is_tie", "names_of_by", "does_fit_behind", "wrong_in_ties", "rules_of_tie", "book_of_ties_by", "check_ties", "names_of", "book_of_ties", "_law_urn", "_law_nip", "_law_any_of", "_law_same", "_law_keeps", "_law_any_things", "_law_any_ties"]
def hdL1 : List PySem.Str := ["_law_all_choosings", "_law_names_of", "_law_is_kept", "_law_rules", "_law_is_told", "_law_great_ties", "_law_right"]
abbrev hdLoose : List PySem.Str := hdL0 ++ hdL1
theorem hdRun (w : World) : HandSHeadRun.RunEq hdR (PySem.W.view hdR.prog [43]) hdK hdOb 6000 hdLoose w := by
  intro os
  kernel_rfl
end Lk54
namespace PL
open PySem PySem.Spec PyProof.Rows L2

/-- data, without the heap -/
inductive D where
  | non | bl (b : Bool) | int (i : Int) | str (x : Str) | fn (x : Str) | ty (n : String)
  | scr (l : List Int) | tup (l : List D) | ntp (l : List D) | lst (l : List D) | dic (t : Bool) (ks vs : List D) | obj (C : Str) (ns : List Str) (vs : List D)

def keyD : Key → D
  | .inl i => .int i
  | .inr x => .str x

mutual
/-- v stands for d, by what is frozen in G -/
inductive Rep (K : PySem.W.Frag) (G : Hp) : D → V → Prop
  | non : Rep K G .non .non
  | bl (b : Bool) : Rep K G (.bl b) (.bl b)
  | int (i : Int) : Rep K G (.int i) (.int i)
  | str (x : Str) : Rep K G (.str x) (.str x)
  | fn (x : Str) : Rep K G (.fn x) (.ref (He.ga K x))
  | ty (n : String) : Rep K G (.ty n) (.ty n)
  | tup {a : Addr} {l : List D} {vs : List V} : G a = some (.tup vs) → Reps K G l vs → Rep K G (.tup l) (.ref a)
  | ntp {a : Addr} {o : Obj} {l : List D} {vs : List V} : G a = some (.frz o (.tup vs)) → o.dict = none → Reps K G l vs → Rep K G (.ntp l) (.ref a)
  | scr {a : Addr} {l : List Int} : SqL K G a (l.map V.int) → Rep K G (.scr l) (.ref a)
  | lst {a : Addr} {l : List D} {vs : List V} : G a = some (.lst vs) → Reps K G l vs → Rep K G (.lst l) (.ref a)
  | dicK {a : Addr} {kvs : List (Key × V)} {ks vs : List D} : Rd G a (.dK kvs) → ks = kvs.map (fun p => keyD p.1) → Reps K G vs (kvs.map Prod.snd) → Rep K G (.dic false ks vs) (.ref a)
  | dicT {a : Addr} {kvs : List (List Key × V)} {ks vs : List D} : Rd G a (.dT kvs) → ks = kvs.map (fun p => .tup (p.1.map keyD)) → Reps K G vs (kvs.map Prod.snd) → Rep K G (.dic true ks vs) (.ref a)
  | obj {a dx : Addr} {C : Str} {fs : List (Str × V)} {ns : List Str} {vs : List D} : G a = some (.ins (He.ga K C) dx fs) → ns = fs.map Prod.fst → Reps K G vs (fs.map Prod.snd) → Rep K G (.obj C ns vs) (.ref a)
inductive Reps (K : PySem.W.Frag) (G : Hp) : List D → List V → Prop
  | nil : Reps K G [] []
  | cons {d : D} {v : V} {ds : List D} {vs : List V} : Rep K G d v → Reps K G ds vs → Reps K G (d :: ds) (v :: vs)
end

/-- all of G is in H -/
def Le (G H : Hp) : Prop := ∀ a o, G a = some o → H a = some o
theorem Le.refl (G : Hp) : Le G G := fun _ _ h => h
theorem Le.trans {G H J : Hp} (a : Le G H) (b : Le H J) : Le G J := fun x o h => b x o (a x o h)
theorem Le.rd {G H : Hp} {a : Addr} {u : HO} (e : Le G H) (h : Rd G a u) : Rd H a u := by
  rcases h with h | ⟨o, h⟩
  · exact .inl (e _ _ h)
  · exact .inr ⟨o, e _ _ h⟩
theorem Le.sqL {K : PySem.W.Frag} {G H : Hp} {a : Addr} {xs : List V} (e : Le G H) (h : SqL K G a xs) : SqL K H a xs := Same.seq e h
theorem Le.sqT {K : PySem.W.Frag} {G H : Hp} {a : Addr} {xs : List V} (e : Le G H) (h : SqT K G a xs) : SqT K H a xs := by
  rcases h with (h | ⟨o, h⟩) | h
  · exact .inl (.inl (e _ _ h))
  · exact .inl (.inr ⟨o, e _ _ h⟩)
  · exact .inr h
def isDic : HO → Bool
  | .dK _ => true
  | .dT _ => true
  | _ => false
/-- all of G is in H, but that dicts may have been locked -/
def LeZ (G H : Hp) : Prop := ∀ a o, G a = some o → H a = some o ∨ (isDic o = true ∧ ∃ ob, H a = some (.frz ob o))
theorem Le.z {G H : Hp} (e : Le G H) : LeZ G H := fun a o h => .inl (e a o h)
theorem LeZ.refl (G : Hp) : LeZ G G := fun _ _ h => .inl h
theorem LeZ.trans {G H J : Hp} (a : LeZ G H) (b : LeZ H J) : LeZ G J := fun x o h => by
  rcases a x o h with q | ⟨z, ob, q⟩
  · exact b x o q
  · rcases b x _ q with q | ⟨z2, _⟩
    · exact .inr ⟨z, ob, q⟩
    · cases z2
theorem LeZ.same {G H : Hp} {a : Addr} {o : HO} (e : LeZ G H) (h : G a = some o) (n : isDic o = false) : H a = some o := by
  rcases e a o h with q | ⟨z, _⟩
  · exact q
  · rw [n] at z; cases z
theorem LeZ.rd {G H : Hp} {a : Addr} {u : HO} (e : LeZ G H) (h : Rd G a u) : Rd H a u := by
  rcases h with h | ⟨o, h⟩
  · rcases e a u h with q | ⟨_, ob, q⟩
    · exact .inl q
    · exact .inr ⟨ob, q⟩
  · exact .inr ⟨o, e.same h rfl⟩
theorem LeZ.sqL {K : PySem.W.Frag} {G H : Hp} {a : Addr} {xs : List V} (e : LeZ G H) (h : SqL K G a xs) : SqL K H a xs := by
  rcases h with h | h
  · exact .inl (e.rd h)
  · exact .inr h
theorem LeZ.sqT {K : PySem.W.Frag} {G H : Hp} {a : Addr} {xs : List V} (e : LeZ G H) (h : SqT K G a xs) : SqT K H a xs := by
  rcases h with h | h
  · exact .inl (e.rd h)
  · exact .inr h
mutual
theorem Rep.mono {K : PySem.W.Frag} {G H : Hp} (e : LeZ G H) : ∀ {d : D} {v : V}, Rep K G d v → Rep K H d v
  | _, _, .non => .non
  | _, _, .bl b => .bl b
  | _, _, .int i => .int i
  | _, _, .str x => .str x
  | _, _, .fn a => .fn a
  | _, _, .ty a => .ty a
  | _, _, .tup h hs => .tup (e.same h rfl) (Reps.mono e hs)
  | _, _, .ntp h n hs => .ntp (e.same h rfl) n (Reps.mono e hs)
  | _, _, .scr h => .scr (e.sqL h)
  | _, _, .lst h hs => .lst (e.same h rfl) (Reps.mono e hs)
  | _, _, .dicK h k hs => .dicK (e.rd h) k (Reps.mono e hs)
  | _, _, .dicT h k hs => .dicT (e.rd h) k (Reps.mono e hs)
  | _, _, .obj h k hs => .obj (e.same h rfl) k (Reps.mono e hs)
theorem Reps.mono {K : PySem.W.Frag} {G H : Hp} (e : LeZ G H) : ∀ {ds : List D} {vs : List V}, Reps K G ds vs → Reps K H ds vs
  | _, _, .nil => .nil
  | _, _, .cons h hs => .cons (Rep.mono e h) (Reps.mono e hs)
end
section
variable {K : PySem.W.Frag} {G : Hp}
theorem Reps.length : ∀ {ds : List D} {vs : List V}, Reps K G ds vs → ds.length = vs.length
  | _, _, .nil => rfl
  | _, _, .cons _ hs => congrArg (· + 1) (Reps.length hs)
theorem Reps.get : ∀ {ds : List D} {vs : List V} {i : Nat} {v : V}, Reps K G ds vs → vs[i]? = some v → ∃ d, ds[i]? = some d ∧ Rep K G d v
  | _, _, _, _, .nil, e => by simp at e
  | _, _, 0, _, .cons r _, e => by simp at e; subst e; exact ⟨_, rfl, r⟩
  | _, _, i + 1, v, .cons _ t, e => by
    obtain ⟨u, h1, h2⟩ := Reps.get (i := i) (v := v) t (by simpa using e)
    exact ⟨u, by simpa using h1, h2⟩
theorem Reps.at : ∀ {ds : List D} {vs : List V} {i : Nat} {d : D}, Reps K G ds vs → ds[i]? = some d → ∃ v, vs[i]? = some v ∧ Rep K G d v
  | _, _, _, _, .nil, e => by simp at e
  | _, _, 0, _, .cons r _, e => by simp at e; subst e; exact ⟨_, rfl, r⟩
  | _, _, i + 1, d, .cons _ t, e => by
    obtain ⟨u, h1, h2⟩ := Reps.at (i := i) (d := d) t (by simpa using e)
    exact ⟨u, by simpa using h1, h2⟩
theorem Reps.app : ∀ {ds es : List D} {vs us : List V}, Reps K G ds vs → Reps K G es us → Reps K G (ds ++ es) (vs ++ us)
  | _, _, _, _, .nil, t => t
  | _, _, _, _, .cons r s, t => .cons r (Reps.app s t)
theorem Reps.set {d : D} {v : V} (r : Rep K G d v) : ∀ {ds : List D} {vs : List V} (i : Nat), Reps K G ds vs → Reps K G (ds.set i d) (vs.set i v)
  | _, _, _, .nil => .nil
  | _, _, 0, .cons _ t => .cons r t
  | _, _, i + 1, .cons q t => .cons q (Reps.set r i t)
theorem Reps.take : ∀ {ds : List D} {vs : List V} (n : Nat), Reps K G ds vs → Reps K G (ds.take n) (vs.take n)
  | _, _, 0, _ => .nil
  | _, _, _ + 1, .nil => .nil
  | _, _, n + 1, .cons r t => .cons r (Reps.take n t)
theorem Reps.drop : ∀ {ds : List D} {vs : List V} (n : Nat), Reps K G ds vs → Reps K G (ds.drop n) (vs.drop n)
  | _, _, 0, r => r
  | _, _, _ + 1, .nil => .nil
  | _, _, n + 1, .cons _ t => Reps.drop n t
end

/-- a value at the level of slots -/
inductive SV where
  | d (x : D)
  | c (k : Nat)
  | un
/-- a value at a slot, by the cells' addresses -/
def RepS (K : PySem.W.Frag) (A : List Addr) (G : Hp) : SV → V → Prop
  | .d x, v => Rep K G x v
  | .c k, v => ∃ a, A[k]? = some a ∧ v = .ref a
  | .un, _ => True
inductive RepsS (K : PySem.W.Frag) (A : List Addr) (G : Hp) : List SV → List V → Prop
  | nil : RepsS K A G [] []
  | cons {d : SV} {v : V} {ds : List SV} {vs : List V} : RepS K A G d v → RepsS K A G ds vs → RepsS K A G (d :: ds) (v :: vs)
theorem RepsS.length {K : PySem.W.Frag} {A : List Addr} {G : Hp} : ∀ {ds : List SV} {vs : List V}, RepsS K A G ds vs → ds.length = vs.length
  | _, _, .nil => rfl
  | _, _, .cons _ hs => congrArg (· + 1) (RepsS.length hs)

inductive Cell where
  | lst (l : List D)
  | dK (ks vs : List D)
  | dT (ks vs : List D)
  | ins (C : Str) (ns : List Str) (vs : List D)
  /-- a dict, its keys tuples, its values cells -/
  | dC (ks : List D) (vs : List SV)
  /-- an instance whose attributes may be cells -/
  | inC (C : Str) (ns : List Str) (vs : List SV)
  /-- a list whose members may be cells -/
  | lsC (vs : List SV)
  /-- another thing of one's own, told of by mk: data and where it stands -/
  | dN (mk : Addr → List (D × Addr) → Heap → Prop) (ks : List D)
abbrev Mem := List Cell
structure Env' where
  n : Nat
  f : Nat → SV
def Env'.set (ρ : Env') (i : Nat) (s : SV) : Env' := ⟨ρ.n, fun j => if j = i then s else ρ.f j⟩

theorem RepS.mono {K : PySem.W.Frag} {A A' : List Addr} {G G' : Hp} (p : A <+: A') (g : LeZ G G') {s : SV} {v : V} (h : RepS K A G s v) : RepS K A' G' s v := by
  cases s with
  | d x => exact Rep.mono g h
  | c k =>
    obtain ⟨a, e, r⟩ := h
    obtain ⟨B, rfl⟩ := p
    refine ⟨a, ?_, r⟩
    rw [List.getElem?_append_left (List.getElem?_eq_some_iff.mp e).1]; exact e
  | un => trivial
theorem RepsS.mono {K : PySem.W.Frag} {A A' : List Addr} {G G' : Hp} (p : A <+: A') (g : LeZ G G') : ∀ {ss : List SV} {vs : List V}, RepsS K A G ss vs → RepsS K A' G' ss vs
  | _, _, .nil => .nil
  | _, _, .cons h t => .cons (h.mono p g) (RepsS.mono p g t)
def CellOk (K : PySem.W.Frag) (A : List Addr) (G H : Hp) (a : Addr) : Cell → Prop
  | .lst l => ∃ vs, H a = some (.lst vs) ∧ Reps K G l vs
  | .dK ks vs => ∃ kvs : List (Key × V), H a = some (.dK kvs) ∧ ks = kvs.map (fun p => keyD p.1) ∧ Reps K G vs (kvs.map Prod.snd)
  | .dT ks vs => ∃ kvs : List (List Key × V), H a = some (.dT kvs) ∧ ks = kvs.map (fun p => .tup (p.1.map keyD)) ∧ Reps K G vs (kvs.map Prod.snd)
  | .ins C ns vs => ∃ dx fs, H a = some (.ins (He.ga K C) dx fs) ∧ ns = fs.map Prod.fst ∧ Reps K G vs (fs.map Prod.snd)
  | .dC ks vs => ∃ kvs : List (List Key × V), H a = some (.dT kvs) ∧ ks = kvs.map (fun p => .tup (p.1.map keyD)) ∧ RepsS K A G vs (kvs.map Prod.snd)
  | .inC C ns vs => ∃ dx fs, H a = some (.ins (He.ga K C) dx fs) ∧ ns = fs.map Prod.fst ∧ RepsS K A G vs (fs.map Prod.snd)
  | .lsC vs => ∃ ws, H a = some (.lst ws) ∧ RepsS K A G vs ws
  | .dN mk ks => ∃ M : List (D × Addr), H a = some (.ext (mk a M)) ∧ ks = M.map Prod.fst ∧ ∀ b ∈ M, Rep K G b.1 (.ref b.2)
theorem CellOk.some {K : PySem.W.Frag} {A : List Addr} {G H : Hp} {a : Addr} {c : Cell} (h : CellOk K A G H a c) : ∃ o, H a = some o := by
  cases c with
  | lst l => obtain ⟨_, e, _⟩ := h; exact ⟨_, e⟩
  | dK k v => obtain ⟨_, e, _⟩ := h; exact ⟨_, e⟩
  | dT k v => obtain ⟨_, e, _⟩ := h; exact ⟨_, e⟩
  | ins C n v => obtain ⟨_, _, e, _⟩ := h; exact ⟨_, e⟩
  | dC k v => obtain ⟨_, e, _⟩ := h; exact ⟨_, e⟩
  | inC C n v => obtain ⟨_, _, e, _⟩ := h; exact ⟨_, e⟩
  | lsC v => obtain ⟨_, e, _⟩ := h; exact ⟨_, e⟩
  | dN m k => obtain ⟨_, e, _⟩ := h; exact ⟨_, e⟩
theorem CellOk.mono {K : PySem.W.Frag} {A A' : List Addr} {G H G' H' : Hp} {a : Addr} {c : Cell} (p : A <+: A') (g : LeZ G G') (e : H' a = H a) (h : CellOk K A G H a c) : CellOk K A' G' H' a c := by
  cases c with
  | lst l => obtain ⟨vs, q, r⟩ := h; exact ⟨vs, e.trans q, r.mono g⟩
  | dK k v => obtain ⟨kvs, q, z, r⟩ := h; exact ⟨kvs, e.trans q, z, r.mono g⟩
  | dT k v => obtain ⟨kvs, q, z, r⟩ := h; exact ⟨kvs, e.trans q, z, r.mono g⟩
  | ins C n v => obtain ⟨dx, fs, q, z, r⟩ := h; exact ⟨dx, fs, e.trans q, z, r.mono g⟩
  | dC k v => obtain ⟨kvs, q, z, r⟩ := h; exact ⟨kvs, e.trans q, z, r.mono p g⟩
  | inC C n v => obtain ⟨dx, fs, q, z, r⟩ := h; exact ⟨dx, fs, e.trans q, z, r.mono p g⟩
  | lsC v => obtain ⟨ws, q, r⟩ := h; exact ⟨ws, e.trans q, r.mono p g⟩
  | dN m k => obtain ⟨M, q, z, r⟩ := h; exact ⟨M, e.trans q, z, fun b hb => (r b hb).mono g⟩
theorem CellOk.notup {K : PySem.W.Frag} {A : List Addr} {G H : Hp} {a : Addr} {c : Cell} (h : CellOk K A G H a c) {xs : List V} : H a ≠ Option.some (HO.tup xs) := by
  intro z
  cases c with
  | lst l => obtain ⟨_, e, _⟩ := h; rw [e] at z; cases z
  | dK k v => obtain ⟨_, e, _⟩ := h; rw [e] at z; cases z
  | dT k v => obtain ⟨_, e, _⟩ := h; rw [e] at z; cases z
  | ins C n v => obtain ⟨_, _, e, _⟩ := h; rw [e] at z; cases z
  | dC k v => obtain ⟨_, e, _⟩ := h; rw [e] at z; cases z
  | inC C n v => obtain ⟨_, _, e, _⟩ := h; rw [e] at z; cases z
  | lsC v => obtain ⟨_, e, _⟩ := h; rw [e] at z; cases z
  | dN m k => obtain ⟨_, e, _⟩ := h; rw [e] at z; cases z
/-- its values are no cells -/
def flat1 : Cell → Bool
  | .dC _ _ => false
  | .inC _ _ _ => false
  | .lsC _ => false
  | .dN _ _ => false
  | _ => true
theorem CellOk.flat {K : PySem.W.Frag} {A A' : List Addr} {G H : Hp} {a : Addr} {c : Cell} (f : flat1 c = true) (h : CellOk K A G H a c) : CellOk K A' G H a c := by
  cases c <;> first | exact h | cases f
/-- the cells stand -/
structure Cells (K : PySem.W.Frag) (A : List Addr) (μ : Mem) (G H : Hp) : Prop where
  le : Le G H
  len : A.length = μ.length
  nd : A.Nodup
  free : ∀ a ∈ A, G a = none
  ok : ∀ (k : Nat) (a : Addr) (c : Cell), A[k]? = some a → μ[k]? = some c → CellOk K A G H a c
/-- a slot -/
def SlotOk (K : PySem.W.Frag) (A : List Addr) (G : Hp) (s : SV) (o : Option V) : Prop :=
  match s with
  | .un => True
  | s => ∃ v, o = some v ∧ RepS K A G s v
structure Sim (K : PySem.W.Frag) (A : List Addr) (σ : L2.St) (ρ : Env') (μ : Mem) (G H : Hp) : Prop extends Cells K A μ G H where
  sl : ρ.n = σ.length
  at_ : ∀ (i : Nat), i < ρ.n → ∃ o, σ[i]? = some o ∧ SlotOk K A G (ρ.f i) o
/-- a step: what is no cell stays, cells stay, new things are new -/
structure Step (A : List Addr) (G H : Hp) (A' : List Addr) (G' H' : Hp) : Prop where
  pre : A <+: A'
  le : LeZ G G'
  keep : ∀ a o, H a = some o → a ∉ A → H' a = some o ∨ (G a = some o ∧ isDic o = true ∧ ∃ ob, H' a = some (.frz ob o))
  new : ∀ a, G' a ≠ none → G a ≠ none ∨ H a = none ∨ ∃ xs, H a = some (.tup xs)
  tups : ∀ a xs, H' a = some (.tup xs) → H a = none ∨ H a = some (.tup xs)
  cells : ∀ a ∈ A', a ∈ A ∨ H a = none
  there : ∀ a, H a ≠ none → H' a ≠ none
theorem Step.refl {A : List Addr} {G H : Hp} : Step A G H A G H :=
  ⟨List.prefix_refl _, LeZ.refl _, fun _ _ h _ => .inl h, fun _ h => .inl h, fun _ _ h => .inr h, fun _ h => .inl h, fun _ h => h⟩
theorem Step.trans {A A1 A2 : List Addr} {G G1 G2 H H1 H2 : Hp} (x : Step A G H A1 G1 H1) (y : Step A1 G1 H1 A2 G2 H2) : Step A G H A2 G2 H2 where
  pre := x.pre.trans y.pre
  le := x.le.trans y.le
  keep := fun a o h n => by
    have n1 : a ∉ A1 := fun z => (x.cells a z).elim n fun q => by rw [h] at q; cases q
    rcases x.keep a o h n with q | ⟨g, z, ob, q⟩
    · rcases y.keep a o q n1 with r | ⟨g1, z, ob, r⟩
      · exact .inl r
      · refine .inr ⟨?_, z, ob, r⟩
        rcases x.new a (by rw [g1]; simp) with w | w
        · cases e : G a with
          | none => exact absurd e w
          | some u =>
            rcases x.le a u e with e2 | ⟨_, _, e2⟩
            · rw [g1] at e2; exact e2.symm ▸ rfl
            · rw [g1] at e2
              have e3 : o = _ := Option.some.inj e2
              rw [e3] at z; cases z
        · rw [h] at w
          rcases w with w | ⟨xs, w⟩
          · cases w
          · cases w; cases z
    · rcases y.keep a _ q n1 with r | ⟨_, z2, _⟩
      · exact .inr ⟨g, z, ob, r⟩
      · cases z2
  new := fun a h => by
    rcases y.new a h with q | q | ⟨xs, q⟩
    · exact x.new a q
    · exact .inr (.inl (Classical.byContradiction fun z => x.there a z q))
    · rcases x.tups a xs q with w | w
      · exact .inr (.inl w)
      · exact .inr (.inr ⟨xs, w⟩)
  tups := fun a xs h => by
    rcases y.tups a xs h with q | q
    · exact .inl (Classical.byContradiction fun z => x.there a z q)
    · exact x.tups a xs q
  cells := fun a h => by
    rcases y.cells a h with q | q
    · exact x.cells a q
    · exact .inr (Classical.byContradiction fun z => x.there a z q)
  there := fun a h => y.there a (x.there a h)
theorem SlotOk.mono {K : PySem.W.Frag} {A A' : List Addr} {G G' : Hp} (p : A <+: A') (g : LeZ G G') {s : SV} {o : Option V} (h : SlotOk K A G s o) : SlotOk K A' G' s o := by
  cases s with
  | un => trivial
  | d x => obtain ⟨v, e, r⟩ := h; exact ⟨v, e, RepS.mono p g (s := .d x) r⟩
  | c k => obtain ⟨v, e, r⟩ := h; exact ⟨v, e, RepS.mono p g (s := .c k) r⟩
/-- the cells of a later state, the slots as they were -/
theorem Sim.after {K : PySem.W.Frag} {A A' : List Addr} {σ : L2.St} {ρ : Env'} {μ μ' : Mem} {G G' H H' : Hp} (S : Sim K A σ ρ μ G H) (st : Step A G H A' G' H') (c : Cells K A' μ' G' H') : Sim K A' σ ρ μ' G' H' where
  toCells := c
  sl := S.sl
  at_ := fun i h => let ⟨o, e, q⟩ := S.at_ i h; ⟨o, e, q.mono st.pre st.le⟩

/-- what is wanted of an exception: its class, its one attribute -/
abbrev XP := Str → List (Str × D) → Mem → Prop
abbrev VP := SV → Mem → Prop
abbrev TX := XP → Env' → Mem → VP → Prop
abbrev TXT := XP → Env' → Mem → (Bool → Mem → Prop) → Prop
abbrev TXA := XP → Env' → Mem → (List SV → Mem → Prop) → Prop
abbrev TXI := XP → Env' → Mem → (List D → Mem → Prop) → Prop
structure EndsP where
  nx : Env' → Mem → Prop
  rt : VP
  ex : XP
  bk : Env' → Mem → Prop := fun _ _ => False
  ct : Env' → Mem → Prop := fun _ _ => False
abbrev TXS := EndsP → Env' → Mem → Prop

/-- an exception in the heap: its class at C, its attributes -/
def ExOk (K : PySem.W.Frag) (G H : Hp) (fs : List (Str × D)) (d : Option Addr) : Prop :=
  (fs = [] ∧ d = none) ∨ ∃ (p : Addr) (ws : List (Str × V)), d = some p ∧ H p = some (.xd ws) ∧ fs.map Prod.fst = ws.map Prod.fst ∧ Reps K G (fs.map Prod.snd) (ws.map Prod.snd)
/-- the outer wish W takes what x wants -/
def ExTo (K : PySem.W.Frag) (W : WX) (A : List Addr) (G H : Hp) (x : XP) : Prop :=
  ∀ (C : Str) (fs : List (Str × D)) (μ' : Mem) (A' : List Addr) (G' H' : Hp) (d : Option Addr) (σ : L2.St), x C fs μ' → Cells K A' μ' G' H' → Step A G H A' G' H' → ExOk K G' H' fs d → W (.ref (He.ga K C)) d σ H'
theorem ExTo.after {K : PySem.W.Frag} {W : WX} {A A' : List Addr} {G G' H H' : Hp} {x : XP} (h : ExTo K W A G H x) (st : Step A G H A' G' H') : ExTo K W A' G' H' x :=
  fun C fs μ' A2 G2 H2 d σ q c s2 e => h C fs μ' A2 G2 H2 d σ q c (st.trans s2) e

def lift (K : PySem.W.Frag) (W : WX) (t : TX) : TE := fun σ H Q => ∃ A ρ μ G Qp x, Sim K A σ ρ μ G H ∧ t x ρ μ Qp ∧ ExTo K W A G H x ∧
  ∀ r μ' A' G' H' v, Qp r μ' → Cells K A' μ' G' H' → Step A G H A' G' H' → RepS K A' G' r v → Q v H'
def liftT (K : PySem.W.Frag) (W : WX) (t : TXT) : TT := fun σ H Q => ∃ A ρ μ G Qp x, Sim K A σ ρ μ G H ∧ t x ρ μ Qp ∧ ExTo K W A G H x ∧
  ∀ b μ' A' G' H', Qp b μ' → Cells K A' μ' G' H' → Step A G H A' G' H' → Q b H'
def liftA (K : PySem.W.Frag) (W : WX) (t : TXA) : TA := fun σ H Q => ∃ A ρ μ G Qp x, Sim K A σ ρ μ G H ∧ t x ρ μ Qp ∧ ExTo K W A G H x ∧
  ∀ rs μ' A' G' H' vs, Qp rs μ' → Cells K A' μ' G' H' → Step A G H A' G' H' → RepsS K A' G' rs vs → Q vs H'
/-- a statement's ends -/
structure EndsOk (K : PySem.W.Frag) (W : WX) (A : List Addr) (G H : Hp) (E : EndsP) (D : Ends) : Prop where
  nx : ∀ ρ' μ' A' σ' G' H', E.nx ρ' μ' → Sim K A' σ' ρ' μ' G' H' → Step A G H A' G' H' → D.nx σ' H'
  bk : ∀ ρ' μ' A' σ' G' H', E.bk ρ' μ' → Sim K A' σ' ρ' μ' G' H' → Step A G H A' G' H' → D.bk σ' H'
  ct : ∀ ρ' μ' A' σ' G' H', E.ct ρ' μ' → Sim K A' σ' ρ' μ' G' H' → Step A G H A' G' H' → D.ct σ' H'
  rt : ∀ r μ' A' G' H' v, E.rt r μ' → Cells K A' μ' G' H' → Step A G H A' G' H' → RepS K A' G' r v → D.rt v H'
  ex : ExTo K W A G H E.ex
theorem EndsOk.after {K : PySem.W.Frag} {W : WX} {A A' : List Addr} {G G' H H' : Hp} {E : EndsP} {D : Ends} (e : EndsOk K W A G H E D) (st : Step A G H A' G' H') : EndsOk K W A' G' H' E D :=
  ⟨fun ρ' μ' A2 σ' G2 H2 q s s2 => e.nx ρ' μ' A2 σ' G2 H2 q s (st.trans s2), fun ρ' μ' A2 σ' G2 H2 q s s2 => e.bk ρ' μ' A2 σ' G2 H2 q s (st.trans s2),
    fun ρ' μ' A2 σ' G2 H2 q s s2 => e.ct ρ' μ' A2 σ' G2 H2 q s (st.trans s2), fun r μ' A2 G2 H2 v q s s2 => e.rt r μ' A2 G2 H2 v q s (st.trans s2), e.ex.after st⟩
def liftS (K : PySem.W.Frag) (W : WX) (t : TXS) : TS := fun D σ H => ∃ A ρ μ G E, Sim K A σ ρ μ G H ∧ t E ρ μ ∧ EndsOk K W A G H E D

structure PX (X : Cx) (W : WX) (e : Expr) (t : TX) : Prop where
  pe : PE X e (lift X.K W t)
structure PXT (X : Cx) (W : WX) (e : Expr) (t : TXT) : Prop where
  pt : PT X e (liftT X.K W t)
structure PXA (X : Cx) (W : WX) (es : List Expr) (t : TXA) : Prop where
  pa : PA X es (liftA X.K W t)
structure PXS (X : Cx) (W : WX) (st : Stmt) (t : TXS) : Prop where
  ps : PS X st (liftS X.K W t)
structure PXSs (X : Cx) (W : WX) (st : List Stmt) (t : TXS) : Prop where
  ps : PSs X st (liftS X.K W t)
theorem _root_.L2.PE.imp {X : Cx} {e : Expr} {t t' : TE} (h : PE X e t) (i : ∀ σ H Q, t' σ H Q → t σ H Q) : PE X e t' := ⟨fun pins s σ H Q I q => h.run pins s σ H Q I (i _ _ _ q)⟩
theorem _root_.L2.PT.imp {X : Cx} {e : Expr} {t t' : TT} (h : PT X e t) (i : ∀ σ H Q, t' σ H Q → t σ H Q) : PT X e t' := ⟨fun pins s σ H Q I q => h.run pins s σ H Q I (i _ _ _ q)⟩
theorem _root_.L2.PA.imp {X : Cx} {e : List Expr} {t t' : TA} (h : PA X e t) (i : ∀ σ H Q, t' σ H Q → t σ H Q) : PA X e t' := ⟨fun pos pins s σ H Q I q => h.run pos pins s σ H Q I (i _ _ _ q)⟩
theorem _root_.L2.PS.imp {X : Cx} {e : Stmt} {t t' : TS} (h : PS X e t) (i : ∀ D σ H, t' D σ H → t D σ H) : PS X e t' := ⟨fun pins s σ H D I q => h.run pins s σ H D I (i _ _ _ q)⟩
theorem _root_.L2.PSs.imp {X : Cx} {e : List Stmt} {t t' : TS} (h : PSs X e t) (i : ∀ D σ H, t' D σ H → t D σ H) : PSs X e t' := ⟨fun pins s σ H D I q => h.run pins s σ H D I (i _ _ _ q)⟩

section
variable {K : PySem.W.Frag} {A : List Addr} {μ : Mem} {G H : Hp}
theorem Cells.ne_of_lt (c : Cells K A μ G H) {a p : Addr} (ha : a ∈ A) (hp : H p = none) : a ≠ p := fun z => by
  subst z
  obtain ⟨k, hk⟩ := List.mem_iff_getElem?.mp ha
  have h1 : k < μ.length := by rw [← c.len]; exact (List.getElem?_eq_some_iff.mp hk).1
  obtain ⟨o, e⟩ := (c.ok k a _ hk (List.getElem?_eq_getElem h1)).some
  rw [hp] at e; cases e
theorem Cells.gnone (c : Cells K A μ G H) {p : Addr} (hp : H p = none) : G p = none := by
  cases e : G p with
  | none => rfl
  | some o => rw [c.le p o e] at hp; cases hp
/-- a new frozen thing at p -/
theorem Cells.laid (c : Cells K A μ G H) {p : Addr} {o : HO} (hp : H p = none) : Cells K A μ (upd G p o) (upd H p o) ∧ Step A G H A (upd G p o) (upd H p o) := by
  have gp := c.gnone hp
  have lg : Le G (upd G p o) := fun a u e => by rw [upd_ne (ne_of_none e gp)]; exact e
  refine ⟨⟨fun a u e => ?_, c.len, c.nd, fun a ha => ?_, fun k a cl h1 h2 => ?_⟩, ⟨List.prefix_refl _, lg.z, fun a u e _ => .inl ?_, fun a e => ?_, fun a xs e => ?_, fun a ha => .inl ha, fun a e => ?_⟩⟩
  · by_cases z : a = p
    · subst z; rw [upd_same] at e ⊢; exact e
    · rw [upd_ne z] at e ⊢; exact c.le a u e
  · rw [upd_ne (c.ne_of_lt ha hp)]; exact c.free a ha
  · exact (c.ok k a cl h1 h2).mono (List.prefix_refl _) lg.z (upd_ne (c.ne_of_lt (List.mem_of_getElem? h1) hp))
  · rw [upd_ne (ne_of_none e hp)]; exact e
  · by_cases z : a = p
    · subst z; exact .inr (.inl hp)
    · rw [upd_ne z] at e; exact .inl e
  · by_cases z : a = p
    · subst z; exact .inl hp
    · rw [upd_ne z] at e; exact .inr e
  · by_cases z : a = p
    · subst z; rw [upd_same]; simp
    · rw [upd_ne z]; exact e
theorem getElem?_append_one {α : Type} {l : List α} {x y : α} {k : Nat} (h : (l ++ [x])[k]? = some y) : (l[k]? = some y) ∨ (k = l.length ∧ y = x) := by
  by_cases hk : k < l.length
  · rw [List.getElem?_append_left hk] at h; exact .inl h
  · rw [List.getElem?_append_right (by omega)] at h
    have : k - l.length = 0 := by
      cases e : k - l.length with
      | zero => rfl
      | succ n => rw [e] at h; simp at h
    rw [this] at h
    simp at h
    exact .inr ⟨by omega, h.symm⟩
/-- a new cell at p -/
theorem Cells.cell (c : Cells K A μ G H) {p : Addr} {o : HO} {cl : Cell} (hp : H p = none) (ok : CellOk K (A ++ [p]) G (upd H p o) p cl) : Cells K (A ++ [p]) (μ ++ [cl]) G (upd H p o) ∧ Step A G H (A ++ [p]) G (upd H p o) := by
  have gp := c.gnone hp
  have np : p ∉ A := fun z => c.ne_of_lt z hp rfl
  refine ⟨⟨fun a u e => ?_, by simp [c.len], ?_, fun a ha => ?_, fun k a cl' h1 h2 => ?_⟩, ⟨List.prefix_append _ _, LeZ.refl _, fun a u e _ => .inl ?_, fun a e => .inl e, fun a xs e => ?_, fun a ha => ?_, fun a e => ?_⟩⟩
  · rw [upd_ne (ne_of_none e gp)]; exact c.le a u e
  · refine List.nodup_append.mpr ⟨c.nd, by simp, fun a ha b hb => ?_⟩
    simp at hb; subst hb
    exact c.ne_of_lt ha hp
  · rcases List.mem_append.mp ha with h | h
    · exact c.free a h
    · simp at h; subst h; exact gp
  · rcases getElem?_append_one h1 with h1 | ⟨e1, e2⟩
    · have hk : k < μ.length := by rw [← c.len]; exact (List.getElem?_eq_some_iff.mp h1).1
      rw [List.getElem?_append_left hk] at h2
      exact (c.ok k a cl' h1 h2).mono (List.prefix_append _ _) (LeZ.refl _) (upd_ne (c.ne_of_lt (List.mem_of_getElem? h1) hp))
    · subst e2
      rw [e1, c.len, List.getElem?_append_right (Nat.le_refl _)] at h2
      simp at h2; subst h2; exact ok
  · rw [upd_ne (ne_of_none e hp)]; exact e
  · by_cases z : a = p
    · subst z; exact .inl hp
    · rw [upd_ne z] at e; exact .inr e
  · rcases List.mem_append.mp ha with h | h
    · exact .inl h
    · simp at h; subst h; exact .inr hp
  · by_cases z : a = p
    · subst z; rw [upd_same]; simp
    · rw [upd_ne z]; exact e
/-- a cell is changed -/
theorem Cells.write (c : Cells K A μ G H) {k : Nat} {p : Addr} {o : HO} {cl : Cell} (hk : A[k]? = some p) (ok : CellOk K A G (upd H p o) p cl) : Cells K A (μ.set k cl) G (upd H p o) ∧ Step A G H A G (upd H p o) := by
  have hm : p ∈ A := List.mem_of_getElem? hk
  have gp := c.free p hm
  have hkl : k < A.length := (List.getElem?_eq_some_iff.mp hk).1
  refine ⟨⟨fun a u e => ?_, by simp [c.len], c.nd, c.free, fun j a cl' h1 h2 => ?_⟩, ⟨List.prefix_refl _, LeZ.refl _, fun a u e n => .inl ?_, fun a e => .inl e, fun a xs e => ?_, fun a ha => .inl ha, fun a e => ?_⟩⟩
  · rw [upd_ne (ne_of_none e gp)]; exact c.le a u e
  · by_cases z : j = k
    · subst z
      rw [hk] at h1; cases h1
      rw [List.getElem?_set_self (by rw [← c.len]; exact hkl)] at h2
      cases h2; exact ok
    · rw [List.getElem?_set_ne (Ne.symm z)] at h2
      refine (c.ok j a cl' h1 h2).mono (List.prefix_refl _) (LeZ.refl _) (upd_ne fun q => z ?_)
      subst q
      obtain ⟨l1, e1⟩ := List.getElem?_eq_some_iff.mp h1
      obtain ⟨l2, e2⟩ := List.getElem?_eq_some_iff.mp hk
      exact (List.getElem_inj c.nd).mp (e1.trans e2.symm)
  · rw [upd_ne (fun z : a = p => n (by rw [z]; exact hm))]; exact e
  · by_cases z : a = p
    · subst z; exact absurd e ok.notup
    · rw [upd_ne z] at e; exact .inr e
  · by_cases z : a = p
    · subst z; rw [upd_same]; simp
    · rw [upd_ne z]; exact e
end
end PL
namespace PL
open PySem PySem.Spec PyProof.Rows L2
theorem Reps.sq {K : PySem.W.Frag} {G : Hp} {l : List D} {v : V} (h : Rep K G (.tup l) v) : ∃ a vs, v = .ref a ∧ SqT K G a vs ∧ Reps K G l vs := by
  cases h with
  | tup h hs => exact ⟨_, _, rfl, SqT.of h, hs⟩
theorem Reps.sqn {K : PySem.W.Frag} {G : Hp} {l : List D} {v : V} (h : Rep K G (.ntp l) v) : ∃ a vs, v = .ref a ∧ SqT K G a vs ∧ Reps K G l vs := by
  cases h with
  | ntp h _ hs => exact ⟨_, _, rfl, .inl (.inr ⟨_, h⟩), hs⟩
theorem Reps.sql {K : PySem.W.Frag} {G : Hp} {l : List D} {v : V} (h : Rep K G (.lst l) v) : ∃ a vs, v = .ref a ∧ G a = some (.lst vs) ∧ Reps K G l vs := by
  cases h with
  | lst h hs => exact ⟨_, _, rfl, h, hs⟩
section
variable {X : Cx} {W : WX} {a b c e : Expr} {es : List Expr} {ta tb tc : TX} {pos : Pos}

/-- the one or the other, by a truth -/
def Br (b : Bool) (A B : Prop) : Prop := match b with
  | true => A
  | false => B
def xVar (i : Nat) : TX := fun _ ρ μ Q => i < ρ.n ∧ match ρ.f i with
  | .d a => Q (.d a) μ
  | .c k => Q (.c k) μ
  | .un => False
theorem px_name (i : Nat) {x : Str} {pos : Pos} (hN : X.N[i]? = some x := by rfl) (hv : Vis X.env.scope x := by first | exact Or.inl rfl | exact Or.inr (Or.inl rfl) | exact Or.inr (Or.inr rfl)) (hd : (x == ("__debug__" : Str)) = false := by decide)
    (hcd : (x == ("__classdict__" : Str)) = false := by decide) : PX X W (.Name x pos) (xVar i) := by
  refine ⟨(pe_var hN hv hd hcd).imp fun σ H Q h => ?_⟩
  obtain ⟨A, ρ, μ, G, Qp, xp, S, ht, _, k⟩ := h
  obtain ⟨hn, ht⟩ := ht
  obtain ⟨o, e1, so⟩ := S.at_ i hn
  split at ht
  · rename_i a e
    rw [e] at so
    obtain ⟨v, rfl, r⟩ := so
    exact ⟨v, e1, k _ _ A G H v ht S.toCells .refl r⟩
  · rename_i a e
    rw [e] at so
    obtain ⟨v, rfl, r⟩ := so
    exact ⟨v, e1, k _ _ A G H v ht S.toCells .refl r⟩
  · exact ht.elim
def xC (d : D) : TX := fun _ _ μ Q => Q (.d d) μ
theorem px_const {v : V} {d : D} (h : PE X e (tC v)) (r : ∀ G, Rep X.K G d v) : PX X W e (xC d) := by
  refine ⟨h.imp fun σ H Q h => ?_⟩
  obtain ⟨A, ρ, μ, G, Qp, xp, S, ht, _, k⟩ := h
  exact k _ _ A G H v ht S.toCells .refl (r G)
theorem px_int {i : Int} {j pos} : PX X W (.Constant (.int i) j pos) (xC (.int i)) := px_const pe_int fun _ => .int i
theorem px_bl {b : Bool} {j pos} : PX X W (.Constant (.bool b) j pos) (xC (.bl b)) := px_const pe_bl fun _ => .bl b
theorem px_non {j pos} : PX X W (.Constant .none j pos) (xC .non) := px_const pe_non fun _ => .non
theorem px_str {x : Str} {j pos} : PX X W (.Constant (.str x) j pos) (xC (.str x)) := px_const pe_str fun _ => .str x
/-- a constant of the module: an int -/
theorem px_gint {x : Str} {i : Int} {t : Tok} {pos : Pos} (hg : Gl X x) (hm : X.mg x = some (.int i t)) (hd : (x == ("__debug__" : Str)) = false := by decide) : PX X W (.Name x pos) (xC (.int i)) :=
  px_const (pe_glob hg hm (v := .int i) ⟨t, rfl⟩ hd) fun _ => .int i
theorem px_gstr {x : Str} {i : Str} {t : Tok} {pos : Pos} (hg : Gl X x) (hm : X.mg x = some (.str i t)) (hd : (x == ("__debug__" : Str)) = false := by decide) : PX X W (.Name x pos) (xC (.str i)) :=
  px_const (pe_glob hg hm (v := .str i) ⟨t, rfl⟩ hd) fun _ => .str i
theorem px_bty {x : Str} {T : String} {pos : Pos} (hg : Gl X x) (hm : X.mg x = none) (hv : bootBuiltins x = some (.type T)) (hn : x ≠ "__name__" := by decide) (hd : (x == ("__debug__" : Str)) = false := by decide) : PX X W (.Name x pos) (xC (.ty T)) :=
  px_const (pe_bltn hg hm hv (v := .ty T) rfl hn hd) fun _ => .ty T

/-- how an operation on the heap does what P says -/
def POp (K : PySem.W.Frag) (r : R2) (P : SV → SV → Mem → VP → Prop) : Prop := ∀ (sa sb : SV) (μ : Mem) (A : List Addr) (G H : Hp) (va vb : V) (Qp : VP) (Q : VK), P sa sb μ Qp → Cells K A μ G H → RepS K A G sa va → RepS K A G sb vb →
  (∀ r μ' A' G' H' v, Qp r μ' → Cells K A' μ' G' H' → Step A G H A' G' H' → RepS K A' G' r v → Q v H') → r va vb H Q
def xOp (P : SV → SV → Mem → VP → Prop) (ta tb : TX) : TX := fun x ρ μ Q => ta x ρ μ fun sa μ1 => tb x ρ μ1 fun sb μ2 => P sa sb μ2 Q
theorem lift_op {K : PySem.W.Frag} {r : R2} {P : SV → SV → Mem → VP → Prop} (hp : POp K r P) {σ : L2.St} {H : Hp} {Q : VK} (h : lift K W (xOp P ta tb) σ H Q) : tOp r (lift K W ta) (lift K W tb) σ H Q := by
  obtain ⟨A, ρ, μ, G, Qp, xp, S, ht, hx, k⟩ := h
  refine ⟨A, ρ, μ, G, _, xp, S, ht, hx, fun sa μ1 A1 G1 H1 va q c1 s1 r1 => ?_⟩
  refine ⟨A1, ρ, μ1, G1, _, xp, S.after s1 c1, q, hx.after s1, fun sb μ2 A2 G2 H2 vb q2 c2 s2 r2 => ?_⟩
  exact hp sa sb μ2 A2 G2 H2 va vb Qp Q q2 c2 (r1.mono s2.pre s2.le) r2 fun r μ' A' G' H' v q3 c3 s3 r3 => k r μ' A' G' H' v q3 c3 ((s1.trans s2).trans s3) r3
theorem px_op {op : Operator} {r : R2} {P : SV → SV → Mem → VP → Prop} (ho : OpR X (binaryOp op) r) (hp : POp X.K r P) (ha : PX X W a ta) (hb : PX X W b tb) : PX X W (.BinOp a op b pos) (xOp P ta tb) :=
  ⟨(pe_op ho ha.pe hb.pe).imp fun _ _ _ h => lift_op hp h⟩
theorem px_cmp {op : CmpOp} {r : R2} {P : SV → SV → Mem → VP → Prop} (ho : OpR X (compareOp op) r) (hp : POp X.K r P) (ha : PX X W a ta) (hb : PX X W b tb) (hm : behindInMarks op b = false := by first | exact nomark _ | rfl) : PX X W (.Compare a [op] [b] pos) (xOp P ta tb) :=
  ⟨(pe_cmpR ho ha.pe hb.pe hm).imp fun _ _ _ h => lift_op hp h⟩
/-- a reading as a test: a bool comes -/
def xTest (t : TX) : TXT := fun x ρ μ Q => t x ρ μ fun s μ1 => match s with
  | .d (.bl k) => Q k μ1
  | _ => False
theorem lift_test {K : PySem.W.Frag} {t : TX} {t0 : TE} (h0 : ∀ σ H Q, lift K W t σ H Q → t0 σ H Q) {σ : L2.St} {H : Hp} {Q : Bool → Hp → Prop} (h : liftT K W (xTest t) σ H Q) : tTest t0 σ H Q := by
  obtain ⟨A, ρ, μ, G, Qp, xp, S, ht, hx, k⟩ := h
  refine h0 _ _ _ ⟨A, ρ, μ, G, _, xp, S, ht, hx, fun r μ' A' G' H' v q c s rr => ?_⟩
  match r, q, rr with
  | .d (.bl b), q, rr => cases rr; exact ⟨b, rfl, k _ _ _ _ _ q c s⟩
theorem pxt_cmp {op : CmpOp} {r : R2} {P : SV → SV → Mem → VP → Prop} (ho : OpR X (compareOp op) r) (hp : POp X.K r P) (ha : PX X W a ta) (hb : PX X W b tb) (hm : behindInMarks op b = false := by first | exact nomark _ | rfl) : PXT X W (.Compare a [op] [b] pos) (xTest (xOp P ta tb)) :=
  ⟨(pt_cmpR ho ha.pe hb.pe hm).imp fun _ _ _ h => lift_test (fun _ _ _ z => lift_op hp z) h⟩
/-- an expression that gives True or False, as a test -/
theorem pxt_val {t : TX} (h : PX X W e t) (he : ∀ whole, isTrue e X.env whole = (do let v ← whole; standAt e.pos; holding [v] (truthy v)) := by intro _; rfl) : PXT X W e (xTest t) :=
  ⟨(pt_val h.pe he).imp fun _ _ _ h => by
    obtain ⟨A, ρ, μ, G, Qp, xp, S, ht, hx, k⟩ := h
    refine ⟨A, ρ, μ, G, _, xp, S, ht, hx, fun r μ' A' G' H' v q c s rr => ?_⟩
    match r, q, rr with
    | .d (.bl b), q, rr => cases rr; exact ⟨b, rfl, k _ _ _ _ _ q c s⟩⟩
/-- a < b < c -/
def xChain (P P' : SV → SV → Mem → VP → Prop) (ta tb tc : TX) : TX := fun x ρ μ Q => ta x ρ μ fun sa μ1 => tb x ρ μ1 fun sb μ2 => P sa sb μ2 fun z μ3 => match z with
  | .d (.bl b) => Br b (tc x ρ μ3 fun sc μ4 => P' sb sc μ4 Q) (Q (.d (.bl false)) μ3)
  | _ => False
theorem lift_chain {K : PySem.W.Frag} {r r' : R2} {P P' : SV → SV → Mem → VP → Prop} (hp : POp K r P) (hp' : POp K r' P') {σ : L2.St} {H : Hp} {Q : VK} (h : lift K W (xChain P P' ta tb tc) σ H Q) : tChain r r' (lift K W ta) (lift K W tb) (lift K W tc) σ H Q := by
  obtain ⟨A, ρ, μ, G, Qp, xp, S, ht, hx, k⟩ := h
  refine ⟨A, ρ, μ, G, _, xp, S, ht, hx, fun sa μ1 A1 G1 H1 va q c1 s1 r1 => ?_⟩
  refine ⟨A1, ρ, μ1, G1, _, xp, S.after s1 c1, q, hx.after s1, fun sb μ2 A2 G2 H2 vb q2 c2 s2 r2 => ?_⟩
  refine hp sa sb μ2 A2 G2 H2 va vb _ _ q2 c2 (r1.mono s2.pre s2.le) r2 fun z μ3 A3 G3 H3 v3 q3 c3 s3 r3 => ?_
  have s13 := (s1.trans s2).trans s3
  match z, q3, r3 with
  | .d (.bl true), q3, r3 =>
    cases r3
    refine ⟨true, rfl, ite_tt ?_⟩
    refine ⟨A3, ρ, μ3, G3, _, xp, S.after s13 c3, q3, hx.after s13, fun sc μ4 A4 G4 H4 vc q4 c4 s4 r4 => ?_⟩
    have s24 := s3.trans s4
    exact hp' sb sc μ4 A4 G4 H4 vb vc Qp Q q4 c4 (r2.mono s24.pre s24.le) r4 fun r μ' A' G' H' v q5 c5 s5 r5 => k r μ' A' G' H' v q5 c5 ((s13.trans s4).trans s5) r5
  | .d (.bl false), q3, r3 =>
    cases r3
    exact ⟨false, rfl, ite_ff (k _ _ _ _ _ _ q3 c3 s13 (.bl false))⟩
theorem px_chain {op op' : CmpOp} {r r' : R2} {P P' : SV → SV → Mem → VP → Prop} (ho : OpR X (compareOp op) r) (hp : POp X.K r P) (ho' : OpR X (compareOp op') r') (hp' : POp X.K r' P') (ha : PX X W a ta) (hb : PX X W b tb) (hc : PX X W c tc)
    (hm : lastMarks [op, op'] [b, c] = false := by with_unfolding_all rfl) : PX X W (.Compare a [op, op'] [b, c] pos) (xChain P P' ta tb tc) := ⟨(pe_chain ho ho' ha.pe hb.pe hc.pe hm).imp fun _ _ _ h => lift_chain hp hp' h⟩
theorem pxt_chain {op op' : CmpOp} {r r' : R2} {P P' : SV → SV → Mem → VP → Prop} (ho : OpR X (compareOp op) r) (hp : POp X.K r P) (ho' : OpR X (compareOp op') r') (hp' : POp X.K r' P') (ha : PX X W a ta) (hb : PX X W b tb) (hc : PX X W c tc)
    (hm : lastMarks [op, op'] [b, c] = false := by with_unfolding_all rfl) : PXT X W (.Compare a [op, op'] [b, c] pos) (xTest (xChain P P' ta tb tc)) := ⟨(pt_chain ho ho' ha.pe hb.pe hc.pe hm).imp fun _ _ _ h => lift_test (fun _ _ _ z => lift_chain hp hp' z) h⟩

def pI0 (f : Int → Int → D) : SV → SV → Mem → VP → Prop := fun sa sb μ Q => match sa, sb with
  | .d (.int i), .d (.int j) => Q (.d (f i j)) μ
  | _, _ => False
def pII (f : Int → Int → D) (C : Int → Int → Prop) : SV → SV → Mem → VP → Prop := fun sa sb μ Q => match sa, sb with
  | .d (.int i), .d (.int j) => C i j ∧ Q (.d (f i j)) μ
  | _, _ => False
theorem pop_I {K : PySem.W.Frag} {f : Int → Int → D} {g : Int → Int → V} {C : Int → Int → Prop} (hf : ∀ G i j, Rep K G (f i j) (g i j)) : POp K (rI C g) (pII f C) := by
  intro sa sb μ A G H va vb Qp Q h c ra rb k
  match sa, sb, h, ra, rb with
  | .d (.int i), .d (.int j), ⟨hc, h⟩, ra, rb =>
    cases ra; cases rb
    exact ⟨i, j, rfl, rfl, hc, k _ _ _ _ _ _ h c .refl (hf _ _ _)⟩
theorem pop_I0 {K : PySem.W.Frag} {f : Int → Int → D} {g : Int → Int → V} (hf : ∀ G i j, Rep K G (f i j) (g i j)) : POp K (rI0 g) (pI0 f) := by
  intro sa sb μ A G H va vb Qp Q h c ra rb k
  match sa, sb, h, ra, rb with
  | .d (.int i), .d (.int j), h, ra, rb =>
    cases ra; cases rb
    exact ⟨i, j, rfl, rfl, k _ _ _ _ _ _ h c .refl (hf _ _ _)⟩
abbrev pDiv := pII (fun i j => .int (i / j)) CDiv
abbrev pPow := pII (fun i j => .int (i ^ j.toNat)) CPow
abbrev pLe := pI0 (fun i j => .bl (decide (i ≤ j)))
theorem px_divI (ha : PX X W a ta) (hb : PX X W b tb) : PX X W (.BinOp a .FloorDiv b pos) (xOp pDiv ta tb) := px_op op_fdiv (pop_I fun _ _ _ => .int _) ha hb
theorem px_powI (ha : PX X W a ta) (hb : PX X W b tb) : PX X W (.BinOp a .Pow b pos) (xOp pPow ta tb) := px_op op_pow (pop_I fun _ _ _ => .int _) ha hb
theorem px_leleI (ha : PX X W a ta) (hb : PX X W b tb) (hc : PX X W c tc) (hm : lastMarks [.LtE, .LtE] [b, c] = false := by with_unfolding_all rfl) : PX X W (.Compare a [.LtE, .LtE] [b, c] pos) (xChain pLe pLe ta tb tc) := px_chain op_le (pop_I0 fun _ _ _ => .bl _) op_le (pop_I0 fun _ _ _ => .bl _) ha hb hc hm
theorem pxt_leleI (ha : PX X W a ta) (hb : PX X W b tb) (hc : PX X W c tc) (hm : lastMarks [.LtE, .LtE] [b, c] = false := by with_unfolding_all rfl) : PXT X W (.Compare a [.LtE, .LtE] [b, c] pos) (xTest (xChain pLe pLe ta tb tc)) := pxt_chain op_le (pop_I0 fun _ _ _ => .bl _) op_le (pop_I0 fun _ _ _ => .bl _) ha hb hc hm

mutual
def toPy : D → PyData
  | .non => .none
  | .bl b => .bool b
  | .int i => .int i
  | .str x => .str x
  | .tup l => .tuple (toPys l)
  | .ntp l => .tuple (toPys l)
  | .lst l => .list (toPys l)
  | _ => .none
def toPys : List D → List PyData
  | [] => []
  | d :: ds => toPy d :: toPys ds
end
mutual
/-- data that == may look at: no dict, no object; nested less than n deep -/
def flat (n : Nat) : D → Bool
  | .non => true
  | .bl _ => true
  | .int _ => true
  | .str x => PyData.strOk x
  | .tup l => match n with | 0 => false | n + 1 => flats n l
  | .ntp l => match n with | 0 => false | n + 1 => flats n l
  | .lst l => match n with | 0 => false | n + 1 => flats n l
  | _ => false
def flats (n : Nat) : List D → Bool
  | [] => true
  | d :: ds => flat n d && flats n ds
end

theorem flat_lay (n : Nat) : ∀ d : D, flat n d = true → (toPy d).canLay0 = true ∧ (toPy d).depth ≤ n := by
  intro d
  refine D.rec (motive_1 := fun d => ∀ n, flat n d = true → (toPy d).canLay0 = true ∧ (toPy d).depth ≤ n) (motive_2 := fun ds => ∀ n, flats n ds = true → PyData.canLayAll0 (toPys ds) = true ∧ PyData.depthAll (toPys ds) ≤ n) ?_ ?_ ?_ ?_ ?_ ?_ ?_ ?_ ?_ ?_ ?_ ?_ ?_ ?_ d n
  · intro n _; simp [toPy, PyData.canLay0, PyData.depth]
  · intro b n _; simp [toPy, PyData.canLay0, PyData.depth]
  · intro i n _; simp [toPy, PyData.canLay0, PyData.depth]
  · intro x n h; simp only [flat] at h; simp [toPy, PyData.canLay0, PyData.depth, h]
  · intro a n h; simp [flat] at h
  · intro a n h; simp [flat] at h
  · intro a n h; simp [flat] at h
  · intro l ih n h
    cases n with
    | zero => simp [flat] at h
    | succ n =>
      simp only [flat] at h
      obtain ⟨h1, h2⟩ := ih n h
      simp only [toPy, PyData.canLay0, PyData.depth]
      exact ⟨h1, by omega⟩
  · intro l ih n h
    cases n with
    | zero => simp [flat] at h
    | succ n =>
      simp only [flat] at h
      obtain ⟨h1, h2⟩ := ih n h
      simp only [toPy, PyData.canLay0, PyData.depth]
      exact ⟨h1, by omega⟩
  · intro l ih n h
    cases n with
    | zero => simp [flat] at h
    | succ n =>
      simp only [flat] at h
      obtain ⟨h1, h2⟩ := ih n h
      simp only [toPy, PyData.canLay0, PyData.depth]
      exact ⟨h1, by omega⟩
  · intro t k v _ _ n h; simp [flat] at h
  · intro C k v _ n h; simp [flat] at h
  · intro n _; simp [toPys, PyData.canLayAll0, PyData.depthAll]
  · intro d ds i1 i2 n h
    simp only [flats, Bool.and_eq_true] at h
    obtain ⟨h1, h2⟩ := i1 n h.1
    obtain ⟨h3, h4⟩ := i2 n h.2
    simp only [toPys, PyData.canLayAll0, PyData.depthAll, Bool.and_eq_true]
    exact ⟨⟨h1, h3⟩, by omega⟩
/-- data for == -/
def okEq (d : D) : Bool := flat 60 d
theorem okEq_shaped {d : D} (h : okEq d = true) : SeqAt.shaped (toPy d) = true := by
  obtain ⟨h1, h2⟩ := flat_lay 60 d h
  show ((toPy d).canLay0 && decide ((toPy d).depth ≤ 64)) = true
  rw [h1, Bool.true_and]
  exact decide_eq_true (by omega)
mutual
theorem rep_dp {K : PySem.W.Frag} {G H : Hp} (le : Le G H) (n : Nat) : ∀ (d : D) (v : V), flat n d = true → Rep K G d v → Dp K H v (toPy d)
  | .non, _, _, h => by cases h; simp only [toPy]; exact .non
  | .bl b, _, _, h => by cases h; simp only [toPy]; exact .bl b
  | .int b, _, _, h => by cases h; simp only [toPy]; exact .int b
  | .str b, _, _, h => by cases h; simp only [toPy]; exact .str b
  | .fn _, _, f, _ => by simp [flat] at f
  | .ty _, _, f, _ => by simp [flat] at f
  | .dic _ _ _, _, f, _ => by simp [flat] at f
  | .scr _, _, f, _ => by simp [flat] at f
  | .obj _ _ _, _, f, _ => by simp [flat] at f
  | .tup l, _, f, h => by
    cases n with
    | zero => simp [flat] at f
    | succ n =>
      simp only [flat] at f
      cases h with
      | tup h hs => simp only [toPy]; exact .tup (SqT.of (le _ _ h)) (reps_dp le n l _ f hs)
  | .ntp l, _, f, h => by
    cases n with
    | zero => simp [flat] at f
    | succ n =>
      simp only [flat] at f
      cases h with
      | ntp h _ hs => simp only [toPy]; exact .tup (.inl (.inr ⟨_, le _ _ h⟩)) (reps_dp le n l _ f hs)
  | .lst l, _, f, h => by
    cases n with
    | zero => simp [flat] at f
    | succ n =>
      simp only [flat] at f
      cases h with
      | lst h hs => simp only [toPy]; exact .lst (SqL.of (le _ _ h)) (reps_dp le n l _ f hs)
theorem reps_dp {K : PySem.W.Frag} {G H : Hp} (le : Le G H) (n : Nat) : ∀ (ds : List D) (vs : List V), flats n ds = true → Reps K G ds vs → DpAll K H vs (toPys ds)
  | [], _, _, h => by cases h; simp only [toPys]; exact .nil
  | d :: ds, _, f, h => by
    simp only [flats, Bool.and_eq_true] at f
    cases h with
    | cons h hs => simp only [toPys]; exact .cons (rep_dp le n d _ f.1 h) (reps_dp le n ds _ f.2 hs)
end
def deq (x y : D) : Bool := PyData.eqv (toPy x) (toPy y)
def pEq : SV → SV → Mem → VP → Prop := fun sa sb μ Q => match sa, sb with
  | .d x, .d y => (okEq x = true ∧ okEq y = true) ∧ Q (.d (.bl (deq x y))) μ
  | _, _ => False
def pNe : SV → SV → Mem → VP → Prop := fun sa sb μ Q => match sa, sb with
  | .d x, .d y => (okEq x = true ∧ okEq y = true) ∧ Q (.d (.bl (!deq x y))) μ
  | _, _ => False
theorem pop_eq {K : PySem.W.Frag} : POp K (rEqD K) pEq := by
  intro sa sb μ A G H va vb Qp Q h c ra rb k
  match sa, sb, h, ra, rb with
  | .d x, .d y, ⟨⟨h1, h2⟩, h⟩, ra, rb => exact ⟨toPy x, toPy y, rep_dp c.le 60 x _ h1 ra, rep_dp c.le 60 y _ h2 rb, okEq_shaped h1, okEq_shaped h2, k _ _ _ _ _ _ h c .refl (.bl _)⟩
theorem pop_ne {K : PySem.W.Frag} : POp K (rNeD K) pNe := by
  intro sa sb μ A G H va vb Qp Q h c ra rb k
  match sa, sb, h, ra, rb with
  | .d x, .d y, ⟨⟨h1, h2⟩, h⟩, ra, rb => exact ⟨toPy x, toPy y, rep_dp c.le 60 x _ h1 ra, rep_dp c.le 60 y _ h2 rb, okEq_shaped h1, okEq_shaped h2, k _ _ _ _ _ _ h c .refl (.bl _)⟩
variable {tA tB : TXT} {rest : List Expr}
def xAnd (t u : TXT) : TXT := fun x ρ μ Q => t x ρ μ fun b μ1 => Br b (u x ρ μ1 Q) (Q false μ1)
def xOr (t u : TXT) : TXT := fun x ρ μ Q => t x ρ μ fun b μ1 => Br b (Q true μ1) (u x ρ μ1 Q)
def xNot (t : TXT) : TXT := fun x ρ μ Q => t x ρ μ fun b μ1 => Q (!b) μ1
/-- a test whatever its whole is -/
structure PXW (X : Cx) (W : WX) (e : Expr) (t : TXT) : Prop where
  pw : PW X e (liftT X.K W t)
theorem _root_.L2.PW.imp {X : Cx} {e : Expr} {t t' : TT} (h : PW X e t) (i : ∀ σ H Q, t' σ H Q → t σ H Q) : PW X e t' := ⟨fun wh pins s σ H Q I q => h.run wh pins s σ H Q I (i _ _ _ q)⟩
theorem PXW.pt {t : TXT} (h : PXW X W e t) : PXT X W e t := ⟨h.pw.pt⟩
theorem pxw_and1 (ha : PXT X W a tA) : PXW X W (.BoolOp .And [a] pos) tA := ⟨pw_and1 ha.pt⟩
theorem pxw_or1 (ha : PXT X W a tA) : PXW X W (.BoolOp .Or [a] pos) tA := ⟨pw_or1 ha.pt⟩
theorem pxw_and (ha : PXT X W a tA) (hb : PXW X W (.BoolOp .And (b :: rest) pos) tB) : PXW X W (.BoolOp .And (a :: b :: rest) pos) (xAnd tA tB) := by
  refine ⟨(pw_and ha.pt hb.pw).imp fun σ H Q h => ?_⟩
  obtain ⟨A, ρ, μ, G, Qp, xp, S, ht, hx, k⟩ := h
  refine ⟨A, ρ, μ, G, _, xp, S, ht, hx, fun r μ' A' G' H' q c s => ?_⟩
  cases r with
  | true => exact ite_tt ⟨A', ρ, μ', G', Qp, xp, S.after s c, q, hx.after s, fun b μ2 A2 G2 H2 q2 c2 s2 => k _ _ _ _ _ q2 c2 (s.trans s2)⟩
  | false => exact ite_ff (k _ _ _ _ _ q c s)
theorem pxw_or (ha : PXT X W a tA) (hb : PXW X W (.BoolOp .Or (b :: rest) pos) tB) : PXW X W (.BoolOp .Or (a :: b :: rest) pos) (xOr tA tB) := by
  refine ⟨(pw_or ha.pt hb.pw).imp fun σ H Q h => ?_⟩
  obtain ⟨A, ρ, μ, G, Qp, xp, S, ht, hx, k⟩ := h
  refine ⟨A, ρ, μ, G, _, xp, S, ht, hx, fun r μ' A' G' H' q c s => ?_⟩
  cases r with
  | true => exact ite_tt (k _ _ _ _ _ q c s)
  | false => exact ite_ff ⟨A', ρ, μ', G', Qp, xp, S.after s c, q, hx.after s, fun b μ2 A2 G2 H2 q2 c2 s2 => k _ _ _ _ _ q2 c2 (s.trans s2)⟩
theorem pxt_not (ha : PXT X W a tA) : PXT X W (.UnaryOp .Not a pos) (xNot tA) := by
  refine ⟨(pt_not ha.pt).imp fun σ H Q h => ?_⟩
  obtain ⟨A, ρ, μ, G, Qp, xp, S, ht, hx, k⟩ := h
  exact ⟨A, ρ, μ, G, _, xp, S, ht, hx, fun r μ' A' G' H' q c s => k _ _ _ _ _ q c s⟩
/-- .. as values: all but the last are bools -/
def xAndV (ta tb : TX) : TX := fun x ρ μ Q => ta x ρ μ fun s μ1 => match s with
  | .d (.bl b) => Br b (tb x ρ μ1 Q) (Q (.d (.bl false)) μ1)
  | _ => False
def xNotV (ta : TX) : TX := fun x ρ μ Q => ta x ρ μ fun s μ1 => match s with
  | .d (.bl b) => Q (.d (.bl (!b))) μ1
  | _ => False
theorem px_one {op} {t : TX} (h : PX X W a t) : PX X W (.BoolOp op [a] pos) t := ⟨pe_one h.pe⟩
theorem px_and (ha : PX X W a ta) (hb : PX X W (.BoolOp .And (b :: rest) pos) tb) : PX X W (.BoolOp .And (a :: b :: rest) pos) (xAndV ta tb) := by
  refine ⟨(pe_and ha.pe hb.pe).imp fun σ H Q h => ?_⟩
  obtain ⟨A, ρ, μ, G, Qp, xp, S, ht, hx, k⟩ := h
  refine ⟨A, ρ, μ, G, _, xp, S, ht, hx, fun r μ' A' G' H' v q c s rr => ?_⟩
  match r, q, rr with
  | .d (.bl true), q, rr => cases rr; exact ⟨true, rfl, ite_tt ⟨A', ρ, μ', G', Qp, xp, S.after s c, q, hx.after s, fun r2 μ2 A2 G2 H2 v2 q2 c2 s2 rr2 => k _ _ _ _ _ _ q2 c2 (s.trans s2) rr2⟩⟩
  | .d (.bl false), q, rr => cases rr; exact ⟨false, rfl, ite_ff (k _ _ _ _ _ _ q c s (.bl _))⟩
theorem px_not (ha : PX X W a ta) : PX X W (.UnaryOp .Not a pos) (xNotV ta) := by
  refine ⟨(pe_not ha.pe).imp fun σ H Q h => ?_⟩
  obtain ⟨A, ρ, μ, G, Qp, xp, S, ht, hx, k⟩ := h
  refine ⟨A, ρ, μ, G, _, xp, S, ht, hx, fun r μ' A' G' H' v q c s rr => ?_⟩
  match r, q, rr with
  | .d (.bl b), q, rr => cases rr; exact ⟨b, rfl, k _ _ _ _ _ _ q c s (.bl _)⟩
/-- a if t else b -/
def xIf (t : TXT) (ta tb : TX) : TX := fun x ρ μ Q => t x ρ μ fun k μ1 => Br k (ta x ρ μ1 Q) (tb x ρ μ1 Q)
theorem px_if (hc : PXT X W c tA) (ha : PX X W a ta) (hb : PX X W b tb) : PX X W (.IfExp c a b pos) (xIf tA ta tb) := by
  refine ⟨(pe_ifExp hc.pt ha.pe hb.pe).imp fun σ H Q h => ?_⟩
  obtain ⟨A, ρ, μ, G, Qp, xp, S, ht, hx, k⟩ := h
  refine ⟨A, ρ, μ, G, _, xp, S, ht, hx, fun r μ' A' G' H' q c s => ?_⟩
  cases r with
  | true => exact ite_tt ⟨A', ρ, μ', G', Qp, xp, S.after s c, q, hx.after s, fun r2 μ2 A2 G2 H2 v2 q2 c2 s2 rr2 => k _ _ _ _ _ _ q2 c2 (s.trans s2) rr2⟩
  | false => exact ite_ff ⟨A', ρ, μ', G', Qp, xp, S.after s c, q, hx.after s, fun r2 μ2 A2 G2 H2 v2 q2 c2 s2 rr2 => k _ _ _ _ _ _ q2 c2 (s.trans s2) rr2⟩

def xNil : TXA := fun _ _ μ Q => Q [] μ
def xCons (ta : TX) (tr : TXA) : TXA := fun x ρ μ Q => ta x ρ μ fun s μ1 => tr x ρ μ1 fun ss μ2 => Q (s :: ss) μ2
variable {tL : TXA}
theorem pxa_nil : PXA X W [] xNil := by
  refine ⟨pa_nil.imp fun σ H Q h => ?_⟩
  obtain ⟨A, ρ, μ, G, Qp, xp, S, ht, hx, k⟩ := h
  exact k _ _ _ _ _ _ ht S.toCells .refl .nil
theorem pxa_cons (ha : PX X W e ta) (hr : PXA X W es tL) (hs : starEach (e :: es) X.env = (false, eval e X.env) :: starEach es X.env := by rfl) : PXA X W (e :: es) (xCons ta tL) := by
  refine ⟨(pa_cons ha.pe hr.pa hs).imp fun σ H Q h => ?_⟩
  obtain ⟨A, ρ, μ, G, Qp, xp, S, ht, hx, k⟩ := h
  refine ⟨A, ρ, μ, G, _, xp, S, ht, hx, fun r μ' A' G' H' v q c s rr => ?_⟩
  exact ⟨A', ρ, μ', G', _, xp, S.after s c, q, hx.after s, fun rs μ2 A2 G2 H2 vs q2 c2 s2 rr2 => k _ _ _ _ _ _ q2 c2 (s.trans s2) (.cons (rr.mono s2.pre s2.le) rr2)⟩
/-- all of them data -/
def allD : List SV → Option (List D)
  | [] => some []
  | .d x :: r => (allD r).map (x :: ·)
  | _ :: _ => none
theorem allD_reps {K : PySem.W.Frag} {A : List Addr} {G : Hp} : ∀ {ss : List SV} {ds : List D} {vs : List V}, allD ss = some ds → RepsS K A G ss vs → Reps K G ds vs
  | [], _, _, e, .nil => by simp [allD] at e; subst e; exact .nil
  | .d x :: r, ds, _, e, .cons h t => by
    simp only [allD, Option.map_eq_some_iff] at e
    obtain ⟨es, e1, rfl⟩ := e
    exact .cons h (allD_reps e1 t)
  | .c _ :: _, _, _, e, _ => by simp [allD] at e
  | .un :: _, _, _, e, _ => by simp [allD] at e
def onD (o : Option (List D)) (q : List D → Prop) : Prop := match o with
  | some ds => q ds
  | none => False
def xTup (t : TXA) : TX := fun x ρ μ Q => t x ρ μ fun ss μ1 => onD (allD ss) fun ds => ds.length ≤ sizeLine ∧ Q (.d (.tup ds)) μ1
def xLst (t : TXA) : TX := fun x ρ μ Q => t x ρ μ fun ss μ1 => onD (allD ss) fun ds => ds.length ≤ sizeLine ∧ Q (.d (.lst ds)) μ1
/-- a list of one's own -/
def xLstC (t : TXA) : TX := fun x ρ μ Q => t x ρ μ fun ss μ1 => onD (allD ss) fun ds => ds.length ≤ sizeLine ∧ Q (.c μ1.length) (μ1 ++ [.lst ds])
theorem onD_of {o : Option (List D)} {q : List D → Prop} (h : onD o q) : ∃ ds, o = some ds ∧ q ds := by
  cases o with
  | none => exact h.elim
  | some ds => exact ⟨ds, rfl, h⟩
theorem px_tup {x1} (h : PXA X W es tL) : PX X W (.Tuple es x1 pos) (xTup tL) := by
  refine ⟨(pe_tup h.pa).imp fun σ H Q h => ?_⟩
  obtain ⟨A, ρ, μ, G, Qp, xp, S, ht, hx, k⟩ := h
  refine ⟨A, ρ, μ, G, _, xp, S, ht, hx, fun rs μ' A' G' H' vs q c s rr => ?_⟩
  obtain ⟨ds, e, hz, q⟩ := onD_of q
  have r := allD_reps e rr
  refine ⟨by rw [← r.length]; exact hz, fun p hp => ?_⟩
  obtain ⟨c2, s2⟩ := c.laid (o := .tup vs) hp
  exact k _ _ _ _ _ _ q c2 (s.trans s2) (Rep.tup upd_same (r.mono s2.le))
theorem px_lst (h : PXA X W es tL) : PX X W (.List es pos) (xLst tL) := by
  refine ⟨(pe_lst h.pa).imp fun σ H Q h => ?_⟩
  obtain ⟨A, ρ, μ, G, Qp, xp, S, ht, hx, k⟩ := h
  refine ⟨A, ρ, μ, G, _, xp, S, ht, hx, fun rs μ' A' G' H' vs q c s rr => ?_⟩
  obtain ⟨ds, e, hz, q⟩ := onD_of q
  have r := allD_reps e rr
  refine ⟨by rw [← r.length]; exact hz, fun p hp => ?_⟩
  obtain ⟨c2, s2⟩ := c.laid (o := .lst vs) hp
  exact k _ _ _ _ _ _ q c2 (s.trans s2) (Rep.lst upd_same (r.mono s2.le))
theorem px_lstC (h : PXA X W es tL) : PX X W (.List es pos) (xLstC tL) := by
  refine ⟨(pe_lst h.pa).imp fun σ H Q h => ?_⟩
  obtain ⟨A, ρ, μ, G, Qp, xp, S, ht, hx, k⟩ := h
  refine ⟨A, ρ, μ, G, _, xp, S, ht, hx, fun rs μ' A' G' H' vs q c s rr => ?_⟩
  obtain ⟨ds, e, hz, q⟩ := onD_of q
  have r := allD_reps e rr
  refine ⟨by rw [← r.length]; exact hz, fun p hp => ?_⟩
  obtain ⟨c2, s2⟩ := c.cell (o := .lst vs) (cl := .lst ds) hp ⟨vs, upd_same, r⟩
  exact k _ _ _ _ _ _ q c2 (s.trans s2) ⟨p, by rw [← c.len]; simp, rfl⟩
end
end PL
namespace PL
open PySem PySem.Spec PyProof.Rows L2
/-- there is such a thing, and q holds of it -/
def on {α : Type} (o : Option α) (q : α → Prop) : Prop := match o with
  | some a => q a
  | none => False
theorem on_of {α : Type} {o : Option α} {q : α → Prop} (h : on o q) : ∃ a, o = some a ∧ q a := by
  cases o with
  | none => exact h.elim
  | some a => exact ⟨a, rfl, h⟩
def lstOf (s : SV) (μ : Mem) : Option (List D) := match s with
  | .d (.lst l) => some l
  | .c k => match μ[k]? with
    | some (.lst l) => some l
    | _ => none
  | _ => none
def tupOf (s : SV) : Option (List D) := match s with
  | .d (.tup l) => some l
  | .d (.ntp l) => some l
  | _ => none
section
variable {K : PySem.W.Frag} {A : List Addr} {μ : Mem} {G H : Hp} {s : SV} {v : V} {l : List D}
theorem lstOf_rep (e : lstOf s μ = some l) (c : Cells K A μ G H) (r : RepS K A G s v) : ∃ a vs, v = .ref a ∧ H a = some (.lst vs) ∧ Reps K G l vs := by
  unfold lstOf at e
  split at e
  · cases e
    obtain ⟨a, vs, rfl, h, hs⟩ := Reps.sql r
    exact ⟨a, vs, rfl, c.le _ _ h, hs⟩
  · rename_i k
    split at e
    · rename_i l' hk
      cases e
      obtain ⟨a, ha, rfl⟩ := r
      obtain ⟨vs, h, hs⟩ := c.ok _ _ _ ha hk
      exact ⟨a, vs, rfl, h, hs⟩
    · cases e
  · cases e
theorem tupOf_rep (e : tupOf s = some l) (c : Cells K A μ G H) (r : RepS K A G s v) : ∃ a vs, v = .ref a ∧ SqT K H a vs ∧ Reps K G l vs := by
  unfold tupOf at e
  split at e
  · cases e
    obtain ⟨a, vs, rfl, h, hs⟩ := Reps.sq r
    exact ⟨a, vs, rfl, c.le.sqT h, hs⟩
  · cases e
    obtain ⟨a, vs, rfl, h, hs⟩ := Reps.sqn r
    exact ⟨a, vs, rfl, c.le.sqT h, hs⟩
  · cases e
end

def PCall (K : PySem.W.Frag) (r : List V → Hp → VK → Prop) (P : List SV → Mem → VP → Prop) : Prop := ∀ (ss : List SV) (μ : Mem) (A : List Addr) (G H : Hp) (vs : List V) (Qp : VP) (Q : VK), P ss μ Qp → Cells K A μ G H → RepsS K A G ss vs →
  (∀ r μ' A' G' H' v, Qp r μ' → Cells K A' μ' G' H' → Step A G H A' G' H' → RepS K A' G' r v → Q v H') → r vs H Q
def xCall (P : List SV → Mem → VP → Prop) (t : TXA) : TX := fun x ρ μ Q => t x ρ μ fun ss μ1 => P ss μ1 Q
section
variable {X : Cx} {W : WX} {a b c e : Expr} {es : List Expr} {ta tb tc : TX} {tL : TXA} {x : Str} {p pos apos cpos : Pos}
theorem lift_call {r : List V → Hp → VK → Prop} {P : List SV → Mem → VP → Prop} (hp : PCall X.K r P) {σ : L2.St} {H : Hp} {Q : VK} (h : lift X.K W (xCall P tL) σ H Q) : tCB r (liftA X.K W tL) σ H Q := by
  obtain ⟨A, ρ, μ, G, Qp, xp, S, ht, hx, k⟩ := h
  refine ⟨A, ρ, μ, G, _, xp, S, ht, hx, fun ss μ1 A1 G1 H1 vs q c1 s1 r1 => ?_⟩
  exact hp ss μ1 A1 G1 H1 vs Qp Q q c1 r1 fun r μ' A' G' H' v q3 c3 s3 r3 => k r μ' A' G' H' v q3 c3 (s1.trans s3) r3
theorem px_callB {id : String} {r : List V → Hp → VK → Prop} {P : List SV → Mem → VP → Prop} (hc : CallR X (.builtin id) r) (hp : PCall X.K r P) (hg : Gl X x) (hm : X.mg x = none) (hv : bootBuiltins x = some (.builtin id)) (ha : PXA X W (e :: es) tL)
    (hn : x ≠ "__name__" := by decide) (hdb : (x == ("__debug__" : Str)) = false := by decide)
    (he : starEach (e :: es) X.env = (false, eval e X.env) :: starEach es X.env := by rfl) (hpl : (backTo pos (starEach es X.env)).any (·.1) = false := by rfl) : PX X W (.Call (.Name x p) (e :: es) [] pos) (xCall P tL) :=
  ⟨(pe_callB hc hg hm hv ha.pa hn hdb he hpl).imp fun _ _ _ h => lift_call hp h⟩
theorem px_callTy {T : String} {r : List V → Hp → VK → Prop} {P : List SV → Mem → VP → Prop} (hc : CallR X (.type T) r) (hp : PCall X.K r P) (hg : Gl X x) (hm : X.mg x = none) (hv : bootBuiltins x = some (.type T)) (ha : PXA X W (e :: es) tL)
    (hn : x ≠ "__name__" := by decide) (hdb : (x == ("__debug__" : Str)) = false := by decide)
    (he : starEach (e :: es) X.env = (false, eval e X.env) :: starEach es X.env := by rfl) (hpl : (backTo pos (starEach es X.env)).any (·.1) = false := by rfl) : PX X W (.Call (.Name x p) (e :: es) [] pos) (xCall P tL) :=
  ⟨(pe_callTy hc hg hm hv ha.pa hn hdb he hpl).imp fun _ _ _ h => lift_call hp h⟩
theorem CallR.or {f : Value} {r r' : List V → Hp → VK → Prop} (h : CallR X f r) (h' : CallR X f r') : CallR X f (fun xs H Q => r xs H Q ∨ r' xs H Q) := by
  intro pins s σ H xs us Q I rx q
  rcases q with q | q
  · exact h pins s σ H xs us Q I rx q
  · exact h' pins s σ H xs us Q I rx q

def lenOf (s : SV) (μ : Mem) : Option Nat := match s with
  | .d (.tup l) => some l.length
  | .d (.ntp l) => some l.length
  | .d (.lst l) => some l.length
  | .d (.scr l) => some l.length
  | .d (.str x) => if x.length ≤ sizeLine then some x.length else none
  | .c k => match μ[k]? with
    | some (.lst l) => some l.length
    | _ => none
  | _ => none
def pLen : List SV → Mem → VP → Prop := fun ss μ Q => match ss with
  | [s] => on (lenOf s μ) fun n => Q (.d (.int (n : Nat))) μ
  | _ => False
theorem pcall_len : PCall X.K (fun xs H Q => ∃ x n, xs = [x] ∧ LenV X.K x H n ∧ Q (.int n) H) pLen := by
  intro ss μ A G H vs Qp Q h c rs k
  match ss, h, rs with
  | [s], h, .cons r .nil =>
    obtain ⟨n, e, q⟩ := on_of h
    refine ⟨_, n, rfl, ?_, k _ _ _ _ _ _ q c .refl (.int _)⟩
    unfold lenOf at e
    split at e
    · cases e
      obtain ⟨a, us, rfl, h1, h2⟩ := Reps.sq r
      exact .inr ⟨us, c.le.sqT h1, h2.length⟩
    · cases e
      obtain ⟨a, us, rfl, h1, h2⟩ := Reps.sqn r
      exact .inr ⟨us, c.le.sqT h1, h2.length⟩
    · cases e
      obtain ⟨a, us, rfl, h1, h2⟩ := Reps.sql r
      exact .inl ⟨us, SqL.of (c.le _ _ h1), h2.length⟩
    · cases e
      cases r with
      | scr h1 => exact .inl ⟨_, c.le.sqL h1, by rw [List.length_map]⟩
    · split at e
      · rename_i hz
        cases e
        cases r
        exact ⟨hz, rfl⟩
      · cases e
    · rename_i k
      split at e
      · rename_i l hk
        cases e
        obtain ⟨a, ha, rfl⟩ := r
        obtain ⟨us, h1, h2⟩ := c.ok _ _ _ ha hk
        exact .inl ⟨us, SqL.of h1, h2.length⟩
      · cases e
    · cases e
theorem px_len (hg : Gl X "len") (hm : X.mg "len" = none) (ha : PXA X W [e] tL) (he : starEach [e] X.env = (false, eval e X.env) :: starEach [] X.env := by rfl) : PX X W (.Call (.Name "len" p) [e] [] pos) (xCall pLen tL) :=
  px_callB call_len pcall_len hg hm (by decide +kernel) ha (by decide) (by decide) he rfl

def tyOf (s : SV) (μ : Mem) : Option String := match s with
  | .d .non => some "NoneType"
  | .d (.bl _) => some "bool"
  | .d (.int _) => some "int"
  | .d (.str _) => some "str"
  | .d (.tup _) => some "tuple"
  | .d (.ntp _) => some "tuple"
  | .d (.lst _) => some "list"
  | .d (.scr _) => some "list"
  | .d (.dic _ _ _) => some "dict"
  | .c k => match μ[k]? with
    | some (.lst _) => some "list"
    | some (.dK _ _) => some "dict"
    | some (.dT _ _) => some "dict"
    | _ => none
  | _ => none
/-- as TyX, and a locked dict with tuple keys -/
def TyY (K : PySem.W.Frag) (H : Hp) (v : V) (t : Value) : Prop := TyX K H v t ∨ ∃ (a : Addr) (o : Obj) (kvs : List (List Key × V)), H a = some (.frz o (.dT kvs)) ∧ v = .ref a ∧ t = .type "dict"
theorem kit_ofY {X : Cx} {pins : List (Addr × Obj)} {σ : L2.St} {H : Hp} {s : Shared} {x : V} {u t : Value} (I : Inv X pins σ H s) (rx : RelV x u) (ty : TyY X.K H x t) : ∃ P : Heap → Prop, PySem.W.KitX X.K u t P ∧ P s.heap ∧ u ≠ .builtin "__main__.__loader__#opaque" := by
  rcases ty with ty | ⟨a, ob, kvs, ea, rfl, rfl⟩
  · exact kit_of I rx ty
  · cases (show u = Value.ref a from rx)
    obtain ⟨_, _, _, xs, _, o, es, ep, h1, h2, _⟩ := (show ObjOk X.prog X.w H s.heap a (.frz ob (.dT kvs)) from I.hok a _ ea)
    exact ⟨_, PySem.W.kitx_dict, ⟨o, h1, h2.1⟩, fun z => nomatch z⟩
def rIsiY (K : PySem.W.Frag) : List V → Hp → VK → Prop := fun xs H Q => ∃ (x c : V) (t u : Value) (b : Bool), xs = [x, c] ∧ ClsV c u ∧ TyY K H x t ∧ PySem.W.kitOne K t u = some b ∧ Q (.bl b) H
theorem call_isiY {X : Cx} : CallR X (.builtin "isinstance") (rIsiY X.K) := by
  intro pins s σ H xs us Q I r h
  obtain ⟨x, c, t, u, b, rfl, k, ty, e, q⟩ := h
  obtain ⟨u1, u2, rfl, r1, r2⟩ := vals2 r
  have e2 := k.eq r2
  subst e2
  obtain ⟨P, Z, p, hx⟩ := kit_ofY I r1 ty
  exact PySem.W.kia_one Z I.kIn p e hx fun tk => ⟨.bl b, H, I.tok tk, rfl, q⟩
theorem tyOf_rep {K : PySem.W.Frag} {A : List Addr} {μ : Mem} {G H : Hp} {s : SV} {v : V} {T : String} (e : tyOf s μ = some T) (c : Cells K A μ G H) (r : RepS K A G s v) : TyY K H v (.type T) := by
  unfold tyOf at e
  split at e
  · cases e; cases r; exact .inl (.base .non)
  · cases e; cases r; exact .inl (.base (.bl _))
  · cases e; cases r; exact .inl (.base (.int _))
  · cases e; cases r; exact .inl (.base (.str _))
  · cases e
    obtain ⟨a, us, rfl, h1, _⟩ := Reps.sq r
    rcases c.le.sqT h1 with (h | ⟨o, h⟩) | ⟨o, _, _, h, hc, _⟩
    · exact .inl (.base (.tup h))
    · exact .inl (.fTuple h)
    · exact .inl (.kTuple h hc)
  · cases e
    obtain ⟨a, us, rfl, h1, _⟩ := Reps.sqn r
    rcases c.le.sqT h1 with (h | ⟨o, h⟩) | ⟨o, _, _, h, hc, _⟩
    · exact .inl (.base (.tup h))
    · exact .inl (.fTuple h)
    · exact .inl (.kTuple h hc)
  · cases e
    obtain ⟨a, us, rfl, h1, _⟩ := Reps.sql r
    exact .inl (.base (.lst (c.le _ _ h1)))
  · cases e
    cases r with
    | scr h1 =>
      rcases c.le.sqL h1 with (h | ⟨o, h⟩) | ⟨o, _, _, h, hc, _⟩
      · exact .inl (.base (.lst h))
      · exact .inl (.base (.frz h))
      · exact .inl (.kList h hc)
  · cases e
    cases r with
    | dicK h _ _ =>
      rcases c.le.rd h with h | ⟨o, h⟩
      · exact .inl (.base (.dK h))
      · exact .inl (.fDict h)
    | dicT h _ _ =>
      rcases c.le.rd h with h | ⟨o, h⟩
      · exact .inl (.base (.dT h))
      · exact .inr ⟨_, _, _, h, rfl, rfl⟩
  · rename_i k
    obtain ⟨a, ha, rfl⟩ := r
    split at e
    · rename_i hk
      cases e
      obtain ⟨us, h1, _⟩ := c.ok _ _ _ ha hk
      exact .inl (.base (.lst h1))
    · rename_i hk
      cases e
      obtain ⟨us, h1, _⟩ := c.ok _ _ _ ha hk
      exact .inl (.base (.dK h1))
    · rename_i hk
      cases e
      obtain ⟨us, h1, _⟩ := c.ok _ _ _ ha hk
      exact .inl (.base (.dT h1))
    · cases e
  · cases e
/-- is the built-in class T that or above it -/
def isTy (T U : String) : Bool := T == U || (T == "bool" && U == "int")
def tyNames : List String := ["NoneType", "bool", "int", "str", "tuple", "list", "dict"]
theorem isTy_ok : (tyNames.all fun T => tyNames.all fun U => decide (kitB T U = some (isTy T U))) = true := by decide +kernel
def pIsi : List SV → Mem → VP → Prop := fun ss μ Q => match ss with
  | [s, .d (.ty U)] => on (tyOf s μ) fun T => (U ∈ tyNames) ∧ Q (.d (.bl (isTy T U))) μ
  | _ => False
theorem tyOf_mem {s : SV} {μ : Mem} {T : String} (e : tyOf s μ = some T) : T ∈ tyNames := by
  unfold tyOf at e
  split at e <;> first
    | (cases e; decide)
    | (split at e <;> first | (cases e; decide) | cases e)
    | cases e
theorem pcall_isi : PCall X.K (rIsiY X.K) pIsi := by
  intro ss μ A G H vs Qp Q h c rs k
  match ss, h, rs with
  | [s, .d (.ty U)], h, .cons r (.cons r2 .nil) =>
    obtain ⟨T, e, hU, q⟩ := on_of h
    cases r2
    have h1 := List.all_eq_true.mp (List.all_eq_true.mp isTy_ok T (tyOf_mem e)) U hU
    exact ⟨_, _, .type T, .type U, isTy T U, rfl, .ty U, tyOf_rep e c r, kit_ty (of_decide_eq_true h1), k _ _ _ _ _ _ q c .refl (.bl _)⟩
def bools : List D → Option (List Bool)
  | [] => some []
  | .bl b :: r => (bools r).map (b :: ·)
  | _ :: _ => none
theorem bools_reps {K : PySem.W.Frag} {G : Hp} : ∀ {l : List D} {bs : List Bool} {vs : List V}, bools l = some bs → Reps K G l vs → vs = bs.map V.bl
  | [], _, _, e, .nil => by simp [bools] at e; subst e; rfl
  | .bl b :: r, bs, _, e, .cons h t => by
    simp only [bools, Option.map_eq_some_iff] at e
    obtain ⟨es, e1, rfl⟩ := e
    cases h
    rw [bools_reps e1 t]; rfl
  | .non :: _, _, _, e, _ | .int _ :: _, _, _, e, _ | .str _ :: _, _, _, e, _ | .fn _ :: _, _, _, e, _ | .ty _ :: _, _, _, e, _ | .scr _ :: _, _, _, e, _ | .tup _ :: _, _, _, e, _ | .ntp _ :: _, _, _, e, _ | .lst _ :: _, _, _, e, _ | .dic _ _ _ :: _, _, _, e, _ | .obj _ _ _ :: _, _, _, e, _ => by simp [bools] at e
def pAll : List SV → Mem → VP → Prop := fun ss μ Q => match ss with
  | [s] => on ((lstOf s μ).bind bools) fun bs => Q (.d (.bl (bs.all id))) μ
  | _ => False
theorem pcall_all : PCall X.K (rAll X.K) pAll := by
  intro ss μ A G H vs Qp Q h c rs k
  match ss, h, rs with
  | [s], h, .cons r .nil =>
    obtain ⟨bs, e, q⟩ := on_of h
    obtain ⟨l, e1, e2⟩ := Option.bind_eq_some_iff.mp e
    obtain ⟨a, us, rfl, h1, h2⟩ := lstOf_rep e1 c r
    have := bools_reps e2 h2
    subst this
    exact ⟨a, bs, rfl, SqL.of h1, k _ _ _ _ _ _ q c .refl (.bl _)⟩
theorem px_all (hc : X.calm = true) (hg : Gl X "all") (hm : X.mg "all" = none) (ha : PXA X W [e] tL) (he : starEach [e] X.env = (false, eval e X.env) :: starEach [] X.env := by rfl) : PX X W (.Call (.Name "all" p) [e] [] pos) (xCall pAll tL) :=
  px_callB (cr_all hc) pcall_all hg hm (by decide +kernel) ha (by decide) (by decide) he rfl
def pInt : List SV → Mem → VP → Prop := fun ss μ Q => match ss with
  | [.d (.int i)] => Q (.d (.int i)) μ
  | [.d (.bl b)] => Q (.d (.int (if b then 1 else 0))) μ
  | _ => False
theorem pcall_int : PCall X.K (fun xs H Q => (∃ i, xs = [.int i] ∧ Q (.int i) H) ∨ ∃ k, xs = [.bl k] ∧ Q (.int (if k then 1 else 0)) H) pInt := by
  intro ss μ A G H vs Qp Q h c rs k
  match ss, h, rs with
  | [.d (.int i)], h, .cons r .nil => cases r; exact .inl ⟨i, rfl, k _ _ _ _ _ _ h c .refl (.int _)⟩
  | [.d (.bl b)], h, .cons r .nil => cases r; exact .inr ⟨b, rfl, k _ _ _ _ _ _ h c .refl (.int _)⟩
theorem px_intc (hg : Gl X "int") (hm : X.mg "int" = none) (ha : PXA X W [e] tL) (he : starEach [e] X.env = (false, eval e X.env) :: starEach [] X.env := by rfl) : PX X W (.Call (.Name "int" p) [e] [] pos) (xCall pInt tL) :=
  px_callTy call_int1 pcall_int hg hm (by decide +kernel) ha (by decide) (by decide) he rfl
def pAbs : List SV → Mem → VP → Prop := fun ss μ Q => match ss with
  | [.d (.int i)] => Q (.d (.int (if i < 0 then -i else i))) μ
  | _ => False
theorem pcall_abs : PCall X.K (fun xs H Q => ∃ i, xs = [.int i] ∧ Q (.int (if i < 0 then -i else i)) H) pAbs := by
  intro ss μ A G H vs Qp Q h c rs k
  match ss, h, rs with
  | [.d (.int i)], h, .cons r .nil => cases r; exact ⟨i, rfl, k _ _ _ _ _ _ h c .refl (.int _)⟩
theorem px_abs (hg : Gl X "abs") (hm : X.mg "abs" = none) (ha : PXA X W [e] tL) (he : starEach [e] X.env = (false, eval e X.env) :: starEach [] X.env := by rfl) : PX X W (.Call (.Name "abs" p) [e] [] pos) (xCall pAbs tL) :=
  px_callB call_abs pcall_abs hg hm (by decide +kernel) ha (by decide) (by decide) he rfl
def pDivmod : List SV → Mem → VP → Prop := fun ss μ Q => match ss with
  | [.d (.int i), .d (.int j)] => CDiv i j ∧ Q (.d (.tup [.int (i / j), .int (i % j)])) μ
  | _ => False
theorem pcall_divmod : PCall X.K (fun xs H Q => ∃ i j, xs = [.int i, .int j] ∧ CDiv i j ∧ ∀ p, H p = none → Q (.ref p) (upd H p (.tup [.int (i / j), .int (i % j)]))) pDivmod := by
  intro ss μ A G H vs Qp Q h c rs k
  match ss, h, rs with
  | [.d (.int i), .d (.int j)], ⟨hd, h⟩, .cons r (.cons r2 .nil) =>
    cases r; cases r2
    refine ⟨i, j, rfl, hd, fun p hp => ?_⟩
    obtain ⟨c2, s2⟩ := c.laid (o := .tup [.int (i / j), .int (i % j)]) hp
    exact k _ _ _ _ _ _ h c2 s2 (Rep.tup upd_same (.cons (.int _) (.cons (.int _) .nil)))
theorem px_divmod (hg : Gl X "divmod") (hm : X.mg "divmod" = none) (ha : PXA X W [a, b] tL) (he : starEach [a, b] X.env = (false, eval a X.env) :: starEach [b] X.env := by rfl) (hpl : (backTo pos (starEach [b] X.env)).any (·.1) = false := by rfl) : PX X W (.Call (.Name "divmod" p) [a, b] [] pos) (xCall pDivmod tL) :=
  px_callB call_divmod pcall_divmod hg hm (by decide +kernel) ha (by decide) (by decide) he hpl

def ixOf (s : SV) (μ : Mem) (i : Int) : Option D := match s with
  | .d (.tup l) => atI l i
  | .d (.ntp l) => atI l i
  | .d (.lst l) => atI l i
  | .d (.scr l) => (atI l i).map .int
  | .d (.str x) => if x.length ≤ sizeLine then (atI x.cps.toList i).map fun c => .str ⟨#[c]⟩ else none
  | .c k => match μ[k]? with
    | some (.lst l) => atI l i
    | _ => none
  | _ => none
def pIx : SV → SV → Mem → VP → Prop := fun sa sb μ Q => match sb with
  | .d (.int i) => on (ixOf sa μ i) fun d => Q (.d d) μ
  | _ => False
theorem atI_rep {K : PySem.W.Frag} {G : Hp} {l : List D} {vs : List V} {i : Int} {d : D} (r : Reps K G l vs) (e : atI l i = some d) : ∃ v, atI vs i = some v ∧ Rep K G d v := by
  unfold atI at e ⊢
  rw [← r.length]
  obtain ⟨j, e1, e2⟩ := Option.bind_eq_some_iff.mp e
  rw [e1]
  exact r.at e2
theorem pop_ix : POp X.K (rIx X.K) pIx := by
  intro sa sb μ A G H va vb Qp Q h c ra rb k
  match sb, h, rb with
  | .d (.int i), h, rb =>
    cases rb
    obtain ⟨d, e, q⟩ := on_of h
    unfold ixOf at e
    split at e
    · obtain ⟨a, us, rfl, h1, h2⟩ := Reps.sq ra
      obtain ⟨v, e1, r1⟩ := atI_rep h2 e
      exact .inr (.inl ⟨a, us, i, v, rfl, rfl, c.le.sqT h1, e1, k _ _ _ _ _ _ q c .refl r1⟩)
    · obtain ⟨a, us, rfl, h1, h2⟩ := Reps.sqn ra
      obtain ⟨v, e1, r1⟩ := atI_rep h2 e
      exact .inr (.inl ⟨a, us, i, v, rfl, rfl, c.le.sqT h1, e1, k _ _ _ _ _ _ q c .refl r1⟩)
    · obtain ⟨a, us, rfl, h1, h2⟩ := Reps.sql ra
      obtain ⟨v, e1, r1⟩ := atI_rep h2 e
      exact .inl ⟨a, us, i, v, rfl, rfl, SqL.of (c.le _ _ h1), e1, k _ _ _ _ _ _ q c .refl r1⟩
    · obtain ⟨n, e1, rfl⟩ := Option.map_eq_some_iff.mp e
      cases ra with
      | scr h1 =>
        refine .inl ⟨_, _, i, .int n, rfl, rfl, c.le.sqL h1, ?_, k _ _ _ _ _ _ q c .refl (.int _)⟩
        unfold atI at e1 ⊢
        obtain ⟨j, e2, e3⟩ := Option.bind_eq_some_iff.mp e1
        rw [List.length_map, e2]
        simp only [Option.bind_some, List.getElem?_map, e3, Option.map_some]
    · split at e
      · rename_i x hz
        obtain ⟨n, e1, rfl⟩ := Option.map_eq_some_iff.mp e
        cases ra
        exact .inr (.inr ⟨_, i, n, rfl, rfl, hz, e1, k _ _ _ _ _ _ q c .refl (.str _)⟩)
      · cases e
    · rename_i kk
      split at e
      · rename_i l hk
        obtain ⟨a, ha, rfl⟩ := ra
        obtain ⟨us, h1, h2⟩ := c.ok _ _ _ ha hk
        obtain ⟨v, e1, r1⟩ := atI_rep h2 e
        exact .inl ⟨a, us, i, v, rfl, rfl, SqL.of h1, e1, k _ _ _ _ _ _ q c .refl r1⟩
      · cases e
    · cases e
theorem px_ix (ha : PX X W a ta) (hb : PX X W b tb) (hs : PlainIx b := by intro _ _; rfl) : PX X W (.Subscript a b pos) (xOp pIx ta tb) :=
  ⟨(pe_ix ix_seq ha.pe hb.pe hs).imp fun _ _ _ h => lift_op pop_ix h⟩

def cutD (xs : List D) (lo hi : Option Int) : List D := (xs.drop (HT.sIx xs.length 0 lo)).take (HT.sIx xs.length xs.length hi - HT.sIx xs.length 0 lo)
theorem cutD_rep {K : PySem.W.Frag} {G : Hp} {l : List D} {vs : List V} (r : Reps K G l vs) (lo hi : Option Int) : Reps K G (cutD l lo hi) (cutV vs lo hi) := by
  unfold cutD cutV
  rw [← r.length]
  exact (r.drop _).take _
abbrev TXO := XP → Env' → Mem → (Option Int → Mem → Prop) → Prop
def liftO (K : PySem.W.Frag) (W : WX) (t : TXO) : TO := fun σ H Q => ∃ A ρ μ G Qp x, Sim K A σ ρ μ G H ∧ t x ρ μ Qp ∧ ExTo K W A G H x ∧
  ∀ o μ' A' G' H', Qp o μ' → Cells K A' μ' G' H' → Step A G H A' G' H' → Q o H'
structure PXO (X : Cx) (W : WX) (e : Option Expr) (t : TXO) : Prop where
  po : PO X e (liftO X.K W t)
theorem _root_.L2.PO.imp {X : Cx} {e : Option Expr} {t t' : TO} (h : PO X e t) (i : ∀ σ H Q, t' σ H Q → t σ H Q) : PO X e t' := ⟨fun pins s σ H Q I q => h.run pins s σ H Q I (i _ _ _ q)⟩
def xNoPart : TXO := fun _ _ μ Q => Q none μ
def xPart (t : TX) : TXO := fun x ρ μ Q => t x ρ μ fun s μ1 => match s with
  | .d (.int i) => Q (some i) μ1
  | _ => False
theorem pxo_none : PXO X W none xNoPart := by
  refine ⟨po_none.imp fun σ H Q h => ?_⟩
  obtain ⟨A, ρ, μ, G, Qp, xp, S, ht, hx, k⟩ := h
  exact k _ _ _ _ _ ht S.toCells .refl
theorem pxo_some (h : PX X W e ta) : PXO X W (some e) (xPart ta) := by
  refine ⟨(po_some h.pe).imp fun σ H Q h => ?_⟩
  obtain ⟨A, ρ, μ, G, Qp, xp, S, ht, hx, k⟩ := h
  refine ⟨A, ρ, μ, G, _, xp, S, ht, hx, fun r μ' A' G' H' v q c s rr => ?_⟩
  match r, q, rr with
  | .d (.int i), q, rr => cases rr; exact ⟨i, rfl, k _ _ _ _ _ q c s⟩
def PSl (K : PySem.W.Frag) (r : V → Option Int → Option Int → Hp → VK → Prop) (P : SV → Option Int → Option Int → Mem → VP → Prop) : Prop := ∀ (sa : SV) (lo hi : Option Int) (μ : Mem) (A : List Addr) (G H : Hp) (va : V) (Qp : VP) (Q : VK), P sa lo hi μ Qp → Cells K A μ G H → RepS K A G sa va →
  (∀ r μ' A' G' H' v, Qp r μ' → Cells K A' μ' G' H' → Step A G H A' G' H' → RepS K A' G' r v → Q v H') → r va lo hi H Q
def xSl (P : SV → Option Int → Option Int → Mem → VP → Prop) (ta : TX) (tl th : TXO) : TX := fun x ρ μ Q => ta x ρ μ fun sa μ1 => tl x ρ μ1 fun lo μ2 => th x ρ μ2 fun hi μ3 => P sa lo hi μ3 Q
theorem px_sl {lo hi : Option Expr} {tl th : TXO} {p2 : Pos} {r : V → Option Int → Option Int → Hp → VK → Prop} {P : SV → Option Int → Option Int → Mem → VP → Prop} (hr : SlR X r) (hp : PSl X.K r P) (ha : PX X W a ta) (hl : PXO X W lo tl) (hh : PXO X W hi th) :
    PX X W (.Subscript a (.Slice lo hi none p2) pos) (xSl P ta tl th) := by
  refine ⟨(pe_slice hr ha.pe hl.po hh.po).imp fun σ H Q h => ?_⟩
  obtain ⟨A, ρ, μ, G, Qp, xp, S, ht, hx, k⟩ := h
  refine ⟨A, ρ, μ, G, _, xp, S, ht, hx, fun sa μ1 A1 G1 H1 va q c1 s1 r1 => ?_⟩
  refine ⟨A1, ρ, μ1, G1, _, xp, S.after s1 c1, q, hx.after s1, fun ol μ2 A2 G2 H2 q2 c2 s2 => ?_⟩
  have s12 := s1.trans s2
  refine ⟨A2, ρ, μ2, G2, _, xp, S.after s12 c2, q2, hx.after s12, fun oh μ3 A3 G3 H3 q3 c3 s3 => ?_⟩
  have s23 := s2.trans s3
  exact hp sa ol oh μ3 A3 G3 H3 va Qp Q q3 c3 (r1.mono s23.pre s23.le) fun r μ' A' G' H' v q5 c5 s5 r5 => k r μ' A' G' H' v q5 c5 ((s12.trans s3).trans s5) r5
/-- a slice of a known tuple: the whole of it is the tuple itself -/
def cutN (l : List D) (lo hi : Option Int) : D := if HT.sIx l.length 0 lo = 0 ∧ HT.sIx l.length l.length hi = l.length then .ntp l else .tup (cutD l lo hi)
def pSlT : SV → Option Int → Option Int → Mem → VP → Prop := fun sa lo hi μ Q => match sa with
  | .d (.tup l) => Q (.d (.tup (cutD l lo hi))) μ
  | .d (.ntp l) => Q (.d (cutN l lo hi)) μ
  | _ => False
def pSlL : SV → Option Int → Option Int → Mem → VP → Prop := fun sa lo hi μ Q => on (lstOf sa μ) fun l => Q (.d (.lst (cutD l lo hi))) μ
theorem psl_tup : PSl X.K (rSlA X.K) pSlT := by
  intro sa lo hi μ A G H va Qp Q h c ra k
  match sa, h, ra with
  | .d (.tup l), q, ra =>
    obtain ⟨a, us, rfl, h1, h2⟩ := tupOf_rep (s := .d (.tup l)) rfl c ra
    refine ⟨a, us, rfl, h1, fun hw => ?_, fun _ p hp => ?_⟩
    · have hl : cutD l lo hi = l := by
        unfold cutD
        rw [h2.length, hw.1, hw.2, List.drop_zero, Nat.sub_zero, ← h2.length, List.take_length]
      have q : Qp (.d (.tup (cutD l lo hi))) μ := q
      rw [hl] at q
      exact k _ _ _ _ _ _ q c .refl ra
    · obtain ⟨c2, s2⟩ := c.laid (o := .tup (cutV us lo hi)) hp
      exact k _ _ _ _ _ _ q c2 s2 (Rep.tup upd_same ((cutD_rep h2 lo hi).mono s2.le))
  | .d (.ntp l), q, ra =>
    obtain ⟨a, us, rfl, h1, h2⟩ := tupOf_rep (s := .d (.ntp l)) rfl c ra
    have q : Qp (.d (cutN l lo hi)) μ := q
    unfold cutN at q
    refine ⟨a, us, rfl, h1, fun hw => ?_, fun hw p hp => ?_⟩
    · rw [if_pos (by rw [h2.length]; exact hw)] at q
      exact k _ _ _ _ _ _ q c .refl ra
    · rw [if_neg (by rw [h2.length]; exact hw)] at q
      obtain ⟨c2, s2⟩ := c.laid (o := .tup (cutV us lo hi)) hp
      exact k _ _ _ _ _ _ q c2 s2 (Rep.tup upd_same ((cutD_rep h2 lo hi).mono s2.le))
theorem psl_list : PSl X.K (rSlL X.K) pSlL := by
  intro sa lo hi μ A G H va Qp Q h c ra k
  obtain ⟨l, e, q⟩ := on_of h
  obtain ⟨a, us, rfl, h1, h2⟩ := lstOf_rep e c ra
  refine ⟨a, us, rfl, SqL.of h1, fun p hp => ?_⟩
  obtain ⟨c2, s2⟩ := c.laid (o := .lst (cutV us lo hi)) hp
  exact k _ _ _ _ _ _ q c2 s2 (Rep.lst upd_same ((cutD_rep h2 lo hi).mono s2.le))
/-- a slice of the script -/
def pSlS : SV → Option Int → Option Int → Mem → VP → Prop := fun sa lo hi μ Q => match sa with
  | .d (.scr l) => Q (.d (.lst (cutD (l.map .int) lo hi))) μ
  | _ => False
theorem scr_reps {K : PySem.W.Frag} {G : Hp} : ∀ l : List Int, Reps K G (l.map .int) (l.map V.int)
  | [] => .nil
  | i :: l => .cons (.int i) (scr_reps l)
theorem psl_scr : PSl X.K (rSlL X.K) pSlS := by
  intro sa lo hi μ A G H va Qp Q h c ra k
  match sa, h, ra with
  | .d (.scr l), h, ra =>
    cases ra with
    | scr h1 =>
      refine ⟨_, _, rfl, c.le.sqL h1, fun p hp => ?_⟩
      obtain ⟨c2, s2⟩ := c.laid (o := .lst (cutV (l.map V.int) lo hi)) hp
      exact k _ _ _ _ _ _ h c2 s2 (Rep.lst upd_same ((cutD_rep (scr_reps l) lo hi)))
variable {lo hi : Option Expr} {tl th : TXO} {p2 : Pos}
def pCatT : SV → SV → Mem → VP → Prop := fun sa sb μ Q => match sa, sb with
  | .d (.tup l), .d (.tup m) => l.length + m.length ≤ sizeLine ∧ Q (.d (.tup (l ++ m))) μ
  | _, _ => False
theorem pop_catT : POp X.K (rCatA X.K) pCatT := by
  intro sa sb μ A G H va vb Qp Q h c ra rb k
  match sa, sb, h, ra, rb with
  | .d (.tup l), .d (.tup m), ⟨hz, h⟩, ra, rb =>
    obtain ⟨a, us, rfl, h1, h2⟩ := Reps.sq ra
    obtain ⟨b, ws, rfl, h3, h4⟩ := Reps.sq rb
    refine ⟨a, b, us, ws, rfl, rfl, c.le.sqT h1, c.le.sqT h3, by rw [← h2.length, ← h4.length]; exact hz, fun e => ?_, fun _ e => ?_, fun _ _ p hp => ?_⟩
    · have hl : l = [] := List.length_eq_zero_iff.mp (by rw [h2.length, e]; rfl)
      subst hl
      exact k _ _ _ _ _ _ h c .refl rb
    · have hl : m = [] := List.length_eq_zero_iff.mp (by rw [h4.length, e]; rfl)
      subst hl
      rw [List.append_nil] at h
      exact k _ _ _ _ _ _ h c .refl ra
    · obtain ⟨c2, s2⟩ := c.laid (o := .tup (us ++ ws)) hp
      exact k _ _ _ _ _ _ h c2 s2 (Rep.tup upd_same ((h2.app h4).mono s2.le))
def pCatL : SV → SV → Mem → VP → Prop := fun sa sb μ Q => on (lstOf sa μ) fun l => on (lstOf sb μ) fun m => l.length + m.length ≤ sizeLine ∧ Q (.d (.lst (l ++ m))) μ
theorem pop_catL {K : PySem.W.Frag} : POp K rCat pCatL := by
  intro sa sb μ A G H va vb Qp Q h c ra rb k
  obtain ⟨l, e1, h⟩ := on_of h
  obtain ⟨m, e2, hz, q⟩ := on_of h
  obtain ⟨a, us, rfl, h1, h2⟩ := lstOf_rep e1 c ra
  obtain ⟨b, ws, rfl, h3, h4⟩ := lstOf_rep e2 c rb
  refine ⟨a, b, us, ws, rfl, rfl, h1, h3, by rw [← h2.length, ← h4.length]; exact hz, fun p hp => ?_⟩
  obtain ⟨c2, s2⟩ := c.laid (o := .lst (us ++ ws)) hp
  exact k _ _ _ _ _ _ q c2 s2 (Rep.lst upd_same ((h2.app h4).mono s2.le))
end
end PL
namespace PL
open PySem PySem.Spec PyProof.Rows L2
section
variable {X : Cx} {W : WX} {a b c e : Expr} {es : List Expr} {ta tb tc te : TX} {tA : TXT} {tL : TXA} {st : Stmt} {rest : List Stmt} {t u : TXS} {pos p : Pos}

def xNext : TXS := fun E ρ μ => E.nx ρ μ
def xSeq (t u : TXS) : TXS := fun E ρ μ => t { E with nx := u E } ρ μ
theorem pss_nil' : PXSs X W [] xNext := by
  refine ⟨pss_nil.imp fun D σ H h => ?_⟩
  obtain ⟨A, ρ, μ, G, E, S, ht, k⟩ := h
  exact k.nx _ _ _ _ _ _ ht S .refl
theorem pxs_cons (h1 : PXS X W st t) (h2 : PXSs X W rest u) : PXSs X W (st :: rest) (xSeq t u) := by
  refine ⟨(pss_cons h1.ps h2.ps).imp fun D σ H h => ?_⟩
  obtain ⟨A, ρ, μ, G, E, S, ht, k⟩ := h
  refine ⟨A, ρ, μ, G, _, S, ht, ?_⟩
  exact ⟨fun ρ' μ' A' σ' G' H' q s s2 => ⟨A', ρ', μ', G', E, s, q, k.after s2⟩, k.bk, k.ct, k.rt, k.ex⟩
theorem pxs_one (h1 : PXS X W st t) : PXSs X W [st] t := ⟨pss_one h1.ps⟩
def xDrop (te : TX) : TXS := fun E ρ μ => te E.ex ρ μ fun _ μ1 => E.nx ρ μ1
theorem psx_expr (he : PX X W e te) (hs : swapsWith e none pos.line X.env = pure false := by rfl) : PXS X W (.Expr e pos) (xDrop te) := by
  refine ⟨(ps_expr he.pe hs).imp fun D σ H h => ?_⟩
  obtain ⟨A, ρ, μ, G, E, S, ht, k⟩ := h
  exact ⟨A, ρ, μ, G, _, _, S, ht, k.ex, fun r μ' A' G' H' v q c s rr => k.nx _ _ _ _ _ _ q (S.after s c) s⟩
def xRet (te : TX) : TXS := fun E ρ μ => te E.ex ρ μ E.rt
theorem psx_ret (he : PX X W e te) : PXS X W (.Return (some e) pos) (xRet te) := by
  refine ⟨(ps_ret he.pe).imp fun D σ H h => ?_⟩
  obtain ⟨A, ρ, μ, G, E, S, ht, k⟩ := h
  exact ⟨A, ρ, μ, G, _, _, S, ht, k.ex, fun r μ' A' G' H' v q c s rr => k.rt _ _ _ _ _ _ q c s rr⟩
def xIfS (c : TXT) (t u : TXS) : TXS := fun E ρ μ => c E.ex ρ μ fun b μ1 => Br b (t E ρ μ1) (u E ρ μ1)
theorem psx_if {c : Expr} {a b : List Stmt} (hc : PXT X W c tA) (ha : PXSs X W a t) (hb : PXSs X W b u) : PXS X W (.If c a b pos) (xIfS tA t u) := by
  refine ⟨(ps_if hc.pt ha.ps hb.ps).imp fun D σ H h => ?_⟩
  obtain ⟨A, ρ, μ, G, E, S, ht, k⟩ := h
  refine ⟨A, ρ, μ, G, _, _, S, ht, k.ex, fun r μ' A' G' H' q c s => ?_⟩
  cases r with
  | true => exact ite_tt ⟨A', ρ, μ', G', E, S.after s c, q, k.after s⟩
  | false => exact ite_ff ⟨A', ρ, μ', G', E, S.after s c, q, k.after s⟩
def xNever : TXS := fun _ _ _ => False
theorem psx_never : PXS X W st xNever := by
  refine ⟨ps_never.imp fun D σ H h => ?_⟩
  obtain ⟨A, ρ, μ, G, E, S, ht, k⟩ := h
  exact ht
abbrev TXG := XP → SV → Env' → Mem → (Env' → Mem → Prop) → Prop
abbrev TXGs := XP → List D → Env' → Mem → (Env' → Mem → Prop) → Prop
/-- the slots of own apart, the frame is as it was -/
def Keeps (own : List Nat) (σ σ' : L2.St) : Prop := L2.wipe σ' own = L2.wipe σ own
theorem Keeps.refl {own : List Nat} {σ : L2.St} : Keeps own σ σ := rfl
theorem Keeps.trans {own : List Nat} {σ σ1 σ2 : L2.St} (a : Keeps own σ σ1) (b : Keeps own σ1 σ2) : Keeps own σ σ2 := Eq.trans b a
theorem wipe_set (σ : L2.St) (i : Nat) (x : Option V) : ∀ vs : List Nat, (i ∈ vs → L2.wipe (σ.set i x) vs = L2.wipe σ vs) ∧ (i ∉ vs → L2.wipe (σ.set i x) vs = (L2.wipe σ vs).set i x)
  | [] => ⟨fun h => absurd h (by simp), fun _ => rfl⟩
  | v :: vs => by
    obtain ⟨h1, h2⟩ := wipe_set σ i x vs
    refine ⟨fun h => ?_, fun h => ?_⟩
    · show (L2.wipe (σ.set i x) vs).set v none = (L2.wipe σ vs).set v none
      by_cases hm : i ∈ vs
      · rw [h1 hm]
      · rcases List.mem_cons.mp h with e | e
        · subst e
          rw [h2 hm, List.set_set]
        · exact absurd e hm
    · show (L2.wipe (σ.set i x) vs).set v none = ((L2.wipe σ vs).set v none).set i x
      rw [h2 (fun z => h (List.mem_cons_of_mem _ z)), List.set_comm _ _ (fun e => h (by rw [e]; exact List.mem_cons_self))]
theorem Keeps.set {own : List Nat} {σ : L2.St} {i : Nat} {x : Option V} (h : i ∈ own) : Keeps own σ (σ.set i x) := (wipe_set σ i x own).1 h
def liftG (K : PySem.W.Frag) (W : WX) (own : List Nat) (g : TXG) : TG := fun v σ H Q => ∃ A ρ μ G s Qp x, Sim K A σ ρ μ G H ∧ RepS K A G s v ∧ g x s ρ μ Qp ∧ ExTo K W A G H x ∧
  ∀ ρ' μ' A' σ' G' H', Qp ρ' μ' → Sim K A' σ' ρ' μ' G' H' → Step A G H A' G' H' → Keeps own σ σ' → Q σ' H'
def liftGs (K : PySem.W.Frag) (W : WX) (own : List Nat) (g : TXGs) : TGs := fun vs σ H Q => ∃ A ρ μ G ds Qp x, Sim K A σ ρ μ G H ∧ Reps K G ds vs ∧ g x ds ρ μ Qp ∧ ExTo K W A G H x ∧
  ∀ ρ' μ' A' σ' G' H', Qp ρ' μ' → Sim K A' σ' ρ' μ' G' H' → Step A G H A' G' H' → Keeps own σ σ' → Q σ' H'
structure PXG (X : Cx) (W : WX) (own : List Nat) (e : Expr) (g : TXG) : Prop where
  pg : PG X e (liftG X.K W own g)
structure PXGs (X : Cx) (W : WX) (own : List Nat) (es : List Expr) (g : TXGs) : Prop where
  pg : PGs X es (liftGs X.K W own g)
theorem _root_.L2.PG.imp {X : Cx} {e : Expr} {t t' : TG} (h : PG X e t) (i : ∀ v σ H Q, t' v σ H Q → t v σ H Q) : PG X e t' := ⟨fun pins s σ H v u Q I r q => h.run pins s σ H v u Q I r (i _ _ _ _ q)⟩
theorem _root_.L2.PGs.imp {X : Cx} {e : List Expr} {t t' : TGs} (h : PGs X e t) (i : ∀ v σ H Q, t' v σ H Q → t v σ H Q) : PGs X e t' := ⟨fun pins s σ H v u Q I r q => h.run pins s σ H v u Q I r (i _ _ _ _ q)⟩
theorem Sim.set {K : PySem.W.Frag} {A : List Addr} {σ : L2.St} {ρ : Env'} {μ : Mem} {G H : Hp} {s : SV} {v : V} (S : Sim K A σ ρ μ G H) (i : Nat) (r : RepS K A G s v) : Sim K A (σ.set i (some v)) (ρ.set i s) μ G H where
  toCells := S.toCells
  sl := by simp [Env'.set, S.sl]
  at_ := fun j hj => by
    have hl : j < ρ.n := hj
    by_cases h : j = i
    · subst h
      refine ⟨some v, ?_, ?_⟩
      · rw [List.getElem?_set_self (by rw [← S.sl]; exact hl)]
      · show SlotOk K A G (if j = j then s else _) _
        rw [if_pos rfl]
        cases s with
        | un => trivial
        | d x => exact ⟨v, rfl, r⟩
        | c k => exact ⟨v, rfl, r⟩
    · obtain ⟨o, e1, q⟩ := S.at_ j hl
      refine ⟨o, by rw [List.getElem?_set_ne (Ne.symm h)]; exact e1, ?_⟩
      show SlotOk K A G (if j = i then s else _) _
      rw [if_neg h]; exact q
def xName (i : Nat) : TXG := fun _ s ρ μ Q => Q (ρ.set i s) μ
theorem pxg_name {i : Nat} {own : List Nat} {x : Str} (ho : i ∈ own) (hN : X.N.Nodup) (hi : X.N[i]? = some x) (hx : Loc X.env.scope x) (hf : X.fn x = true ∨ X.env.scope.names.lookup x = some .local := by first | exact .inl rfl | exact .inr rfl | assumption) : PXG X W own (.Name x pos) (xName i) := by
  refine ⟨(pg_name hN hi hx hf).imp fun v σ H Q h => ?_⟩
  obtain ⟨A, ρ, μ, G, s, Qp, x, S, r, ht, hx, k⟩ := h
  exact k _ _ _ _ _ _ ht (S.set i r) .refl (Keeps.set ho)
def xgNil : TXGs := fun _ ds ρ μ Q => match ds with
  | [] => Q ρ μ
  | _ => False
def xgCons (g : TXG) (gs : TXGs) : TXGs := fun x ds ρ μ Q => match ds with
  | d :: r => g x (.d d) ρ μ fun ρ1 μ1 => gs x r ρ1 μ1 Q
  | [] => False
variable {g : TXG} {gs : TXGs} {own : List Nat}
theorem pxgs_nil : PXGs X W own [] xgNil := by
  refine ⟨pgs_nil.imp fun v σ H Q h => ?_⟩
  obtain ⟨A, ρ, μ, G, ds, Qp, x, S, r, ht, hx, k⟩ := h
  match ds, r, ht with
  | [], .nil, ht => exact ⟨rfl, k _ _ _ _ _ _ ht S .refl .refl⟩
theorem pxgs_cons (h1 : PXG X W own e g) (h2 : PXGs X W own es gs) (hs : (assignEach (e :: es) X.env).map (·.2) = assign e X.env :: (assignEach es X.env).map (·.2) := by rfl) : PXGs X W own (e :: es) (xgCons g gs) := by
  refine ⟨(pgs_cons h1.pg h2.pg hs).imp fun v σ H Q h => ?_⟩
  obtain ⟨A, ρ, μ, G, ds, Qp, x, S, r, ht, hx, k⟩ := h
  match ds, r, ht with
  | d :: ds, .cons r rr, ht =>
    refine ⟨_, _, rfl, A, ρ, μ, G, .d d, _, x, S, r, ht, hx, fun ρ' μ' A' σ' G' H' q s s2 kp => ?_⟩
    exact ⟨A', ρ', μ', G', ds, _, x, s, rr.mono s2.le, q, hx.after s2, fun ρ3 μ3 A3 σ3 G3 H3 q3 s3 s23 kp2 => k _ _ _ _ _ _ q3 s3 (s2.trans s23) (kp.trans kp2)⟩
/-- (a, b, ..) = a tuple -/
def xgTup (n : Nat) (gs : TXGs) : TXG := fun x s ρ μ Q => match s with
  | .d (.tup ds) => ds.length = n ∧ gs x ds ρ μ Q
  | _ => False
theorem pxg_tup {k : Nat} {n : Nat} (hc : X.calm = true) (h : PXGs X W own es gs) (hn : (assignEach es X.env).length = n := by rfl) (hst : (assignEach es X.env).findIdx? (·.1) = none := by rfl) : PXG X W own (.Tuple es k pos) (xgTup n gs) := by
  refine ⟨(pg_tup hc h.pg hn hst).imp fun v σ H Q h => ?_⟩
  obtain ⟨A, ρ, μ, G, s, Qp, x, S, r, ht, hx, k⟩ := h
  match s, r, ht with
  | .d (.tup ds), r, ⟨hl, ht⟩ =>
    obtain ⟨a, us, rfl, h1, h2⟩ := Reps.sq r
    exact ⟨a, us, rfl, S.le.sqT h1, by rw [← h2.length]; exact hl, A, ρ, μ, G, ds, _, x, S, h2, ht, hx, k⟩
/-- l[i] = .., l a list of one's own -/
def xgSub (to ti : TX) : TXG := fun x s ρ μ Q => to x ρ μ fun so μ1 => ti x ρ μ1 fun si μ2 => match so, si, s with
  | .c k, .d (.int i), .d v => match μ2[k]? with
    | some (.lst l) => on (ixN l.length i) fun j => Q ρ (μ2.set k (.lst (l.set j v)))
    | _ => False
  | _, _, _ => False
theorem pxg_sub {o i : Expr} {to ti : TX} (ho : PX X W o to) (hi : PX X W i ti)
    (ha : ∀ v, assign (.Subscript o i pos) X.env v = (do
      let ov ← holding [v] (eval o X.env)
      let iv ← holding [v, ov] (eval i X.env)
      standAt pos
      holding [v, ov, iv] (setItem ov iv v)
      release [v, ov, iv] []) := by intro _; rfl) : PXG X W own (.Subscript o i pos) (xgSub to ti) := by
  refine ⟨(pg_sub ho.pe hi.pe set_list ha).imp fun v σ H Q h => ?_⟩
  obtain ⟨A, ρ, μ, G, s, Qp, x, S, r, ht, hx, k⟩ := h
  refine ⟨A, ρ, μ, G, _, x, S, ht, hx, fun so μ1 A1 G1 H1 vo q c1 s1 r1 => ?_⟩
  refine ⟨A1, ρ, μ1, G1, _, x, S.after s1 c1, q, hx.after s1, fun si μ2 A2 G2 H2 vi q2 c2 s2 r2 => ?_⟩
  match so, si, s, r1, r2, r, q2 with
  | .c kk, .d (.int j), .d w, r1, r2, r, q2 =>
    obtain ⟨a, ha, rfl⟩ := r1
    cases r2
    simp only at q2
    split at q2
    · rename_i l hk
      obtain ⟨n, hn, q⟩ := on_of q2
      have ha2 : A2[kk]? = some a := by
        obtain ⟨B, rfl⟩ := s2.pre
        rw [List.getElem?_append_left (List.getElem?_eq_some_iff.mp ha).1]; exact ha
      obtain ⟨us, h1, h2⟩ := c2.ok _ _ _ ha2 hk
      have s12 := s1.trans s2
      refine ⟨a, us, j, n, rfl, rfl, h1, by rw [← h2.length]; exact hn, ?_⟩
      obtain ⟨c3, s3⟩ := c2.write (o := .lst (us.set n v)) (cl := .lst (l.set n w)) ha2 ⟨_, upd_same, h2.set (Rep.mono s12.le r) n⟩
      exact k _ _ _ _ _ _ q (S.after (s12.trans s3) c3) (s12.trans s3) .refl
    · exact q2.elim
/-- target = e -/
def xAsg (te : TX) (g : TXG) : TXS := fun E ρ μ => te E.ex ρ μ fun s μ1 => g E.ex s ρ μ1 E.nx
theorem psx_asg {tg : Expr} (he : PX X W e te) (hg : PXG X W own tg g) (hs : swapsWithSole [tg] e pos.line X.env = pure false := by rfl) (hw : swappedStores [tg] e X.env = pure none := by rfl)
    (h1 : (assignEach [tg] X.env).map (·.2) = [assign tg X.env] := by rfl) : PXS X W (.Assign [tg] e pos) (xAsg te g) := by
  refine ⟨(ps_asg he.pe hg.pg hs hw h1).imp fun D σ H h => ?_⟩
  obtain ⟨A, ρ, μ, G, E, S, ht, k⟩ := h
  refine ⟨A, ρ, μ, G, _, _, S, ht, k.ex, fun s μ1 A1 G1 H1 v q c1 s1 r1 => ?_⟩
  exact ⟨A1, ρ, μ1, G1, s, _, _, S.after s1 c1, r1, q, k.ex.after s1, fun ρ' μ' A' σ' G' H' q' S' s' _ => k.nx _ _ _ _ _ _ q' S' (s1.trans s')⟩
theorem psx_set {i : Nat} {x : Str} {pos' : Pos} (hN : X.N.Nodup) (hi : X.N[i]? = some x) (hx : Loc X.env.scope x) (he : PX X W e te) (hs : swapsWith e (some (.Name x pos')) pos.line X.env = pure false := by rfl) (hf : X.fn x = true ∨ X.env.scope.names.lookup x = some .local := by first | exact .inl rfl | exact .inr rfl | assumption) :
    PXS X W (.Assign [.Name x pos'] e pos) (xAsg te (xName i)) := by
  refine ⟨(ps_set hN hi hx he.pe hs hf).imp fun D σ H h => ?_⟩
  obtain ⟨A, ρ, μ, G, E, S, ht, k⟩ := h
  exact ⟨A, ρ, μ, G, _, _, S, ht, k.ex, fun s μ1 A1 G1 H1 v q c1 s1 r1 => k.nx _ _ _ _ _ _ q ((S.after s1 c1).set i r1) s1⟩
/-- a, b = x, y, plain local names -/
def xPar (i j : Nat) (t : TXA) : TXS := fun E ρ μ => t E.ex ρ μ fun ss μ1 => match ss with
  | [s, r] => E.nx ((ρ.set i s).set j r) μ1
  | _ => False
theorem psx_par {i j : Nat} {x y : Str} {px py pt : Pos} {kt k2 pt2} (hc : X.calm = true) (hN : X.N.Nodup) (hi : X.N[i]? = some x) (hj : X.N[j]? = some y) (hij : i ≠ j)
    (hx : X.env.scope.names.lookup x = some .local) (hy : X.env.scope.names.lookup y = some .local) (ha : PXA X W [a, b] tL)
    (hw : swappedStores [.Tuple [.Name x px, .Name y py] kt pt] (.Tuple [a, b] k2 pt2) X.env = pure (some [x, y]))
    (hs : swapsWithSole [.Tuple [.Name x px, .Name y py] kt pt] (.Tuple [a, b] k2 pt2) pos.line X.env = pure false := by rfl) :
    PXS X W (.Assign [.Tuple [.Name x px, .Name y py] kt pt] (.Tuple [a, b] k2 pt2) pos) (xPar i j tL) := by
  refine ⟨(ps_par hc hN hi hj hij hx hy ha.pa hw hs).imp fun D σ H h => ?_⟩
  obtain ⟨A, ρ, μ, G, E, S, ht, k⟩ := h
  refine ⟨A, ρ, μ, G, _, _, S, ht, k.ex, fun ss μ1 A1 G1 H1 vs q c1 s1 r1 => ?_⟩
  match ss, r1, q with
  | [s, r], .cons h1 (.cons h2 .nil), q => exact ⟨_, _, rfl, k.nx _ _ _ _ _ _ q (((S.after s1 c1).set i h1).set j h2) s1⟩

end
end PL
namespace PL
open PySem PySem.Spec PyProof.Rows L2

def IteT (K : PySem.W.Frag) (a : Addr) : It where
  go i H := ∃ (xs : List V) (x : V), SqT K H a xs ∧ xs[i]? = some x
  yld i H v H' := ∃ T x, v = .ref T ∧ H T = none ∧ H' = upd H T (.tup [.int (i : Nat), x]) ∧ ∀ xs, SqT K H a xs → xs[i]? = some x
  stop i H := ∃ xs : List V, SqT K H a xs ∧ xs.length = i
theorem turn_enumT {P : Program} {w : World} {K : PySem.W.Frag} {elts : List Expr} {kk : Nat} {tpos : Pos} (a e it : Addr) :
    Turn P w K (.Tuple elts kk tpos) (IteT K a) [e, it] e (fun i h => (∃ old, IsEnum h e it ((i : Nat) : Int) old) ∧ h.IsTupleIter it a i ∧ e ≠ it) where
  mem := List.mem_cons_self
  obj := fun i h st b hb => by
    obtain ⟨⟨old, he⟩, ⟨o, ho, hc, hd⟩, _⟩ := st
    rcases List.mem_cons.mp hb with z | hb
    · subst z; exact ⟨_, he, fun v q => nomatch q⟩
    · rcases List.mem_cons.mp hb with z | hb
      · subst z; exact ⟨o, ho, fun v q => by rw [hd] at q; cases q⟩
      · cases hb
  keep := fun i h h' st k => let ⟨⟨old, he⟩, hi, hne⟩ := st; ⟨⟨old, k e (by simp) _ he⟩, hi.at fun o q => k it (by simp) o q, hne⟩
  item := by
    intro X hP hw hK hc i pins s σ H E I hf st hg
    subst hP hw hK
    obtain ⟨⟨old, he⟩, hit, hne⟩ := st
    obtain ⟨xs, x, hq, hx⟩ := hg
    obtain ⟨its, rv, p, hz⟩ := I.tuple hq
    obtain ⟨u, hu, ru⟩ := rv.get hx
    have hel : e < s.heap.objs.size := Heap.lt_size he
    have hil : it < s.heap.objs.size := by obtain ⟨_, q, _⟩ := hit; exact Heap.lt_size q
    have hea : e ≠ a := fun z => by
      obtain ⟨o, e1, c1, _⟩ := p
      rw [← z] at e1
      have e2 : s.heap.get? e = some o := e1
      rw [show s.heap.get? e = _ from he] at e2
      cases e2
      exact absurd (Value.type.inj c1) (by decide)
    have hia : a ≠ it := fun z => by
      obtain ⟨o, e1, c1, _⟩ := p
      obtain ⟨o2, e2, c2, _⟩ := hit
      rw [z, e2] at e1
      cases e1
      rw [c1] at c2
      exact absurd (Value.type.inj c2) (by decide)
    have hi : i < its.toArray.size := by
      have := (List.getElem?_eq_some_iff.mp hu).1
      simpa using this
    refine wpAny_pyNext_enum_itemC (Draws.tuple (A := X.A.in1) (I.ok.hd hc) it a hia its.toArray) he ⟨hit, p⟩ hi hne (by simp [hne, hea]) fun y h' tk hy ho hst hT hsz hk => ?_
    have ey : y = u := by
      rw [List.getElem?_toArray, hu] at hy
      exact (Option.some.inj hy).symm
    subst ey
    refine ⟨_, rfl, wpAny_letOwnedTupleGo_enum (s := { s with heap := h', toks := tk + 1 }) ho fun h'' he' sb => ?_⟩
    have hT2 := (sb.2 _ (Nat.ne_of_gt hel)).trans hT
    have new : ObjOk X.prog X.w (upd H s.heap.objs.size (.tup [.int (i : Nat), x])) h'' s.heap.objs.size (.tup [.int (i : Nat), x]) :=
      ⟨by show 2 ≤ sizeLine; decide, [.int i tk, y], .cons ⟨_, rfl⟩ (.cons ru .nil), ⟨_, hT2, rfl, _, rfl⟩⟩
    have I1 := I.turnedNew (t' := tk + 1) (ch := [e, it]) (fun b ob hb q => (sb.2 b (fun z => hb (by simp [z]))).trans (hk b ob (fun z => hb (by simp [z])) (fun z => hb (by simp [z])) q)) hf (Nat.le_refl _) new
    refine ⟨.ref s.heap.objs.size, _, I1, rfl, ⟨_, x, rfl, I.hok.fresh (Nat.le_refl _), rfl, fun ys hy => by rw [I.tuple_inj hy hq]; exact hx⟩, ⟨⟨y, ?_⟩, hst.1.at fun o q => (sb.2 it (Ne.symm hne)).trans q, hne⟩, fun b hb => ?_⟩
    · have e1 : ((i + 1 : Nat) : Int) = (i : Int) + 1 := by omega
      rw [e1]; exact he'
    · have hb' : b < s.heap.objs.size := by
        rcases List.mem_cons.mp hb with z | hb
        · subst z; exact hel
        · rcases List.mem_cons.mp hb with z | hb
          · subst z; exact hil
          · cases hb
      rw [upd_ne (Nat.ne_of_lt hb')]
      exact (hf b hb).1
  done := by
    intro X hP hw hK hc i pins s σ H E I hf st hg
    subst hP hw hK
    obtain ⟨⟨old, he⟩, hit, hne⟩ := st
    obtain ⟨xs, hq, hx⟩ := hg
    obtain ⟨its, rv, p, hz⟩ := I.tuple hq
    have hl := rv.length
    have hia : a ≠ it := fun z => by
      obtain ⟨o, e1, c1, _⟩ := p
      obtain ⟨o2, e2, c2, _⟩ := hit
      rw [z, e2] at e1
      cases e1
      rw [c1] at c2
      exact absurd (Value.type.inj c2) (by decide)
    obtain ⟨f0, f1, f2, f3, f4, f5⟩ := hf it (by simp)
    have hn : i = its.toArray.size := by simp; omega
    subst hn
    exact wpAny_pyNext_enum_endD (Draws.tuple (A := X.A.in1) (I.ok.hd hc) it a hia its.toArray) he ⟨hit, p⟩ fun h' eb => ⟨rfl, I.turned (t' := s.toks) (fun b o hb q => eb b o hb q) f0 f1 f3 f4 f5⟩
  self := fun A i s Q E st h => let ⟨⟨_, he⟩, _⟩ := st; wpAny_pyIter_enum he h

theorem meets_enum1 {v : Value} {o : Obj} {H : Heap → Prop} (B : Begins v o H) :
    Meets (Builtin.«enumerate.__new__» ⟨[.type "enumerate", v], []⟩) (fun _ R s => H s.heap ∧
      R (.ok (.ret (.ref (s.heap.push o).objs.size))) { s with heap := (s.heap.push o).push { cls := .type "enumerate", data := .fields #[.none, .bool false, .ref s.heap.objs.size, rawInt 0, .none, .none] } }) :=
  .of_wp fun prog w A R s h => by
    obtain ⟨hp, g, d, tk, os⟩ := s
    obtain ⟨h1, h⟩ := h
    have hsub := sub_enumerate
    have q1 : ∀ {A' : Around} {E : Value → Shared → Prop} {Q : Value → Shared → Prop}, Q (.ref hp.objs.size) ⟨hp.push o, g, d, tk, os⟩ → wpAny (model prog w) A' (pyIter v) Q E ⟨hp, g, d, tk, os⟩ :=
      fun q => B.iter prog w _ _ ⟨hp, g, d, tk, os⟩ _ h1 q
    wp_walk using q1
    refine wpAny_stack_any fun st => wpAny_pure ?_
    split
    · rename_i c _ _ _ _ _
      cases (c == Value.type "enumerate")
      all_goals
        wp_walk using q1
        exact ⟨_, rfl, h⟩
    · wp_walk using q1
      exact ⟨_, rfl, h⟩
theorem call_enum1 {prog : Program} {w : World} {A : Around} {E : Value → Shared → Prop} {s : Shared} {v : Value} {o : Obj} {H : Heap → Prop} {Q : Value → Shared → Prop} (B : Begins v o H) (h1 : H s.heap)
    (h : ∀ h', IsEnum h' (s.heap.objs.size + 1) s.heap.objs.size 0 .none → h'.get? s.heap.objs.size = some o → (∀ b o, s.heap.get? b = some o → h'.get? b = some o) → Q (.ref (s.heap.objs.size + 1)) { s with heap := h' }) :
    wpAny (model prog w) A (call (.type "enumerate") [v]) Q E s := by
  refine callType_new F.called_enumerate (by decide) (F.typeCall_enumerate_1 _) (F.newCall_enumerate_1 _) (fun obj => F.args_object_init_2 obj _) F.entry_enumerate_new (meets_enum1 B) ⟨h1, ?_⟩
  have hz : (s.heap.push o).objs.size = s.heap.objs.size + 1 := Heap.size_push ..
  show _ ∧ _
  rw [hz]
  have he := Heap.get?_push_size (s.heap.push o) (o := { cls := .type "enumerate", data := .fields #[.none, .bool false, .ref s.heap.objs.size, rawInt 0, .none, .none] }) rfl
  rw [hz] at he
  exact ⟨⟨_, he, rfl⟩, h _ he (Heap.get?_push_of_some _ (Heap.get?_push_size _ B.free)) fun b o x => Heap.get?_push_of_some _ (Heap.get?_push_of_some _ x)⟩
end PL
namespace PL
open PySem PySem.Spec PyProof.Rows L2 RZ
/-- item i of ds comes: it stands already, or a new tuple -/
def YD (K : PySem.W.Frag) (ds : List D) (G : Hp) : Nat → Hp → V → Hp → Prop := fun i H x H' => ∀ G1, LeZ G G1 → Le G1 H → ∃ d, ds[i]? = some d ∧
  ((H' = H ∧ Rep K G1 d x) ∨ (∃ (T : Addr) (vs : List V) (l : List D), x = .ref T ∧ H T = none ∧ H' = upd H T (.tup vs) ∧ d = .tup l ∧ Reps K G1 l vs) ∨ ∃ (T : Addr) (vs : List V) (l : List D), x = .ref T ∧ H T = some (.tup vs) ∧ H' = H ∧ d = .tup l ∧ Reps K G1 l vs)
def liftI (K : PySem.W.Frag) (W : WX) (t : TXI) : TI := fun σ H R => ∃ A ρ μ G Rp x, Sim K A σ ρ μ G H ∧ t x ρ μ Rp ∧ ExTo K W A G H x ∧
  ∀ ds μ' A' G' H' J, Rp ds μ' → Cells K A' μ' G' H' → Step A G H A' G' H' → Walk J ds.length (fun H => LeZ G' H) (YD K ds G') → R J H'
structure PXI (X : Cx) (W : WX) (tg iter : Expr) (ti : TXI) : Prop where
  ex : ∃ wi, PI X tg iter wi ∧ ∀ σ H R, liftI X.K W ti σ H R → wi σ H R
section
variable {X : Cx} {W : WX} {a b c e tg : Expr} {es : List Expr} {ta tb tc te : TX} {tL : TXA} {pos p tpos : Pos} {elts : List Expr} {kk : Nat}
/-- lo, lo + 1, .. -/
def rngD (lo : Int) (n : Nat) : List D := (List.range n).map fun i => .int (lo + (i : Nat))
theorem walk_rngD {K : PySem.W.Frag} {lo : Int} {n : Nat} {G : Hp} : Walk (Itr lo n) (rngD lo n).length (fun H => LeZ G H) (YD K (rngD lo n) G) := by
  have hl : (rngD lo n).length = n := by simp [rngD]
  rw [hl]
  refine walk_range.mono (fun _ _ => trivial) fun i H0 x H' hi _ y G2 g2 _ => ?_
  obtain ⟨e1, e2⟩ := y
  subst e2
  exact ⟨.int (lo + i), by simp [rngD, hi], .inl ⟨e1, .int _⟩⟩
def xiR1 (t : TXA) : TXI := fun x ρ μ Q => t x ρ μ fun ss μ1 => match ss with
  | [.d (.int j)] => (-(2 ^ 62) ≤ j ∧ j < 2 ^ 62) ∧ Q (rngD 0 j.toNat) μ1
  | _ => False
theorem pxi_range1 (hg : Gl X "range") (hm : X.mg "range" = none) (ha : PXA X W [a] tL) (hs : starEach [a] X.env = [(false, eval a X.env)] := by rfl) : PXI X W tg (.Call (.Name "range" p) [a] [] pos) (xiR1 tL) := by
  refine ⟨_, pi_range1 hg hm ha.pa hs, fun σ H R h => ?_⟩
  obtain ⟨A, ρ, μ, G, Rp, x, S, ht, hx, k⟩ := h
  refine ⟨A, ρ, μ, G, _, x, S, ht, hx, fun ss μ1 A1 G1 H1 vs q c1 s1 r1 => ?_⟩
  match ss, q, r1 with
  | [.d (.int j)], ⟨⟨h1, h2⟩, q⟩, .cons r .nil => cases r; exact ⟨j, rfl, h1, h2, k _ _ _ _ _ _ q c1 s1 walk_rngD⟩
/-- (0, d), (1, e), .. -/
def enumD (l : List D) : List D := l.mapIdx fun i d => .tup [.int (i : Nat), d]
theorem yd_pair {K : PySem.W.Frag} {G1 : Hp} {x y : V} {d e : D} {H H' : Hp} {v : V} {ds : List D} {i : Nat} (hd : ds[i]? = some (.tup [d, e])) (r1 : Rep K G1 d x) (r2 : Rep K G1 e y) (h : ∃ T, v = .ref T ∧ H T = none ∧ H' = upd H T (.tup [x, y])) :
    ∃ d, ds[i]? = some d ∧ ((H' = H ∧ Rep K G1 d v) ∨ (∃ (T : Addr) (vs : List V) (l : List D), v = .ref T ∧ H T = none ∧ H' = upd H T (.tup vs) ∧ d = .tup l ∧ Reps K G1 l vs) ∨ ∃ (T : Addr) (vs : List V) (l : List D), v = .ref T ∧ H T = some (.tup vs) ∧ H' = H ∧ d = .tup l ∧ Reps K G1 l vs) := by
  obtain ⟨T, h1, h2, h3⟩ := h
  exact ⟨_, hd, .inr (.inl ⟨T, [x, y], [d, e], h1, h2, h3, rfl, .cons r1 (.cons r2 .nil)⟩)⟩
def zipD (l m : List D) : List D := List.zipWith (fun a b => .tup [a, b]) l m
theorem zipD_at {l m : List D} {i : Nat} {d e : D} (h1 : l[i]? = some d) (h2 : m[i]? = some e) : (zipD l m)[i]? = some (.tup [d, e]) := by
  unfold zipD
  rw [List.getElem?_zipWith, h1, h2]
theorem walk_zipT {K : PySem.W.Frag} {a b : Addr} {xs ys : List V} {n : Nat} (hn : n = min xs.length ys.length) : Walk (ItzT K a b) n (fun H => SqT K H a xs ∧ SqT K H b ys) (YPair (fun i => xs[i]?) (fun i => ys[i]?)) := by
  subst hn
  refine ⟨fun i _ hi q => ?_, fun _ q => ⟨xs, ys, q.1, q.2, by omega⟩, fun i H v H' _ q y => ?_⟩
  · have h1 : i < xs.length := by omega
    have h2 : i < ys.length := by omega
    exact ⟨xs, ys, xs[i], ys[i], q.1, q.2, by simp [h1], by simp [h2]⟩
  · obtain ⟨T, x, z, h1, h2, h3, h4, h5⟩ := y
    exact ⟨T, x, z, h1, h2, h3, h4 xs q.1, h5 ys q.2⟩
def strD (z : Str) : List D := z.cps.toList.map fun c => .str ⟨#[c]⟩
variable {own : List Nat} {tA : TXT} {g : TXG} {t : TXS} {ti : TXI} {iter : Expr} {body : List Stmt}
def xFor (ti : TXI) (g : TXG) (tb : TXS) : TXS := fun E ρ μ => ti E.ex ρ μ fun ds μ1 => ∃ I : Nat → Env' → Mem → Prop, I 0 ρ μ1 ∧
  (∀ i d ρ μ, ds[i]? = some d → I i ρ μ → g E.ex (.d d) ρ μ fun ρ2 μ2 => tb { E with nx := I (i + 1), ct := I (i + 1), bk := E.nx } ρ2 μ2) ∧ ∀ ρ μ, I ds.length ρ μ → E.nx ρ μ
/-- what a turn begins with -/
theorem yd_begin {K : PySem.W.Frag} {ds : List D} {G0 G H H' : Hp} {A : List Addr} {μ : Mem} {i : Nat} {x : V} (le : LeZ G0 G) (c : Cells K A μ G H) (y : YD K ds G0 i H x H') :
    ∃ d G', ds[i]? = some d ∧ Rep K G' d x ∧ Cells K A μ G' H' ∧ Step A G H A G' H' := by
  obtain ⟨d, e, h⟩ := y G le c.le
  rcases h with ⟨rfl, r⟩ | ⟨T, vs, l, rfl, h1, rfl, rfl, r⟩ | ⟨T, vs, l, rfl, h1, rfl, rfl, r⟩
  · exact ⟨d, G, e, r, c, .refl⟩
  · obtain ⟨c2, s2⟩ := c.laid (o := .tup vs) h1
    exact ⟨_, _, e, Rep.tup upd_same (r.mono s2.le), c2, s2⟩
  · have lg : Le G (upd G T (.tup vs)) := fun a o e => by
      by_cases z : a = T
      · subst z; rw [c.le a o e] at h1; rw [upd_same, ← h1]
      · rw [upd_ne z]; exact e
    refine ⟨_, upd G T (.tup vs), e, Rep.tup upd_same (r.mono lg.z), ⟨fun a o e => ?_, c.len, c.nd, fun a ha => ?_, fun k a cl e1 e2 => (c.ok k a cl e1 e2).mono (List.prefix_refl _) lg.z rfl⟩, ⟨List.prefix_refl _, lg.z, fun _ _ h _ => .inl h, fun a h => ?_, fun _ _ h => .inr h, fun _ h => .inl h, fun _ h => h⟩⟩
    · by_cases z : a = T
      · subst z; rw [upd_same] at e; rw [h1]; exact e
      · rw [upd_ne z] at e; exact c.le a o e
    · refine (upd_ne fun z => ?_).trans (c.free a ha)
      obtain ⟨k, hk⟩ := List.mem_iff_getElem?.mp ha
      have hl : k < μ.length := by rw [← c.len]; exact (List.getElem?_eq_some_iff.mp hk).1
      exact (c.ok k a _ hk (List.getElem?_eq_getElem hl)).notup (by rw [z]; exact h1)
    · by_cases z : a = T
      · subst z; exact .inr (.inr ⟨vs, h1⟩)
      · rw [upd_ne z] at h; exact .inl h
theorem psx_for (hp : PassesOwn (model X.prog X.w) X.A X.env X.xe) (hc : X.calm = true) (hi : PXI X W tg iter ti) (hg : PXG X W own tg g) (hb : PXSs X W body t)
    (hs : ∀ x, foldedSetIterable iter X.env x = pure x := by intro _; rfl) : PXS X W (.For tg iter body [] pos) (xFor ti g t) := by
  obtain ⟨wi, hpi, hti⟩ := hi.ex
  refine ⟨(ps_for hp hc hpi hg.pg hb.ps hs).imp fun D σ H h => ?_⟩
  obtain ⟨A, ρ, μ, G, E, S, ht, k⟩ := h
  refine hti _ _ _ ⟨A, ρ, μ, G, _, _, S, ht, k.ex, fun ds μ1 A1 G1 H1 J q c1 s1 w => ?_⟩
  obtain ⟨I, i0, turn, done⟩ := q
  refine for_it w (fun i σ H => ∃ A' ρ' μ' G', I i ρ' μ' ∧ Sim X.K A' σ ρ' μ' G' H ∧ Step A1 G1 H1 A' G' H) ⟨A1, ρ, μ1, G1, i0, S.after s1 c1, .refl⟩ (fun i σ H _ ⟨A', ρ', μ', G', _, S', s'⟩ => s'.le.trans S'.le.z) ?_ ?_
  · rintro i x σ2 H2 H3 hi ⟨A2, ρ2, μ2, G2, i2, S2, s2⟩ y
    obtain ⟨d, G3, e, r, c3, s3⟩ := yd_begin s2.le S2.toCells y
    have s23 := s2.trans s3
    have s13 := s1.trans s23
    refine ⟨A2, ρ2, μ2, G3, .d d, _, _, S2.after s3 c3, r, turn i d ρ2 μ2 e i2, k.ex.after s13, fun ρ4 μ4 A4 σ4 G4 H4 q4 S4 s4 _ => ?_⟩
    have s14 := s13.trans s4
    refine ⟨A4, ρ4, μ4, G4, _, S4, q4, ?_⟩
    have fin : ∀ ρ' μ' A' σ' G' H', I (i + 1) ρ' μ' → Sim X.K A' σ' ρ' μ' G' H' → Step A4 G4 H4 A' G' H' → ∃ A'' ρ' μ' G', I (i + 1) ρ' μ' ∧ Sim X.K A'' σ' ρ' μ' G' H' ∧ Step A1 G1 H1 A'' G' H' := fun ρ' μ' A' σ' G' H' q' S' s' => ⟨A', ρ', μ', G', q', S', (s23.trans s4).trans s'⟩
    exact ⟨fin, fun ρ' μ' A' σ' G' H' q' S' s' => k.nx _ _ _ _ _ _ q' S' (s14.trans s'), fin, (k.after s14).rt, (k.after s14).ex⟩
  · rintro σ2 H2 ⟨A2, ρ2, μ2, G2, i2, S2, s2⟩
    exact k.nx _ _ _ _ _ _ (done _ _ i2) S2 (s1.trans s2)

def wipeP (ρ : Env') : List Nat → Env'
  | [] => ρ
  | v :: vs => (wipeP ρ vs).set v .un
theorem Sim.wipe {K : PySem.W.Frag} {A : List Addr} {σ : L2.St} {ρ : Env'} {μ : Mem} {G H : Hp} (S : Sim K A σ ρ μ G H) : ∀ vs : List Nat, Sim K A (L2.wipe σ vs) (wipeP ρ vs) μ G H
  | [] => S
  | v :: vs => by
    have S' := Sim.wipe S vs
    refine ⟨S'.toCells, by unfold L2.wipe wipeP; simp [Env'.set, S'.sl], fun j hj => ?_⟩
    have hl : j < (wipeP ρ vs).n := hj
    unfold L2.wipe
    by_cases h : j = v
    · subst h
      refine ⟨none, by rw [List.getElem?_set_self (by rw [← S'.sl]; exact hl)], ?_⟩
      show SlotOk K A G (if j = j then SV.un else _) _
      rw [if_pos rfl]; trivial
    · obtain ⟨o, e1, q⟩ := S'.at_ j hl
      refine ⟨o, by rw [List.getElem?_set_ne (Ne.symm h)]; exact e1, ?_⟩
      show SlotOk K A G (if j = v then SV.un else _) _
      rw [if_neg h]; exact q
structure PXTs (X : Cx) (W : WX) (ifs : List Expr) (t : TXT) : Prop where
  pt : PTs X ifs (liftT X.K W t)
theorem _root_.L2.PTs.imp {X : Cx} {e : List Expr} {t t' : TT} (h : PTs X e t) (i : ∀ σ H Q, t' σ H Q → t σ H Q) : PTs X e t' := ⟨fun pins s σ H Q I q => h.run pins s σ H Q I (i _ _ _ q)⟩
def xYes : TXT := fun _ _ μ Q => Q true μ
theorem pxts_nil : PXTs X W [] xYes := by
  refine ⟨pts_nil.imp fun σ H Q h => ?_⟩
  obtain ⟨A, ρ, μ, G, Qp, x, S, ht, hx, k⟩ := h
  exact k _ _ _ _ _ ht S.toCells .refl
/-- nothing is raised within -/
abbrev wF : WX := fun _ _ _ _ => False
abbrev xF : XP := fun _ _ _ => False
theorem exF {K : PySem.W.Frag} {A : List Addr} {G H : Hp} : ExTo K wF A G H xF := fun _ _ _ _ _ _ _ _ h _ _ _ => h
/-- targets touch their own slots alone: shown at each reading -/
def xLc (ti : TXI) (g : TXG) (tt : TXT) (te : TX) (vs : List Nat) (fin : List D → Mem → VP → Prop) : TX := fun x ρ μ Q => ti x ρ μ fun ds μ1 => ds.length ≤ sizeLine ∧ ∃ I : Nat → List D → Mem → Prop, I 0 [] μ1 ∧
  (∀ i d acc μ, ds[i]? = some d → I i acc μ → g xF (.d d) (wipeP ρ vs) μ fun ρ2 μ2 => tt xF ρ2 μ2 fun b μ3 => Br b (te xF ρ2 μ3 fun s μ4 => match s with
    | .d y => I (i + 1) (acc ++ [y]) μ4
    | _ => False) (I (i + 1) acc μ3)) ∧ ∀ acc μ, I ds.length acc μ → fin acc μ Q
def finL : List D → Mem → VP → Prop := fun acc μ Q => Q (.d (.lst acc)) μ
/-- the comprehension's loop -/
theorem lc_turns {K : PySem.W.Frag} {ds : List D} {J : It} {A1 : List Addr} {G1 H1 : Hp} {σ : L2.St} {ρ : Env'} {μ1 : Mem} {tt : TXT} {te : TX} {vs : List Nat} {Q : Hp → Prop} {Dd : Addr} (S : Sim K A1 σ ρ μ1 G1 H1) (hD : H1 Dd = none)
    (w : Walk J ds.length (fun H => LeZ G1 H) (YD K ds G1)) (hz : ds.length ≤ sizeLine) {I : Nat → List D → Mem → Prop} (i0 : I 0 [] μ1)
    (turn : ∀ i d acc μ, ds[i]? = some d → I i acc μ → g xF (.d d) (wipeP ρ vs) μ fun ρ2 μ2 => tt xF ρ2 μ2 fun b μ3 => Br b (te xF ρ2 μ3 fun s μ4 => match s with
      | .d y => I (i + 1) (acc ++ [y]) μ4
      | _ => False) (I (i + 1) acc μ3))
    (done : ∀ acc μ, I ds.length acc μ → ∀ A' G' H' ws, Cells K A' μ G' H' → Step A1 G1 H1 A' G' H' → H' Dd = some (.lst ws) → Reps K G' acc ws → Dd ∉ A' → G' Dd = none → Q H') :
    ∃ W : Nat → Nat → Hp → Prop, (∃ m, W 0 m (upd H1 Dd (.lst []))) ∧ ∀ i m H, W i m H →
      (J.stop i H ∧ Q H) ∨ (J.go i H ∧ ∃ Nx : Hp → Prop, (∀ H', Nx H' → ∃ m', m' < m ∧ W (i + 1) m' H') ∧ ∀ x H', J.yld i H x H' → liftG K wF vs g x (L2.wipe σ vs) H' fun σ2 H2 => L2.wipe σ2 vs = L2.wipe σ vs ∧ liftT K wF tt σ2 H2 fun b H3 =>
        if b = true then lift K wF te σ2 H3 fun y H4 => ∃ acc, H4 Dd = some (.lst acc) ∧ acc.length < sizeLine ∧ Nx (upd H4 Dd (.lst (acc ++ [y]))) else Nx H3) := by
  have wipe2 : ∀ σ : L2.St, L2.wipe (L2.wipe σ vs) vs = L2.wipe σ vs := fun σ => by
    refine List.ext_getElem? fun j => ?_
    have key : ∀ (τ : L2.St) (us : List Nat), (L2.wipe τ us)[j]? = if j ∈ us then (τ[j]?).map (fun _ => none) else τ[j]? := by
      intro τ us
      induction us with
      | nil => simp [L2.wipe]
      | cons v us ih =>
        unfold L2.wipe
        by_cases e : v = j
        · subst e
          by_cases hv : v < τ.length
          · rw [List.getElem?_set_self (by rw [L2.wipe_length]; exact hv)]
            simp [List.getElem?_eq_getElem hv]
          · rw [List.getElem?_eq_none (by simp [L2.wipe_length]; omega)]
            simp [List.getElem?_eq_none (Nat.le_of_not_lt hv)]
        · rw [List.getElem?_set_ne e, ih]
          have : (j ∈ v :: us) ↔ j ∈ us := by
            simp only [List.mem_cons]
            exact ⟨fun h => h.resolve_left fun q => e q.symm, .inr⟩
          simp only [this]
    rw [key, key]
    by_cases h : j ∈ vs
    · simp [h]
      cases σ[j]? <;> rfl
    · simp [h]
  refine lc_it w (σ := σ) (vs := vs) (Qd := Q) (g := liftG K wF vs g) (tt := liftT K wF tt) (te := lift K wF te) (fun i H => ∃ acc ws A' G' μ', I i acc μ' ∧ acc.length ≤ i ∧ Cells K A' μ' G' H ∧ Step A1 G1 H1 A' G' H ∧ H Dd = some (.lst ws) ∧ Reps K G' acc ws ∧ Dd ∉ A' ∧ G' Dd = none) ?_ (fun i H _ ⟨acc, ws, A', G', μ', _, _, c, s, _⟩ => s.le.trans c.le.z) ?_ ?_
  · have gn : G1 Dd = none := S.gnone hD
    have na : Dd ∉ A1 := fun z => S.ne_of_lt z hD rfl
    refine ⟨[], [], A1, G1, μ1, i0, Nat.zero_le _, ⟨fun a o e => ?_, S.len, S.nd, S.free, fun k a cl h1 h2 => ?_⟩, ⟨List.prefix_refl _, LeZ.refl _, fun a o e _ => .inl ?_, fun a e => .inl e, fun a xs e => ?_, fun a e => .inl e, fun a e => ?_⟩, upd_same, .nil, na, gn⟩
    · rw [upd_ne (ne_of_none e gn)]; exact S.le a o e
    · exact (S.ok k a cl h1 h2).mono (List.prefix_refl _) (LeZ.refl _) (upd_ne (S.ne_of_lt (List.mem_of_getElem? h1) hD))
    · rw [upd_ne (ne_of_none e hD)]; exact e
    · by_cases z : a = Dd
      · rw [z, upd_same] at e; cases e
      · rw [upd_ne z] at e; exact .inr e
    · by_cases z : a = Dd
      · rw [z, upd_same]; simp
      · rw [upd_ne z]; exact e
  · rintro i x H H' hi ⟨acc, ws, A2, G2, μ2, i2, hacc, c2, s2, hd, hr, na, gn⟩ y
    obtain ⟨d, G3, e, r, c3, s3⟩ := yd_begin s2.le c2 y
    have keepD : ∀ {A' : List Addr} {G' H' : Hp}, Step A2 G2 H A' G' H' → H' Dd = some (.lst ws) ∧ Dd ∉ A' ∧ G' Dd = none := fun {A' G' H'} st => by
      refine ⟨?_, fun z => ?_, ?_⟩
      · rcases st.keep _ _ hd na with q | ⟨q, _⟩
        · exact q
        · rw [gn] at q; cases q
      · rcases st.cells _ z with q | q
        · exact na q
        · rw [hd] at q; cases q
      · cases q : G' Dd with
        | none => rfl
        | some o =>
          rcases st.new Dd (by rw [q]; simp) with z | z | ⟨_, z⟩
          · exact absurd gn z
          · rw [hd] at z; cases z
          · rw [hd] at z; cases z
    have S3 : Sim K A2 (L2.wipe σ vs) (wipeP ρ vs) μ2 G3 H' := by
      have st := s2.trans s3
      exact (S.wipe vs).after st c3
    refine ⟨A2, _, μ2, G3, .d d, _, xF, S3, r, turn i d acc μ2 e i2, exF, fun ρ4 μ4 A4 σ4 G4 H4 q4 S4 s4 kp => ⟨Eq.trans kp (wipe2 σ), ?_⟩⟩
    refine ⟨A4, ρ4, μ4, G4, _, xF, S4, q4, exF, fun b μ5 A5 G5 H5 q5 c5 s5 => ?_⟩
    have s25 := (s3.trans s4).trans s5
    cases b with
    | false =>
      obtain ⟨h1, h2, h3⟩ := keepD s25
      exact ite_ff ⟨acc, ws, A5, G5, μ5, q5, by omega, c5, s2.trans s25, h1, hr.mono s25.le, h2, h3⟩
    | true =>
      refine ite_tt ⟨A5, ρ4, μ5, G5, _, xF, S4.after s5 c5, q5, exF, fun s μ6 A6 G6 H6 v q6 c6 s6 r6 => ?_⟩
      have s26 := s25.trans s6
      obtain ⟨h1, h2, h3⟩ := keepD s26
      match s, q6, r6 with
      | .d z, q6, r6 =>
        refine ⟨ws, h1, by rw [← hr.length]; omega, acc ++ [z], ws ++ [v], A6, G6, μ6, q6, by simp; omega, ?_, ?_, upd_same, (hr.mono s26.le).app (.cons r6 .nil), h2, h3⟩
        · refine ⟨fun a o e => ?_, c6.len, c6.nd, c6.free, fun k a cl e1 e2 => ?_⟩
          · rw [upd_ne (ne_of_none e h3)]; exact c6.le a o e
          · exact (c6.ok k a cl e1 e2).mono (List.prefix_refl _) (LeZ.refl _) (upd_ne fun q => h2 (by rw [← q]; exact List.mem_of_getElem? e1))
        · have st := s2.trans s26
          refine ⟨st.pre, st.le, fun a o e n => ?_, st.new, fun a xs e => ?_, st.cells, fun a e => ?_⟩
          · rw [upd_ne (ne_of_none e hD)]; exact st.keep a o e n
          · by_cases q : a = Dd
            · rw [q, upd_same] at e; cases e
            · rw [upd_ne q] at e; exact st.tups a xs e
          · by_cases q : a = Dd
            · rw [q, upd_same]; simp
            · rw [upd_ne q]; exact st.there a e
  · rintro H ⟨acc, ws, A2, G2, μ2, i2, _, c2, s2, hd, hr, na, gn⟩
    exact done acc μ2 i2 A2 G2 H ws c2 s2 hd hr na gn
theorem px_lc {elt : Expr} {ifs : List Expr} {scope : Scope} {own : List (Str × Nat)} {tt : TXT} (hc : X.calm = true) (hN : X.N.Nodup) (hi : PXI X W tg iter ti) (ok : BlkOk X.N X.env.scope scope own)
    (hg : ∀ (s : Shared) (H : Hp) (C : Addr) (cl : List (Str × Addr)) (fp : List Addr), PXG (X.blk s H scope (compEnvC scope cl C X.env) fp) wF (own.map (·.2)) tg g)
    (ht : ∀ (s : Shared) (H : Hp) (C : Addr) (cl : List (Str × Addr)) (fp : List Addr), PXTs (X.blk s H scope (compEnvC scope cl C X.env) fp) wF ifs tt)
    (he : ∀ (s : Shared) (H : Hp) (C : Addr) (cl : List (Str × Addr)) (fp : List Addr), PX (X.blk s H scope (compEnvC scope cl C X.env) fp) wF elt te) (hs : ∀ x, foldedSetIterable iter X.env x = pure x := by intro _; rfl) :
    PX X W (.ListComp elt [⟨tg, iter, ifs, 0⟩] scope pos) (xLc ti g tt te (own.map (·.2)) finL) := by
  obtain ⟨wi, hpi, hti⟩ := hi.ex
  refine ⟨(pe_lc (g := liftG X.K wF (own.map (·.2)) g) (tt := liftT X.K wF tt) (te := lift X.K wF te) hc hN hpi ok (fun s H C cl fp => (hg s H C cl fp).pg) (fun s H C cl fp => (ht s H C cl fp).pt) (fun s H C cl fp => (he s H C cl fp).pe) hs).imp fun σ H Q h => ?_⟩
  obtain ⟨A, ρ, μ, G, Qp, x, S, ht, hx, k⟩ := h
  refine hti _ _ _ ⟨A, ρ, μ, G, _, x, S, ht, hx, fun ds μ1 A1 G1 H1 J ⟨hz, I, i0, turn, done⟩ c1 s1 w Dd hD => ?_⟩
  refine lc_turns (S.after s1 c1) hD w hz i0 turn fun acc μ' i' A' G' H' ws c' s' hd hr na gn => ?_
  have q := done acc μ' i'
  have lg : LeZ G' (upd G' Dd (.lst ws)) := fun a o e => .inl (by rw [upd_ne (ne_of_none e gn)]; exact e)
  refine k (.d (.lst acc)) μ' A' (upd G' Dd (.lst ws)) H' (.ref Dd) q ⟨fun a o e => ?_, c'.len, c'.nd, fun a ha => ?_, fun j a cl e1 e2 => (c'.ok j a cl e1 e2).mono (List.prefix_refl _) lg rfl⟩ ?_ (Rep.lst upd_same (hr.mono lg))
  · by_cases z : a = Dd
    · rw [z] at e ⊢; rw [upd_same] at e; rw [hd]; exact e
    · rw [upd_ne z] at e; exact c'.le a o e
  · rw [upd_ne (fun z => na (by rw [← z]; exact ha))]; exact c'.free a ha
  · have st := s1.trans s'
    refine ⟨st.pre, st.le.trans lg, st.keep, fun a e => ?_, st.tups, st.cells, st.there⟩
    by_cases z : a = Dd
    · refine .inr (.inl ?_)
      cases q2 : H a with
      | none => rfl
      | some o => exact absurd (by rw [z]; exact hD) (s1.there a (by rw [q2]; simp))
    · rw [upd_ne z] at e; exact st.new a e
end
end PL
namespace PL
open PySem PySem.Spec PyProof.Rows L2
/-- a def's promise: the arguments (cells by their places among the handed-in cells), the handed-in cells, the wanted end -/
abbrev PSp := XP → List SV → Mem → VP → Prop
def low (K : PySem.W.Frag) (p : PSp) : Sp := fun vs H Q E => ∃ A as μ G Qp x, Cells K A μ G H ∧ RepsS K A G as vs ∧ p x as μ Qp ∧
  (∀ C fs μ' A' G' H' d, x C fs μ' → Cells K A' μ' G' H' → Step A G H A' G' H' → ExOk K G' H' fs d → E (.ref (He.ga K C)) d H') ∧
  ∀ r μ' A' G' H' v, Qp r μ' → Cells K A' μ' G' H' → Step A G H A' G' H' → RepS K A' G' r v → Q v H'
def startP (n : Nat) (as : List SV) : Env' := ⟨as.length + (n - as.length), fun i => as.getD i .un⟩
theorem sim_start {K : PySem.W.Frag} {A : List Addr} {as : List SV} {vs : List V} {μ : Mem} {G H : Hp} {N : List Str} (c : Cells K A μ G H) (r : RepsS K A G as vs) : Sim K A (L2.start N vs) (startP N.length as) μ G H where
  toCells := c
  sl := by simp [startP, L2.start, r.length]
  at_ := by
    have key : ∀ (as : List SV) (vs : List V) (n m : Nat), RepsS K A G as vs → n = m → ∀ (i : Nat) (s : SV), (as ++ List.replicate n .un)[i]? = some s → ∃ o, (vs.map some ++ List.replicate m none)[i]? = some o ∧ SlotOk K A G s o := by
      intro as
      induction as with
      | nil =>
        intro vs n m r e i s h
        cases r
        subst e
        simp only [List.nil_append, List.map_nil] at h ⊢
        obtain ⟨hi, e⟩ := List.getElem?_eq_some_iff.mp h
        simp at hi e
        subst e
        exact ⟨none, by simp [hi], trivial⟩
      | cons a as ih =>
        intro vs n m r e i s h
        cases r with
        | @cons _ v _ us r1 r2 =>
          cases i with
          | zero =>
            simp at h
            subst h
            refine ⟨some v, by simp, ?_⟩
            cases a with
            | un => trivial
            | d x => exact ⟨v, rfl, r1⟩
            | c k => exact ⟨v, rfl, r1⟩
          | succ i => simpa using ih us n m r2 e i s (by simpa using h)
    intro i hi
    have hi : i < as.length + (N.length - as.length) := hi
    refine key as vs (N.length - as.length) _ r (by rw [r.length]) i _ ?_
    show (as ++ List.replicate (N.length - as.length) SV.un)[i]? = some (as.getD i .un)
    by_cases h : i < as.length
    · rw [List.getElem?_append_left h, List.getD_eq_getElem?_getD, List.getElem?_eq_getElem h]; rfl
    · rw [List.getElem?_append_right (by omega), List.getD_eq_getElem?_getD, List.getElem?_eq_none (by omega : as.length ≤ i), List.getElem?_replicate, if_pos (by omega)]; rfl
section
variable {P : Program} {w : World} {K : PySem.W.Frag} {mg : Str → Option Value} {base : Heap}
/-- THE RULE for a def -/
theorem fn_p {x qual : Str} {st : Stmt} {f : Addr} {fd : FuncData} {N ps : List Str} {k : Nat} {p : PSp} {t : TXS} (F : Fun K x qual st f fd) (S : FnScope N ps (defScope st)) (len : ∀ x as μ Q, p x as μ Q → as.length = ps.length)
    (hp : ∀ x as μ Q, p x as μ Q → t { nx := fun _ μ => Q (.d .non) μ, rt := Q, ex := x } (startP N.length as) μ)
    (hb : ∀ (cdv : Value) (A : Around) (outer : List Env) (s : Shared) (H : Hp) (E : XK), Room k (A.deeper (envOfC qual (defScope st) s.heap.objs.size f cdv)) →
      PXSs (cxOf (L2.CX P w) P w K mg base N qual (defScope st) f cdv A outer s H E) (fun cls d _ H => E cls d H) (defBody st) t) :
    FnOk P w K mg base (L2.CX P w) (k + 1) f fd ps (low K p) := by
  refine F.okX S (fun vs H Q E h => ?_) fun cdv A outer s H vs Q E hr h => ?_
  · obtain ⟨A, as, μ, G, Qp, x, c, r, hq, _⟩ := h
    rw [← r.length]
    exact len _ _ _ _ hq
  · obtain ⟨A', as, μ, G, Qp, x, c, r, hq, hx, hk⟩ := h
    refine ⟨_, (hb cdv A outer s H E hr).ps, A', startP N.length as, μ, G, _, sim_start c r, hp _ _ _ _ hq, ?_⟩
    refine ⟨fun ρ' μ' A2 σ' G' H' q S' s' => hk _ _ _ _ _ _ q S'.toCells s' .non, fun _ _ _ _ _ _ q => q.elim, fun _ _ _ _ _ _ q => q.elim, fun r μ' A2 G' H' v q c' s' r' => hk _ _ _ _ _ _ q c' s' r', ?_⟩
    exact fun C fs μ' A2 G' H' d σ q c' s' e => hx C fs μ' A2 G' H' d q c' s' e
end

def cellsOf : List SV → List Nat
  | [] => []
  | .c k :: r => k :: cellsOf r
  | _ :: r => cellsOf r
def relab (n : Nat) : List SV → List SV
  | [] => []
  | .c _ :: r => .c n :: relab (n + 1) r
  | s :: r => s :: relab n r
def nocell : Cell := .lst []
def picked (μ : Mem) (ks : List Nat) : Mem := ks.map fun k => μ.getD k nocell
def merge : Mem → List Nat → Mem → Mem
  | μ, [], _ => μ
  | μ, _ :: _, [] => μ
  | μ, k :: ks, c :: cs => merge (μ.set k c) ks cs
termination_by structural _ ks => ks
theorem merge_length : ∀ (ks : List Nat) (μ cs : Mem), (merge μ ks cs).length = μ.length
  | [], μ, cs => by cases cs <;> rfl
  | k :: ks, μ, [] => rfl
  | k :: ks, μ, c :: cs => by
    show (merge (μ.set k c) ks cs).length = _
    rw [merge_length ks, List.length_set]
theorem merge_out : ∀ (ks : List Nat) (μ cs : Mem) (j : Nat), j ∉ ks → (merge μ ks cs)[j]? = μ[j]?
  | [], μ, cs, j, _ => by cases cs <;> rfl
  | k :: ks, μ, [], j, _ => rfl
  | k :: ks, μ, c :: cs, j, h => by
    show (merge (μ.set k c) ks cs)[j]? = _
    rw [merge_out ks _ _ _ (fun z => h (List.mem_cons_of_mem _ z)), List.getElem?_set_ne (fun e => h (by rw [e]; exact List.mem_cons_self))]
theorem merge_in : ∀ (ks : List Nat) (μ cs : Mem) (i j : Nat), ks.Nodup → ks[i]? = some j → i < cs.length → j < μ.length → (merge μ ks cs)[j]? = cs[i]?
  | [], _, _, _, _, _, h, _, _ => by simp at h
  | k :: ks, μ, [], i, j, _, _, h, _ => by simp at h
  | k :: ks, μ, c :: cs, 0, j, nd, h, _, hj => by
    simp at h
    subst h
    show (merge (μ.set k c) ks cs)[k]? = _
    rw [merge_out ks _ _ _ (List.nodup_cons.mp nd).1, List.getElem?_set_self hj]
    rfl
  | k :: ks, μ, c :: cs, i + 1, j, nd, h, hl, hj => by
    show (merge (μ.set k c) ks cs)[j]? = _
    rw [merge_in ks _ _ i j (List.nodup_cons.mp nd).2 (by simpa using h) (by simpa using hl) (by simpa using hj)]
    simp
/-- a call of a def that promises p -/
def ndP (ks : List Nat) (A : Prop) : Prop := match ks with
  | [] => A
  | [_] => A
  | ks => ks.Nodup ∧ A
theorem ndP_of {ks : List Nat} {A : Prop} (h : ndP ks A) : ks.Nodup ∧ A := by
  match ks, h with
  | [], h => exact ⟨List.nodup_nil, h⟩
  | [_], h => exact ⟨by simp, h⟩
  | _ :: _ :: _, h => exact h
/-- what a call takes and gives back are cells without cells -/
def flP (cs : Mem) (A : Prop) : Prop := match cs with
  | [] => A
  | c :: cs => flat1 c = true ∧ flP cs A
theorem flP_of {A : Prop} : ∀ {cs : Mem}, flP cs A → (∀ c ∈ cs, flat1 c = true) ∧ A
  | [], h => ⟨fun c hc => by simp at hc, h⟩
  | c :: cs, h => by
    obtain ⟨h1, h2⟩ := h
    obtain ⟨h3, h4⟩ := flP_of h2
    exact ⟨fun d hd => (List.mem_cons.mp hd).elim (fun e => by rw [e]; exact h1) (h3 d), h4⟩
def callP (p : PSp) (x : XP) (ss : List SV) (μ : Mem) (Q : VP) : Prop := ndP (cellsOf ss) <| flP (picked μ (cellsOf ss)) <|
  p (fun C fs μ' => flP (μ'.take (cellsOf ss).length) (x C fs (merge μ (cellsOf ss) μ'))) (relab 0 ss) (picked μ (cellsOf ss)) fun r μ' => flP (μ'.take (cellsOf ss).length) <| match r with
    | .d d => Q (.d d) (merge μ (cellsOf ss) μ')
    | .c j => if j < (cellsOf ss).length then Q (.c ((cellsOf ss).getD j 0)) (merge μ (cellsOf ss) μ') else flP [μ'.getD j nocell] (Q (.c μ.length) (merge μ (cellsOf ss) μ' ++ [μ'.getD j nocell]))
    | .un => False
section
variable {K : PySem.W.Frag} {A : List Addr} {μ : Mem} {G H : Hp}
def pickA (A : List Addr) (ks : List Nat) : List Addr := ks.map fun k => A.getD k 0
theorem cellsOf_ok : ∀ {ss : List SV} {vs : List V}, RepsS K A G ss vs → ∀ k ∈ cellsOf ss, k < A.length
  | [], _, _, k, h => by simp [cellsOf] at h
  | .c j :: r, _, .cons h t, k, hk => by
    obtain ⟨a, e, _⟩ := h
    rcases List.mem_cons.mp (show k ∈ j :: cellsOf r from hk) with z | z
    · rw [z]; exact (List.getElem?_eq_some_iff.mp e).1
    · exact cellsOf_ok t k z
  | .d _ :: r, _, .cons h t, k, hk => cellsOf_ok t k hk
  | .un :: r, _, .cons h t, k, hk => cellsOf_ok t k hk
theorem relab_ok {B : List Addr} : ∀ {ss : List SV} {vs : List V} (n : Nat), RepsS K A G ss vs → (∀ i k a, (cellsOf ss)[i]? = some k → A[k]? = some a → B[n + i]? = some a) → RepsS K B G (relab n ss) vs
  | [], _, _, .nil, _ => .nil
  | .c j :: r, _, n, .cons h t, hb => by
    obtain ⟨a, e, rfl⟩ := h
    refine .cons ⟨a, by simpa using hb 0 j a rfl e, rfl⟩ (relab_ok (n + 1) t fun i k a h1 h2 => ?_)
    have := hb (i + 1) k a (by simpa [cellsOf] using h1) h2
    rw [show n + 1 + i = n + (i + 1) by omega]
    exact this
  | .d x :: r, _, n, .cons h t, hb => .cons h (relab_ok n t hb)
  | .un :: r, _, n, .cons h t, hb => .cons h (relab_ok n t hb)
theorem pickA_at {ks : List Nat} (h : ∀ k ∈ ks, k < A.length) {i : Nat} {k : Nat} (e : ks[i]? = some k) : ∃ a, A[k]? = some a ∧ (pickA A ks)[i]? = some a := by
  have hk := h k (List.mem_of_getElem? e)
  refine ⟨A[k], List.getElem?_eq_getElem hk, ?_⟩
  unfold pickA
  rw [List.getElem?_map, e]
  show some (A.getD k 0) = _
  rw [List.getD_eq_getElem?_getD, List.getElem?_eq_getElem hk]
  rfl
theorem pickA_mem {ks : List Nat} (h : ∀ k ∈ ks, k < A.length) {a : Addr} (ha : a ∈ pickA A ks) : ∃ k ∈ ks, A[k]? = some a := by
  obtain ⟨k, hk, rfl⟩ := List.mem_map.mp ha
  refine ⟨k, hk, ?_⟩
  rw [List.getD_eq_getElem?_getD, List.getElem?_eq_getElem (h k hk)]
  rfl
theorem Cells.at_inj (c : Cells K A μ G H) {i j : Nat} {a : Addr} (h1 : A[i]? = some a) (h2 : A[j]? = some a) : i = j := by
  obtain ⟨l1, e1⟩ := List.getElem?_eq_some_iff.mp h1
  obtain ⟨l2, e2⟩ := List.getElem?_eq_some_iff.mp h2
  exact (List.getElem_inj c.nd).mp (e1.trans e2.symm)
theorem nodup_map_on {α β : Type} {f : α → β} : ∀ {l : List α}, l.Nodup → (∀ x ∈ l, ∀ y ∈ l, f x = f y → x = y) → (l.map f).Nodup
  | [], _, _ => List.nodup_nil
  | x :: l, nd, h => by
    obtain ⟨h1, h2⟩ := List.nodup_cons.mp nd
    rw [List.map_cons]
    refine List.nodup_cons.mpr ⟨fun hm => ?_, nodup_map_on h2 fun a ha b hb => h a (List.mem_cons_of_mem _ ha) b (List.mem_cons_of_mem _ hb)⟩
    obtain ⟨y, hy, e⟩ := List.mem_map.mp hm
    exact h1 (h x List.mem_cons_self y (List.mem_cons_of_mem _ hy) e.symm ▸ hy)
theorem Cells.pick (c : Cells K A μ G H) {ks : List Nat} (h : ∀ k ∈ ks, k < A.length) (nd : ks.Nodup) (fl : ∀ c ∈ picked μ ks, flat1 c = true) : Cells K (pickA A ks) (picked μ ks) G H where
  le := c.le
  len := by simp [pickA, picked]
  nd := by
    unfold pickA
    refine nodup_map_on nd fun i hi j hj e => ?_
    have h1 := List.getElem?_eq_getElem (h i hi)
    have h2 := List.getElem?_eq_getElem (h j hj)
    refine c.at_inj h1 ?_
    rw [List.getD_eq_getElem?_getD, List.getD_eq_getElem?_getD, h1, h2] at e
    rw [h2]; exact congrArg some e.symm
  free := fun a ha => let ⟨k, _, e⟩ := pickA_mem h ha; c.free a (List.mem_of_getElem? e)
  ok := fun i a cl h1 h2 => by
    have hi : i < ks.length := by
      have := (List.getElem?_eq_some_iff.mp h1).1
      simpa [pickA] using this
    obtain ⟨b, e1, e2⟩ := pickA_at h (List.getElem?_eq_getElem hi)
    rw [h1] at e2; cases e2
    have hfl := fl cl (List.mem_of_getElem? h2)
    unfold picked at h2
    rw [List.getElem?_map, List.getElem?_eq_getElem hi] at h2
    have h2 : μ.getD ks[i] nocell = cl := Option.some.inj h2
    have hm : ks[i] < μ.length := by rw [← c.len]; exact h _ (List.getElem_mem hi)
    rw [List.getD_eq_getElem?_getD, List.getElem?_eq_getElem hm] at h2
    refine (c.ok _ _ _ e1 ?_).flat hfl
    rw [List.getElem?_eq_getElem hm]
    exact congrArg some h2
/-- behind a call: the caller's cells -/
theorem Cells.back (c : Cells K A μ G H) {ks : List Nat} (h : ∀ k ∈ ks, k < A.length) (nd : ks.Nodup) {A' : List Addr} {μ' : Mem} {G' H' : Hp} (c' : Cells K A' μ' G' H') (s' : Step (pickA A ks) G H A' G' H') (fl : ∀ c ∈ μ'.take ks.length, flat1 c = true) :
    Cells K A (merge μ ks μ') G' H' ∧ Step A G H A G' H' := by
  have sub : ∀ a, a ∉ A → a ∉ pickA A ks := fun a n z => let ⟨k, _, e⟩ := pickA_mem h z; n (List.mem_of_getElem? e)
  have hasH : ∀ a ∈ A, H a ≠ none := fun a ha z => c.ne_of_lt ha z rfl
  refine ⟨⟨c'.le, by rw [merge_length]; exact c.len, c.nd, fun a ha => ?_, fun j a cl h1 h2 => ?_⟩, ⟨List.prefix_refl _, s'.le, fun a o e n => s'.keep a o e (sub a n), s'.new, s'.tups, fun a ha => .inl ha, s'.there⟩⟩
  · cases q : G' a with
    | none => rfl
    | some o =>
      rcases s'.new a (by rw [q]; simp) with z | z | ⟨xs, z⟩
      · exact absurd (c.free a ha) z
      · exact absurd z (hasH a ha)
      · obtain ⟨k, hk⟩ := List.mem_iff_getElem?.mp ha
        have hl : k < μ.length := by rw [← c.len]; exact (List.getElem?_eq_some_iff.mp hk).1
        exact absurd z (c.ok k a _ hk (List.getElem?_eq_getElem hl)).notup
  · have hjl : j < μ.length := by rw [← c.len]; exact (List.getElem?_eq_some_iff.mp h1).1
    by_cases hj : j ∈ ks
    · obtain ⟨i, hi⟩ := List.mem_iff_getElem?.mp hj
      obtain ⟨b, e1, e2⟩ := pickA_at h hi
      rw [h1] at e1; cases e1
      obtain ⟨B, rfl⟩ := s'.pre
      have hil := (List.getElem?_eq_some_iff.mp e2).1
      have e3 : (pickA A ks ++ B)[i]? = some a := by rw [List.getElem?_append_left hil]; exact e2
      have hm : i < μ'.length := by rw [← c'.len, List.length_append]; omega
      rw [merge_in ks μ μ' i j nd hi hm hjl] at h2
      refine (c'.ok i a cl e3 h2).flat (fl cl (List.mem_of_getElem? (i := i) ?_))
      rw [List.getElem?_take, if_pos (by simpa [pickA] using hil)]; exact h2
    · rw [merge_out ks μ μ' j hj] at h2
      have ok := c.ok j a cl h1 h2
      obtain ⟨o, e⟩ := ok.some
      have na : a ∉ pickA A ks := fun z => by
        obtain ⟨k, hk, e⟩ := pickA_mem h z
        exact hj ((c.at_inj h1 e) ▸ hk)
      refine ok.mono (List.prefix_refl _) s'.le ?_
      rcases s'.keep a o e na with q | ⟨q, _⟩
      · rw [q, e]
      · rw [c.free a (List.mem_of_getElem? h1)] at q; cases q
end
section
variable {X : Cx} {W : WX} {a b c e : Expr} {es : List Expr} {tL tK : TXA} {pos ppos : Pos} {x : Str}
/-- the promise at a call gives what is wanted there -/
theorem call_low {K : PySem.W.Frag} {p : PSp} {x : XP} {ss : List SV} {vs : List V} {A : List Addr} {μ : Mem} {G H : Hp} {Qp : VP} {Q : VK} (h : callP p x ss μ Qp) (c : Cells K A μ G H) (r : RepsS K A G ss vs) (hx : ExTo K W A G H x)
    (k : ∀ r μ' A' G' H' v, Qp r μ' → Cells K A' μ' G' H' → Step A G H A' G' H' → RepS K A' G' r v → Q v H') : low K p vs H Q (fun cls d H' => ∀ σ, W cls d σ H') := by
  obtain ⟨nd, h⟩ := ndP_of h
  obtain ⟨fl, h⟩ := flP_of h
  have hk := cellsOf_ok r
  refine ⟨pickA A (cellsOf ss), relab 0 ss, picked μ (cellsOf ss), G, _, _, c.pick hk nd fl, relab_ok 0 r (fun i k a e1 e2 => ?_), h, fun C fs μ' A' G' H' d q c' s' e σ => ?_, fun r' μ' A' G' H' v q c' s' rr => ?_⟩
  · obtain ⟨b, e3, e4⟩ := pickA_at hk e1
    rw [e2] at e3; cases e3
    rw [Nat.zero_add]; exact e4
  · obtain ⟨fl2, q⟩ := flP_of q
    obtain ⟨c2, s2⟩ := c.back hk nd c' s' fl2
    exact hx C fs _ A G' H' d σ q c2 s2 e
  · obtain ⟨fl2, q⟩ := flP_of q
    obtain ⟨c2, s2⟩ := c.back hk nd c' s' fl2
    match r', q, rr with
    | .d d, q, rr => exact k _ _ _ _ _ _ q c2 s2 rr
    | .c j, q, rr =>
      obtain ⟨b, hb, rfl⟩ := rr
      obtain ⟨B, rfl⟩ := s'.pre
      have hl : (pickA A (cellsOf ss)).length = (cellsOf ss).length := by simp [pickA]
      by_cases hj : j < (cellsOf ss).length
      · have q := (show (if j < (cellsOf ss).length then _ else _ : Prop) from q)
        rw [if_pos hj] at q
        refine k _ _ _ _ _ _ q c2 s2 ⟨b, ?_, rfl⟩
        rw [List.getElem?_append_left (by rw [hl]; exact hj)] at hb
        obtain ⟨b', e3, e4⟩ := pickA_at hk (List.getElem?_eq_getElem hj)
        rw [hb] at e4; cases e4
        rw [List.getD_eq_getElem?_getD, List.getElem?_eq_getElem hj]
        exact e3
      · have q := (show (if j < (cellsOf ss).length then _ else _ : Prop) from q)
        rw [if_neg hj] at q
        obtain ⟨fl3, q⟩ := flP_of q
        have hbm : b ∈ pickA A (cellsOf ss) ++ B := List.mem_of_getElem? hb
        have nb : b ∉ pickA A (cellsOf ss) := fun z => by
          obtain ⟨i, hi⟩ := List.mem_iff_getElem?.mp z
          have hil := (List.getElem?_eq_some_iff.mp hi).1
          have := c'.at_inj hb (by rw [List.getElem?_append_left hil]; exact hi)
          omega
        have fresh : H b = none := (s'.cells b hbm).resolve_left nb
        have nA : b ∉ A := fun z => c.ne_of_lt z fresh rfl
        have hjm : j < μ'.length := by rw [← c'.len]; exact (List.getElem?_eq_some_iff.mp hb).1
        have gcell : μ'[j]? = some (μ'.getD j nocell) := by rw [List.getD_eq_getElem?_getD, List.getElem?_eq_getElem hjm]; rfl
        refine k _ _ (A ++ [b]) G' H' _ q ⟨c2.le, by rw [List.length_append, List.length_append, c2.len]; rfl, ?_, fun a ha => ?_, fun i a cl h1 h2 => ?_⟩ ⟨List.prefix_append _ _, s2.le, s2.keep, s2.new, s2.tups, fun a ha => ?_, s2.there⟩ ⟨b, by rw [← c.len]; simp, rfl⟩
        · refine List.nodup_append.mpr ⟨c.nd, by simp, fun a ha d hd => ?_⟩
          simp at hd
          subst hd
          exact fun z => nA (z ▸ ha)
        · rcases List.mem_append.mp ha with z | z
          · exact c2.free a z
          · simp at z; subst z; exact c'.free a hbm
        · rcases getElem?_append_one h1 with h1 | ⟨z1, z2⟩
          · have : i < (merge μ (cellsOf ss) μ').length := by rw [← c2.len]; exact (List.getElem?_eq_some_iff.mp h1).1
            rw [List.getElem?_append_left this] at h2
            exact (c2.ok i a cl h1 h2).mono (List.prefix_append _ _) (LeZ.refl _) rfl
          · subst z2
            rw [z1, c2.len, List.getElem?_append_right (Nat.le_refl _)] at h2
            simp at h2
            subst h2
            exact (c'.ok j a _ hb gcell).flat (fl3 _ (by simp))
        · rcases List.mem_append.mp ha with z | z
          · exact .inl z
          · simp at z; subst z; exact .inr fresh
def xUser (p : PSp) (t : TXA) : TX := fun x ρ μ Q => t x ρ μ fun ss μ1 => callP p x ss μ1 Q
theorem px_call {k : Nat} {f : Addr} {fd : FuncData} {ps : List Str} {p : PSp} (tk : Takes X W) (F : FnOk X.prog X.w X.K X.mg X.base (L2.CX X.prog X.w) k f fd ps (low X.K p)) (hr : Room k X.A) (hg : Gl X x) (hm : X.mg x = some (.ref f)) (hk : PySem.W.keepIn X.K (.ref f) = true)
    (hb : Binds X.K fd ps []) (ha : PXA X W (e :: es) tL) (hdb : (x == ("__debug__" : Str)) = false := by decide) (he : starEach (e :: es) X.env = (false, eval e X.env) :: starEach es X.env := by rfl) (hpl : (backTo pos (starEach es X.env)).any (·.1) = false := by rfl) :
    PX X W (.Call (.Name x ppos) (e :: es) [] pos) (xUser p tL) := by
  refine ⟨(pe_call F hr hg hm hk hb .nil (E := fun cls d H' => ∀ σ, W cls d σ H') (passes_call tk fun _ _ σ _ h => h σ) ha.pa hdb he hpl).imp fun σ H Q h => ?_⟩
  obtain ⟨A, ρ, μ, G, Qp, xp, S, ht, hx, k⟩ := h
  refine ⟨A, ρ, μ, G, _, xp, S, ht, hx, fun ss μ1 A1 G1 H1 vs q c1 s1 r1 => ?_⟩
  show low X.K p (vs ++ []) H1 Q _
  rw [List.append_nil]
  exact call_low q c1 r1 (hx.after s1) fun r μ' A' G' H' v q3 c3 s3 r3 => k r μ' A' G' H' v q3 c3 (s1.trans s3) r3
end
end PL
namespace PL
open PySem PySem.Spec PyProof.Rows L2
def permG {α : Type} (z : α) (perm : List Nat) (us ws : List α) : List α := perm.map fun i => (us ++ ws).getD i z
theorem permG_rel {perm : List Nat} {vs : List V} {us : List Value} {zs : List V} {ws : List Value} (r1 : Vals vs us) (r2 : Vals zs ws) : Vals (permG .non perm vs zs) (permG Value.none perm us ws) := by
  have r := r1.append r2
  unfold permG
  induction perm with
  | nil => exact .nil
  | cons i perm ih =>
    refine .cons ?_ ih
    show RelV ((vs ++ zs).getD i .non) ((us ++ ws).getD i Value.none)
    rw [List.getD_eq_getElem?_getD, List.getD_eq_getElem?_getD]
    cases e : (vs ++ zs)[i]? with
    | none => rw [r.none_of e]; rfl
    | some x =>
      obtain ⟨u, h1, h2⟩ := r.get e
      rw [h1]; exact h2
theorem kbn_of {K : PySem.W.Frag} {x qual : Str} {params : Arguments} {body : List Stmt} {scope : Scope} {kws : List (Str × V)} {f : Addr} {fd : FuncData} {ps : List Str} (F : FunD K x qual params body scope [] kws f fd) (n : Nat) (ks : List Str) (perm : List Nat)
    (h : ∀ (kV doc pm : Value) (an : Option Addr) (cdv ct : Value) (us ws : List Value), us.length = n → ws.length = ks.length → bindArgs (PySem.W.fnOf x qual params body scope .none kV doc pm an cdv ct) ⟨us, ks.zip ws⟩ = pure (ps.zip (permG Value.none perm us ws))) :
    KBn K fd ps n ks (permG Value.none perm) (permG .non perm) := by
  obtain ⟨oc, od, dV, kV, doc, pm, an, cdv, ct, osl, rfl, lk, hcd, hD, hK⟩ := F.ex
  rcases hD with ⟨_, rfl⟩ | ⟨e, _⟩
  · exact ⟨fun s us ws _ h1 h2 => .of_eq (h kV doc pm an cdv ct us ws h1 h2), fun r1 r2 => permG_rel r1 r2⟩
  · exact absurd rfl e
structure PXK (X : Cx) (W : WX) (kws : List Keyword) (t : TXA) : Prop where
  pk : PK X kws (liftA X.K W t)
theorem _root_.L2.PK.imp {X : Cx} {e : List Keyword} {t t' : TA} (h : PK X e t) (i : ∀ σ H Q, t' σ H Q → t σ H Q) : PK X e t' := ⟨fun pos pins s σ H Q I q => h.run pos pins s σ H Q I (i _ _ _ q)⟩
section
variable {X : Cx} {W : WX} {a b c e o : Expr} {es : List Expr} {kws : List Keyword} {ta tb tc te to : TX} {tL tK : TXA} {pos ppos kpos apos cpos : Pos} {x : Str} {nm : Option Str}
theorem pxk_nil : PXK X W [] xNil := by
  refine ⟨pk_nil.imp fun σ H Q h => ?_⟩
  obtain ⟨A, ρ, μ, G, Qp, xp, S, ht, hx, k⟩ := h
  exact k _ _ _ _ _ _ ht S.toCells .refl .nil
theorem pxk_cons (ha : PX X W e ta) (hr : PXK X W kws tL) : PXK X W (⟨nm, e, kpos⟩ :: kws) (xCons ta tL) := by
  refine ⟨(pk_cons ha.pe hr.pk).imp fun σ H Q h => ?_⟩
  obtain ⟨A, ρ, μ, G, Qp, xp, S, ht, hx, k⟩ := h
  refine ⟨A, ρ, μ, G, _, xp, S, ht, hx, fun r μ' A' G' H' v q c s rr => ?_⟩
  exact ⟨A', ρ, μ', G', _, xp, S.after s c, q, hx.after s, fun rs μ2 A2 G2 H2 vs q2 c2 s2 rr2 => k _ _ _ _ _ _ q2 c2 (s.trans s2) (.cons (rr.mono s2.pre s2.le) rr2)⟩
theorem RepsS.app {K : PySem.W.Frag} {A : List Addr} {G : Hp} : ∀ {ds es : List SV} {vs us : List V}, RepsS K A G ds vs → RepsS K A G es us → RepsS K A G (ds ++ es) (vs ++ us)
  | _, _, _, _, .nil, t => t
  | _, _, _, _, .cons r s, t => .cons r (RepsS.app s t)
theorem RepsS.at {K : PySem.W.Frag} {A : List Addr} {G : Hp} : ∀ {ds : List SV} {vs : List V} (i : Nat), RepsS K A G ds vs → RepS K A G (ds.getD i .un) (vs.getD i .non)
  | _, _, _, .nil => by simp; trivial
  | _, _, 0, .cons r _ => by simpa using r
  | _, _, i + 1, .cons _ t => by simpa using RepsS.at i t
theorem permG_reps {K : PySem.W.Frag} {A : List Addr} {G : Hp} {ds es : List SV} {vs us : List V} (r1 : RepsS K A G ds vs) (r2 : RepsS K A G es us) : ∀ perm : List Nat, RepsS K A G (permG .un perm ds es) (permG .non perm vs us)
  | [] => .nil
  | i :: perm => .cons (RepsS.at i (r1.app r2)) (permG_reps r1 r2 perm)
def xUserK (p : PSp) (n m : Nat) (perm : List Nat) (t tk : TXA) : TX := fun x ρ μ Q => t x ρ μ fun ss μ1 => tk x ρ μ1 fun zs μ2 => (ss.length = n ∧ zs.length = m) ∧ callP p x (permG .un perm ss zs) μ2 Q
/-- f(k = v, ..) -/
theorem px_callKw0 {k : Nat} {f : Addr} {fd : FuncData} {ps ks : List Str} {p : PSp} {perm : List Nat} (tk : Takes X W) (F : FnOk X.prog X.w X.K X.mg X.base (L2.CX X.prog X.w) k f fd ps (low X.K p)) (hr : Room k X.A) (hg : Gl X x) (hm : X.mg x = some (.ref f)) (hk : PySem.W.keepIn X.K (.ref f) = true)
    (hb : KBn X.K fd ps 0 ks (permG Value.none perm) (permG .non perm)) (hkw : PXK X W kws tK) (hall : (backToKw pos (keywordEach kws X.env)).all (·.1.isSome) = true := by rfl) (hks : (backToKw pos (keywordEach kws X.env)).filterMap (·.1) = ks := by rfl)
    (hdb : (x == ("__debug__" : Str)) = false := by decide)
    (hpl : ((backTo pos (starEach [] X.env)).any (·.1) || (backToKw pos (keywordEach kws X.env)).any (·.1.isNone)) = false := by rfl) : PX X W (.Call (.Name x ppos) [] kws pos) (xUserK p 0 ks.length perm xNil tK) := by
  refine ⟨⟨fun pins s σ H Q I h => ?_⟩⟩
  obtain ⟨A, ρ, μ, G, Qp, xp, S, ht, hx, k⟩ := h
  refine wpAny_Call_Name_kw (ld_glob I hg hm ?_ hdb)
  refine PySem.W.callWith_KW0 (h₀ := X.base) I.ok.mod.kin hk hall ?_ hpl
  refine thn (hkw.pk.run pos pins s σ H (fun us H2 => us.length = ks.length ∧ low X.K p (permG .non perm [] us) H2 Q (fun cls d H' => ∀ σ, W cls d σ H')) I ?_) fun ws s2 ⟨zs, H2, I2, rz, l2, q2⟩ => ⟨I2.kIn, ?_⟩
  · refine ⟨A, ρ, μ, G, _, xp, S, ht, hx, fun zs μ2 A2 G2 H2 us q2 c2 s2 r2 => ?_⟩
    obtain ⟨⟨l1, l2⟩, q2⟩ := q2
    refine ⟨by rw [← r2.length]; exact l2, ?_⟩
    exact call_low q2 c2 (permG_reps .nil r2 perm) (hx.after s2) fun r μ' A' G' H' v q3 c3 s3 r3 => k r μ' A' G' H' v q3 c3 (s2.trans s3) r3
  · rw [hks]
    exact run_fnN (us := []) (vs := []) F hr hb (passes_call tk fun _ _ σ _ h => h σ) I2 .nil rz rfl l2 q2

/-- the def at f keeps p -/
structure HeldP (P : Program) (w : World) (K : PySem.W.Frag) (mg : Str → Option Value) (base : Heap) (k : Nat) (f : Addr) (p : PSp) : Prop where
  ex : ∃ (fd : FuncData) (ps : List Str), FnOk P w K mg base (L2.CX P w) k f fd ps (low K p) ∧ PySem.W.keepIn K (.ref f) = true ∧ Binds K fd ps []
def PMt (K : PySem.W.Frag) (r : V → List V → Hp → VK → Prop) (P : SV → List SV → Mem → VP → Prop) : Prop := ∀ (so : SV) (ss : List SV) (μ : Mem) (A : List Addr) (G H : Hp) (v : V) (vs : List V) (Qp : VP) (Q : VK), P so ss μ Qp → Cells K A μ G H → RepS K A G so v → RepsS K A G ss vs →
  (∀ r μ' A' G' H' v, Qp r μ' → Cells K A' μ' G' H' → Step A G H A' G' H' → RepS K A' G' r v → Q v H') → r v vs H Q
def xMeth (P : SV → List SV → Mem → VP → Prop) (to : TX) (t : TXA) : TX := fun x ρ μ Q => to x ρ μ fun so μ1 => (lstOf so μ1).isSome = true ∧ t x ρ μ1 fun ss μ2 => P so ss μ2 Q
theorem px_lmeth {name : Str} {id : String} {r : V → List V → Hp → VK → Prop} {P : SV → List SV → Mem → VP → Prop} (slot : Slot "list" name id) (hty : typeOf (.builtin id) = pure (.type "method_descriptor")) (hm : MtR X id r) (hp : PMt X.K r P) (ho : PX X W o to) (ha : PXA X W (e :: es) tL)
    (hbase : attributeBase o name X.env (eval o X.env) = eval o X.env := by rfl)
    (hfew : ((backTo cpos (starEach (e :: es) X.env)).all (fun x => !x.1) && (backToKw cpos (keywordEach [] X.env)).all (fun x => x.1.isSome)
      && decide ((e :: es).length + ([] : List Keyword).length + (if ([] : List Keyword).isEmpty then 0 else 1) < 30)) = true := by rfl)
    (hline : (apos.endLine == cpos.line) = true := by rfl) (hs : starEach (e :: es) X.env = (false, eval e X.env) :: starEach es X.env := by rfl) (hplain : (backTo cpos (starEach es X.env)).any (·.1) = false := by rfl) :
    PX X W (.Call (.Attribute o name apos) (e :: es) [] cpos) (xMeth P to tL) := by
  refine ⟨(pe_bm PySem.F.plainAttrs_list slot hty hm ho.pe ha.pa hbase hfew hline hs hplain).imp fun σ H Q h => ?_⟩
  obtain ⟨A, ρ, μ, G, Qp, xp, S, ht, hx, k⟩ := h
  refine ⟨A, ρ, μ, G, _, xp, S, ht, hx, fun so μ1 A1 G1 H1 v q c1 s1 r1 => ?_⟩
  obtain ⟨hl, q⟩ := q
  obtain ⟨l, hl⟩ := Option.isSome_iff_exists.mp hl
  obtain ⟨a, us, rfl, h1, h2⟩ := lstOf_rep hl c1 r1
  refine ⟨Or.inl ⟨rfl, _, SqL.of h1⟩, A1, ρ, μ1, G1, _, xp, S.after s1 c1, q, hx.after s1, fun ss μ2 A2 G2 H2 vs q2 c2 s2 r2 => ?_⟩
  exact hp so ss μ2 A2 G2 H2 _ vs Qp Q q2 c2 (r1.mono s2.pre s2.le) r2 fun r μ' A' G' H' v q3 c3 s3 r3 => k r μ' A' G' H' v q3 c3 ((s1.trans s2).trans s3) r3
/-- l.append(x) -/
def pAppend : SV → List SV → Mem → VP → Prop := fun so ss μ Q => match so, ss with
  | .c k, [.d y] => match μ[k]? with
    | some (.lst l) => l.length < sizeLine ∧ Q (.d .non) (μ.set k (.lst (l ++ [y])))
    | _ => False
  | _, _ => False
theorem pmt_append {K : PySem.W.Frag} : PMt K rAppend pAppend := by
  intro so ss μ A G H v vs Qp Q h c ro rs k
  match so, ss, h, ro, rs with
  | .c kk, [.d y], h, ro, .cons r .nil =>
    obtain ⟨a, ha, rfl⟩ := ro
    simp only [pAppend] at h
    split at h
    · rename_i l hk
      obtain ⟨hz, h⟩ := h
      obtain ⟨us, h1, h2⟩ := c.ok _ _ _ ha hk
      refine ⟨a, us, _, rfl, rfl, h1, by rw [← h2.length]; exact hz, ?_⟩
      obtain ⟨c3, s3⟩ := c.write (o := .lst (us ++ [_])) (cl := .lst (l ++ [y])) ha ⟨_, upd_same, h2.app (.cons r .nil)⟩
      exact k _ _ _ _ _ _ h c3 s3 .non
    · exact h.elim
theorem px_append (ho : PX X W o to) (ha : PXA X W [e] tL) (hbase : attributeBase o "append" X.env (eval o X.env) = eval o X.env := by rfl)
    (hfew : ((backTo cpos (starEach [e] X.env)).all (fun x => !x.1) && (backToKw cpos (keywordEach [] X.env)).all (fun x => x.1.isSome)
      && decide ([e].length + ([] : List Keyword).length + (if ([] : List Keyword).isEmpty then 0 else 1) < 30)) = true := by rfl)
    (hline : (apos.endLine == cpos.line) = true := by rfl) (hs : starEach [e] X.env = (false, eval e X.env) :: starEach [] X.env := by rfl) : PX X W (.Call (.Attribute o "append" apos) [e] [] cpos) (xMeth pAppend to tL) :=
  px_lmeth PySem.F.slot_list_append PySem.F.type_list_append mt_append pmt_append ho ha hbase hfew hline hs rfl
end
end PL
namespace PL
open PySem PySem.Spec PyProof.Rows L2
def keyOf : D → Option Key
  | .int i => some (.inl i)
  | .str x => some (.inr x)
  | _ => none
def keysOf : List D → Option (List Key)
  | [] => some []
  | d :: ds => match keyOf d, keysOf ds with
    | some k, some ks => some (k :: ks)
    | _, _ => none
theorem keyOf_eq {d : D} {k : Key} (h : keyOf d = some k) : d = keyD k := by
  cases d <;> simp [keyOf] at h
  all_goals subst h; rfl
theorem keysOf_eq : ∀ {l : List D} {ks : List Key}, keysOf l = some ks → l = ks.map keyD
  | [], ks, h => by simp [keysOf] at h; subst h; rfl
  | d :: ds, ks, h => by
    unfold keysOf at h
    split at h
    · rename_i k ks' h1 h2
      cases h
      rw [keyOf_eq h1, keysOf_eq h2]; rfl
    · cases h
theorem keyD_inj {a b : Key} (h : keyD a = keyD b) : a = b := by
  cases a <;> cases b <;> simp [keyD] at h
  all_goals rw [h]
theorem keysD_inj : ∀ {a b : List Key}, a.map keyD = b.map keyD → a = b
  | [], [], _ => rfl
  | [], _ :: _, h => by simp at h
  | _ :: _, [], h => by simp at h
  | x :: a, y :: b, h => by
    simp only [List.map_cons, List.cons.injEq] at h
    rw [keyD_inj h.1, keysD_inj h.2]
theorem keyD_rep {K : PySem.W.Frag} {G : Hp} (k : Key) : Rep K G (keyD k) (kV k) := by
  cases k with
  | inl i => exact .int i
  | inr x => exact .str x
theorem keyD_reps {K : PySem.W.Frag} {G : Hp} : ∀ ks : List Key, Reps K G (ks.map keyD) (ks.map kV)
  | [] => .nil
  | k :: ks => .cons (keyD_rep k) (keyD_reps ks)
theorem keyD_val {K : PySem.W.Frag} {G : Hp} {k : Key} {v : V} (r : Rep K G (keyD k) v) : v = kV k := by
  cases k with
  | inl i => cases r; rfl
  | inr x => cases r; rfl
theorem keysD_vals {K : PySem.W.Frag} {G : Hp} : ∀ {ks : List Key} {vs : List V}, Reps K G (ks.map keyD) vs → vs = ks.map kV
  | [], _, .nil => rfl
  | k :: ks, _, .cons h t => by rw [keyD_val h, keysD_vals t]; rfl

open Classical in
noncomputable def findD : List D → List D → D → Option D
  | k :: ks, v :: vs, x => if k = x then some v else findD ks vs x
  | _, _, _ => none
open Classical in
noncomputable def putKs (ks : List D) (k : D) : List D := if k ∈ ks then ks else ks ++ [k]
open Classical in
noncomputable def putVs (ks vs : List D) (k v : D) : List D := if k ∈ ks then List.zipWith (fun k' v' => if k' = k then v else v') ks vs else vs ++ [v]
section
variable {κ : Type} [DecidableEq κ] {kd : κ → D} {K : PySem.W.Frag} {G : Hp}
theorem findD_rep (inj : ∀ a b, kd a = kd b → a = b) (k : κ) : ∀ {kvs : List (κ × V)} {vs : List D}, Reps K G vs (kvs.map Prod.snd) → (∀ v, valV kvs k = some v → ∃ d, findD (kvs.map fun p => kd p.1) vs (kd k) = some d ∧ Rep K G d v) ∧ (valV kvs k = none → findD (kvs.map fun p => kd p.1) vs (kd k) = none)
  | [], _, .nil => ⟨fun v h => (by cases h), fun _ => rfl⟩
  | p :: kvs, _, .cons r t => by
    obtain ⟨h1, h2⟩ := findD_rep inj k t
    by_cases e : p.1 = k
    · rw [valV_pos e]
      refine ⟨fun v h => ?_, fun h => by cases h⟩
      cases h
      exact ⟨_, by simp only [List.map_cons, findD]; rw [if_pos (by rw [e])], r⟩
    · have e' : ¬ kd p.1 = kd k := fun z => e (inj _ _ z)
      rw [valV_neg e]
      refine ⟨fun v h => ?_, fun h => ?_⟩
      · obtain ⟨d, q, r'⟩ := h1 v h
        exact ⟨d, by simp only [List.map_cons, findD]; rw [if_neg e']; exact q, r'⟩
      · simp only [List.map_cons, findD]; rw [if_neg e']; exact h2 h
theorem any_mem (inj : ∀ a b, kd a = kd b → a = b) (k : κ) (kvs : List (κ × V)) : (kvs.any fun kv => decide (kv.1 = k)) = true ↔ kd k ∈ kvs.map fun p => kd p.1 := by
  rw [List.any_eq_true, List.mem_map]
  constructor
  · rintro ⟨p, hp, e⟩
    exact ⟨p, hp, by rw [of_decide_eq_true e]⟩
  · rintro ⟨p, hp, e⟩
    exact ⟨p, hp, decide_eq_true (inj _ _ e)⟩
theorem put_keys (inj : ∀ a b, kd a = kd b → a = b) (kvs : List (κ × V)) (k : κ) (v : V) : (putK kvs k v).map (fun p => kd p.1) = putKs (kvs.map fun p => kd p.1) (kd k) := by
  unfold putK putKs
  by_cases h : (kvs.any fun kv => decide (kv.1 = k)) = true
  · rw [if_pos h, if_pos ((any_mem inj k kvs).mp h), List.map_map]
    refine List.map_congr_left fun p _ => ?_
    show kd (if p.1 = k then (p.1, v) else p).1 = kd p.1
    split <;> rfl
  · rw [if_neg h, if_neg (fun z => h ((any_mem inj k kvs).mpr z)), List.map_append]
    rfl
theorem put_vals (inj : ∀ a b, kd a = kd b → a = b) {kvs : List (κ × V)} {vs : List D} (r : Reps K G vs (kvs.map Prod.snd)) (k : κ) {d : D} {v : V} (rv : Rep K G d v) : Reps K G (putVs (kvs.map fun p => kd p.1) vs (kd k) d) ((putK kvs k v).map Prod.snd) := by
  unfold putK putVs
  by_cases h : (kvs.any fun kv => decide (kv.1 = k)) = true
  · rw [if_pos h, if_pos ((any_mem inj k kvs).mp h)]
    clear h
    induction kvs generalizing vs with
    | nil => cases r; exact .nil
    | cons p kvs ih =>
      cases r with
      | cons r t =>
        refine .cons ?_ (ih t)
        show Rep K G (@ite D (kd p.1 = kd k) (Classical.propDecidable _) d _) (if p.1 = k then (p.1, v) else p).2
        by_cases e : p.1 = k
        · rw [if_pos e, if_pos (by rw [e])]; exact rv
        · rw [if_neg e, if_neg (fun z => e (inj _ _ z))]; exact r
  · rw [if_neg h, if_neg (fun z => h ((any_mem inj k kvs).mpr z)), List.map_append]
    exact r.app (.cons rv .nil)
end

/-- what is read as a dict: whether its keys are tuples, its keys, its values -/
def dicOf (s : SV) (μ : Mem) : Option (Bool × List D × List D) := match s with
  | .d (.dic t ks vs) => some (t, ks, vs)
  | .c k => match μ[k]? with
    | some (.dK ks vs) => some (false, ks, vs)
    | some (.dT ks vs) => some (true, ks, vs)
    | _ => none
  | _ => none
def DicAt (K : PySem.W.Frag) (G H : Hp) (a : Addr) : Bool × List D × List D → Prop
  | (false, ks, vs) => ∃ kvs : List (Key × V), Rd H a (.dK kvs) ∧ ks = kvs.map (fun p => keyD p.1) ∧ Reps K G vs (kvs.map Prod.snd)
  | (true, ks, vs) => ∃ kvs : List (List Key × V), Rd H a (.dT kvs) ∧ ks = kvs.map (fun p => .tup (p.1.map keyD)) ∧ Reps K G vs (kvs.map Prod.snd)
theorem dicOf_rep {K : PySem.W.Frag} {A : List Addr} {μ : Mem} {G H : Hp} {s : SV} {v : V} {z : Bool × List D × List D} (e : dicOf s μ = some z) (c : Cells K A μ G H) (r : RepS K A G s v) : ∃ a, v = .ref a ∧ DicAt K G H a z := by
  unfold dicOf at e
  split at e
  · cases e
    cases r with
    | dicK h k hs => exact ⟨_, rfl, _, c.le.rd h, k, hs⟩
    | dicT h k hs => exact ⟨_, rfl, _, c.le.rd h, k, hs⟩
  · obtain ⟨a, ha, rfl⟩ := r
    split at e
    · rename_i hk
      cases e
      obtain ⟨kvs, h1, h2, h3⟩ := c.ok _ _ _ ha hk
      exact ⟨a, rfl, kvs, .inl h1, h2, h3⟩
    · rename_i hk
      cases e
      obtain ⟨kvs, h1, h2, h3⟩ := c.ok _ _ _ ha hk
      exact ⟨a, rfl, kvs, .inl h1, h2, h3⟩
    · cases e
  · cases e
/-- the key is of the sort: ints, texts for the one sort of dicts, tuples of such for the other one -/
def fitK : Bool → D → Bool
  | false, .int _ => true
  | false, .str _ => true
  | true, .tup l => (keysOf l).isSome
  | _, _ => false
theorem tupKey_inj {a b : List Key} (h : (D.tup (a.map keyD)) = .tup (b.map keyD)) : a = b := keysD_inj (by injection h)
theorem fitF {k : D} (h : fitK false k = true) : ∃ k', k = keyD k' := by
  cases k <;> simp [fitK] at h
  · exact ⟨.inl _, rfl⟩
  · exact ⟨.inr _, rfl⟩
theorem fitT {k : D} (h : fitK true k = true) : ∃ ks : List Key, k = .tup (ks.map keyD) := by
  cases k <;> simp [fitK] at h
  obtain ⟨ks, e⟩ := Option.isSome_iff_exists.mp h
  exact ⟨ks, by rw [keysOf_eq e]⟩
theorem tupKey_val {K : PySem.W.Frag} {G H : Hp} {ks : List Key} {v : V} (le : Le G H) (r : Rep K G (.tup (ks.map keyD)) v) : ∃ b, v = .ref b ∧ H b = some (.tup (ks.map kV)) := by
  cases r with
  | tup h hs => rw [keysD_vals hs] at h; exact ⟨_, rfl, le _ _ h⟩
/-- what a dict holds at a key -/
theorem dget_of {K : PySem.W.Frag} {A : List Addr} {μ : Mem} {G H : Hp} {sd : SV} {vd vk : V} {t : Bool} {ks vs : List D} {k : D} (c : Cells K A μ G H) (e : dicOf sd μ = some (t, ks, vs)) (rd : RepS K A G sd vd) (rk : Rep K G k vk) (hf : fitK t k = true) :
    ∃ a o, vd = .ref a ∧ DGet H a vk o ∧ (∀ v, o = some v → ∃ d, findD ks vs k = some d ∧ Rep K G d v) ∧ (o = none → findD ks vs k = none) := by
  obtain ⟨a, rfl, h⟩ := dicOf_rep e c rd
  cases t with
  | false =>
    obtain ⟨kvs, h1, rfl, h3⟩ := h
    obtain ⟨k', rfl⟩ := fitF hf
    obtain rfl := keyD_val rk
    obtain ⟨q1, q2⟩ := findD_rep (kd := keyD) (fun _ _ z => keyD_inj z) k' h3
    exact ⟨a, _, rfl, .inl ⟨kvs, k', h1, rfl, rfl⟩, fun v hv => q1 v hv, q2⟩
  | true =>
    obtain ⟨kvs, h1, rfl, h3⟩ := h
    obtain ⟨k', rfl⟩ := fitT hf
    obtain ⟨b, rfl, hb⟩ := tupKey_val c.le rk
    obtain ⟨q1, q2⟩ := findD_rep (kd := fun ks : List Key => D.tup (ks.map keyD)) (fun _ _ z => tupKey_inj z) k' h3
    exact ⟨a, _, rfl, .inr ⟨kvs, k', b, h1, rfl, hb, rfl⟩, fun v hv => q1 v hv, q2⟩
def pDGet : SV → SV → Mem → VP → Prop := fun sd sk μ Q => match sk with
  | .d k => on (dicOf sd μ) fun z => fitK z.1 k = true ∧ on (findD z.2.1 z.2.2 k) fun d => Q (.d d) μ
  | _ => False
def rDGet : R2 := fun x y H Q => ∃ a v, x = .ref a ∧ DGet H a y (some v) ∧ Q v H
theorem pop_dget {K : PySem.W.Frag} : POp K rDGet pDGet := by
  intro sa sb μ A G H va vb Qp Q h c ra rb k
  match sb, h, rb with
  | .d key, h, rb =>
    obtain ⟨⟨t, ks, vs⟩, e, hf, h⟩ := on_of h
    obtain ⟨d, hd, q⟩ := on_of h
    obtain ⟨a, o, rfl, g, h1, h2⟩ := dget_of c e ra rb hf
    cases o with
    | none => rw [h2 rfl] at hd; cases hd
    | some v =>
      obtain ⟨d', e1, r⟩ := h1 v rfl
      have e2 : d' = d := Option.some.inj (e1.symm.trans hd)
      subst e2
      exact ⟨a, v, rfl, g, k _ _ _ _ _ _ q c .refl r⟩
def pDIn (neg : Bool) : SV → SV → Mem → VP → Prop := fun sk sd μ Q => match sk with
  | .d k => on (dicOf sd μ) fun z => fitK z.1 k = true ∧ Q (.d (.bl (if neg = true then !(findD z.2.1 z.2.2 k).isSome else (findD z.2.1 z.2.2 k).isSome))) μ
  | _ => False
def rDIn (neg : Bool) : R2 := fun y x H Q => ∃ a o, x = .ref a ∧ DGet H a y o ∧ Q (.bl (if neg = true then !o.isSome else o.isSome)) H
theorem pop_din {K : PySem.W.Frag} {neg : Bool} : POp K (rDIn neg) (pDIn neg) := by
  intro sb sa μ A G H vb va Qp Q h c rb ra k
  match sb, h, rb with
  | .d key, h, rb =>
    obtain ⟨⟨t, ks, vs⟩, e, hf, h⟩ := on_of h
    obtain ⟨a, o, rfl, g, h1, h2⟩ := dget_of c e ra rb hf
    refine ⟨a, o, rfl, g, k _ _ _ _ _ _ h c .refl ?_⟩
    have e2 : o.isSome = (findD ks vs key).isSome := by
      cases o with
      | none => rw [h2 rfl]; rfl
      | some v => obtain ⟨d', e1, _⟩ := h1 v rfl; rw [e1]; rfl
    rw [e2]; exact .bl _
section
variable {X : Cx} {W : WX} {a b c e o i : Expr} {ta tb tc te to ti : TX} {tL : TXA} {pos apos cpos pos' : Pos}
theorem op_or {f : Value → Value → Sem Value} {r1 r2 : R2} (h1 : OpR X f r1) (h2 : OpR X f r2) : OpR X f (fun x y H Q => r1 x y H Q ∨ r2 x y H Q) :=
  fun pins s σ H x y v u Q I rx ry h => h.elim (h1 pins s σ H x y v u Q I rx ry) (h2 pins s σ H x y v u Q I rx ry)
theorem op_dIn (hu : X.A.units + 1 < cLine) : OpR X (compareOp .In) (rDIn false) := by
  intro pins s σ H x y v u Q I rx ry ⟨a, o, e, g, q⟩
  subst e
  obtain rfl : u = Value.ref a := ry
  exact d_in hu I g rx fun s3 I3 => ⟨.bl o.isSome, H, I3, rfl, q⟩
theorem op_dNotIn (hu : X.A.units + 1 < cLine) : OpR X (compareOp .NotIn) (rDIn true) := by
  intro pins s σ H x y v u Q I rx ry ⟨a, o, e, g, q⟩
  subst e
  obtain rfl : u = Value.ref a := ry
  exact d_notIn hu I g rx fun s3 I3 => ⟨.bl (!o.isSome), H, I3, rfl, q⟩
theorem px_dget (hu : X.A.units + 1 < cLine) (ha : PX X W a ta) (hb : PX X W b tb) (hs : NoSl b := by intro _ _; rfl) : PX X W (.Subscript a b pos) (xOp pDGet ta tb) :=
  ⟨(pe_dget hu ha.pe hb.pe hs).imp fun _ _ _ h => lift_op pop_dget h⟩
theorem Cells.lockD {K : PySem.W.Frag} {A : List Addr} {μ : Mem} {G H : Hp} {d : Addr} {u : HO} {od : Obj} (c : Cells K A μ G H) (h : G d = some u) (hu : isDic u = true) : Cells K A μ (upd G d (.frz od u)) (upd H d (.frz od u)) ∧ Step A G H A (upd G d (.frz od u)) (upd H d (.frz od u)) := by
  have lg : LeZ G (upd G d (.frz od u)) := fun a o e => by
    by_cases z : a = d
    · subst z; rw [h] at e; cases e; exact .inr ⟨hu, od, upd_same⟩
    · exact .inl (by rw [upd_ne z]; exact e)
  have hH := c.le _ _ h
  have na : d ∉ A := fun z => by rw [c.free d z] at h; cases h
  refine ⟨⟨fun a o e => ?_, c.len, c.nd, fun a ha => ?_, fun k a cl e1 e2 => (c.ok k a cl e1 e2).mono (List.prefix_refl _) lg (upd_ne fun (z : a = d) => na (by rw [← z]; exact List.mem_of_getElem? e1))⟩, ⟨List.prefix_refl _, lg, fun a o e n => ?_, fun a e => ?_, fun a xs e => ?_, fun a ha => .inl ha, fun a e => ?_⟩⟩
  · by_cases z : a = d
    · subst z; rw [upd_same] at e ⊢; exact e
    · rw [upd_ne z] at e ⊢; exact c.le a o e
  · rw [upd_ne (fun (z : a = d) => na (by rw [← z]; exact ha))]; exact c.free a ha
  · by_cases z : a = d
    · subst z
      rw [hH] at e; cases e
      exact .inr ⟨h, hu, od, upd_same⟩
    · exact .inl (by rw [upd_ne z]; exact e)
  · by_cases z : a = d
    · subst z; exact .inl (by rw [h]; simp)
    · rw [upd_ne z] at e; exact .inl e
  · by_cases z : a = d
    · subst z; rw [upd_same] at e; cases e
    · rw [upd_ne z] at e; exact .inr e
  · by_cases z : a = d
    · subst z; rw [upd_same]; simp
    · rw [upd_ne z]; exact e
theorem yd_keys {K : PySem.W.Frag} {G : Hp} {d : Addr} {od : Obj} {kvs : List (Key × V)} (h : G d = some (.frz od (.dK kvs))) : Walk (Itk d od kvs) (kvs.map fun p => keyD p.1).length (fun H => LeZ G H) (YD K (kvs.map fun p => keyD p.1) G) := by
  rw [List.length_map]
  refine walk_keys.mono (fun H z => z.same h rfl) fun i H0 x H' hi _ y G2 g2 _ => ?_
  obtain ⟨rfl, k, v, e, rfl⟩ := y
  exact ⟨keyD k, by rw [List.getElem?_map, e]; rfl, .inl ⟨rfl, keyD_rep k⟩⟩
theorem yd_keysT {K : PySem.W.Frag} {G : Hp} {d : Addr} {od : Obj} {kvs : List (List Key × V)} (h : G d = some (.frz od (.dT kvs))) : Walk (Itkt d od kvs) (kvs.map fun p => D.tup (p.1.map keyD)).length (fun H => LeZ G H) (YD K (kvs.map fun p => D.tup (p.1.map keyD)) G) := by
  rw [List.length_map]
  refine walk_keysT.mono (fun H z => z.same h rfl) fun i H0 x H' hi _ y G2 g2 _ => ?_
  obtain ⟨rfl, k, v, q, e, rfl, hq⟩ := y
  exact ⟨.tup (k.map keyD), by rw [List.getElem?_map, e]; rfl, .inr (.inr ⟨q, _, k.map keyD, rfl, hq, rfl, rfl, keyD_reps k⟩)⟩
end
end PL
namespace PL
open PySem PySem.Spec PyProof.Rows L2
def optAll {α : Type} : List (Option α) → Option (List α)
  | [] => some []
  | some a :: r => (optAll r).map (a :: ·)
  | none :: _ => none
/-- what a value is from here on, its cells (all behind the first n0) data -/
def frzS (n0 : Nat) (μ : Mem) : Nat → SV → Option D
  | n, s => match s with
    | .d x => some x
    | .un => none
    | .c j => if n0 ≤ j then (match μ[j]? with
      | some (.lst l) => some (.lst l)
      | some (.dK ks vs) => some (.dic false ks vs)
      | some (.dT ks vs) => some (.dic true ks vs)
      | some (.ins C ns vs) => some (.obj C ns vs)
      | some (.dC ks is) => match n with
        | 0 => none
        | n + 1 => (optAll (is.map fun s => frzS n0 μ n s)).map (.dic true ks)
      | some (.inC C ns vs) => match n with
        | 0 => none
        | n + 1 => (optAll (vs.map fun s => frzS n0 μ n s)).map (.obj C ns)
      | some (.lsC vs) => match n with
        | 0 => none
        | n + 1 => (optAll (vs.map fun s => frzS n0 μ n s)).map .lst
      | some (.dN _ _) => none
      | none => none) else none
/-- all cells of B are frozen -/
theorem Cells.frz {K : PySem.W.Frag} {A B : List Addr} {μ : Mem} {G H : Hp} (c : Cells K (A ++ B) μ G H) : ∃ G2, LeZ G G2 ∧ Le G2 H ∧ (∀ a, G2 a ≠ none → G a ≠ none ∨ a ∈ B) ∧ (∀ b ∈ B, G2 b = H b) ∧ ∀ b, b ∉ B → G2 b = G b := by
  classical
  refine ⟨fun a => if a ∈ B then H a else G a, fun a o e => .inl ?_, fun a o e => ?_, fun a e => ?_, fun b hb => if_pos hb, fun b hb => if_neg hb⟩
  · have : a ∉ B := fun z => by rw [c.free a (List.mem_append_right _ z)] at e; cases e
    exact (if_neg this).trans e
  · by_cases z : a ∈ B
    · exact (if_pos z).symm.trans e
    · exact c.le a o ((if_neg z).symm.trans e)
  · by_cases z : a ∈ B
    · exact .inr z
    · exact .inl fun w => e ((if_neg z).trans w)
section
variable {X : Cx} {W : WX} {a b c e : Expr} {es : List Expr} {kws : List Keyword} {tL tK : TXA} {pos ppos : Pos} {x : Str}
end
end PL
namespace PL
open PySem PySem.Spec PyProof.Rows L2
/-- the module's def x, as the text st has it -/
structure DefN (K : PySem.W.Frag) (mg : Str → Option Value) (x nm : Str) (st : Stmt) : Prop where
  ex : ∃ fd, FunD K nm nm (defArgs st) (defBody st) (defScope st) [] [] (He.ga K x) fd ∧ mg x = some (.ref (He.ga K x))
/-- .. under its own name -/
abbrev Def (K : PySem.W.Frag) (mg : Str → Option Value) (x : Str) (st : Stmt) : Prop := DefN K mg x x st
/-- .. keeps p -/
structure Has (P : Program) (w : World) (K : PySem.W.Frag) (mg : Str → Option Value) (base : Heap) (k : Nat) (x : Str) (ps : List Str) (p : PSp) : Prop where
  ex : ∃ fd, FnOk P w K mg base (L2.CX P w) k (He.ga K x) fd ps (low K p) ∧ mg x = some (.ref (He.ga K x)) ∧ PySem.W.keepIn K (.ref (He.ga K x)) = true ∧ Binds K fd ps [] ∧ ∃ nm st, FunD K nm nm (defArgs st) (defBody st) (defScope st) [] [] (He.ga K x) fd
theorem _root_.L2.FunD.fun_ {K : PySem.W.Frag} {x : Str} {st : Stmt} {f : Addr} {fd : FuncData} (F : FunD K x x (defArgs st) (defBody st) (defScope st) [] [] f fd) : Fun K x x st f fd := by
  obtain ⟨oc, od, dV, kV, doc, pm, an, cdv, ct, osl, rfl, lk, hcd, hD, hK⟩ := F.ex
  rcases hD with ⟨_, rfl⟩ | ⟨e, _⟩
  · exact ⟨⟨oc, od, kV, doc, pm, an, cdv, ct, osl, rfl, lk, hcd⟩, F.kp⟩
  · exact absurd rfl e
/-- how a def's parameters take n values -/
def BindN (x : Str) (st : Stmt) (ps : List Str) : Prop := ∀ (kV doc pm : Value) (an : Option Addr) (cdv ct : Value) (us : List Value), us.length = ps.length → bindArgs (PySem.W.fnOf x x (defArgs st) (defBody st) (defScope st) .none kV doc pm an cdv ct) ⟨us, []⟩ = pure (ps.zip us)
section
variable {P : Program} {w : World} {K : PySem.W.Frag} {mg : Str → Option Value} {base : Heap}
theorem has_p {x nm : Str} {st : Stmt} {N ps : List Str} {k : Nat} {p : PSp} {t : TXS} (D : DefN K mg x nm st) (S : FnScope N ps (defScope st)) (B : BindN nm st ps) (len : ∀ x as μ Q, p x as μ Q → as.length = ps.length)
    (hb : ∀ (f : Addr) (cdv : Value) (A : Around) (outer : List Env) (s : Shared) (H : Hp) (E : XK), Room k (A.deeper (envOfC nm (defScope st) s.heap.objs.size f cdv)) →
      PXSs (cxOf (L2.CX P w) P w K mg base N nm (defScope st) f cdv A outer s H E) (fun cls d _ H => E cls d H) (defBody st) t)
    (hp : ∀ x as μ Q, p x as μ Q → t { nx := fun _ μ => Q (.d .non) μ, rt := Q, ex := x } (startP N.length as) μ) : Has P w K mg base (k + 1) x ps p := by
  obtain ⟨fd, F, hm⟩ := D.ex
  exact ⟨fd, fn_p F.fun_ S len hp (hb _), hm, F.kp, FunD.bindsN F B, nm, st, F⟩
theorem Has.imp {x : Str} {ps : List Str} {k : Nat} {p q : PSp} (h : Has P w K mg base k x ps p) (i : ∀ x as μ Q, q x as μ Q → p x as μ Q) : Has P w K mg base k x ps q := by
  obtain ⟨fd, F, r⟩ := h.ex
  have i2 : ∀ vs H Q E, low K q vs H Q E → low K p vs H Q E := fun vs H Q E z => by
    obtain ⟨A', as, μ, G, Qp, x, c, rr, hq, hx, hk⟩ := z
    exact ⟨A', as, μ, G, Qp, x, c, rr, i _ _ _ _ hq, hx, hk⟩
  exact ⟨fd, ⟨fun vs H Q E z => F.1 vs H Q E (i2 _ _ _ _ z), fun A outer s H args us vs Q E hr e b r z => F.run A outer s H args us vs Q E hr e b r (i2 _ _ _ _ z)⟩, r⟩
end
/-- nothing let out -/
theorem _root_.L2.FnOk.ground {P : Program} {w : World} {K : PySem.W.Frag} {mg : Str → Option Value} {base : Heap} {k : Nat} {f : Addr} {fd : FuncData} {ps : List Str} {sp : Sp} (F : FnOk P w K mg base (L2.CX P w) k f fd ps sp) :
    FnOk P w K mg base CX0 k f fd ps (fun vs H Q _ => sp vs H Q fun _ _ _ => False) :=
  ⟨fun vs H Q E q => F.len vs H Q _ q, fun A outer s H args us vs Q E hr he hb hv hs => by
    have r := F.run A outer s H args us vs Q _ hr he hb hv hs
    refine codeAny_mono r fun r s' z => ?_
    cases r with
    | ok v => cases v <;> exact z
    | error e =>
      obtain ⟨_, _, _, _, _, _, _, _, _, _, _, _, q⟩ := z
      exact q.elim⟩
/-- the def's own context -/
theorem tk_of {P : Program} {w : World} {K : PySem.W.Frag} {mg : Str → Option Value} {base : Heap} {N : List Str} {qual : Str} {scope : Scope} {f : Addr} {cdv : Value} {A : Around} {outer : List Env} {s : Shared} {H : Hp} {E : XK} :
    Takes (cxOf (L2.CX P w) P w K mg base N qual scope f cdv A outer s H E) (fun cls d _ H => E cls d H) := takes_of rfl rfl rfl rfl
theorem hp_of {P : Program} {w : World} {K : PySem.W.Frag} {mg : Str → Option Value} {base : Heap} {N : List Str} {qual : Str} {scope : Scope} {f : Addr} {cdv : Value} {A : Around} {outer : List Env} {s : Shared} {H : Hp} {E : XK} :
    PassesOwn (model P w) (cxOf (L2.CX P w) P w K mg base N qual scope f cdv A outer s H E).A (cxOf (L2.CX P w) P w K mg base N qual scope f cdv A outer s H E).env (cxOf (L2.CX P w) P w K mg base N qual scope f cdv A outer s H E).xe :=
  passes_of (X := cxOf (L2.CX P w) P w K mg base N qual scope f cdv A outer s H E) rfl
section
variable {X : Cx} {W : WX} {a b c e : Expr} {es : List Expr} {kws : List Keyword} {tL tK : TXA} {pos ppos : Pos} {x : Str} {k k' : Nat} {ps : List Str} {p : PSp}
theorem px_callH (h : Has X.prog X.w X.K X.mg X.base k x ps p) (tk : Takes X W) (hr : Room k' X.A) (hle : k ≤ k') (hg : Gl X x) (ha : PXA X W (e :: es) tL) (hdb : (x == ("__debug__" : Str)) = false := by decide) (he : starEach (e :: es) X.env = (false, eval e X.env) :: starEach es X.env := by rfl) (hpl : (backTo pos (starEach es X.env)).any (·.1) = false := by rfl) :
    PX X W (.Call (.Name x ppos) (e :: es) [] pos) (xUser p tL) := by
  obtain ⟨fd, F, hm, hk, hb, _⟩ := h.ex
  exact px_call tk F (hr.mono hle) hg hm hk hb ha hdb he hpl
/-- how keywords are taken -/
def BindK (x : Str) (ps : List Str) (n : Nat) (ks : List Str) (perm : List Nat) (st : Stmt) : Prop := ∀ (kV doc pm : Value) (an : Option Addr) (cdv ct : Value) (us ws : List Value), us.length = n → ws.length = ks.length → bindArgs (PySem.W.fnOf x x (defArgs st) (defBody st) (defScope st) .none kV doc pm an cdv ct) ⟨us, ks.zip ws⟩ = pure (ps.zip (permG Value.none perm us ws))
/-- .. with its text -/
structure HasK (P : Program) (w : World) (K : PySem.W.Frag) (mg : Str → Option Value) (base : Heap) (k : Nat) (x : Str) (st : Stmt) (ps : List Str) (p : PSp) : Prop where
  ex : ∃ fd, FnOk P w K mg base (L2.CX P w) k (He.ga K x) fd ps (low K p) ∧ mg x = some (.ref (He.ga K x)) ∧ PySem.W.keepIn K (.ref (He.ga K x)) = true ∧ FunD K x x (defArgs st) (defBody st) (defScope st) [] [] (He.ga K x) fd
theorem Has.withK {P : Program} {w : World} {K : PySem.W.Frag} {mg : Str → Option Value} {base : Heap} {st : Stmt} (h : Has P w K mg base k x ps p) (D : Def K mg x st) : HasK P w K mg base k x st ps p := by
  obtain ⟨fd, F, hm, hk, hb, nm', st', F'⟩ := h.ex
  obtain ⟨gd, G, hm'⟩ := D.ex
  have e2 : fd = gd := by
    obtain ⟨_, _, _, _, _, _, _, _, _, _, _, l1, _⟩ := F'.ex
    obtain ⟨_, _, _, _, _, _, _, _, _, _, _, l2, _⟩ := G.ex
    rw [l1] at l2; cases l2; rfl
  subst e2
  exact ⟨fd, F, hm, hk, G⟩
theorem px_callHK0 {ks : List Str} {perm : List Nat} {st : Stmt} (h : HasK X.prog X.w X.K X.mg X.base k x st ps p) (tk : Takes X W) (hr : Room k' X.A) (hle : k ≤ k') (hg : Gl X x)
    (hb : BindK x ps 0 ks perm st) (hkw : PXK X W kws tK) (hall : (backToKw pos (keywordEach kws X.env)).all (·.1.isSome) = true := by rfl) (hks : (backToKw pos (keywordEach kws X.env)).filterMap (·.1) = ks := by rfl)
    (hdb : (x == ("__debug__" : Str)) = false := by decide)
    (hpl : ((backTo pos (starEach [] X.env)).any (·.1) || (backToKw pos (keywordEach kws X.env)).any (·.1.isNone)) = false := by rfl) : PX X W (.Call (.Name x ppos) [] kws pos) (xUserK p 0 ks.length perm xNil tK) := by
  obtain ⟨fd, F, hm, hk, F'⟩ := h.ex
  exact px_callKw0 tk F (hr.mono hle) hg hm hk (kbn_of F' 0 ks perm hb) hkw hall hks hdb hpl
theorem Has.held {P : Program} {w : World} {K : PySem.W.Frag} {mg : Str → Option Value} {base : Heap} (h : Has P w K mg base k x ps p) : HeldP P w K mg base k (He.ga K x) p := by
  obtain ⟨fd, F, hm, hk, hb, _⟩ := h.ex
  exact ⟨fd, ps, F, hk, hb⟩
end
end PL
namespace PL
open PySem PySem.Spec PyProof.Rows L2 RZ
section
variable {X : Cx} {W : WX} {a b c e : Expr} {es : List Expr} {ta tb tc te : TX} {tA : TXT} {tL : TXA} {pos p tpos p2 : Pos} {elts : List Expr} {kk k : Nat} {x : Str}
theorem hu_of {A : Around} (r : Room k A) : A.units + 64 < cLine := r.units
theorem hu1_of {A : Around} (r : Room k A) : A.units + 1 < cLine := by have := r.units; omega
theorem px_gintC {i : Int} (hg : Gl X x) (hm : ∃ t, X.mg x = some (.int i t)) (hd : (x == ("__debug__" : Str)) = false := by decide) : PX X W (.Name x pos) (xC (.int i)) := let ⟨_, h⟩ := hm; px_gint hg h hd
theorem px_gstrC {z : Str} (hg : Gl X x) (hm : ∃ t, X.mg x = some (.str z t)) (hd : (x == ("__debug__" : Str)) = false := by decide) : PX X W (.Name x pos) (xC (.str z)) := let ⟨_, h⟩ := hm; px_gstr hg h hd
def pAddU : SV → SV → Mem → VP → Prop := fun sa sb μ Q => match sa, sb with
  | .d (.int i), .d (.int j) => Q (.d (.int (i + j))) μ
  | .d (.str i), .d (.str j) => i.length + j.length ≤ sizeLine ∧ Q (.d (.str (i ++ j))) μ
  | .d (.tup l), .d (.tup m) => l.length + m.length ≤ sizeLine ∧ Q (.d (.tup (l ++ m))) μ
  | sa, sb => on (lstOf sa μ) fun l => on (lstOf sb μ) fun m => l.length + m.length ≤ sizeLine ∧ Q (.d (.lst (l ++ m))) μ
def rAddS : R2 := fun x y H Q => ∃ i j, x = .str i ∧ y = .str j ∧ i.length + j.length ≤ sizeLine ∧ Q (.str (i ++ j)) H
theorem pop_addU : POp X.K (fun x y H Q => (rI0 (fun i j => .int (i + j)) x y H Q ∨ rAddS x y H Q) ∨ (rCatA X.K x y H Q ∨ rCat x y H Q)) pAddU := by
  intro sa sb μ A G H va vb Qp Q h c ra rb k
  unfold pAddU at h
  split at h
  · cases ra; cases rb
    exact .inl (.inl ⟨_, _, rfl, rfl, k _ _ _ _ _ _ h c .refl (.int _)⟩)
  · cases ra; cases rb
    exact .inl (.inr ⟨_, _, rfl, rfl, h.1, k _ _ _ _ _ _ h.2 c .refl (.str _)⟩)
  · rename_i l m
    exact .inr (.inl (pop_catT (X := X) (.d (.tup l)) (.d (.tup m)) μ A G H va vb Qp Q h c ra rb k))
  · exact .inr (.inr (pop_catL (K := X.K) _ _ μ A G H va vb Qp Q h c ra rb k))
def pMulU : SV → SV → Mem → VP → Prop := fun sa sb μ Q => match sa, sb with
  | .d (.int i), .d (.int j) => CMul i j ∧ Q (.d (.int (i * j))) μ
  | sa, .d (.int j) => on (lstOf sa μ) fun l => (-(2 ^ 63) ≤ j ∧ j < 2 ^ 63 ∧ l.length * j.toNat ≤ sizeLine) ∧ Q (.d (.lst (List.replicate j.toNat l).flatten)) μ
  | _, _ => False
theorem reps_rep {K : PySem.W.Frag} {G : Hp} {l : List D} {vs : List V} (r : Reps K G l vs) : ∀ n : Nat, Reps K G (List.replicate n l).flatten (List.replicate n vs).flatten
  | 0 => .nil
  | n + 1 => by
    rw [List.replicate_succ, List.replicate_succ, List.flatten_cons, List.flatten_cons]
    exact r.app (reps_rep r n)
theorem pop_mulU {K : PySem.W.Frag} : POp K (fun x y H Q => rI CMul (fun i j => .int (i * j)) x y H Q ∨ rRep x y H Q) pMulU := by
  intro sa sb μ A G H va vb Qp Q h c ra rb k
  unfold pMulU at h
  split at h
  · cases ra; cases rb
    exact .inl ⟨_, _, rfl, rfl, h.1, k _ _ _ _ _ _ h.2 c .refl (.int _)⟩
  · obtain ⟨l, e1, ⟨h1, h2, h3⟩, q⟩ := on_of h
    obtain ⟨a, us, rfl, g1, g2⟩ := lstOf_rep e1 c ra
    cases rb
    refine .inr ⟨a, _, us, rfl, rfl, g1, h1, h2, by rw [← g2.length]; exact h3, fun p hp => ?_⟩
    obtain ⟨c2, s2⟩ := c.laid (o := .lst (List.replicate _ us).flatten) hp
    exact k _ _ _ _ _ _ q c2 s2 (Rep.lst upd_same ((reps_rep g2 _).mono s2.le))
  · exact h.elim
def xNeg (ta : TX) : TX := fun x ρ μ Q => ta x ρ μ fun s μ1 => match s with
  | .d (.int i) => Q (.d (.int (-i))) μ1
  | _ => False
theorem px_neg (ha : PX X W a ta) : PX X W (.UnaryOp .USub a pos) (xNeg ta) := by
  refine ⟨(pe_un un_neg ha.pe).imp fun σ H Q h => ?_⟩
  obtain ⟨A, ρ, μ, G, Qp, xp, S, ht, hx, k⟩ := h
  refine ⟨A, ρ, μ, G, _, xp, S, ht, hx, fun s μ1 A1 G1 H1 v q c1 s1 r1 => ?_⟩
  match s, q, r1 with
  | .d (.int i), q, r1 => cases r1; exact ⟨i, rfl, k _ _ _ _ _ _ q c1 s1 (.int _)⟩
def rCmpS (g : Str → Str → Bool) : R2 := fun x y H Q => ∃ i j, x = .str i ∧ y = .str j ∧ Q (.bl (g i j)) H
theorem room_tup {A : Around} {d : PyData} {ds : List PyData} (sd : SeqAt.shaped d = true) (hu : A.units + 64 < cLine) (dp : d.depth ≤ 62) : A.units + 1 + min (PyData.depthAll ds) d.depth < cLine := by
  have : min (PyData.depthAll ds) d.depth ≤ 62 := Nat.le_trans (Nat.min_le_right _ _) dp
  omega
theorem okEq_depth {d : D} (h : okEq d = true) : (toPy d).depth ≤ 61 := by
  obtain ⟨h1, h2⟩ := flat_lay 60 d h
  omega
theorem shaped_lay {d : PyData} (h : SeqAt.shaped d = true) : d.canLay0 = true := SeqAt.canLay_of_shaped h
theorem toPys_any {d : PyData} : ∀ l : List D, ((toPys l).any fun z => PyData.eqv z d) = l.any fun z => PyData.eqv (toPy z) d
  | [] => rfl
  | x :: l => by simp only [toPys, List.any_cons, toPys_any l]
def inD (d : D) (l : List D) : Bool := l.any fun z => deq z d
def pInU : SV → SV → Mem → VP → Prop := fun sk sd μ Q => match sk, sd with
  | .d k, .d (.dic t ks vs) => fitK t k = true ∧ Q (.d (.bl ((findD ks vs k).isSome))) μ
  | .d k, .d (.tup l) => (okEq k = true ∧ okEq (.tup l) = true) ∧ Q (.d (.bl (inD k l))) μ
  | .d k, .d (.ntp l) => (okEq k = true ∧ okEq (.ntp l) = true) ∧ Q (.d (.bl (inD k l))) μ
  | .d k, .d (.lst l) => (okEq k = true ∧ okEq (.lst l) = true) ∧ Q (.d (.bl (inD k l))) μ
  | .d (.str x), .d (.str z) => (∃ c, x = ⟨#[c]⟩ ∧ Q (.d (.bl (decide (c ∈ z.cps.toList)))) μ)
  | .d k, .c j => match μ[j]? with
    | some (.lst l) => (okEq k = true ∧ okEq (.lst l) = true) ∧ Q (.d (.bl (inD k l))) μ
    | some (.dK ks vs) => fitK false k = true ∧ Q (.d (.bl ((findD ks vs k).isSome))) μ
    | some (.dT ks vs) => fitK true k = true ∧ Q (.d (.bl ((findD ks vs k).isSome))) μ
    | _ => False
  | _, _ => False
def pNiU : SV → SV → Mem → VP → Prop := fun sk sd μ Q => match sk, sd with
  | .d k, .d (.dic t ks vs) => fitK t k = true ∧ Q (.d (.bl (!(findD ks vs k).isSome))) μ
  | .d k, .d (.tup l) => (okEq k = true ∧ okEq (.tup l) = true) ∧ Q (.d (.bl (!inD k l))) μ
  | .d k, .d (.ntp l) => (okEq k = true ∧ okEq (.ntp l) = true) ∧ Q (.d (.bl (!inD k l))) μ
  | .d k, .d (.lst l) => (okEq k = true ∧ okEq (.lst l) = true) ∧ Q (.d (.bl (!inD k l))) μ
  | .d (.str x), .d (.str z) => (∃ c, x = ⟨#[c]⟩ ∧ Q (.d (.bl (!decide (c ∈ z.cps.toList)))) μ)
  | .d k, .c j => match μ[j]? with
    | some (.lst l) => (okEq k = true ∧ okEq (.lst l) = true) ∧ Q (.d (.bl (!inD k l))) μ
    | some (.dK ks vs) => fitK false k = true ∧ Q (.d (.bl (!(findD ks vs k).isSome))) μ
    | some (.dT ks vs) => fitK true k = true ∧ Q (.d (.bl (!(findD ks vs k).isSome))) μ
    | _ => False
  | _, _ => False
def rInS0 (neg : Bool) : R2 := fun x y H Q => ∃ (c : Nat) (z : Str), x = .str ⟨#[c]⟩ ∧ y = .str z ∧ Q (.bl (if neg = true then !decide (c ∈ z.cps.toList) else decide (c ∈ z.cps.toList))) H
def rInLD (K : PySem.W.Frag) (neg : Bool) : R2 := fun x y H Q => ∃ d ds, (Dp K H x d ∧ d.depth ≤ 62) ∧ Dp K H y (.list ds) ∧ SeqAt.shaped d = true ∧ SeqAt.shaped (.list ds) = true ∧ Q (.bl (if neg = true then !ds.any fun z => PyData.eqv z d else ds.any fun z => PyData.eqv z d)) H
def rInTD' (K : PySem.W.Frag) (neg : Bool) : R2 := fun x y H Q => ∃ d ds, (Dp K H x d ∧ d.depth ≤ 62) ∧ Dp K H y (.tuple ds) ∧ SeqAt.shaped d = true ∧ SeqAt.shaped (.tuple ds) = true ∧ Q (.bl (if neg = true then !ds.any fun z => PyData.eqv z d else ds.any fun z => PyData.eqv z d)) H
theorem shaped_all {ds : List PyData} (h : SeqAt.shaped (.list ds) = true) : PyData.canLayAll0 ds = true := SeqAt.canLay_of_shaped h
theorem shaped_allT {ds : List PyData} (h : SeqAt.shaped (.tuple ds) = true) : PyData.canLayAll0 ds = true := SeqAt.canLay_of_shaped h
theorem op_inLD (hu : X.A.units + 64 < cLine) : OpR X (compareOp .In) (rInLD X.K false) := by
  intro pins s σ H x y v u Q I rx ry h
  obtain ⟨d, ds, ⟨hd, hp⟩, he, sd, se, q⟩ := h
  obtain ⟨as, r1⟩ := Dp.reads I d x v hd rx
  obtain ⟨bs, r2⟩ := Dp.reads I (.list ds) y u he ry
  exact SeqAt.in_list_reads r2 r1 (shaped_all se) (shaped_lay sd) (room_tup sd hu hp) ⟨.bl _, H, I, rfl, q⟩
theorem op_notInLD (hu : X.A.units + 64 < cLine) : OpR X (compareOp .NotIn) (rInLD X.K true) := by
  intro pins s σ H x y v u Q I rx ry h
  obtain ⟨d, ds, ⟨hd, hp⟩, he, sd, se, q⟩ := h
  obtain ⟨as, r1⟩ := Dp.reads I d x v hd rx
  obtain ⟨bs, r2⟩ := Dp.reads I (.list ds) y u he ry
  exact SeqAt.notIn_list_reads r2 r1 (shaped_all se) (shaped_lay sd) (room_tup sd hu hp) ⟨.bl _, H, I, rfl, q⟩
theorem op_inTD (hu : X.A.units + 64 < cLine) : OpR X (compareOp .In) (rInTD' X.K false) := by
  intro pins s σ H x y v u Q I rx ry h
  obtain ⟨d, ds, ⟨hd, hp⟩, he, sd, se, q⟩ := h
  obtain ⟨as, r1⟩ := Dp.reads I d x v hd rx
  obtain ⟨bs, r2⟩ := Dp.reads I (.tuple ds) y u he ry
  exact SeqAt.in_tuple_reads r2 r1 (shaped_allT se) (shaped_lay sd) (room_tup sd hu hp) ⟨.bl _, H, I, rfl, q⟩
theorem op_notInTD (hu : X.A.units + 64 < cLine) : OpR X (compareOp .NotIn) (rInTD' X.K true) := by
  intro pins s σ H x y v u Q I rx ry h
  obtain ⟨d, ds, ⟨hd, hp⟩, he, sd, se, q⟩ := h
  obtain ⟨as, r1⟩ := Dp.reads I d x v hd rx
  obtain ⟨bs, r2⟩ := Dp.reads I (.tuple ds) y u he ry
  exact SeqAt.notIn_tuple_reads r2 r1 (shaped_allT se) (shaped_lay sd) (room_tup sd hu hp) ⟨.bl _, H, I, rfl, q⟩
theorem inD_eq (k : D) (l : List D) : ((toPys l).any fun z => PyData.eqv z (toPy k)) = inD k l := toPys_any l
theorem pop_inU {K : PySem.W.Frag} : POp K (fun x y H Q => (rDIn false x y H Q ∨ rInS0 false x y H Q) ∨ (rInLD K false x y H Q ∨ rInTD' K false x y H Q)) pInU := by
  have bl : ∀ (G : Hp) (b : Bool), Rep K G (.bl b) (.bl b) := fun G b => .bl b
  intro sk sd μ A G H va vb Qp Q h c ra rb k
  unfold pInU at h
  split at h
  · rename_i k t ks vs
    exact .inl (.inl (pop_din (K := K) (.d k) (.d (.dic t ks vs)) μ A G H va vb Qp Q h c ra rb ‹_›))
  · rename_i kd l
    obtain ⟨⟨h1, h2⟩, q⟩ := h
    rw [← inD_eq] at q
    refine .inr (.inr ⟨toPy kd, toPys l, ⟨rep_dp c.le 60 kd _ h1 ra, by have := okEq_depth h1; omega⟩, ?_, okEq_shaped h1, ?_, k _ _ _ _ _ _ q c .refl (.bl _)⟩)
    · have := rep_dp c.le 60 (.tup l) _ h2 rb
      simpa only [toPy] using this
    · have := okEq_shaped h2
      simpa only [toPy] using this
  · rename_i kd l
    obtain ⟨⟨h1, h2⟩, q⟩ := h
    rw [← inD_eq] at q
    refine .inr (.inr ⟨toPy kd, toPys l, ⟨rep_dp c.le 60 kd _ h1 ra, by have := okEq_depth h1; omega⟩, ?_, okEq_shaped h1, ?_, k _ _ _ _ _ _ q c .refl (.bl _)⟩)
    · have := rep_dp c.le 60 (.ntp l) _ h2 rb
      simpa only [toPy] using this
    · have := okEq_shaped h2
      simpa only [toPy] using this
  · rename_i kd l
    obtain ⟨⟨h1, h2⟩, q⟩ := h
    rw [← inD_eq] at q
    refine .inr (.inl ⟨toPy kd, toPys l, ⟨rep_dp c.le 60 kd _ h1 ra, by have := okEq_depth h1; omega⟩, ?_, okEq_shaped h1, ?_, k _ _ _ _ _ _ q c .refl (.bl _)⟩)
    · have := rep_dp c.le 60 (.lst l) _ h2 rb
      simpa only [toPy] using this
    · have := okEq_shaped h2
      simpa only [toPy] using this
  · rename_i x z
    obtain ⟨ch, rfl, q⟩ := h
    cases ra; cases rb
    exact .inl (.inr ⟨ch, z, rfl, rfl, k _ _ _ _ _ _ q c .refl (.bl _)⟩)
  · rename_i kd j
    split at h
    · rename_i l hk
      obtain ⟨a, ha, rfl⟩ := rb
      obtain ⟨us, g1, g2⟩ := c.ok _ _ _ ha hk
      obtain ⟨⟨h1, h2⟩, q⟩ := h
      rw [← inD_eq] at q
      refine .inr (.inl ⟨toPy kd, toPys l, ⟨rep_dp c.le 60 kd _ h1 ra, by have := okEq_depth h1; omega⟩, .lst (SqL.of g1) (reps_dp c.le 59 l _ (by unfold okEq at h2; simpa only [flat] using h2) g2), okEq_shaped h1, ?_, k _ _ _ _ _ _ q c .refl (.bl _)⟩)
      have := okEq_shaped h2
      simpa only [toPy] using this
    · rename_i ks vs hk
      exact .inl (.inl (pop_din (K := K) (.d kd) (.c j) μ A G H va vb Qp Q (by simp only [pDIn, dicOf, hk, on]; exact h) c ra rb k))
    · rename_i ks vs hk
      exact .inl (.inl (pop_din (K := K) (.d kd) (.c j) μ A G H va vb Qp Q (by simp only [pDIn, dicOf, hk, on]; exact h) c ra rb k))
    · exact h.elim
  · exact h.elim
theorem pop_niU {K : PySem.W.Frag} : POp K (fun x y H Q => (rDIn true x y H Q ∨ rInS0 true x y H Q) ∨ (rInLD K true x y H Q ∨ rInTD' K true x y H Q)) pNiU := by
  have bl : ∀ (G : Hp) (b : Bool), Rep K G (.bl b) (.bl b) := fun G b => .bl b
  intro sk sd μ A G H va vb Qp Q h c ra rb k
  unfold pNiU at h
  split at h
  · rename_i k t ks vs
    exact .inl (.inl (pop_din (K := K) (.d k) (.d (.dic t ks vs)) μ A G H va vb Qp Q h c ra rb ‹_›))
  · rename_i kd l
    obtain ⟨⟨h1, h2⟩, q⟩ := h
    rw [← inD_eq] at q
    refine .inr (.inr ⟨toPy kd, toPys l, ⟨rep_dp c.le 60 kd _ h1 ra, by have := okEq_depth h1; omega⟩, ?_, okEq_shaped h1, ?_, k _ _ _ _ _ _ q c .refl (.bl _)⟩)
    · have := rep_dp c.le 60 (.tup l) _ h2 rb
      simpa only [toPy] using this
    · have := okEq_shaped h2
      simpa only [toPy] using this
  · rename_i kd l
    obtain ⟨⟨h1, h2⟩, q⟩ := h
    rw [← inD_eq] at q
    refine .inr (.inr ⟨toPy kd, toPys l, ⟨rep_dp c.le 60 kd _ h1 ra, by have := okEq_depth h1; omega⟩, ?_, okEq_shaped h1, ?_, k _ _ _ _ _ _ q c .refl (.bl _)⟩)
    · have := rep_dp c.le 60 (.ntp l) _ h2 rb
      simpa only [toPy] using this
    · have := okEq_shaped h2
      simpa only [toPy] using this
  · rename_i kd l
    obtain ⟨⟨h1, h2⟩, q⟩ := h
    rw [← inD_eq] at q
    refine .inr (.inl ⟨toPy kd, toPys l, ⟨rep_dp c.le 60 kd _ h1 ra, by have := okEq_depth h1; omega⟩, ?_, okEq_shaped h1, ?_, k _ _ _ _ _ _ q c .refl (.bl _)⟩)
    · have := rep_dp c.le 60 (.lst l) _ h2 rb
      simpa only [toPy] using this
    · have := okEq_shaped h2
      simpa only [toPy] using this
  · rename_i x z
    obtain ⟨ch, rfl, q⟩ := h
    cases ra; cases rb
    exact .inl (.inr ⟨ch, z, rfl, rfl, k _ _ _ _ _ _ q c .refl (.bl _)⟩)
  · rename_i kd j
    split at h
    · rename_i l hk
      obtain ⟨a, ha, rfl⟩ := rb
      obtain ⟨us, g1, g2⟩ := c.ok _ _ _ ha hk
      obtain ⟨⟨h1, h2⟩, q⟩ := h
      rw [← inD_eq] at q
      refine .inr (.inl ⟨toPy kd, toPys l, ⟨rep_dp c.le 60 kd _ h1 ra, by have := okEq_depth h1; omega⟩, .lst (SqL.of g1) (reps_dp c.le 59 l _ (by unfold okEq at h2; simpa only [flat] using h2) g2), okEq_shaped h1, ?_, k _ _ _ _ _ _ q c .refl (.bl _)⟩)
      have := okEq_shaped h2
      simpa only [toPy] using this
    · rename_i ks vs hk
      exact .inl (.inl (pop_din (K := K) (.d kd) (.c j) μ A G H va vb Qp Q (by simp only [pDIn, dicOf, hk, on]; exact h) c ra rb k))
    · rename_i ks vs hk
      exact .inl (.inl (pop_din (K := K) (.d kd) (.c j) μ A G H va vb Qp Q (by simp only [pDIn, dicOf, hk, on]; exact h) c ra rb k))
    · exact h.elim
  · exact h.elim
theorem op_inU (hu : X.A.units + 64 < cLine) : OpR X (compareOp .In) (fun x y H Q => (rDIn false x y H Q ∨ rInS0 false x y H Q) ∨ (rInLD X.K false x y H Q ∨ rInTD' X.K false x y H Q)) :=
  op_or (op_or (op_dIn (by omega)) op_in_sign) (op_or (op_inLD hu) (op_inTD hu))
theorem op_notInU (hu : X.A.units + 64 < cLine) : OpR X (compareOp .NotIn) (fun x y H Q => (rDIn true x y H Q ∨ rInS0 true x y H Q) ∨ (rInLD X.K true x y H Q ∨ rInTD' X.K true x y H Q)) :=
  op_or (op_or (op_dNotIn (by omega)) op_notIn_sign) (op_or (op_notInLD hu) (op_notInTD hu))
theorem px_inU (hu : X.A.units + 64 < cLine) (ha : PX X W a ta) (hb : PX X W b tb) (hm : behindInMarks .In b = false := by first | exact nomark _ | rfl) : PX X W (.Compare a [.In] [b] pos) (xOp pInU ta tb) := px_cmp (op_inU hu) pop_inU ha hb hm
theorem px_notinU (hu : X.A.units + 64 < cLine) (ha : PX X W a ta) (hb : PX X W b tb) (hm : behindInMarks .NotIn b = false := by first | exact nomark _ | rfl) : PX X W (.Compare a [.NotIn] [b] pos) (xOp pNiU ta tb) := px_cmp (op_notInU hu) pop_niU ha hb hm
def iU (K : PySem.W.Frag) (td : TE) : TI := fun σ H R => td σ H fun x H1 => (∃ a xs, x = .ref a ∧ SqT K H1 a xs ∧ R (Itt K a) H1) ∨ (∃ a xs, x = .ref a ∧ SqL K H1 a xs ∧ R (Itl K a) H1) ∨
  (∃ z, x = .str z ∧ R (Its z) H1) ∨ ∃ d u, x = .ref d ∧ ((∃ kvs, u = .dK kvs) ∨ ∃ kvs, u = .dT kvs) ∧ ((H1 d = some u ∧ ∀ od, (∀ kvs, u = .dK kvs → R (Itk d od kvs) (upd H1 d (.frz od u))) ∧ ∀ kvs, u = .dT kvs → R (Itkt d od kvs) (upd H1 d (.frz od u))) ∨
    ∃ od, H1 d = some (.frz od u) ∧ (∀ kvs, u = .dK kvs → R (Itk d od kvs) H1) ∧ ∀ kvs, u = .dT kvs → R (Itkt d od kvs) H1)
theorem keys_core {tg : Expr} {pins : List (Addr × Obj)} {σ : L2.St} {H1 : Hp} {s1 : Shared} {R : It → Hp → Prop} {d : Addr} {o : Obj} {u : HO} (I1 : Inv X pins σ H1 s1) (hd : H1 d = some (.frz o u)) (hu : (∃ kvs, u = .dK kvs) ∨ ∃ kvs, u = .dT kvs)
    (q1 : ∀ kvs, u = .dK kvs → R (Itk d o kvs) H1) (q2 : ∀ kvs, u = .dT kvs → R (Itkt d o kvs) H1) : wpAny (model X.prog X.w) X.A (pyIter (.ref d)) (PIE X pins σ tg R) X.xe s1 := by
  rcases hu with ⟨kvs, rfl⟩ | ⟨kvs, rfl⟩
  · obtain ⟨hs, hgd, hx, es, ep, vs, hdt, hsz, kv, hm⟩ := I1.frzK hd
    refine iter_keys hs hgd hx hdt (pi_one (tk := s1.toks) I1 _ (turn_keys _ hdt) ⟨_, Heap.get?_push_size _ rfl, rfl, ?_⟩ (q1 _ rfl))
    rw [hsz] <;> rfl
  · obtain ⟨hs, hgd, hx, es, ep, hdt, hsz, ent⟩ := I1.frzT hd
    refine iter_keys hs hgd hx hdt (pi_one (tk := s1.toks) I1 _ (turn_keysT _ hdt) ⟨_, Heap.get?_push_size _ rfl, rfl, ?_⟩ (q2 _ rfl))
    rw [hsz] <;> rfl
theorem pi_U {tg : Expr} {td : TE} (he : PE X e td) : PI X tg e (iU X.K td) := by
  refine ⟨fun pins s σ H R I h => ?_⟩
  refine thn (he.run pins s σ H _ I h) fun v s1 ⟨x, H1, I1, r1, q1⟩ => ?_
  rcases q1 with ⟨a, xs, rfl, hq, q⟩ | ⟨a, xs, rfl, hq, q⟩ | ⟨z, rfl, q⟩ | ⟨d, u, rfl, hu, q⟩
  · cases r1
    obtain ⟨its, rv, p, hz⟩ := I1.tuple hq
    refine wpAny_pyIter_tuple (show s1.heap.IsTuple a its.toArray from p) ?_
    refine ⟨s1.heap.objs.size, [s1.heap.objs.size], _, _, H1, rfl, I1.kept (t' := s1.toks) fun b o e => Heap.get?_push_of_some _ e, turn_tuple a _, ⟨_, Heap.get?_push_size _ rfl, rfl, rfl⟩, fun b hb => ?_, q⟩
    have e : b = s1.heap.objs.size := by simpa using hb
    subst e
    exact I1.fpOk (Nat.le_refl _) (I1.hok.fresh (Nat.le_refl _))
  · cases r1
    obtain ⟨its, rv, p, hz⟩ := I1.list hq
    refine wpAny_pyIter_list p.isList ?_
    refine ⟨s1.heap.objs.size, [s1.heap.objs.size], _, _, H1, rfl, I1.kept (t' := s1.toks) fun b o e => Heap.get?_push_of_some _ e, turn_list a _, ⟨_, Heap.get?_push_size _ rfl, rfl, rfl⟩, fun b hb => ?_, q⟩
    have e : b = s1.heap.objs.size := by simpa using hb
    subst e
    exact I1.fpOk (Nat.le_refl _) (I1.hok.fresh (Nat.le_refl _))
  · obtain ⟨t, rfl⟩ := r1
    cases ha : z.cps.all (· < 128)
    · exact wpAny_pyIter_wide ha (pi_one (tk := s1.toks) I1 _ (turn_str _ z t "str_iterator" (.inr rfl)) ⟨_, Heap.get?_push_size _ rfl, rfl, rfl⟩ q)
    · exact wpAny_pyIter_ascii ha (pi_one (tk := s1.toks) I1 _ (turn_str _ z t "str_ascii_iterator" (.inl rfl)) ⟨_, Heap.get?_push_size _ rfl, rfl, rfl⟩ q)
  · cases r1
    rcases q with ⟨hd, q⟩ | ⟨od, hd, q⟩
    · obtain ⟨od, I2⟩ := I1.lock hd (by rcases hu with ⟨_, rfl⟩ | ⟨_, rfl⟩ <;> exact True.intro)
      exact keys_core I2 upd_same hu (q od).1 (q od).2
    · exact keys_core I1 hd hu q.1 q.2
def itD : D → Option (List D)
  | .tup l => some l
  | .ntp l => some l
  | .lst l => some l
  | .scr l => some (l.map .int)
  | .str z => some (strD z)
  | .dic _ ks _ => some ks
  | _ => none
def xiU (te : TX) : TXI := fun x ρ μ Q => te x ρ μ fun s μ1 => match s with
  | .d d => on (itD d) fun l => Q l μ1
  | _ => False
theorem yd_str {K : PySem.W.Frag} {G : Hp} {z : Str} : Walk (Its z) (strD z).length (fun H => LeZ G H) (YD K (strD z) G) := by
  have hl : (strD z).length = z.cps.size := by simp [strD]
  rw [hl]
  refine walk_str.mono (fun _ _ => trivial) fun i H v H' hi q y G2 g2 _ => ?_
  obtain ⟨e1, c, e2, rfl⟩ := y
  have e3 : z.cps.toList[i]? = some c := by rw [Array.getElem?_toList]; exact e2
  exact ⟨.str ⟨#[c]⟩, by simp only [strD, List.getElem?_map, e3, Option.map_some], .inl ⟨e1, .str _⟩⟩
theorem pxi_U {tg : Expr} (he : PX X W e te) : PXI X W tg e (xiU te) := by
  refine ⟨_, pi_U he.pe, fun σ H R h => ?_⟩
  obtain ⟨A, ρ, μ, G, Rp, x, S, ht, hx, k⟩ := h
  refine ⟨A, ρ, μ, G, _, x, S, ht, hx, fun s μ1 A1 G1 H1 v q c1 s1 r1 => ?_⟩
  match s, q, r1 with
  | .d d, q, r1 =>
    obtain ⟨l, hl, q⟩ := on_of q
    cases d <;> simp [itD] at hl
    case tup l' =>
      subst hl
      obtain ⟨a, us, rfl, h1, h2⟩ := Reps.sq r1
      refine .inl ⟨a, us, rfl, c1.le.sqT h1, k _ _ _ _ _ _ q c1 s1 ?_⟩
      rw [h2.length]
      refine walk_tup.mono (fun H' z => z.sqT h1) fun i H0 x H' hi _ y G2 g2 _ => ?_
      obtain ⟨d, e1, r⟩ := h2.get y.2
      exact ⟨d, e1, .inl ⟨y.1, r.mono g2⟩⟩
    case ntp l' =>
      subst hl
      obtain ⟨a, us, rfl, h1, h2⟩ := Reps.sqn r1
      refine .inl ⟨a, us, rfl, c1.le.sqT h1, k _ _ _ _ _ _ q c1 s1 ?_⟩
      rw [h2.length]
      refine walk_tup.mono (fun H' z => z.sqT h1) fun i H0 x H' hi _ y G2 g2 _ => ?_
      obtain ⟨d, e1, r⟩ := h2.get y.2
      exact ⟨d, e1, .inl ⟨y.1, r.mono g2⟩⟩
    case lst l' =>
      subst hl
      obtain ⟨a, us, rfl, h1, h2⟩ := Reps.sql r1
      refine .inr (.inl ⟨a, us, rfl, SqL.of (c1.le _ _ h1), k _ _ _ _ _ _ q c1 s1 ?_⟩)
      rw [h2.length]
      refine walk_list.mono (fun H' z => SqL.of (z.same h1 rfl)) fun i H0 x H' hi _ y G2 g2 _ => ?_
      obtain ⟨d, e1, r⟩ := h2.get y.2
      exact ⟨d, e1, .inl ⟨y.1, r.mono g2⟩⟩
    case scr l' =>
      subst hl
      cases r1 with
      | scr h1 =>
        refine .inr (.inl ⟨_, _, rfl, c1.le.sqL h1, k _ _ _ _ _ _ q c1 s1 ?_⟩)
        have h2 := scr_reps (K := X.K) (G := G1) l'
        rw [h2.length]
        refine walk_list.mono (fun H' z => z.sqL h1) fun i H0 x H' hi _ y G2 g2 _ => ?_
        obtain ⟨d, e1, r⟩ := h2.get y.2
        exact ⟨d, e1, .inl ⟨y.1, r.mono g2⟩⟩
    case str z =>
      subst hl
      cases r1
      exact .inr (.inr (.inl ⟨z, rfl, k _ _ _ _ _ _ q c1 s1 yd_str⟩))
    case dic t ks vs =>
      subst hl
      cases r1 with
      | @dicK a kvs _ _ h hk hs =>
        subst hk
        refine .inr (.inr (.inr ⟨a, .dK kvs, rfl, .inl ⟨_, rfl⟩, ?_⟩))
        rcases h with h | ⟨od, h⟩
        · refine .inl ⟨c1.le _ _ h, fun od => ⟨fun kvs' e => ?_, fun kvs' e => by cases e⟩⟩
          cases e
          obtain ⟨c2, s2⟩ := c1.lockD (od := od) h rfl
          exact k _ _ _ _ _ _ q c2 (s1.trans s2) (yd_keys upd_same)
        · refine .inr ⟨od, c1.le _ _ h, fun kvs' e => ?_, fun kvs' e => by cases e⟩
          cases e
          exact k _ _ _ _ _ _ q c1 s1 (yd_keys h)
      | @dicT a kvs _ _ h hk hs =>
        subst hk
        refine .inr (.inr (.inr ⟨a, .dT kvs, rfl, .inr ⟨_, rfl⟩, ?_⟩))
        rcases h with h | ⟨od, h⟩
        · refine .inl ⟨c1.le _ _ h, fun od => ⟨fun kvs' e => (by cases e), fun kvs' e => ?_⟩⟩
          cases e
          obtain ⟨c2, s2⟩ := c1.lockD (od := od) h rfl
          exact k _ _ _ _ _ _ q c2 (s1.trans s2) (yd_keysT upd_same)
        · refine .inr ⟨od, c1.le _ _ h, fun kvs' e => (by cases e), fun kvs' e => ?_⟩
          cases e
          exact k _ _ _ _ _ _ q c1 s1 (yd_keysT h)
def iEnumU (K : PySem.W.Frag) (ta : TA) : TI := fun σ H R => ta σ H fun vs H1 => ∃ a xs, vs = [.ref a] ∧ ((SqT K H1 a xs ∧ R (IteT K a) H1) ∨ (SqL K H1 a xs ∧ R (Ite K a) H1))
theorem pi_enumU {ta : TA} (hg : Gl X "enumerate") (hm : X.mg "enumerate" = none) (ha : PA X [e] ta) (hs : starEach [e] X.env = [(false, eval e X.env)] := by rfl) :
    PI X (.Tuple elts kk tpos) (.Call (.Name "enumerate" p) [e] [] pos) (iEnumU X.K ta) := by
  refine ⟨fun pins s σ H R I h => ?_⟩
  refine Call_ (ld_blt I hg hm boot_enumerate (PyProof.Rows.callWith_type1 (thn (ha.run pos pins s σ H _ I h) fun us s1 ⟨vs, H1, I1, r1, q1⟩ => ?_) hs rfl))
  obtain ⟨a, xs, ex, q⟩ := q1
  subst ex
  cases r1 with
  | cons r rr =>
    cases rr
    cases r
    have fp : ∀ b ∈ [s1.heap.objs.size + 1, s1.heap.objs.size], FpOk X pins H1 b := fun b hb => by
      have e' : b = s1.heap.objs.size + 1 ∨ b = s1.heap.objs.size := by simpa using hb
      have hle : s1.heap.objs.size ≤ b := by
        rcases e' with z | z
        · rw [z]; exact Nat.le_add_right _ _
        · rw [z]; exact Nat.le_refl _
      exact I1.fpOk hle (I1.hok.fresh hle)
    rcases q with ⟨hq, q⟩ | ⟨hq, q⟩
    · obtain ⟨its, rv, p', hz⟩ := I1.tuple hq
      refine call_enum1 (begins_tuple a its.toArray) p' fun h' he hit0 hk => wpAny_pyIter_enum he ?_
      have hit : h'.IsTupleIter s1.heap.objs.size a 0 := ⟨_, hit0, rfl, rfl⟩
      have I2 : Inv X pins σ H1 { s1 with heap := h' } := I1.kept (t' := s1.toks) hk
      exact ⟨s1.heap.objs.size + 1, [s1.heap.objs.size + 1, s1.heap.objs.size], _, _, H1, rfl, I2, turn_enumT a (s1.heap.objs.size + 1) s1.heap.objs.size, ⟨⟨.none, he⟩, hit, Nat.succ_ne_self _⟩, fp, q⟩
    · obtain ⟨its, rv, p', hz⟩ := I1.list hq
      refine call_enumerate_list p'.isList fun h' he hit hsz hk => wpAny_pyIter_enum he ?_
      have I2 : Inv X pins σ H1 { s1 with heap := h' } := I1.kept (t' := s1.toks) hk
      exact ⟨s1.heap.objs.size + 1, [s1.heap.objs.size + 1, s1.heap.objs.size], _, _, H1, rfl, I2, turn_enum a (s1.heap.objs.size + 1) s1.heap.objs.size, ⟨⟨.none, he⟩, hit, Nat.succ_ne_self _⟩, fp, q⟩
def xiEnU (t : TXA) : TXI := fun x ρ μ Q => t x ρ μ fun ss μ1 => match ss with
  | [.d (.tup l)] => Q (enumD l) μ1
  | [.d (.ntp l)] => Q (enumD l) μ1
  | [.d (.lst l)] => Q (enumD l) μ1
  | _ => False
theorem pxi_enumU (hg : Gl X "enumerate") (hm : X.mg "enumerate" = none) (ha : PXA X W [e] tL) (hs : starEach [e] X.env = [(false, eval e X.env)] := by rfl) : PXI X W (.Tuple elts kk tpos) (.Call (.Name "enumerate" p) [e] [] pos) (xiEnU tL) := by
  refine ⟨_, pi_enumU hg hm ha.pa hs, fun σ H R h => ?_⟩
  obtain ⟨A, ρ, μ, G, Rp, x, S, ht, hx, k⟩ := h
  refine ⟨A, ρ, μ, G, _, x, S, ht, hx, fun ss μ1 A1 G1 H1 vs q c1 s1 r1 => ?_⟩
  match ss, q, r1 with
  | [.d (.tup l)], q, .cons r .nil =>
    obtain ⟨a, us, rfl, h1, h2⟩ := Reps.sq r
    refine ⟨a, us, rfl, .inl ⟨c1.le.sqT h1, k _ _ _ _ _ _ q c1 s1 ?_⟩⟩
    have hl : (enumD l).length = us.length := by simp [enumD, h2.length]
    rw [hl]
    refine ⟨fun i H hi q => ⟨us, us[i], q.sqT h1, by simp [hi]⟩, fun _ q => ⟨us, q.sqT h1, rfl⟩, fun i H v H' hi q y G2 g2 _ => ?_⟩
    obtain ⟨T, x, e1, e2, e3, e4⟩ := y
    obtain ⟨d, ed, r⟩ := h2.get (e4 us (q.sqT h1))
    exact yd_pair (d := .int (i : Nat)) (e := d) (by simp [enumD, ed]) (.int _) (r.mono g2) ⟨T, e1, e2, e3⟩
  | [.d (.ntp l)], q, .cons r .nil =>
    obtain ⟨a, us, rfl, h1, h2⟩ := Reps.sqn r
    refine ⟨a, us, rfl, .inl ⟨c1.le.sqT h1, k _ _ _ _ _ _ q c1 s1 ?_⟩⟩
    have hl : (enumD l).length = us.length := by simp [enumD, h2.length]
    rw [hl]
    refine ⟨fun i H hi q => ⟨us, us[i], q.sqT h1, by simp [hi]⟩, fun _ q => ⟨us, q.sqT h1, rfl⟩, fun i H v H' hi q y G2 g2 _ => ?_⟩
    obtain ⟨T, x, e1, e2, e3, e4⟩ := y
    obtain ⟨d, ed, r⟩ := h2.get (e4 us (q.sqT h1))
    exact yd_pair (d := .int (i : Nat)) (e := d) (by simp [enumD, ed]) (.int _) (r.mono g2) ⟨T, e1, e2, e3⟩
  | [.d (.lst l)], q, .cons r .nil =>
    obtain ⟨a, us, rfl, h1, h2⟩ := Reps.sql r
    refine ⟨a, us, rfl, .inr ⟨SqL.of (c1.le _ _ h1), k _ _ _ _ _ _ q c1 s1 ?_⟩⟩
    have hl : (enumD l).length = us.length := by simp [enumD, h2.length]
    rw [hl]
    refine walk_enum.mono (fun H z => SqL.of (z.same h1 rfl)) fun i H v H' hi q y G2 g2 _ => ?_
    obtain ⟨T, x, y', e1, e2, e3, e4, e5⟩ := y
    cases e4
    obtain ⟨d, ed, r⟩ := h2.get e5
    exact yd_pair (d := .int (i : Nat)) (e := d) (by simp [enumD, ed]) (.int _) (r.mono g2) ⟨T, e1, e2, e3⟩
def xiZipU (t : TXA) : TXI := fun x ρ μ Q => t x ρ μ fun ss μ1 => match ss with
  | [.d (.tup l), .d (.tup m)] => Q (zipD l m) μ1
  | [.d (.ntp l), .d (.tup m)] => Q (zipD l m) μ1
  | [.d (.tup l), .d (.ntp m)] => Q (zipD l m) μ1
  | [.d (.ntp l), .d (.ntp m)] => Q (zipD l m) μ1
  | [.d (.lst l), .d (.lst m)] => Q (zipD l m) μ1
  | _ => False
theorem pxi_zipU (hg : Gl X "zip") (hm : X.mg "zip" = none) (ha : PXA X W [a, b] tL) (hs : starEach [a, b] X.env = (false, eval a X.env) :: starEach [b] X.env := by rfl) (hpl : (backTo pos (starEach [b] X.env)).any (·.1) = false := by rfl) : PXI X W (.Tuple elts kk tpos) (.Call (.Name "zip" p) [a, b] [] pos) (xiZipU tL) := by
  refine ⟨_, pi_zipA hg hm ha.pa hs hpl, fun σ H R h => ?_⟩
  obtain ⟨A, ρ, μ, G, Rp, x, S, ht, hx, k⟩ := h
  refine ⟨A, ρ, μ, G, _, x, S, ht, hx, fun ss μ1 A1 G1 H1 vs q c1 s1 r1 => ?_⟩
  match ss, q, r1 with
  | [.d (.tup l), .d (.tup m)], q, .cons r (.cons r' .nil) =>
    obtain ⟨a, us, rfl, h1, h2⟩ := Reps.sq r
    obtain ⟨b, ws, rfl, h3, h4⟩ := Reps.sq r'
    refine ⟨a, b, us, ws, rfl, .inr ⟨c1.le.sqT h1, c1.le.sqT h3, k _ _ _ _ _ _ q c1 s1 ?_⟩⟩
    have hl : (zipD l m).length = min us.length ws.length := by simp [zipD, h2.length, h4.length]
    refine (walk_zipT hl).mono (fun H z => ⟨z.sqT h1, z.sqT h3⟩) fun i H v H' hi q y G2 g2 _ => ?_
    obtain ⟨T, x, y', e1, e2, e3, e4, e5⟩ := y
    obtain ⟨d, ed, r⟩ := h2.get e4
    obtain ⟨e, ee, r'⟩ := h4.get e5
    exact yd_pair (d := d) (e := e) (zipD_at ed ee) (r.mono g2) (r'.mono g2) ⟨T, e1, e2, e3⟩
  | [.d (.ntp l), .d (.tup m)], q, .cons r (.cons r' .nil) =>
    obtain ⟨a, us, rfl, h1, h2⟩ := Reps.sqn r
    obtain ⟨b, ws, rfl, h3, h4⟩ := Reps.sq r'
    refine ⟨a, b, us, ws, rfl, .inr ⟨c1.le.sqT h1, c1.le.sqT h3, k _ _ _ _ _ _ q c1 s1 ?_⟩⟩
    have hl : (zipD l m).length = min us.length ws.length := by simp [zipD, h2.length, h4.length]
    refine (walk_zipT hl).mono (fun H z => ⟨z.sqT h1, z.sqT h3⟩) fun i H v H' hi q y G2 g2 _ => ?_
    obtain ⟨T, x, y', e1, e2, e3, e4, e5⟩ := y
    obtain ⟨d, ed, r⟩ := h2.get e4
    obtain ⟨e, ee, r'⟩ := h4.get e5
    exact yd_pair (d := d) (e := e) (zipD_at ed ee) (r.mono g2) (r'.mono g2) ⟨T, e1, e2, e3⟩
  | [.d (.tup l), .d (.ntp m)], q, .cons r (.cons r' .nil) =>
    obtain ⟨a, us, rfl, h1, h2⟩ := Reps.sq r
    obtain ⟨b, ws, rfl, h3, h4⟩ := Reps.sqn r'
    refine ⟨a, b, us, ws, rfl, .inr ⟨c1.le.sqT h1, c1.le.sqT h3, k _ _ _ _ _ _ q c1 s1 ?_⟩⟩
    have hl : (zipD l m).length = min us.length ws.length := by simp [zipD, h2.length, h4.length]
    refine (walk_zipT hl).mono (fun H z => ⟨z.sqT h1, z.sqT h3⟩) fun i H v H' hi q y G2 g2 _ => ?_
    obtain ⟨T, x, y', e1, e2, e3, e4, e5⟩ := y
    obtain ⟨d, ed, r⟩ := h2.get e4
    obtain ⟨e, ee, r'⟩ := h4.get e5
    exact yd_pair (d := d) (e := e) (zipD_at ed ee) (r.mono g2) (r'.mono g2) ⟨T, e1, e2, e3⟩
  | [.d (.ntp l), .d (.ntp m)], q, .cons r (.cons r' .nil) =>
    obtain ⟨a, us, rfl, h1, h2⟩ := Reps.sqn r
    obtain ⟨b, ws, rfl, h3, h4⟩ := Reps.sqn r'
    refine ⟨a, b, us, ws, rfl, .inr ⟨c1.le.sqT h1, c1.le.sqT h3, k _ _ _ _ _ _ q c1 s1 ?_⟩⟩
    have hl : (zipD l m).length = min us.length ws.length := by simp [zipD, h2.length, h4.length]
    refine (walk_zipT hl).mono (fun H z => ⟨z.sqT h1, z.sqT h3⟩) fun i H v H' hi q y G2 g2 _ => ?_
    obtain ⟨T, x, y', e1, e2, e3, e4, e5⟩ := y
    obtain ⟨d, ed, r⟩ := h2.get e4
    obtain ⟨e, ee, r'⟩ := h4.get e5
    exact yd_pair (d := d) (e := e) (zipD_at ed ee) (r.mono g2) (r'.mono g2) ⟨T, e1, e2, e3⟩
  | [.d (.lst l), .d (.lst m)], q, .cons r (.cons r' .nil) =>
    obtain ⟨a, us, rfl, h1, h2⟩ := Reps.sql r
    obtain ⟨b, ws, rfl, h3, h4⟩ := Reps.sql r'
    refine ⟨a, b, us, ws, rfl, .inl ⟨SqL.of (c1.le _ _ h1), SqL.of (c1.le _ _ h3), k _ _ _ _ _ _ q c1 s1 ?_⟩⟩
    have hl : (zipD l m).length = min us.length ws.length := by simp [zipD, h2.length, h4.length]
    refine (walk_zip hl).mono (fun H z => ⟨SqL.of (z.same h1 rfl), SqL.of (z.same h3 rfl)⟩) fun i H v H' hi q y G2 g2 _ => ?_
    obtain ⟨T, x, y', e1, e2, e3, e4, e5⟩ := y
    obtain ⟨d, ed, r⟩ := h2.get e4
    obtain ⟨e, ee, r'⟩ := h4.get e5
    exact yd_pair (d := d) (e := e) (zipD_at ed ee) (r.mono g2) (r'.mono g2) ⟨T, e1, e2, e3⟩
inductive TyK where
  | bool | int | str | tuple | list | dict
def TyK.nm : TyK → String
  | .bool => "bool"
  | .int => "int"
  | .str => "str"
  | .tuple => "tuple"
  | .list => "list"
  | .dict => "dict"
def isK : TyK → D → Option Bool
  | k, .non => match k with | _ => some false
  | k, .bl _ => match k with | .bool => some true | .int => some true | _ => some false
  | k, .int _ => match k with | .int => some true | _ => some false
  | k, .str _ => match k with | .str => some true | _ => some false
  | k, .tup _ => match k with | .tuple => some true | _ => some false
  | k, .ntp _ => match k with | .tuple => some true | _ => some false
  | k, .lst _ => match k with | .list => some true | _ => some false
  | k, .scr _ => match k with | .list => some true | _ => some false
  | k, .dic _ _ _ => match k with | .dict => some true | _ => some false
  | _, _ => none
def isKc : TyK → Cell → Option Bool
  | k, .lst _ => match k with | .list => some true | _ => some false
  | k, .dK _ _ => match k with | .dict => some true | _ => some false
  | k, .dT _ _ => match k with | .dict => some true | _ => some false
  | _, _ => none
def isKs (k : TyK) (s : SV) (μ : Mem) : Option Bool := match s with
  | .d d => isK k d
  | .c j => match μ[j]? with
    | some c => isKc k c
    | none => none
  | .un => none
theorem isKs_ok {k : TyK} {s : SV} {μ : Mem} {b : Bool} (h : isKs k s μ = some b) : ∃ T, tyOf s μ = some T ∧ k.nm ∈ tyNames ∧ isTy T k.nm = b := by
  unfold isKs at h
  split at h
  · rename_i d
    cases d <;> cases k <;> simp [isK] at h <;> subst h <;> refine ⟨_, rfl, by decide, by decide⟩
  · rename_i j
    split at h
    · rename_i c hc
      cases c <;> cases k <;> simp [isKc] at h <;> subst h <;> simp only [tyOf, hc] <;> exact ⟨_, rfl, by decide, by decide⟩
    · cases h
  · cases h
def pIsK (k : TyK) : SV → Mem → VP → Prop := fun s μ Q => on (isKs k s μ) fun b => Q (.d (.bl b)) μ
def xIsK (k : TyK) (ta : TX) : TX := fun x ρ μ Q => ta x ρ μ fun s μ1 => pIsK k s μ1 Q
theorem px_isiK (k : TyK) {x : Str} {px' : Pos} (hg : Gl X "isinstance") (hm : X.mg "isinstance" = none) (hg2 : Gl X x) (hm2 : X.mg x = none) (hv : bootBuiltins x = some (.type k.nm)) (ha : PX X W a ta)
    (hn : x ≠ "__name__" := by decide) (hd : (x == ("__debug__" : Str)) = false := by decide)
    (he : starEach [a, .Name x px'] X.env = (false, eval a X.env) :: starEach [.Name x px'] X.env := by rfl) (he2 : starEach [.Name x px'] X.env = (false, eval (.Name x px') X.env) :: starEach [] X.env := by rfl) (hpl : (backTo pos (starEach [.Name x px'] X.env)).any (·.1) = false := by rfl) : PX X W (.Call (.Name "isinstance" p) [a, .Name x px'] [] pos) (xIsK k ta) := by
  have hL : PXA X W [a, .Name x px'] (xCons ta (xCons (xC (.ty k.nm)) xNil)) := pxa_cons ha (pxa_cons (px_bty (T := k.nm) hg2 hm2 hv hn hd) pxa_nil he2) he
  refine ⟨(pe_callB call_isiY hg hm (by decide +kernel) hL.pa (by decide) (by decide) he hpl).imp fun σ H Q h => ?_⟩
  obtain ⟨A, ρ, μ, G, Qp, xp, S, ht, hx, kk⟩ := h
  refine ⟨A, ρ, μ, G, fun ss μ1 => ∃ s, ss = [s, .d (.ty k.nm)] ∧ pIsK k s μ1 Qp, xp, S, ?_, hx, fun ss μ' A' G' H' vs q c s rr => ?_⟩
  · have e : (fun (s : SV) (μ1 : Mem) => ∃ s', [s, SV.d (.ty k.nm)] = [s', SV.d (.ty k.nm)] ∧ pIsK k s' μ1 Qp) = fun s μ1 => pIsK k s μ1 Qp := by
      funext s μ1
      refine propext ⟨fun ⟨s', e, q⟩ => ?_, fun q => ⟨s, rfl, q⟩⟩
      cases e
      exact q
    show ta xp ρ μ fun s μ1 => ∃ s', [s, SV.d (.ty k.nm)] = [s', SV.d (.ty k.nm)] ∧ pIsK k s' μ1 Qp
    rw [e]
    exact ht
  · obtain ⟨s0, rfl, q⟩ := q
    obtain ⟨b, e, q⟩ := on_of q
    obtain ⟨T, e1, e2, e3⟩ := isKs_ok e
    exact pcall_isi (X := X) _ μ' A' G' H' vs Qp Q (by simp only [pIsi, e1, on]; exact ⟨e2, by rw [e3]; exact q⟩) c rr fun r μ2 A2 G2 H2 v q2 c2 s2 r2 => kk r μ2 A2 G2 H2 v q2 c2 (s.trans s2) r2
def pModU : SV → SV → Mem → VP → Prop := fun sa sb μ Q => match sa, sb with
  | .d (.int i), .d (.int j) => 0 < j ∧ Q (.d (.int (i % j))) μ
  | _, _ => False
theorem pop_modU {K : PySem.W.Frag} : POp K (rI (fun _ j => 0 < j) fun i j => .int (i % j)) pModU := by
  intro sa sb μ A G H va vb Qp Q h c ra rb k
  unfold pModU at h
  split at h
  · cases ra; cases rb
    exact ⟨_, _, rfl, rfl, h.1, k _ _ _ _ _ _ h.2 c .refl (.int _)⟩
  · exact h.elim
theorem px_modU (ha : PX X W a ta) (hb : PX X W b tb) : PX X W (.BinOp a .Mod b pos) (xOp pModU ta tb) := px_op op_mod pop_modU ha hb
def pSubU : SV → SV → Mem → VP → Prop := fun sa sb μ Q => match sa, sb with
  | .d (.int i), .d (.int j) => Q (.d (.int (i - j))) μ
  | _, _ => False
theorem pop_subU {K : PySem.W.Frag} : POp K (rI0 fun i j => .int (i - j)) pSubU := by
  intro sa sb μ A G H va vb Qp Q h c ra rb k
  unfold pSubU at h
  split at h
  · cases ra; cases rb
    exact ⟨_, _, rfl, rfl, k _ _ _ _ _ _ h c .refl (.int _)⟩
  · exact h.elim
theorem px_subU (ha : PX X W a ta) (hb : PX X W b tb) : PX X W (.BinOp a .Sub b pos) (xOp pSubU ta tb) := px_op op_sub pop_subU ha hb
/-- ==, != -/
def pEqU : SV → SV → Mem → VP → Prop := fun sa sb μ Q => match sa, sb with
  | .d (.int i), .d (.int j) => Q (.d (.bl (decide (i = j)))) μ
  | .d (.bl i), .d (.bl j) => Q (.d (.bl (i == j))) μ
  | .d x, .d y => (okEq x = true ∧ okEq y = true) ∧ Q (.d (.bl (deq x y))) μ
  | _, _ => False
def pNeU : SV → SV → Mem → VP → Prop := fun sa sb μ Q => match sa, sb with
  | .d (.int i), .d (.int j) => Q (.d (.bl (!decide (i = j)))) μ
  | .d (.bl i), .d (.bl j) => Q (.d (.bl (!(i == j)))) μ
  | .d x, .d y => (okEq x = true ∧ okEq y = true) ∧ Q (.d (.bl (!deq x y))) μ
  | _, _ => False
theorem deq_int0 (i j : Int) : deq (.int i) (.int j) = decide (i = j) := by
  simp only [deq, toPy, PyData.eqv]
  by_cases h : i = j <;> simp [h]
theorem pop_eqU {K : PySem.W.Frag} : POp K (rEqD K) pEqU := by
  intro sa sb μ A G H va vb Qp Q h c ra rb k
  unfold pEqU at h
  split at h
  · rename_i i j
    exact pop_eq (.d (.int i)) (.d (.int j)) μ A G H va vb Qp Q ⟨⟨by simp [okEq, flat], by simp [okEq, flat]⟩, by rw [deq_int0]; exact h⟩ c ra rb k
  · rename_i i j
    exact pop_eq (.d (.bl i)) (.d (.bl j)) μ A G H va vb Qp Q ⟨⟨by simp [okEq, flat], by simp [okEq, flat]⟩, by simp only [deq, toPy, PyData.eqv]; exact h⟩ c ra rb k
  · rename_i x y _ _
    exact pop_eq (.d x) (.d y) μ A G H va vb Qp Q h c ra rb k
  · exact h.elim
theorem pop_neU {K : PySem.W.Frag} : POp K (rNeD K) pNeU := by
  intro sa sb μ A G H va vb Qp Q h c ra rb k
  unfold pNeU at h
  split at h
  · rename_i i j
    exact pop_ne (.d (.int i)) (.d (.int j)) μ A G H va vb Qp Q ⟨⟨by simp [okEq, flat], by simp [okEq, flat]⟩, by rw [deq_int0]; exact h⟩ c ra rb k
  · rename_i i j
    exact pop_ne (.d (.bl i)) (.d (.bl j)) μ A G H va vb Qp Q ⟨⟨by simp [okEq, flat], by simp [okEq, flat]⟩, by simp only [deq, toPy, PyData.eqv]; exact h⟩ c ra rb k
  · rename_i x y _ _
    exact pop_ne (.d x) (.d y) μ A G H va vb Qp Q h c ra rb k
  · exact h.elim
theorem px_eqU (hu : X.A.units + 64 < cLine) (ha : PX X W a ta) (hb : PX X W b tb) : PX X W (.Compare a [.Eq] [b] pos) (xOp pEqU ta tb) := px_cmp (op_eqD hu) pop_eqU ha hb
theorem px_neU (hu : X.A.units + 64 < cLine) (ha : PX X W a ta) (hb : PX X W b tb) : PX X W (.Compare a [.NotEq] [b] pos) (xOp pNeU ta tb) := px_cmp (op_neD hu) pop_neU ha hb
theorem pxt_eqU (hu : X.A.units + 64 < cLine) (ha : PX X W a ta) (hb : PX X W b tb) : PXT X W (.Compare a [.Eq] [b] pos) (xTest (xOp pEqU ta tb)) := pxt_cmp (op_eqD hu) pop_eqU ha hb
theorem pxt_neU (hu : X.A.units + 64 < cLine) (ha : PX X W a ta) (hb : PX X W b tb) : PXT X W (.Compare a [.NotEq] [b] pos) (xTest (xOp pNeU ta tb)) := pxt_cmp (op_neD hu) pop_neU ha hb
end
end PL
namespace PL
open PySem PySem.Spec PyProof.Rows L2
theorem sz (n : Nat) (h : n ≤ 1000 := by decide) : n ≤ sizeLine := by rw [sizeLine_eq]; omega
theorem deq_int (i j : Int) : deq (.int i) (.int j) = decide (i = j) := by
  simp only [deq, toPy, PyData.eqv]
  by_cases h : i = j <;> simp [h]
theorem deq_bl (i j : Bool) : deq (.bl i) (.bl j) = (i == j) := by simp only [deq, toPy, PyData.eqv]
theorem bools_map {α : Type} (g : α → Bool) : ∀ l : List α, bools (l.map fun d => .bl (g d)) = some (l.map g)
  | [] => rfl
  | a :: l => by simp only [List.map_cons, bools, bools_map g l, Option.map_some]
theorem rngD_length (lo : Int) (n : Nat) : (rngD lo n).length = n := by simp [rngD]
theorem enumD_length (l : List D) : (enumD l).length = l.length := by simp [enumD]
theorem enumD_at {l : List D} {i : Nat} {d : D} (h : (enumD l)[i]? = some d) : ∃ e, l[i]? = some e ∧ d = .tup [.int (i : Nat), e] := by
  unfold enumD at h
  rw [List.getElem?_mapIdx] at h
  obtain ⟨e, h1, h2⟩ := Option.map_eq_some_iff.mp h
  exact ⟨e, h1, h2.symm⟩
theorem zipD_length (l m : List D) : (zipD l m).length = min l.length m.length := by simp [zipD]
theorem atI_nat {α : Type} {l : List α} {i : Nat} : atI l (i : Nat) = l[i]? := by
  unfold atI ixN
  by_cases h : i < l.length
  · have h2 : ¬ ((i : Int) < 0) := by omega
    simp [h2, h]
  · have h2 : ¬ ((i : Int) < 0) := by omega
    simp [h2, h, List.getElem?_eq_none (Nat.le_of_not_lt h)]
section
variable {P : Program} {w : World} {K : PySem.W.Frag} {mg : Str → Option Value} {base : Heap}
/-- a promise that is never asked for -/
theorem Has.never {x : Str} {st : Stmt} {ps : List Str} {k : Nat} (D : Def K mg x st) (B : BindN x st ps) : Has P w K mg base k x ps (fun _ _ _ _ => False) := by
  obtain ⟨fd, F, hm⟩ := D.ex
  have no : ∀ vs H Q E, ¬ low K (fun _ _ _ _ => False) vs H Q E := fun vs H Q E ⟨_, _, _, _, _, _, _, _, z, _⟩ => z
  exact ⟨fd, ⟨fun vs H Q E z => (no _ _ _ _ z).elim, fun A outer s H args us vs Q E hr e b r z => (no _ _ _ _ z).elim⟩, hm, F.kp, FunD.bindsN F B, x, st, F⟩
end
end PL
namespace PL
open PySem PySem.Spec PyProof.Rows L2
def ltD (x y : D) : Bool := PySem.W.dataLt (toPy x) (toPy y)
def alD (x y : D) : Bool := PySem.W.alike (toPy x) (toPy y)
def rCmpD (f : PyData → PyData → Bool) (K : PySem.W.Frag) : R2 := fun x y H Q => ∃ d e, Dp K H x d ∧ Dp K H y e ∧ PySem.W.alike d e = true ∧ d ≠ .none ∧ d.depth ≤ 62 ∧ Q (.bl (f d e)) H
theorem room62 {A : Around} {d e : PyData} (hu : A.units + 64 < cLine) (h : d.depth ≤ 62) : A.units + min d.depth e.depth < cLine := by
  have : min d.depth e.depth ≤ 62 := Nat.le_trans (Nat.min_le_left _ _) h
  omega
section
variable {X : Cx} {W : WX} {a b c e : Expr} {es : List Expr} {ta tb tc te : TX} {tA : TXT} {tL : TXA} {pos p tpos p2 : Pos} {x : Str}
theorem op_ltD (hu : X.A.units + 64 < cLine) : OpR X (compareOp .Lt) (rCmpD (fun d e => PySem.W.dataLt d e) X.K) := by
  intro pins s σ H x y v u Q I rx ry ⟨d, e, hd, he, hc, hn, hp, q⟩
  obtain ⟨as, r1⟩ := Dp.reads I d x v hd rx
  obtain ⟨bs, r2⟩ := Dp.reads I e y u he ry
  exact PySem.W.lt_data r1 r2 hc hn (room62 hu hp) ⟨.bl _, H, I, rfl, q⟩
theorem op_leD (hu : X.A.units + 64 < cLine) : OpR X (compareOp .LtE) (rCmpD (fun d e => !PySem.W.dataLt e d) X.K) := by
  intro pins s σ H x y v u Q I rx ry ⟨d, e, hd, he, hc, hn, hp, q⟩
  obtain ⟨as, r1⟩ := Dp.reads I d x v hd rx
  obtain ⟨bs, r2⟩ := Dp.reads I e y u he ry
  exact PySem.W.le_data r1 r2 hc hn (room62 hu hp) ⟨.bl _, H, I, rfl, q⟩
theorem op_gtD (hu : X.A.units + 64 < cLine) : OpR X (compareOp .Gt) (rCmpD (fun d e => PySem.W.dataLt e d) X.K) := by
  intro pins s σ H x y v u Q I rx ry ⟨d, e, hd, he, hc, hn, hp, q⟩
  obtain ⟨as, r1⟩ := Dp.reads I d x v hd rx
  obtain ⟨bs, r2⟩ := Dp.reads I e y u he ry
  exact PySem.W.gt_data r1 r2 hc hn (room62 hu hp) ⟨.bl _, H, I, rfl, q⟩
theorem op_geD (hu : X.A.units + 64 < cLine) : OpR X (compareOp .GtE) (rCmpD (fun d e => !PySem.W.dataLt d e) X.K) := by
  intro pins s σ H x y v u Q I rx ry ⟨d, e, hd, he, hc, hn, hp, q⟩
  obtain ⟨as, r1⟩ := Dp.reads I d x v hd rx
  obtain ⟨bs, r2⟩ := Dp.reads I e y u he ry
  exact PySem.W.ge_data r1 r2 hc hn (room62 hu hp) ⟨.bl _, H, I, rfl, q⟩
def isTp : D → Bool
  | .tup _ => true
  | .ntp _ => true
  | _ => false
def pLtV : SV → SV → Mem → VP → Prop := fun sa sb μ Q => match sa, sb with
  | .d (.int i), .d (.int j) => Q (.d (.bl (decide (i < j)))) μ
  | .d (.str i), .d (.str j) => Q (.d (.bl (decide (i.cps.toList < j.cps.toList)))) μ
  | .d x, .d y => (isTp x = true ∧ isTp y = true ∧ okEq x = true ∧ okEq y = true ∧ alD x y = true) ∧ Q (.d (.bl (ltD x y))) μ
  | _, _ => False
def pLeV : SV → SV → Mem → VP → Prop := fun sa sb μ Q => match sa, sb with
  | .d (.int i), .d (.int j) => Q (.d (.bl (decide (i ≤ j)))) μ
  | .d (.str i), .d (.str j) => Q (.d (.bl (!decide (j.cps.toList < i.cps.toList)))) μ
  | .d x, .d y => (isTp x = true ∧ isTp y = true ∧ okEq x = true ∧ okEq y = true ∧ alD x y = true) ∧ Q (.d (.bl (!ltD y x))) μ
  | _, _ => False
def pGtV : SV → SV → Mem → VP → Prop := fun sa sb μ Q => match sa, sb with
  | .d (.int i), .d (.int j) => Q (.d (.bl (decide (j < i)))) μ
  | .d (.str i), .d (.str j) => Q (.d (.bl (decide (j.cps.toList < i.cps.toList)))) μ
  | .d x, .d y => (isTp x = true ∧ isTp y = true ∧ okEq x = true ∧ okEq y = true ∧ alD x y = true) ∧ Q (.d (.bl (ltD y x))) μ
  | _, _ => False
def pGeV : SV → SV → Mem → VP → Prop := fun sa sb μ Q => match sa, sb with
  | .d (.int i), .d (.int j) => Q (.d (.bl (decide (j ≤ i)))) μ
  | .d (.str i), .d (.str j) => Q (.d (.bl (!decide (i.cps.toList < j.cps.toList)))) μ
  | .d x, .d y => (isTp x = true ∧ isTp y = true ∧ okEq x = true ∧ okEq y = true ∧ alD x y = true) ∧ Q (.d (.bl (!ltD x y))) μ
  | _, _ => False
theorem rCmpD_of {K : PySem.W.Frag} {f : PyData → PyData → Bool} {a b : D} {va vb : V} {G H : Hp} {Q : VK} (le : Le G H) (h : isTp a = true ∧ isTp b = true ∧ okEq a = true ∧ okEq b = true ∧ alD a b = true) (ra : Rep K G a va) (rb : Rep K G b vb)
    (q : Q (.bl (f (toPy a) (toPy b))) H) : rCmpD f K va vb H Q :=
  ⟨toPy a, toPy b, rep_dp le 60 a _ h.2.2.1 ra, rep_dp le 60 b _ h.2.2.2.1 rb, h.2.2.2.2, (by obtain ⟨h, _⟩ := h; cases a <;> simp [isTp] at h <;> simp only [toPy] <;> intro z <;> cases z), by have := okEq_depth h.2.2.1; omega, q⟩
theorem pop_ltV {K : PySem.W.Frag} : POp K (fun x y H Q => (rI0 (fun i j => .bl (decide (i < j))) x y H Q ∨ rCmpS (fun i j => decide (i.cps.toList < j.cps.toList)) x y H Q) ∨ rCmpD (fun d e => PySem.W.dataLt d e) K x y H Q) pLtV := by
  intro sa sb μ A G H va vb Qp Q h c ra rb k
  unfold pLtV at h
  split at h
  · cases ra; cases rb
    exact .inl (.inl ⟨_, _, rfl, rfl, k _ _ _ _ _ _ h c .refl (.bl _)⟩)
  · cases ra; cases rb
    exact .inl (.inr ⟨_, _, rfl, rfl, k _ _ _ _ _ _ h c .refl (.bl _)⟩)
  · exact .inr (rCmpD_of c.le h.1 ra rb (k _ _ _ _ _ _ h.2 c .refl (.bl _)))
  · exact h.elim
theorem pop_leV {K : PySem.W.Frag} : POp K (fun x y H Q => (rI0 (fun i j => .bl (decide (i ≤ j))) x y H Q ∨ rCmpS (fun i j => !decide (j.cps.toList < i.cps.toList)) x y H Q) ∨ rCmpD (fun d e => !PySem.W.dataLt e d) K x y H Q) pLeV := by
  intro sa sb μ A G H va vb Qp Q h c ra rb k
  unfold pLeV at h
  split at h
  · cases ra; cases rb
    exact .inl (.inl ⟨_, _, rfl, rfl, k _ _ _ _ _ _ h c .refl (.bl _)⟩)
  · cases ra; cases rb
    exact .inl (.inr ⟨_, _, rfl, rfl, k _ _ _ _ _ _ h c .refl (.bl _)⟩)
  · exact .inr (rCmpD_of c.le h.1 ra rb (k _ _ _ _ _ _ h.2 c .refl (.bl _)))
  · exact h.elim
theorem pop_gtV {K : PySem.W.Frag} : POp K (fun x y H Q => (rI0 (fun i j => .bl (decide (j < i))) x y H Q ∨ rCmpS (fun i j => decide (j.cps.toList < i.cps.toList)) x y H Q) ∨ rCmpD (fun d e => PySem.W.dataLt e d) K x y H Q) pGtV := by
  intro sa sb μ A G H va vb Qp Q h c ra rb k
  unfold pGtV at h
  split at h
  · cases ra; cases rb
    exact .inl (.inl ⟨_, _, rfl, rfl, k _ _ _ _ _ _ h c .refl (.bl _)⟩)
  · cases ra; cases rb
    exact .inl (.inr ⟨_, _, rfl, rfl, k _ _ _ _ _ _ h c .refl (.bl _)⟩)
  · exact .inr (rCmpD_of c.le h.1 ra rb (k _ _ _ _ _ _ h.2 c .refl (.bl _)))
  · exact h.elim
theorem pop_geV {K : PySem.W.Frag} : POp K (fun x y H Q => (rI0 (fun i j => .bl (decide (j ≤ i))) x y H Q ∨ rCmpS (fun i j => !decide (i.cps.toList < j.cps.toList)) x y H Q) ∨ rCmpD (fun d e => !PySem.W.dataLt d e) K x y H Q) pGeV := by
  intro sa sb μ A G H va vb Qp Q h c ra rb k
  unfold pGeV at h
  split at h
  · cases ra; cases rb
    exact .inl (.inl ⟨_, _, rfl, rfl, k _ _ _ _ _ _ h c .refl (.bl _)⟩)
  · cases ra; cases rb
    exact .inl (.inr ⟨_, _, rfl, rfl, k _ _ _ _ _ _ h c .refl (.bl _)⟩)
  · exact .inr (rCmpD_of c.le h.1 ra rb (k _ _ _ _ _ _ h.2 c .refl (.bl _)))
  · exact h.elim
theorem px_ltV (hu : X.A.units + 64 < cLine) (ha : PX X W a ta) (hb : PX X W b tb) : PX X W (.Compare a [.Lt] [b] pos) (xOp pLtV ta tb) := px_cmp (op_or (op_or op_lt op_lt_str) (op_ltD hu)) pop_ltV ha hb
theorem px_leV (hu : X.A.units + 64 < cLine) (ha : PX X W a ta) (hb : PX X W b tb) : PX X W (.Compare a [.LtE] [b] pos) (xOp pLeV ta tb) := px_cmp (op_or (op_or op_le op_le_str) (op_leD hu)) pop_leV ha hb
theorem pxt_ltV (hu : X.A.units + 64 < cLine) (ha : PX X W a ta) (hb : PX X W b tb) : PXT X W (.Compare a [.Lt] [b] pos) (xTest (xOp pLtV ta tb)) := pxt_cmp (op_or (op_or op_lt op_lt_str) (op_ltD hu)) pop_ltV ha hb
theorem pxt_leV (hu : X.A.units + 64 < cLine) (ha : PX X W a ta) (hb : PX X W b tb) : PXT X W (.Compare a [.LtE] [b] pos) (xTest (xOp pLeV ta tb)) := pxt_cmp (op_or (op_or op_le op_le_str) (op_leD hu)) pop_leV ha hb
theorem pxt_gtV (hu : X.A.units + 64 < cLine) (ha : PX X W a ta) (hb : PX X W b tb) : PXT X W (.Compare a [.Gt] [b] pos) (xTest (xOp pGtV ta tb)) := pxt_cmp (op_or (op_or op_gt op_gt_str) (op_gtD hu)) pop_gtV ha hb
theorem pxt_geV (hu : X.A.units + 64 < cLine) (ha : PX X W a ta) (hb : PX X W b tb) : PXT X W (.Compare a [.GtE] [b] pos) (xTest (xOp pGeV ta tb)) := pxt_cmp (op_or (op_or op_ge op_ge_str) (op_geD hu)) pop_geV ha hb
end
end PL
namespace PL
open PySem PySem.Spec PyProof.Rows L2
theorem each_vals {R : Value → D × V → Prop} : ∀ {bs : List (D × V)} {us : List Value}, Vals (bs.map Prod.snd) us → (∀ b ∈ bs, ∀ u, RelV b.2 u → R u b) → W.EachIs R us bs
  | [], [], _, _ => .nil
  | b :: bs, u :: us, .cons r t, h => .cons (h b List.mem_cons_self u r) (each_vals t fun b' hb => h b' (List.mem_cons_of_mem _ hb))
theorem vals_each : ∀ {bs : List (D × V)} {us : List Value}, W.EachIs (fun u b => RelV b.2 u) us bs → Vals (bs.map Prod.snd) us
  | _, _, .nil => .nil
  | _, _, .cons r t => .cons r (vals_each t)
def srtD (l : List D) : List D := l.mergeSort (W.dataLe false toPy)
/-- data that sorted may look at -/
def okSort (l : List D) : Prop := (∀ d ∈ l, okEq d = true) ∧ W.AllAlike (l.map toPy) ∧ W.Sortable (l.map toPy)
def rSortedD (K : PySem.W.Frag) : List V → Hp → VK → Prop := fun vs H Q => ∃ (a : Addr) (bs : List (D × V)), vs = [V.ref a] ∧ SqL K H a (bs.map Prod.snd) ∧ (∀ b ∈ bs, Dp K H b.2 (toPy b.1) ∧ (toPy b.1).depth ≤ 61) ∧ W.AllAlike (bs.map fun b => toPy b.1) ∧ W.Sortable (bs.map fun b => toPy b.1) ∧
  ∀ p, H p = none → Q (.ref p) (upd H p (.lst ((bs.mergeSort (W.dataLe false fun b : D × V => toPy b.1)).map Prod.snd)))
theorem cr_sortedD {X : Cx} (hu : X.A.units + 64 < cLine) : CallR X (.builtin "sorted") (rSortedD X.K) := by
  intro pins s σ H vs us Q I r h
  obtain ⟨a, bs, rfl, hs, hb, hal, hk, q⟩ := h
  obtain ⟨its, rv, hl, hz⟩ := I.list hs
  obtain ⟨u, rfl, ru⟩ := vals1 r
  obtain rfl : u = Value.ref a := ru
  have hlen : bs.length = its.length := by rw [← rv.length, List.length_map]
  have e : W.EachIs (fun u b => RelV b.2 u) its bs := each_vals rv fun b _ u r => r
  have er : W.EachIs (fun v (b : D × V) => ∃ as, Reads s.heap v (toPy b.1) as) its bs := each_vals rv fun b hm u r => Dp.reads I (toPy b.1) b.2 u (hb b hm).1 r
  refine W.sorted_data hl.isList e er hal hk (by rw [hlen, ← rv.length]; exact hz) (fun b hm => by have := (hb b hm).2; omega) fun out ho eo => ?_
  obtain ⟨ep, he'⟩ := PyProof.Rows.sortedAll_at s.heap its out.toArray
  refine ⟨.ref _, upd H (s.heap.objs.size + 1) (.lst ((bs.mergeSort (W.dataLe false fun b : D × V => toPy b.1)).map Prod.snd)), I.laid (t' := s.toks) (fun _ _ => PyProof.Rows.sortedAll_old) (Nat.le_succ _) ⟨?_, out, ep, vals_each eo, he'⟩, rfl, q _ (I.hok.fresh (Nat.le_succ _))⟩
  rw [List.length_map, (List.mergeSort_perm _ _).length_eq, hlen, ← rv.length]
  exact hz
theorem reps_map {K : PySem.W.Frag} {G : Hp} : ∀ {T : List (D × V)}, (∀ t ∈ T, Rep K G t.1 t.2) → Reps K G (T.map Prod.fst) (T.map Prod.snd)
  | [], _ => .nil
  | t :: T, h => .cons (h t List.mem_cons_self) (reps_map fun b hb => h b (List.mem_cons_of_mem _ hb))
theorem zip_parts {K : PySem.W.Frag} {G : Hp} : ∀ {l : List D} {xs : List V}, Reps K G l xs → (l.zip xs).map Prod.fst = l ∧ (l.zip xs).map Prod.snd = xs ∧ ∀ t ∈ l.zip xs, Rep K G t.1 t.2 ∧ t.1 ∈ l
  | _, _, .nil => ⟨rfl, rfl, fun t ht => by simp at ht⟩
  | _, _, .cons r rs => by
    obtain ⟨h1, h2, h3⟩ := zip_parts rs
    refine ⟨by simp [h1], by simp [h2], fun t ht => ?_⟩
    rw [List.zip_cons_cons] at ht
    rcases List.mem_cons.mp ht with rfl | ht
    · exact ⟨r, List.mem_cons_self⟩
    · exact ⟨(h3 t ht).1, List.mem_cons_of_mem _ (h3 t ht).2⟩
def pSorted : List SV → Mem → VP → Prop := fun ss μ Q => match ss with
  | [s] => on (lstOf s μ) fun l => okSort l ∧ Q (.d (.lst (srtD l))) μ
  | _ => False
theorem pcall_sorted {K : PySem.W.Frag} : PCall K (rSortedD K) pSorted := by
  intro ss μ A G H vs Qp Q h c rs k
  match ss, h, rs with
  | [s], h, .cons r .nil =>
    obtain ⟨l, e, ⟨h1, h2, h3⟩, q⟩ := on_of h
    obtain ⟨a, us, rfl, g1, g2⟩ := lstOf_rep e c r
    obtain ⟨z1, z2, z3⟩ := zip_parts g2
    have zt : (l.zip us).map (fun b => toPy b.1) = l.map toPy := by
      show (l.zip us).map (toPy ∘ Prod.fst) = _
      rw [← List.map_map, z1]
    refine ⟨a, l.zip us, rfl, by rw [z2]; exact SqL.of g1, fun b hb => ⟨rep_dp c.le 60 _ _ (h1 _ (z3 b hb).2) (z3 b hb).1, okEq_depth (h1 _ (z3 b hb).2)⟩, by rw [zt]; exact h2, by rw [zt]; exact h3, fun p hp => ?_⟩
    have ef : ((l.zip us).mergeSort (W.dataLe false fun b : D × V => toPy b.1)).map Prod.fst = srtD l := by
      unfold srtD
      refine Eq.trans (List.map_mergeSort (r := W.dataLe false fun b : D × V => toPy b.1) (s := W.dataLe false toPy) (f := Prod.fst) (fun a _ b _ => rfl)) ?_
      rw [z1]
    have rep : Reps K G (srtD l) (((l.zip us).mergeSort (W.dataLe false fun b : D × V => toPy b.1)).map Prod.snd) := by
      rw [← ef]
      exact reps_map fun t ht => (z3 t ((List.mergeSort_perm _ _).mem_iff.mp ht)).1
    obtain ⟨c2, s2⟩ := c.laid (o := .lst (((l.zip us).mergeSort (W.dataLe false fun b : D × V => toPy b.1)).map Prod.snd)) hp
    exact k _ _ _ _ _ _ q c2 s2 (Rep.lst upd_same (rep.mono s2.le))
section
variable {X : Cx} {W : WX} {e : Expr} {tL : TXA} {p pos : Pos}
theorem px_sorted (hu : X.A.units + 64 < cLine) (hg : Gl X "sorted") (hm : X.mg "sorted" = none) (ha : PXA X W [e] tL) (he : starEach [e] X.env = (false, eval e X.env) :: starEach [] X.env := by rfl) : PX X W (.Call (.Name "sorted" p) [e] [] pos) (xCall pSorted tL) :=
  px_callB (cr_sortedD hu) pcall_sorted hg hm (by decide +kernel) ha (by decide) (by decide) he rfl
end
end PL
namespace PySem.W
open PySem PyProof.Rows PySem.SeqAt
theorem max_two_data {prog : Program} {w : World} {A : Around} {E : Value → Shared → Prop} {s : Shared} {a b : Value} {da db : PyData} {as bs : List Addr} {Q : Value → Shared → Prop} (hh : A.handled = none) (ra : Reads s.heap a da as) (rb : Reads s.heap b db bs)
    (hal : AlikeAll [da, db]) (hu : A.units + 1 + PyData.depthAll [da, db] < cLine) (h : ∀ h' tk, (∀ c o, s.heap.get? c = some o → h'.get? c = some o) → Q (if dataLt da db = true then b else a) { s with heap := h', toks := tk }) :
    wpAny (model prog w) A (call (.builtin "max") [a, b]) Q E s := by
  have nm : (toString "max" ++ toString ".loop" : String) = "max.loop" := by decide
  refine call_function_tree F.kind_max F.plain_max F.entry_max (F.args_max2 _ _) ?_
  show wpAny _ A.in1 (Builtin.Builtins.bindParams "max" ["key", "default"] 0 ⟨[], []⟩ >>= fun x => _) _ _ s
  refine wpAny_bind (wpAny_of_eq (show Builtin.Builtins.bindParams "max" ["key", "default"] 0 ⟨[], []⟩ = pure [none, none] from rfl) ?_)
  show wpAny _ A.in1 (newTuple [a, b] >>= fun x => _) _ _ s
  refine wpAny_bind (wpAny_newObj_type ?_)
  have isT : (s.heap.push { cls := .type "tuple", data := .seq #[a, b] }).IsTuple s.heap.objs.size #[a, b] := ⟨_, Heap.get?_push_size _ rfl, rfl, 0, rfl⟩
  have kp : ∀ c o, s.heap.get? c = some o → (s.heap.push { cls := .type "tuple", data := .seq #[a, b] }).get? c = some o := fun c o e => Heap.get?_push_of_some _ e
  have rall : ReadsAll (s.heap.push { cls := .type "tuple", data := .seq #[a, b] }) (#[a, b] : Array Value).toList [da, db] (as ++ (bs ++ [])) := .cons (reads_keeps kp ra) (.cons (reads_keeps kp rb) .nil)
  refine wpAny_bind (iter_tupleW (A := A.in1) (s := { s with heap := s.heap.push { cls := .type "tuple", data := .seq #[a, b] } }) hh isT fun s₂ e W st hfp hw hk => ?_)
  refine wpAny_bind (wpAny_newObj_type ?_)
  have nf := fun hm => Nat.lt_irrefl _ (hfp s₂.heap.objs.size hm)
  rw [nm]
  refine wpAny_pure ⟨plainId_quiet F.plain_max_loop _, codeAny_max_loop_firstH W (s.heap.push { cls := .type "tuple", data := .seq #[a, b] }) hw _ (cmpIn_gt (A := A.in1) (s := { s with heap := s.heap.push { cls := .type "tuple", data := .seq #[a, b] } }) rall hal (by show A.units + 1 + _ < _; exact hu)) s₂.heap.objs.size nf (fresh_in hk) _ (by simp) (fun c o q => Heap.get?_push_of_some _ (hk c o q)) (W.frame 0 s₂ _ s₂.toks st (Nat.le_refl _) fun c _ o q => Heap.get?_push_of_some _ q) (Heap.get?_push_size _ rfl) fun v s' hP hm => ?_⟩
  obtain ⟨h', tk, rfl, hk'⟩ := moved_old (s := { s with heap := s.heap.push { cls := .type "tuple", data := .seq #[a, b] } }) e rfl (Moved.drop_new (tk := s₂.toks) hm (Nat.le_refl _))
  have z := h h' tk fun c o q => hk' c o (kp c o q)
  have hv : v = if dataLt da db = true then b else a := by
    have hP2 : (#[a, b] : Array Value)[argBest (fun i j => dataLt ([da, db].getD j .none) ([da, db].getD i .none)) 1]? = some v := hP
    cases hc : (dataLt da db) <;> simp [argBest, hc] at hP2 <;> simp [hP2]
  rw [hv]
  exact z
theorem min_two_data {prog : Program} {w : World} {A : Around} {E : Value → Shared → Prop} {s : Shared} {a b : Value} {da db : PyData} {as bs : List Addr} {Q : Value → Shared → Prop} (hh : A.handled = none) (ra : Reads s.heap a da as) (rb : Reads s.heap b db bs)
    (hal : AlikeAll [da, db]) (hu : A.units + 1 + PyData.depthAll [da, db] < cLine) (h : ∀ h' tk, (∀ c o, s.heap.get? c = some o → h'.get? c = some o) → Q (if dataLt db da = true then b else a) { s with heap := h', toks := tk }) :
    wpAny (model prog w) A (call (.builtin "min") [a, b]) Q E s := by
  have nm : (toString "min" ++ toString ".loop" : String) = "min.loop" := by decide
  refine call_function_tree F.kind_min F.plain_min F.entry_min (F.args_min2 _ _) ?_
  show wpAny _ A.in1 (Builtin.Builtins.bindParams "min" ["key", "default"] 0 ⟨[], []⟩ >>= fun x => _) _ _ s
  refine wpAny_bind (wpAny_of_eq (show Builtin.Builtins.bindParams "min" ["key", "default"] 0 ⟨[], []⟩ = pure [none, none] from rfl) ?_)
  show wpAny _ A.in1 (newTuple [a, b] >>= fun x => _) _ _ s
  refine wpAny_bind (wpAny_newObj_type ?_)
  have isT : (s.heap.push { cls := .type "tuple", data := .seq #[a, b] }).IsTuple s.heap.objs.size #[a, b] := ⟨_, Heap.get?_push_size _ rfl, rfl, 0, rfl⟩
  have kp : ∀ c o, s.heap.get? c = some o → (s.heap.push { cls := .type "tuple", data := .seq #[a, b] }).get? c = some o := fun c o e => Heap.get?_push_of_some _ e
  have rall : ReadsAll (s.heap.push { cls := .type "tuple", data := .seq #[a, b] }) (#[a, b] : Array Value).toList [da, db] (as ++ (bs ++ [])) := .cons (reads_keeps kp ra) (.cons (reads_keeps kp rb) .nil)
  refine wpAny_bind (iter_tupleW (A := A.in1) (s := { s with heap := s.heap.push { cls := .type "tuple", data := .seq #[a, b] } }) hh isT fun s₂ e W st hfp hw hk => ?_)
  refine wpAny_bind (wpAny_newObj_type ?_)
  have nf := fun hm => Nat.lt_irrefl _ (hfp s₂.heap.objs.size hm)
  rw [nm]
  refine wpAny_pure ⟨plainId_quiet F.plain_min_loop _, codeAny_min_loop_firstH W (s.heap.push { cls := .type "tuple", data := .seq #[a, b] }) hw _ (cmpIn_lt (A := A.in1) (s := { s with heap := s.heap.push { cls := .type "tuple", data := .seq #[a, b] } }) rall hal (by show A.units + 1 + _ < _; exact hu)) s₂.heap.objs.size nf (fresh_in hk) _ (by simp) (fun c o q => Heap.get?_push_of_some _ (hk c o q)) (W.frame 0 s₂ _ s₂.toks st (Nat.le_refl _) fun c _ o q => Heap.get?_push_of_some _ q) (Heap.get?_push_size _ rfl) fun v s' hP hm => ?_⟩
  obtain ⟨h', tk, rfl, hk'⟩ := moved_old (s := { s with heap := s.heap.push { cls := .type "tuple", data := .seq #[a, b] } }) e rfl (Moved.drop_new (tk := s₂.toks) hm (Nat.le_refl _))
  have z := h h' tk fun c o q => hk' c o (kp c o q)
  have hv : v = if dataLt db da = true then b else a := by
    have hP2 : (#[a, b] : Array Value)[argBest (fun i j => dataLt ([da, db].getD i .none) ([da, db].getD j .none)) 1]? = some v := hP
    cases hc : (dataLt db da) <;> simp [argBest, hc] at hP2 <;> simp [hP2]
  rw [hv]
  exact z
end PySem.W
namespace PL
open PySem PySem.Spec PyProof.Rows L2
def alP (x y : D) : Bool := alD x x && (alD x y && (alD y x && alD y y))
theorem alP_all {l m : List D} (h : alP (.tup l) (.tup m) = true) : PySem.W.AlikeAll [toPy (.tup l), toPy (.tup m)] := by
  unfold alP at h
  simp only [Bool.and_eq_true] at h
  obtain ⟨h1, h2, h3, h4⟩ := h
  refine ⟨?_, ?_⟩
  · intro x hx y hy
    simp only [List.mem_cons, List.not_mem_nil, or_false] at hx hy
    rcases hx with rfl | rfl <;> rcases hy with rfl | rfl
    · exact h1
    · exact h2
    · exact h3
    · exact h4
  · intro x hx
    simp only [List.mem_cons, List.not_mem_nil, or_false] at hx
    rcases hx with rfl | rfl <;> simp [toPy]
def rmax2D (K : PySem.W.Frag) : List V → Hp → VK → Prop := fun vs H Q => ∃ (x y : V) (d e : PyData), vs = [x, y] ∧ Dp K H x d ∧ Dp K H y e ∧ PySem.W.AlikeAll [d, e] ∧ PyData.depthAll [d, e] ≤ 62 ∧ Q (if PySem.W.dataLt d e = true then y else x) H
theorem cr_max2D {X : Cx} (hc : X.calm = true) (hu : X.A.units + 64 < cLine) : CallR X (.builtin "max") (rmax2D X.K) := by
  intro pins s σ H xs us Q I r ⟨x, y, d, e, ex, hd, he, hal, hp, q⟩
  subst ex
  obtain ⟨u, w', rfl, r1, r2⟩ := vals2 r
  obtain ⟨as, k1⟩ := Dp.reads I d x u hd r1
  obtain ⟨bs, k2⟩ := Dp.reads I e y w' he r2
  refine PySem.W.max_two_data (I.ok.hd hc) k1 k2 hal (by omega) fun h' tk k => ⟨_, H, I.kept k, ?_, q⟩
  by_cases c : PySem.W.dataLt d e = true
  · rw [if_pos c, if_pos c]; exact r2
  · rw [if_neg c, if_neg c]; exact r1
def pmaxU : List SV → Mem → VP → Prop := fun ss μ Q => match ss with
  | [.d (.int i), .d (.int j)] => Q (.d (.int (if j > i then j else i))) μ
  | [.d (.str i), .d (.str j)] => (okEq (.str i) = true ∧ okEq (.str j) = true) ∧ Q (.d (if ltD (.str i) (.str j) = true then .str j else .str i)) μ
  | [.d (.tup l), .d (.tup m)] => (okEq (.tup l) = true ∧ okEq (.tup m) = true ∧ alP (.tup l) (.tup m) = true) ∧ Q (.d (if ltD (.tup l) (.tup m) = true then .tup m else .tup l)) μ
  | _ => False
theorem pcall_maxU {K : PySem.W.Frag} : PCall K (fun xs H Q => (∃ i j, xs = [.int i, .int j] ∧ Q (.int (if j > i then j else i)) H) ∨ rmax2D K xs H Q) pmaxU := by
  intro ss μ A G H vs Qp Q h c rs k
  unfold pmaxU at h
  split at h
  · match rs with
    | .cons r (.cons r2 .nil) =>
      cases r; cases r2
      exact .inl ⟨_, _, rfl, k _ _ _ _ _ _ h c .refl (.int _)⟩
  · rename_i i j
    match rs with
    | .cons r (.cons r2 .nil) =>
      obtain ⟨⟨h1, h2⟩, q⟩ := h
      refine .inr ⟨_, _, toPy (.str i), toPy (.str j), rfl, rep_dp c.le 60 _ _ h1 r, rep_dp c.le 60 _ _ h2 r2, ⟨?_, ?_⟩, ?_, k _ _ _ _ _ _ q c .refl ?_⟩
      · intro x hx y hy
        simp only [toPy, List.mem_cons, List.not_mem_nil, or_false] at hx hy
        rcases hx with rfl | rfl <;> rcases hy with rfl | rfl <;> simp [PySem.W.alike]
      · intro x hx
        simp only [toPy, List.mem_cons, List.not_mem_nil, or_false] at hx
        rcases hx with rfl | rfl <;> simp
      · simp [toPy, PyData.depthAll, PyData.depth]
      · by_cases z : ltD (.str i) (.str j) = true
        · rw [if_pos z, if_pos (show PySem.W.dataLt (toPy (.str i)) (toPy (.str j)) = true from z)]; exact r2
        · rw [if_neg z, if_neg (show ¬ PySem.W.dataLt (toPy (.str i)) (toPy (.str j)) = true from z)]; exact r
  · rename_i l m
    match rs with
    | .cons r (.cons r2 .nil) =>
      obtain ⟨⟨h1, h2, h3⟩, q⟩ := h
      refine .inr ⟨_, _, toPy (.tup l), toPy (.tup m), rfl, rep_dp c.le 60 _ _ h1 r, rep_dp c.le 60 _ _ h2 r2, alP_all h3, ?_, k _ _ _ _ _ _ q c .refl ?_⟩
      · have := okEq_depth h1
        have := okEq_depth h2
        simp only [PyData.depthAll]; omega
      · by_cases z : ltD (.tup l) (.tup m) = true
        · rw [if_pos z, if_pos (show PySem.W.dataLt (toPy (.tup l)) (toPy (.tup m)) = true from z)]; exact r2
        · rw [if_neg z, if_neg (show ¬ PySem.W.dataLt (toPy (.tup l)) (toPy (.tup m)) = true from z)]; exact r
  · exact h.elim
def rmin2D (K : PySem.W.Frag) : List V → Hp → VK → Prop := fun vs H Q => ∃ (x y : V) (d e : PyData), vs = [x, y] ∧ Dp K H x d ∧ Dp K H y e ∧ PySem.W.AlikeAll [d, e] ∧ PyData.depthAll [d, e] ≤ 62 ∧ Q (if PySem.W.dataLt e d = true then y else x) H
theorem cr_min2D {X : Cx} (hc : X.calm = true) (hu : X.A.units + 64 < cLine) : CallR X (.builtin "min") (rmin2D X.K) := by
  intro pins s σ H xs us Q I r ⟨x, y, d, e, ex, hd, he, hal, hp, q⟩
  subst ex
  obtain ⟨u, w', rfl, r1, r2⟩ := vals2 r
  obtain ⟨as, k1⟩ := Dp.reads I d x u hd r1
  obtain ⟨bs, k2⟩ := Dp.reads I e y w' he r2
  refine PySem.W.min_two_data (I.ok.hd hc) k1 k2 hal (by omega) fun h' tk k => ⟨_, H, I.kept k, ?_, q⟩
  by_cases c : PySem.W.dataLt e d = true
  · rw [if_pos c, if_pos c]; exact r2
  · rw [if_neg c, if_neg c]; exact r1
def pminU : List SV → Mem → VP → Prop := fun ss μ Q => match ss with
  | [.d (.int i), .d (.int j)] => Q (.d (.int (if j < i then j else i))) μ
  | [.d (.str i), .d (.str j)] => (okEq (.str i) = true ∧ okEq (.str j) = true) ∧ Q (.d (if ltD (.str j) (.str i) = true then .str j else .str i)) μ
  | [.d (.tup l), .d (.tup m)] => (okEq (.tup l) = true ∧ okEq (.tup m) = true ∧ alP (.tup l) (.tup m) = true) ∧ Q (.d (if ltD (.tup m) (.tup l) = true then .tup m else .tup l)) μ
  | _ => False
theorem pcall_minU {K : PySem.W.Frag} : PCall K (fun xs H Q => (∃ i j, xs = [.int i, .int j] ∧ Q (.int (if j < i then j else i)) H) ∨ rmin2D K xs H Q) pminU := by
  intro ss μ A G H vs Qp Q h c rs k
  unfold pminU at h
  split at h
  · match rs with
    | .cons r (.cons r2 .nil) =>
      cases r; cases r2
      exact .inl ⟨_, _, rfl, k _ _ _ _ _ _ h c .refl (.int _)⟩
  · rename_i i j
    match rs with
    | .cons r (.cons r2 .nil) =>
      obtain ⟨⟨h1, h2⟩, q⟩ := h
      refine .inr ⟨_, _, toPy (.str i), toPy (.str j), rfl, rep_dp c.le 60 _ _ h1 r, rep_dp c.le 60 _ _ h2 r2, ⟨?_, ?_⟩, ?_, k _ _ _ _ _ _ q c .refl ?_⟩
      · intro x hx y hy
        simp only [toPy, List.mem_cons, List.not_mem_nil, or_false] at hx hy
        rcases hx with rfl | rfl <;> rcases hy with rfl | rfl <;> simp [PySem.W.alike]
      · intro x hx
        simp only [toPy, List.mem_cons, List.not_mem_nil, or_false] at hx
        rcases hx with rfl | rfl <;> simp
      · simp [toPy, PyData.depthAll, PyData.depth]
      · by_cases z : ltD (.str j) (.str i) = true
        · rw [if_pos z, if_pos (show PySem.W.dataLt (toPy (.str j)) (toPy (.str i)) = true from z)]; exact r2
        · rw [if_neg z, if_neg (show ¬ PySem.W.dataLt (toPy (.str j)) (toPy (.str i)) = true from z)]; exact r
  · rename_i l m
    match rs with
    | .cons r (.cons r2 .nil) =>
      obtain ⟨⟨h1, h2, h3⟩, q⟩ := h
      refine .inr ⟨_, _, toPy (.tup l), toPy (.tup m), rfl, rep_dp c.le 60 _ _ h1 r, rep_dp c.le 60 _ _ h2 r2, alP_all h3, ?_, k _ _ _ _ _ _ q c .refl ?_⟩
      · have := okEq_depth h1
        have := okEq_depth h2
        simp only [PyData.depthAll]; omega
      · by_cases z : ltD (.tup m) (.tup l) = true
        · rw [if_pos z, if_pos (show PySem.W.dataLt (toPy (.tup m)) (toPy (.tup l)) = true from z)]; exact r2
        · rw [if_neg z, if_neg (show ¬ PySem.W.dataLt (toPy (.tup m)) (toPy (.tup l)) = true from z)]; exact r
  · exact h.elim
section
variable {X : Cx} {W : WX} {a b : Expr} {tL : TXA} {p pos : Pos}
theorem px_maxU (hu : X.A.units + 64 < cLine) (hc : X.calm = true) (hg : Gl X "max") (hm : X.mg "max" = none) (ha : PXA X W [a, b] tL) (he : starEach [a, b] X.env = (false, eval a X.env) :: starEach [b] X.env := by rfl) (hpl : (backTo pos (starEach [b] X.env)).any (·.1) = false := by rfl) : PX X W (.Call (.Name "max" p) [a, b] [] pos) (xCall pmaxU tL) :=
  px_callB (CallR.or (call_max2 hc) (cr_max2D hc hu)) pcall_maxU hg hm (by decide +kernel) ha (by decide) (by decide) he hpl
theorem px_minU (hu : X.A.units + 64 < cLine) (hc : X.calm = true) (hg : Gl X "min") (hm : X.mg "min" = none) (ha : PXA X W [a, b] tL) (he : starEach [a, b] X.env = (false, eval a X.env) :: starEach [b] X.env := by rfl) (hpl : (backTo pos (starEach [b] X.env)).any (·.1) = false := by rfl) : PX X W (.Call (.Name "min" p) [a, b] [] pos) (xCall pminU tL) :=
  px_callB (CallR.or (call_min2 hc) (cr_min2D hc hu)) pcall_minU hg hm (by decide +kernel) ha (by decide) (by decide) he hpl
end
end PL
namespace PL
open PySem PySem.Spec PyProof.Rows L2 RZ
section
variable {X : Cx} {W : WX} {a b c e o tg iter elt : Expr} {es ifs : List Expr} {ta tb tc te to : TX} {tL : TXA} {pos p apos cpos tpos p2 : Pos} {x : Str} {g : TXG} {ti : TXI} {tt : TXT}
def txts : List D → Option (List Str)
  | [] => some []
  | .str x :: r => (txts r).map (x :: ·)
  | _ :: _ => none
def pSlV : SV → Option Int → Option Int → Mem → VP → Prop := fun sa lo hi μ Q => match sa with
  | .d (.tup l) => Q (.d (.tup (cutD l lo hi))) μ
  | .d (.ntp l) => Q (.d (cutN l lo hi)) μ
  | .d (.scr l) => Q (.d (.lst (cutD (l.map .int) lo hi))) μ
  | .d (.str z) => z.length ≤ sizeLine ∧ Q (.d (.str (cutS z lo hi))) μ
  | sa => on (lstOf sa μ) fun l => Q (.d (.lst (cutD l lo hi))) μ
theorem psl_V : PSl X.K (fun x lo hi H Q => (rSlA X.K x lo hi H Q ∨ rSlL X.K x lo hi H Q) ∨ rSlS x lo hi H Q) pSlV := by
  intro sa lo hi μ A G H va Qp Q h c ra k
  unfold pSlV at h
  split at h
  · rename_i l
    exact .inl (.inl (psl_tup (.d (.tup l)) lo hi μ A G H va Qp Q h c ra k))
  · rename_i l
    exact .inl (.inl (psl_tup (.d (.ntp l)) lo hi μ A G H va Qp Q h c ra k))
  · rename_i l
    exact .inl (.inr (psl_scr (.d (.scr l)) lo hi μ A G H va Qp Q h c ra k))
  · cases ra
    exact .inr ⟨_, rfl, h.1, k _ _ _ _ _ _ h.2 c .refl (.str _)⟩
  · exact .inl (.inr (psl_list _ lo hi μ A G H va Qp Q h c ra k))
theorem px_slV {lo hi : Option Expr} {tl th : TXO} (ha : PX X W a ta) (hl : PXO X W lo tl) (hh : PXO X W hi th) : PX X W (.Subscript a (.Slice lo hi none p2) pos) (xSl pSlV ta tl th) := px_sl (SlR.or (SlR.or sl_tupA sl_list) sl_str) psl_V ha hl hh
end
end PL
namespace PL
open PySem PySem.Spec PyProof.Rows L2 RZ
section
variable {X : Cx} {W : WX} {a b c e o tg iter elt : Expr} {es ifs : List Expr} {ta tb tc te to : TX} {tL : TXA} {pos p apos cpos tpos p2 : Pos} {x : Str} {g : TXG} {ti : TXI} {tt : TXT}
theorem call_tuple_frz : CallR X (.type "tuple") (fun xs H Q => ∃ p ys, xs = [.ref p] ∧ ((SqL X.K H p ys ∧ ∀ l o, H l = none → o.dict = none → Q (.ref l) (upd H l (.frz o (.tup ys)))) ∨ (SqT X.K H p ys ∧ Q (.ref p) H))) := by
  intro pins s σ H xs us Q I r h
  obtain ⟨p, ys, rfl, h⟩ := h
  obtain ⟨u, rfl, rx⟩ := vals1 r
  cases rx
  rcases h with ⟨hq, q⟩ | ⟨hq, q⟩
  · obtain ⟨its, r', pl, hz⟩ := I.list hq
    have hlen := r'.length
    refine call_tuple_list pl.isList (fun h' kp => ?_) (by simp only [List.size_toArray] <;> omega)
    have I1 : Inv X pins σ H { s with heap := h' } := I.kept (t' := s.toks) kp
    have I2 : Inv X pins σ (upd H h'.objs.size (.frz { cls := .type "tuple", data := .seq its.toArray } (.tup ys))) { s with heap := h'.push { cls := .type "tuple", data := .seq its.toArray } } :=
      I1.laid (t' := s.toks) (fun b o e => Heap.get?_push_of_some _ e) (Nat.le_refl _) (show ObjOk X.prog X.w _ _ _ (.frz _ (.tup ys)) from ⟨Heap.get?_push_size _ rfl, hz, its, r', IsTup.new _ _⟩)
    exact ⟨.ref h'.objs.size, _, I2, rfl, q _ _ (I1.hok.fresh (Nat.le_refl _)) rfl⟩
  · obtain ⟨its, r', pl, hz⟩ := I.tuple hq
    exact call_tuple_same pl ⟨.ref p, H, I, rfl, q⟩
def pTupN : List SV → Mem → VP → Prop := fun ss μ Q => match ss with
  | [s] => match lstOf s μ with
    | some l => Q (.d (.ntp l)) μ
    | none => (tupOf s).isSome = true ∧ Q s μ
  | _ => False
theorem pcall_tupN : PCall X.K (fun xs H Q => ∃ p ys, xs = [.ref p] ∧ ((SqL X.K H p ys ∧ ∀ l o, H l = none → o.dict = none → Q (.ref l) (upd H l (.frz o (.tup ys)))) ∨ (SqT X.K H p ys ∧ Q (.ref p) H))) pTupN := by
  intro ss μ A G H vs Qp Q h c rs k
  match ss, h, rs with
  | [s], h, .cons r .nil =>
    simp only [pTupN] at h
    cases e1 : lstOf s μ with
    | some l' =>
      rw [e1] at h
      obtain ⟨a, us, rfl, h1, h2⟩ := lstOf_rep e1 c r
      refine ⟨a, us, rfl, .inl ⟨SqL.of h1, fun p o hp hd => ?_⟩⟩
      obtain ⟨c2, s2⟩ := c.laid (o := .frz o (.tup us)) hp
      exact k _ _ _ _ _ _ h c2 s2 (Rep.ntp upd_same hd (h2.mono s2.le))
    | none =>
      rw [e1] at h
      obtain ⟨h0, q⟩ := h
      obtain ⟨l, e2⟩ := Option.isSome_iff_exists.mp h0
      obtain ⟨a, us, rfl, h1, h2⟩ := tupOf_rep e2 c r
      exact ⟨a, us, rfl, .inr ⟨h1, k _ _ _ _ _ _ q c .refl r⟩⟩
theorem px_tupleN (hg : Gl X "tuple") (hm : X.mg "tuple" = none) (ha : PXA X W [e] tL) (he : starEach [e] X.env = (false, eval e X.env) :: starEach [] X.env := by rfl) : PX X W (.Call (.Name "tuple" p) [e] [] pos) (xCall pTupN tL) :=
  px_callTy call_tuple_frz pcall_tupN hg hm (by decide +kernel) ha (by decide) (by decide) he rfl

end
end PL
namespace PL
open PySem PySem.Spec PyProof.Rows L2 RZ
section
variable {X : Cx} {W : WX} {a b c e o tg iter elt : Expr} {es ifs : List Expr} {ta tb tc te to : TX} {t : TA} {tL : TXA} {pos p apos cpos tpos p2 : Pos} {x : Str} {g : TXG} {ti : TXI} {tt : TXT} {name : Str}
end
end PL
namespace PL
open PySem PySem.Spec PyProof.Rows L2 RZ
theorem wipe_wipe (σ : L2.St) (vs : List Nat) : L2.wipe (L2.wipe σ vs) vs = L2.wipe σ vs := by
  refine List.ext_getElem? fun j => ?_
  have key : ∀ (τ : L2.St) (us : List Nat), (L2.wipe τ us)[j]? = if j ∈ us then (τ[j]?).map (fun _ => none) else τ[j]? := by
    intro τ us
    induction us with
    | nil => simp [L2.wipe]
    | cons v us ih =>
      unfold L2.wipe
      by_cases e : v = j
      · subst e
        by_cases hv : v < τ.length
        · rw [List.getElem?_set_self (by rw [L2.wipe_length]; exact hv)]
          simp [List.getElem?_eq_getElem hv]
        · rw [List.getElem?_eq_none (by simp [L2.wipe_length]; omega)]
          simp [List.getElem?_eq_none (Nat.le_of_not_lt hv)]
      · rw [List.getElem?_set_ne e, ih]
        have : (j ∈ v :: us) ↔ j ∈ us := by
          simp only [List.mem_cons]
          exact ⟨fun h => h.resolve_left fun q => e q.symm, .inr⟩
        simp only [this]
  rw [key, key]
  by_cases h : j ∈ vs
  · simp [h]
    cases σ[j]? <;> rfl
  · simp [h]
/-- any loop over a walk -/
theorem it_gen {J : It} {n : Nat} {G : Hp → Prop} {Y : Nat → Hp → V → Hp → Prop} (w : Walk J n G Y) {H1 : Hp} {Qd : Hp → Prop} (body : (Hp → Prop) → V → Hp → Prop) (Pv : Nat → Hp → Prop) (h0 : Pv 0 H1) (hG : ∀ i H, i ≤ n → Pv i H → G H)
    (hs : ∀ i x H H', i < n → Pv i H → Y i H x H' → body (Pv (i + 1)) x H') (hd : ∀ H, Pv n H → Qd H) :
    ∃ W : Nat → Nat → Hp → Prop, (∃ m, W 0 m H1) ∧ ∀ i m H, W i m H →
      (J.stop i H ∧ Qd H) ∨ (J.go i H ∧ ∃ Nx : Hp → Prop, (∀ H', Nx H' → ∃ m', m' < m ∧ W (i + 1) m' H') ∧ ∀ x H', J.yld i H x H' → body Nx x H') := by
  refine ⟨fun i m H => m = n - i ∧ i ≤ n ∧ Pv i H, ⟨n, by simp, Nat.zero_le _, h0⟩, ?_⟩
  rintro i m H ⟨rfl, hi, p⟩
  have q := hG i H hi p
  by_cases hlt : i < n
  · exact .inr ⟨w.goes i H hlt q, Pv (i + 1), fun H' p' => ⟨n - (i + 1), by omega, rfl, hlt, p'⟩, fun x H' y => hs i x H H' hlt p (w.yields i H x H' hlt q y)⟩
  · have e : i = n := by omega
    subst e
    exact .inl ⟨w.stops H q, hd H p⟩
/-- the list under way stands at Dd -/
def LcS (K : PySem.W.Frag) (A1 : List Addr) (G1 H1 : Hp) (Dd : Addr) (acc : List D) (μ : Mem) (H : Hp) : Prop :=
  ∃ ws A' G', Cells K A' μ G' H ∧ Step A1 G1 H1 A' G' H ∧ H Dd = some (.lst ws) ∧ Reps K G' acc ws ∧ Dd ∉ A' ∧ G' Dd = none
section
variable {X : Cx} {W : WX} {a b c e o tg iter elt tg1 iter1 : Expr} {es ifs ifs1 : List Expr} {ta tb tc te to : TX} {tL : TXA} {pos p apos cpos tpos p2 : Pos} {x : Str} {g g1 : TXG} {ti ti1 : TXI} {tt tt1 : TXT}
def xLc2 (ti : TXI) (g : TXG) (tt : TXT) (ti1 : TXI) (g1 : TXG) (tt1 : TXT) (te : TX) (vs vs1 : List Nat) (fin : List D → Mem → VP → Prop) : TX := fun x ρ μ Q => ti x ρ μ fun ds μ1 => ∃ I : Nat → List D → Mem → Prop, I 0 [] μ1 ∧
  (∀ i d acc μ, ds[i]? = some d → I i acc μ → g xF (.d d) (wipeP ρ vs) μ fun ρ2 μ2 => tt xF ρ2 μ2 fun b μ3 => Br b
    (ti1 xF ρ2 μ3 fun es μ4 => ∃ I1 : Nat → List D → Mem → Prop, I1 0 acc μ4 ∧
      (∀ j e acc μ, es[j]? = some e → I1 j acc μ → g1 xF (.d e) (wipeP ρ2 vs1) μ fun ρ5 μ5 => tt1 xF ρ5 μ5 fun b μ6 => Br b (te xF ρ5 μ6 fun s μ7 => match s with
        | .d y => acc.length < sizeLine ∧ I1 (j + 1) (acc ++ [y]) μ7
        | _ => False) (I1 (j + 1) acc μ6)) ∧ ∀ acc μ, I1 es.length acc μ → I (i + 1) acc μ)
    (I (i + 1) acc μ3)) ∧ ∀ acc μ, I ds.length acc μ → fin acc μ Q
theorem PXI.pi (h : PXI X W tg iter ti) : PI X tg iter (liftI X.K W ti) := by
  obtain ⟨wi, hp, hw⟩ := h.ex
  exact ⟨fun pins s σ H R I q => hp.run pins s σ H R I (hw _ _ _ q)⟩
theorem Sim.after2 {K : PySem.W.Frag} {A A' : List Addr} {σ : L2.St} {ρ : Env'} {μ μ' : Mem} {G G' H H' : Hp} (S : Sim K A σ ρ μ G H) (p : A <+: A') (g : LeZ G G') (c : Cells K A' μ' G' H') : Sim K A' σ ρ μ' G' H' where
  toCells := c
  sl := S.sl
  at_ := fun i h => let ⟨o, e, q⟩ := S.at_ i h; ⟨o, e, q.mono p g⟩
theorem LcS.step {K : PySem.W.Frag} {A2 A' : List Addr} {G2 H2 G' H' : Hp} {Dd : Addr} {acc : List D} {ws : List V} (hd : H2 Dd = some (.lst ws)) (hr : Reps K G2 acc ws) (na : Dd ∉ A2) (gn : G2 Dd = none)
    (st : Step A2 G2 H2 A' G' H') : H' Dd = some (.lst ws) ∧ Reps K G' acc ws ∧ Dd ∉ A' ∧ G' Dd = none := by
  refine ⟨?_, hr.mono st.le, fun z => ?_, ?_⟩
  · rcases st.keep _ _ hd na with q | ⟨q, _⟩
    · exact q
    · rw [gn] at q; cases q
  · rcases st.cells _ z with q | q
    · exact na q
    · rw [hd] at q; cases q
  · cases q : G' Dd with
    | none => rfl
    | some o =>
      rcases st.new Dd (by rw [q]; simp) with z | z | ⟨_, z⟩
      · exact absurd gn z
      · rw [hd] at z; cases z
      · rw [hd] at z; cases z
theorem lc2_turns {K : PySem.W.Frag} {ds : List D} {J : It} {A1 : List Addr} {G1 H1 : Hp} {σ : L2.St} {ρ : Env'} {μ1 : Mem} {vs vs1 : List Nat} {Q : Hp → Prop} {Dd : Addr} (S : Sim K A1 σ ρ μ1 G1 H1) (hD : H1 Dd = none)
    (w : Walk J ds.length (fun H => LeZ G1 H) (YD K ds G1)) {I : Nat → List D → Mem → Prop} (i0 : I 0 [] μ1)
    (turn : ∀ i d acc μ, ds[i]? = some d → I i acc μ → g xF (.d d) (wipeP ρ vs) μ fun ρ2 μ2 => tt xF ρ2 μ2 fun b μ3 => Br b
      (ti1 xF ρ2 μ3 fun es μ4 => ∃ I1 : Nat → List D → Mem → Prop, I1 0 acc μ4 ∧
        (∀ j e acc μ, es[j]? = some e → I1 j acc μ → g1 xF (.d e) (wipeP ρ2 vs1) μ fun ρ5 μ5 => tt1 xF ρ5 μ5 fun b μ6 => Br b (te xF ρ5 μ6 fun s μ7 => match s with
          | .d y => acc.length < sizeLine ∧ I1 (j + 1) (acc ++ [y]) μ7
          | _ => False) (I1 (j + 1) acc μ6)) ∧ ∀ acc μ, I1 es.length acc μ → I (i + 1) acc μ)
      (I (i + 1) acc μ3))
    (done : ∀ acc μ, I ds.length acc μ → ∀ A' G' H' ws, Cells K A' μ G' H' → Step A1 G1 H1 A' G' H' → H' Dd = some (.lst ws) → Reps K G' acc ws → Dd ∉ A' → G' Dd = none → Q H') :
    ∃ W : Nat → Nat → Hp → Prop, (∃ m, W 0 m (upd H1 Dd (.lst []))) ∧ ∀ i m H, W i m H →
      (J.stop i H ∧ Q H) ∨ (J.go i H ∧ ∃ Nx : Hp → Prop, (∀ H', Nx H' → ∃ m', m' < m ∧ W (i + 1) m' H') ∧ ∀ x H', J.yld i H x H' → liftG K wF vs g x (L2.wipe σ vs) H' fun σ2 H2 => L2.wipe σ2 vs = L2.wipe σ vs ∧ liftT K wF tt σ2 H2 fun b H3 =>
        if b = true then liftI K wF ti1 σ2 H3 fun J1 H4 => ∃ W1 : Nat → Nat → Hp → Prop, (∃ m, W1 0 m H4) ∧ ∀ j k H, W1 j k H →
          (J1.stop j H ∧ Nx H) ∨ (J1.go j H ∧ ∃ Nx1 : Hp → Prop, (∀ H', Nx1 H' → ∃ k', k' < k ∧ W1 (j + 1) k' H') ∧ ∀ x H', J1.yld j H x H' → liftG K wF vs1 g1 x (L2.wipe σ2 vs1) H' fun σ3 H5 => L2.wipe σ3 vs1 = L2.wipe σ2 vs1 ∧ liftT K wF tt1 σ3 H5 fun b H6 =>
            if b = true then lift K wF te σ3 H6 fun y H7 => ∃ acc, H7 Dd = some (.lst acc) ∧ acc.length < sizeLine ∧ Nx1 (upd H7 Dd (.lst (acc ++ [y]))) else Nx1 H6)
        else Nx H3) := by
  refine it_gen w (fun Nx x H' => liftG K wF vs g x (L2.wipe σ vs) H' fun σ2 H2 => L2.wipe σ2 vs = L2.wipe σ vs ∧ liftT K wF tt σ2 H2 fun b H3 =>
        if b = true then liftI K wF ti1 σ2 H3 fun J1 H4 => ∃ W1 : Nat → Nat → Hp → Prop, (∃ m, W1 0 m H4) ∧ ∀ j k H, W1 j k H →
          (J1.stop j H ∧ Nx H) ∨ (J1.go j H ∧ ∃ Nx1 : Hp → Prop, (∀ H', Nx1 H' → ∃ k', k' < k ∧ W1 (j + 1) k' H') ∧ ∀ x H', J1.yld j H x H' → liftG K wF vs1 g1 x (L2.wipe σ2 vs1) H' fun σ3 H5 => L2.wipe σ3 vs1 = L2.wipe σ2 vs1 ∧ liftT K wF tt1 σ3 H5 fun b H6 =>
            if b = true then lift K wF te σ3 H6 fun y H7 => ∃ acc, H7 Dd = some (.lst acc) ∧ acc.length < sizeLine ∧ Nx1 (upd H7 Dd (.lst (acc ++ [y]))) else Nx1 H6)
        else Nx H3) (fun i H => ∃ acc μ', I i acc μ' ∧ LcS K A1 G1 H1 Dd acc μ' H) ?_ (fun i H _ ⟨acc, μ', _, ws, A', G', c, s, _⟩ => s.le.trans c.le.z) ?_ ?_
  · have gn : G1 Dd = none := S.gnone hD
    have na : Dd ∉ A1 := fun z => S.ne_of_lt z hD rfl
    refine ⟨[], μ1, i0, [], A1, G1, ⟨fun a o e => ?_, S.len, S.nd, S.free, fun k a cl h1 h2 => ?_⟩, ⟨List.prefix_refl _, LeZ.refl _, fun a o e _ => .inl ?_, fun a e => .inl e, fun a xs e => ?_, fun a e => .inl e, fun a e => ?_⟩, upd_same, .nil, na, gn⟩
    · rw [upd_ne (ne_of_none e gn)]; exact S.le a o e
    · exact (S.ok k a cl h1 h2).mono (List.prefix_refl _) (LeZ.refl _) (upd_ne (S.ne_of_lt (List.mem_of_getElem? h1) hD))
    · rw [upd_ne (ne_of_none e hD)]; exact e
    · by_cases z : a = Dd
      · rw [z, upd_same] at e; cases e
      · rw [upd_ne z] at e; exact .inr e
    · by_cases z : a = Dd
      · rw [z, upd_same]; simp
      · rw [upd_ne z]; exact e
  · rintro i x H H' hi ⟨acc, μ2, i2, ws, A2, G2, c2, s2, hd, hr, na, gn⟩ y
    obtain ⟨d, G3, e, r, c3, s3⟩ := yd_begin s2.le c2 y
    have S3 : Sim K A2 (L2.wipe σ vs) (wipeP ρ vs) μ2 G3 H' := (S.wipe vs).after (s2.trans s3) c3
    refine ⟨A2, _, μ2, G3, .d d, _, xF, S3, r, turn i d acc μ2 e i2, exF, fun ρ4 μ4 A4 σ4 G4 H4 q4 S4 s4 kp => ⟨Eq.trans kp (wipe_wipe σ vs), ?_⟩⟩
    refine ⟨A4, ρ4, μ4, G4, _, xF, S4, q4, exF, fun b μ5 A5 G5 H5 q5 c5 s5 => ?_⟩
    have s25 := (s3.trans s4).trans s5
    cases b with
    | false =>
      obtain ⟨h1, h2, h3, h4⟩ := LcS.step hd hr na gn s25
      exact ite_ff ⟨acc, μ5, q5, ws, A5, G5, c5, s2.trans s25, h1, h2, h3, h4⟩
    | true =>
      refine ite_tt ⟨A5, ρ4, μ5, G5, _, xF, S4.after s5 c5, q5, exF, fun es μ6 A6 G6 H6 J1 ⟨I1, i10, turn1, done1⟩ c6 s6 w1 => ?_⟩
      have s26 := s25.trans s6
      obtain ⟨h1, h2, h3, h4⟩ := LcS.step hd hr na gn s26
      have S6 : Sim K A6 σ4 ρ4 μ6 G6 H6 := (S4.after s5 c5).after s6 c6
      refine it_gen w1 (fun Nx1 x H' => liftG K wF vs1 g1 x (L2.wipe σ4 vs1) H' fun σ3 H5 => L2.wipe σ3 vs1 = L2.wipe σ4 vs1 ∧ liftT K wF tt1 σ3 H5 fun b H6 =>
            if b = true then lift K wF te σ3 H6 fun y H7 => ∃ acc, H7 Dd = some (.lst acc) ∧ acc.length < sizeLine ∧ Nx1 (upd H7 Dd (.lst (acc ++ [y]))) else Nx1 H6)
        (fun j H => ∃ acc μ', I1 j acc μ' ∧ ∃ ws A' G', Cells K A' μ' G' H ∧ Step A1 G1 H1 A' G' H ∧ (A6 <+: A' ∧ LeZ G6 G') ∧ H Dd = some (.lst ws) ∧ Reps K G' acc ws ∧ Dd ∉ A' ∧ G' Dd = none) ⟨acc, μ6, i10, ws, A6, G6, c6, s2.trans s26, ⟨List.prefix_refl _, LeZ.refl _⟩, h1, h2, h3, h4⟩ (fun i H _ ⟨acc, μ', _, ws, A', G', c, s, l, _⟩ => l.2.trans c.le.z) ?_ ?_
      · rintro j x Ha Hb hj ⟨acc, μ7, i7, ws, A7, G7, c7, s7, l7, hd7, hr7, na7, gn7⟩ y1
        obtain ⟨d1, G8, e1, r1, c8, s8⟩ := yd_begin l7.2 c7 y1
        have S8 : Sim K A7 (L2.wipe σ4 vs1) (wipeP ρ4 vs1) μ7 G8 Hb := (S6.wipe vs1).after2 (l7.1.trans s8.pre) (l7.2.trans s8.le) c8
        refine ⟨A7, _, μ7, G8, .d d1, _, xF, S8, r1, turn1 j d1 acc μ7 e1 i7, exF, fun ρ9 μ9 A9 σ9 G9 H9 q9 S9 s9 kp9 => ⟨Eq.trans kp9 (wipe_wipe σ4 vs1), ?_⟩⟩
        refine ⟨A9, ρ9, μ9, G9, _, xF, S9, q9, exF, fun b μ10 A10 G10 H10 q10 c10 s10 => ?_⟩
        have s710 := (s8.trans s9).trans s10
        cases b with
        | false =>
          obtain ⟨k1, k2, k3, k4⟩ := LcS.step hd7 hr7 na7 gn7 s710
          exact ite_ff ⟨acc, μ10, q10, ws, A10, G10, c10, s7.trans s710, ⟨l7.1.trans s710.pre, l7.2.trans s710.le⟩, k1, k2, k3, k4⟩
        | true =>
          refine ite_tt ⟨A10, ρ9, μ10, G10, _, xF, S9.after s10 c10, q10, exF, fun s μ11 A11 G11 H11 v q11 c11 s11 r11 => ?_⟩
          have s711 := s710.trans s11
          obtain ⟨k1, k2, k3, k4⟩ := LcS.step hd7 hr7 na7 gn7 s711
          match s, q11, r11 with
          | .d z, q11, r11 =>
            refine ⟨ws, k1, by rw [← hr7.length]; exact q11.1, acc ++ [z], μ11, q11.2, ws ++ [v], A11, G11, ?_, ?_, ⟨l7.1.trans s711.pre, l7.2.trans s711.le⟩, upd_same, k2.app (.cons r11 .nil), k3, k4⟩
            · refine ⟨fun a o e => ?_, c11.len, c11.nd, c11.free, fun k a cl e1 e2 => ?_⟩
              · rw [upd_ne (ne_of_none e k4)]; exact c11.le a o e
              · exact (c11.ok k a cl e1 e2).mono (List.prefix_refl _) (LeZ.refl _) (upd_ne fun q => k3 (by rw [← q]; exact List.mem_of_getElem? e1))
            · have st := s7.trans s711
              refine ⟨st.pre, st.le, fun a o e n => ?_, st.new, fun a xs e => ?_, st.cells, fun a e => ?_⟩
              · rw [upd_ne (ne_of_none e hD)]; exact st.keep a o e n
              · by_cases q : a = Dd
                · rw [q, upd_same] at e; cases e
                · rw [upd_ne q] at e; exact st.tups a xs e
              · by_cases q : a = Dd
                · rw [q, upd_same]; simp
                · rw [upd_ne q]; exact st.there a e
      · rintro H ⟨acc, μ7, i7, ws, A7, G7, c7, s7, l7, hd7, hr7, na7, gn7⟩
        exact ⟨acc, μ7, done1 acc μ7 i7, ws, A7, G7, c7, s7, hd7, hr7, na7, gn7⟩
  · rintro H ⟨acc, μ2, i2, ws, A2, G2, c2, s2, hd, hr, na, gn⟩
    exact done acc μ2 i2 A2 G2 H ws c2 s2 hd hr na gn
theorem px_lc2 {scope : Scope} {own : List (Str × Nat)} (vs1 : List Nat) (hc : X.calm = true) (hN : X.N.Nodup) (hi : PXI X W tg iter ti) (ok : BlkOk X.N X.env.scope scope own) (hv : ∀ i ∈ vs1, i ∈ own.map (·.2))
    (hg : ∀ (s : Shared) (H : Hp) (C : Addr) (cl : List (Str × Addr)) (fp : List Addr), PXG (X.blk s H scope (compEnvC scope cl C X.env) fp) wF (own.map (·.2)) tg g)
    (ht : ∀ (s : Shared) (H : Hp) (C : Addr) (cl : List (Str × Addr)) (fp : List Addr), PXTs (X.blk s H scope (compEnvC scope cl C X.env) fp) wF ifs tt)
    (hi1 : ∀ (s : Shared) (H : Hp) (C : Addr) (cl : List (Str × Addr)) (fp : List Addr), PXI (X.blk s H scope (compEnvC scope cl C X.env) fp) wF tg1 iter1 ti1)
    (hg1 : ∀ (s : Shared) (H : Hp) (C : Addr) (cl : List (Str × Addr)) (fp : List Addr), PXG (X.blk s H scope (compEnvC scope cl C X.env) fp) wF vs1 tg1 g1)
    (ht1 : ∀ (s : Shared) (H : Hp) (C : Addr) (cl : List (Str × Addr)) (fp : List Addr), PXTs (X.blk s H scope (compEnvC scope cl C X.env) fp) wF ifs1 tt1)
    (he : ∀ (s : Shared) (H : Hp) (C : Addr) (cl : List (Str × Addr)) (fp : List Addr), PX (X.blk s H scope (compEnvC scope cl C X.env) fp) wF elt te) (hs : ∀ x, foldedSetIterable iter X.env x = pure x := by intro _; rfl) (hs1 : ∀ env x, foldedSetIterable iter1 env x = pure x := by intro _ _; rfl) :
    PX X W (.ListComp elt [⟨tg, iter, ifs, 0⟩, ⟨tg1, iter1, ifs1, 0⟩] scope pos) (xLc2 ti g tt ti1 g1 tt1 te (own.map (·.2)) vs1 finL) := by
  obtain ⟨wi, hpi, hti⟩ := hi.ex
  refine ⟨(pe_lc2 (g := liftG X.K wF (own.map (·.2)) g) (tt := liftT X.K wF tt) (wi1 := liftI X.K wF ti1) (g1 := liftG X.K wF vs1 g1) (tt1 := liftT X.K wF tt1) (te := lift X.K wF te) hc hN hpi ok hv (fun s H C cl fp => (hg s H C cl fp).pg) (fun s H C cl fp => (ht s H C cl fp).pt) (fun s H C cl fp => (hi1 s H C cl fp).pi) (fun s H C cl fp => (hg1 s H C cl fp).pg) (fun s H C cl fp => (ht1 s H C cl fp).pt) (fun s H C cl fp => (he s H C cl fp).pe) hs hs1).imp fun σ H Q h => ?_⟩
  obtain ⟨A, ρ, μ, G, Qp, x, S, ht, hx, k⟩ := h
  refine hti _ _ _ ⟨A, ρ, μ, G, _, x, S, ht, hx, fun ds μ1 A1 G1 H1 J ⟨I, i0, turn, done⟩ c1 s1 w Dd hD => ?_⟩
  refine lc2_turns (S.after s1 c1) hD w i0 turn fun acc μ' i' A' G' H' ws c' s' hd hr na gn => ?_
  have q := done acc μ' i'
  have lg : LeZ G' (upd G' Dd (.lst ws)) := fun a o e => .inl (by rw [upd_ne (ne_of_none e gn)]; exact e)
  refine k (.d (.lst acc)) μ' A' (upd G' Dd (.lst ws)) H' (.ref Dd) q ⟨fun a o e => ?_, c'.len, c'.nd, fun a ha => ?_, fun j a cl e1 e2 => (c'.ok j a cl e1 e2).mono (List.prefix_refl _) lg rfl⟩ ?_ (Rep.lst upd_same (hr.mono lg))
  · by_cases z : a = Dd
    · rw [z] at e ⊢; rw [upd_same] at e; rw [hd]; exact e
    · rw [upd_ne z] at e; exact c'.le a o e
  · rw [upd_ne (fun z => na (by rw [← z]; exact ha))]; exact c'.free a ha
  · have st := s1.trans s'
    refine ⟨st.pre, st.le.trans lg, st.keep, fun a e => ?_, st.tups, st.cells, st.there⟩
    by_cases z : a = Dd
    · refine .inr (.inl ?_)
      cases q2 : H a with
      | none => rfl
      | some o => exact absurd (by rw [z]; exact hD) (s1.there a (by rw [q2]; simp))
    · rw [upd_ne z] at e; exact st.new a e
end
end PL
namespace PL
open PySem PySem.Spec PyProof.Rows L2 HT
section
variable {prog : Program} {w : World} {A : Around} {E : Value → Shared → Prop} {s : Shared}
end
section
variable {X : Cx} {W : WX} {a b c e o : Expr} {es : List Expr} {te ta tb to : TX} {tL : TXA} {pos p apos cpos p1 p2 p3 : Pos} {k : Nat}
def pMulV : SV → SV → Mem → VP → Prop := fun sa sb μ Q => match sa, sb with
  | .d (.tup l), .d (.int j) => (l ≠ [] ∧ 2 ≤ j ∧ j ≤ 1000 ∧ l.length ≤ 1000) ∧ Q (.d (.tup (List.replicate j.toNat l).flatten)) μ
  | .d (.ntp l), .d (.int j) => (l ≠ [] ∧ 2 ≤ j ∧ j ≤ 1000 ∧ l.length ≤ 1000) ∧ Q (.d (.tup (List.replicate j.toNat l).flatten)) μ
  | sa, sb => pMulU sa sb μ Q
theorem pop_mulV : POp X.K (fun x y H Q => (rI CMul (fun i j => .int (i * j)) x y H Q ∨ rRep x y H Q) ∨ rRepT X.K x y H Q) pMulV := by
  intro sa sb μ A G H va vb Qp Q h c ra rb k
  unfold pMulV at h
  split at h
  · obtain ⟨a, us, rfl, h1, h2⟩ := Reps.sq ra
    cases rb
    obtain ⟨⟨g1, g2, g3, g4⟩, q⟩ := h
    refine .inr ⟨a, _, us, rfl, rfl, c.le.sqT h1, fun z => g1 (List.length_eq_zero_iff.mp (by rw [h2.length, z]; rfl)), g2, g3, by rw [← h2.length]; exact g4, fun p hp => ?_⟩
    obtain ⟨c2, s2⟩ := c.laid (o := .tup (List.replicate _ us).flatten) hp
    exact k _ _ _ _ _ _ q c2 s2 (Rep.tup upd_same ((reps_rep h2 _).mono s2.le))
  · obtain ⟨a, us, rfl, h1, h2⟩ := Reps.sqn ra
    cases rb
    obtain ⟨⟨g1, g2, g3, g4⟩, q⟩ := h
    refine .inr ⟨a, _, us, rfl, rfl, c.le.sqT h1, fun z => g1 (List.length_eq_zero_iff.mp (by rw [h2.length, z]; rfl)), g2, g3, by rw [← h2.length]; exact g4, fun p hp => ?_⟩
    obtain ⟨c2, s2⟩ := c.laid (o := .tup (List.replicate _ us).flatten) hp
    exact k _ _ _ _ _ _ q c2 s2 (Rep.tup upd_same ((reps_rep h2 _).mono s2.le))
  · exact .inl (pop_mulU _ _ μ A G H va vb Qp Q h c ra rb k)
end
theorem Cells.out {K : PySem.W.Frag} {A : List Addr} {μ : Mem} {G H : Hp} {p : Addr} {o : HO} (c : Cells K A μ G H) (hp : H p = none) (ho : ∀ xs, o ≠ .tup xs) : Cells K A μ G (upd H p o) ∧ Step A G H A G (upd H p o) := by
  have gn : G p = none := c.gnone hp
  refine ⟨⟨fun a u e => by rw [upd_ne (ne_of_none e gn)]; exact c.le a u e, c.len, c.nd, c.free, fun k a cl h1 h2 => (c.ok k a cl h1 h2).mono (List.prefix_refl _) (LeZ.refl _) (upd_ne (c.ne_of_lt (List.mem_of_getElem? h1) hp))⟩, ⟨List.prefix_refl _, LeZ.refl _, fun a u e _ => .inl ?_, fun a e => .inl e, fun a xs e => ?_, fun a e => .inl e, fun a e => ?_⟩⟩
  · rw [upd_ne (ne_of_none e hp)]; exact e
  · by_cases z : a = p
    · rw [z, upd_same] at e; exact absurd (Option.some.inj e) (ho xs)
    · rw [upd_ne z] at e; exact .inr e
  · by_cases z : a = p
    · rw [z, upd_same]; simp
    · rw [upd_ne z]; exact e
inductive RepPs (K : PySem.W.Frag) (G : Hp) : List (D × D) → List (V × V) → Prop
  | nil : RepPs K G [] []
  | cons {d e : D} {v w : V} {ds : List (D × D)} {vs : List (V × V)} : Rep K G d v → Rep K G e w → RepPs K G ds vs → RepPs K G ((d, e) :: ds) ((v, w) :: vs)
theorem RepPs.mono {K : PySem.W.Frag} {G G' : Hp} (l : LeZ G G') : ∀ {ds : List (D × D)} {vs : List (V × V)}, RepPs K G ds vs → RepPs K G' ds vs
  | _, _, .nil => .nil
  | _, _, .cons a b t => .cons (a.mono l) (b.mono l) (RepPs.mono l t)
theorem RepPs.length {K : PySem.W.Frag} {G : Hp} : ∀ {ds : List (D × D)} {vs : List (V × V)}, RepPs K G ds vs → ds.length = vs.length
  | _, _, .nil => rfl
  | _, _, .cons _ _ t => congrArg (· + 1) (RepPs.length t)
noncomputable def mergeD : List D → List D → List (D × D) → List D × List D
  | ks, vs, [] => (ks, vs)
  | ks, vs, (k, v) :: ps => mergeD (putKs ks k) (putVs ks vs k v) ps
/-- keys that are ints and texts -/
theorem merge_rep {K : PySem.W.Frag} {G : Hp} : ∀ {ps : List (D × D)} {us : List (V × V)} {kvs : List (Key × V)} {vs : List D}, RepPs K G ps us → (∀ p ∈ ps, fitK false p.1 = true) → Reps K G vs (kvs.map Prod.snd) →
    ∃ ms : List (Key × V), us = ms.map (fun kv => (kV kv.1, kv.2)) ∧ (mergeD (kvs.map fun p => keyD p.1) vs ps).1 = (mergeK kvs ms).map (fun p => keyD p.1) ∧ Reps K G (mergeD (kvs.map fun p => keyD p.1) vs ps).2 ((mergeK kvs ms).map Prod.snd)
  | _, _, kvs, vs, .nil, _, r => ⟨[], rfl, rfl, r⟩
  | _, _, kvs, vs, @RepPs.cons _ _ d e v w ds us a b t, hf, r => by
    obtain ⟨k', rfl⟩ := fitF (hf _ List.mem_cons_self)
    obtain rfl := keyD_val a
    have e1 := put_keys (kd := keyD) (fun _ _ z => keyD_inj z) kvs k' w
    have e2 := put_vals (kd := keyD) (fun _ _ z => keyD_inj z) r k' b
    obtain ⟨ms, h1, h2, h3⟩ := merge_rep (kvs := putK kvs k' w) t (fun p hp => hf p (List.mem_cons_of_mem _ hp)) e2
    rw [e1] at h2 h3
    exact ⟨(k', w) :: ms, by rw [h1]; rfl, h2, h3⟩
end PL
namespace PL
open PySem PySem.Spec PyProof.Rows L2
section
variable {X : Cx} {W : WX} {a b : Expr} {tL : TXA} {pos : Pos}
theorem psx_par2 {i j : Nat} {x y : Str} {px py pt : Pos} {kt k2 pt2} (hc : X.calm = true) (hN : X.N.Nodup) (hi : X.N[i]? = some x) (hj : X.N[j]? = some y)
    (hx : Loc X.env.scope x) (hy : Loc X.env.scope y) (ha : PXA X W [a, b] tL)
    (hfx : X.fn x = true ∨ X.env.scope.names.lookup x = some .local) (hfy : X.fn y = true ∨ X.env.scope.names.lookup y = some .local)
    (hw : swappedStores [.Tuple [.Name x px, .Name y py] kt pt] (.Tuple [a, b] k2 pt2) X.env = pure none := by rfl)
    (hs : swapsWithSole [.Tuple [.Name x px, .Name y py] kt pt] (.Tuple [a, b] k2 pt2) pos.line X.env = pure false := by rfl)
    (h1 : (assignEach [.Tuple [.Name x px, .Name y py] kt pt] X.env).map (·.2) = [assign (.Tuple [.Name x px, .Name y py] kt pt) X.env] := by rfl)
    (hn : (assignEach [.Name x px, .Name y py] X.env).length = 2 := by rfl) (hst : (assignEach [.Name x px, .Name y py] X.env).findIdx? (·.1) = none := by rfl)
    (hs1 : (assignEach [.Name x px, .Name y py] X.env).map (·.2) = assign (.Name x px) X.env :: (assignEach [.Name y py] X.env).map (·.2) := by rfl)
    (hs2 : (assignEach [.Name y py] X.env).map (·.2) = assign (.Name y py) X.env :: (assignEach [] X.env).map (·.2) := by rfl) :
    PXS X W (.Assign [.Tuple [.Name x px, .Name y py] kt pt] (.Tuple [a, b] k2 pt2) pos) (xPar i j tL) := by
  refine ⟨(ps_asg (pe_tup ha.pa) (pg_tup hc (pgs_cons (pg_name hN hi hx hfx) (pgs_cons (pg_name hN hj hy hfy) pgs_nil hs2) hs1) hn hst) hs hw h1).imp fun D σ H h => ?_⟩
  obtain ⟨A, ρ, μ, G, E, S, ht, k⟩ := h
  refine ⟨A, ρ, μ, G, _, _, S, ht, k.ex, fun ss μ1 A1 G1 H1 vs q c1 s1 r1 => ?_⟩
  match ss, vs, r1, q with
  | [s, r], [v, w], .cons g1 (.cons g2 .nil), q =>
    refine ⟨by rw [sizeLine_eq]; simp, fun p hp => ?_⟩
    obtain ⟨c2, s2⟩ := c1.laid (o := .tup [v, w]) hp
    refine ⟨p, [v, w], rfl, SqT.of upd_same, rfl, v, [w], rfl, ?_⟩
    refine ⟨w, [], rfl, rfl, ?_⟩
    exact k.nx _ _ _ _ _ _ q ((((S.after s1 c1).after s2 c2).set i (g1.mono (List.prefix_refl _) s2.le)).set j (g2.mono (List.prefix_refl _) s2.le)) (s1.trans s2)
end
end PL
namespace PL
open PySem PySem.Spec PyProof.Rows L2
section
variable {X : Cx} {W : WX} {a b : Expr} {ta tb : TX} {pos : Pos}
/-- u + v, tuples of l and of m -/
def catT (u v : D) (l m : List D) : D := if l = [] then v else if m = [] then u else .tup (l ++ m)
def pAddV : SV → SV → Mem → VP → Prop := fun sa sb μ Q => match sa, sb with
  | .d (.ntp l), .d (.tup m) => l.length + m.length ≤ sizeLine ∧ Q (.d (catT (.ntp l) (.tup m) l m)) μ
  | .d (.tup l), .d (.ntp m) => l.length + m.length ≤ sizeLine ∧ Q (.d (catT (.tup l) (.ntp m) l m)) μ
  | .d (.ntp l), .d (.ntp m) => l.length + m.length ≤ sizeLine ∧ Q (.d (catT (.ntp l) (.ntp m) l m)) μ
  | sa, sb => pAddU sa sb μ Q
theorem catA_of {K : PySem.W.Frag} {A : List Addr} {μ : Mem} {G H : Hp} {va vb : V} {Qp : VP} {Q : VK} {u v : D} {l m : List D} {a b : Addr} {us ws : List V} (hz : l.length + m.length ≤ sizeLine) (q : Qp (.d (catT u v l m)) μ) (c : Cells K A μ G H)
    (ra : RepS K A G (.d u) va) (rb : RepS K A G (.d v) vb) (k : ∀ r μ' A' G' H' v, Qp r μ' → Cells K A' μ' G' H' → Step A G H A' G' H' → RepS K A' G' r v → Q v H') (ea : va = .ref a) (eb : vb = .ref b) (h1 : SqT K G a us) (h2 : Reps K G l us) (h3 : SqT K G b ws) (h4 : Reps K G m ws) : rCatA K va vb H Q := by
  subst ea; subst eb
  refine ⟨a, b, us, ws, rfl, rfl, c.le.sqT h1, c.le.sqT h3, by rw [← h2.length, ← h4.length]; exact hz, fun e => ?_, fun n1 e => ?_, fun n1 n2 p hp => ?_⟩
  · have hl : l = [] := List.length_eq_zero_iff.mp (by rw [h2.length, e]; rfl)
    rw [catT, if_pos hl] at q
    exact k _ _ _ _ _ _ q c .refl rb
  · have hl : l ≠ [] := fun z => n1 (List.length_eq_zero_iff.mp (by rw [← h2.length, z]; rfl))
    have hm : m = [] := List.length_eq_zero_iff.mp (by rw [h4.length, e]; rfl)
    rw [catT, if_neg hl, if_pos hm] at q
    exact k _ _ _ _ _ _ q c .refl ra
  · have hl : l ≠ [] := fun z => n1 (List.length_eq_zero_iff.mp (by rw [← h2.length, z]; rfl))
    have hm : m ≠ [] := fun z => n2 (List.length_eq_zero_iff.mp (by rw [← h4.length, z]; rfl))
    rw [catT, if_neg hl, if_neg hm] at q
    obtain ⟨c2, s2⟩ := c.laid (o := .tup (us ++ ws)) hp
    exact k _ _ _ _ _ _ q c2 s2 (Rep.tup upd_same ((h2.app h4).mono s2.le))
theorem pop_addV : POp X.K (fun x y H Q => (rI0 (fun i j => .int (i + j)) x y H Q ∨ rAddS x y H Q) ∨ (rCatA X.K x y H Q ∨ rCat x y H Q)) pAddV := by
  intro sa sb μ A G H va vb Qp Q h c ra rb k
  unfold pAddV at h
  split at h
  · obtain ⟨a, us, rfl, h1, h2⟩ := Reps.sqn ra
    obtain ⟨b, ws, rfl, h3, h4⟩ := Reps.sq rb
    exact .inr (.inl (catA_of h.1 h.2 c ra rb k rfl rfl h1 h2 h3 h4))
  · obtain ⟨a, us, rfl, h1, h2⟩ := Reps.sq ra
    obtain ⟨b, ws, rfl, h3, h4⟩ := Reps.sqn rb
    exact .inr (.inl (catA_of h.1 h.2 c ra rb k rfl rfl h1 h2 h3 h4))
  · obtain ⟨a, us, rfl, h1, h2⟩ := Reps.sqn ra
    obtain ⟨b, ws, rfl, h3, h4⟩ := Reps.sqn rb
    exact .inr (.inl (catA_of h.1 h.2 c ra rb k rfl rfl h1 h2 h3 h4))
  · exact pop_addU _ _ μ A G H va vb Qp Q h c ra rb k
theorem px_addV (ha : PX X W a ta) (hb : PX X W b tb) : PX X W (.BinOp a .Add b pos) (xOp pAddV ta tb) := px_op (op_or (op_or op_add op_add_str) (op_or op_catA op_cat)) pop_addV ha hb
def rMulS : R2 := fun x y H Q => ∃ z j, x = .str z ∧ y = .int j ∧ (0 ≤ j ∧ j ≤ 1000 ∧ z.length ≤ 1000) ∧ Q (.str (Txt.mul z j)) H
theorem mulOk_of {z : Str} {j : Int} (h : 0 ≤ j ∧ j ≤ 1000 ∧ z.length ≤ 1000) : MulOk z j := by
  obtain ⟨h0, h1, h2⟩ := h
  refine ⟨by simp; omega, fun h3 _ h4 => ?_, fun h3 _ => ?_⟩
  · have : (1000 : Int) ≤ (2 ^ 63 - 1) / j := (Int.le_ediv_iff_mul_le (by omega)).mpr (by omega)
    omega
  · have : z.length * j.toNat ≤ 1000 * 1000 := Nat.mul_le_mul h2 (by omega)
    unfold Builtin.Str.tooLong
    simp only [decide_eq_false_iff_not, sizeLine_eq]
    omega
theorem op_mul_strI : OpR X (binaryOp .Mult) rMulS := by
  intro pins s σ H x y v u Q I rx ry h
  obtain ⟨i, j, rfl, rfl, hz, q⟩ := h
  obtain ⟨t, rfl⟩ := rx
  obtain ⟨t', rfl⟩ := ry
  exact SB.mul (mulOk_of hz) fun t' k => ⟨.str (Txt.mul i j), H, I.tok _, ⟨_, rfl⟩, q⟩
def pMulW : SV → SV → Mem → VP → Prop := fun sa sb μ Q => match sa, sb with
  | .d (.str z), .d (.int j) => (0 ≤ j ∧ j ≤ 1000 ∧ z.length ≤ 1000) ∧ Q (.d (.str (Txt.mul z j))) μ
  | sa, sb => pMulV sa sb μ Q
theorem pop_mulW : POp X.K (fun x y H Q => ((rI CMul (fun i j => .int (i * j)) x y H Q ∨ rRep x y H Q) ∨ rRepT X.K x y H Q) ∨ rMulS x y H Q) pMulW := by
  intro sa sb μ A G H va vb Qp Q h c ra rb k
  unfold pMulW at h
  split at h
  · cases ra; cases rb
    exact .inr ⟨_, _, rfl, rfl, h.1, k _ _ _ _ _ _ h.2 c .refl (.str _)⟩
  · exact .inl (pop_mulV _ _ μ A G H va vb Qp Q h c ra rb k)
theorem px_mulW (ha : PX X W a ta) (hb : PX X W b tb) : PX X W (.BinOp a .Mult b pos) (xOp pMulW ta tb) := px_op (op_or (op_or (op_or op_mul op_rep) op_repT) op_mul_strI) pop_mulW ha hb
end
end PL
namespace PL
open PySem PySem.Spec PyProof.Rows L2
section
variable {X : Cx} {W : WX} {a b e : Expr} {ta tb : TX} {tL : TXA} {pos p : Pos}
end
end PL
namespace PL
open PySem PySem.Spec PyProof.Rows L2
/-- an end: a value, an exception, nothing known -/
inductive R (α : Type) where
  | ok (a : α) (μ : Mem)
  | ex (C : Str) (fs : List (Str × D)) (μ : Mem)
  | no
abbrev M (α : Type) := Mem → R α
def R.fin {α : Type} (r : R α) (x : XP) (Q : α → Mem → Prop) : Prop := match r with
  | .ok a μ => Q a μ
  | .ex C fs μ => x C fs μ
  | .no => False
def bnd {α β : Type} (m : M α) (k : α → M β) : M β := fun μ => match m μ with
  | .ok a μ' => k a μ'
  | .ex C fs μ' => .ex C fs μ'
  | .no => .no
theorem R.mono {α : Type} {r : R α} {x : XP} {Q Q' : α → Mem → Prop} (h : r.fin x Q) (i : ∀ a μ, Q a μ → Q' a μ) : r.fin x Q' := by
  cases r with
  | ok a μ => exact i _ _ h
  | ex C fs μ => exact h
  | no => exact h
theorem fin_bnd {α β : Type} {m : M α} {k : α → M β} {μ : Mem} {x : XP} {Q : β → Mem → Prop} : (bnd m k μ).fin x Q ↔ (m μ).fin x fun a μ' => (k a μ').fin x Q := by
  unfold bnd
  cases m μ <;> exact Iff.rfl
def ret {α : Type} (a : α) : M α := fun μ => .ok a μ
open Classical in
noncomputable def grd {α : Type} (c : Prop) (m : M α) : M α := fun μ => if c then m μ else .no
theorem grd_pos {α : Type} {c : Prop} {m : M α} {μ : Mem} (h : c) : grd c m μ = m μ := if_pos h
theorem fin_grd {α : Type} {c : Prop} {m : M α} {μ : Mem} {x : XP} {Q : α → Mem → Prop} (h : (grd c m μ).fin x Q) : c ∧ (m μ).fin x Q := by
  unfold grd at h
  split at h
  · rename_i e; exact ⟨e, h⟩
  · exact h.elim
abbrev FEnv := Nat → SV
def put (ρ : FEnv) (i : Nat) (s : SV) : FEnv := fun j => if j = i then s else ρ j
def wip (ρ : FEnv) : List Nat → FEnv
  | [] => ρ
  | v :: vs => put (wip ρ vs) v .un
abbrev FX := FEnv → M SV
abbrev FT := FEnv → M Bool
abbrev FA := FEnv → M (List SV)
abbrev FI := FEnv → M (List D)
abbrev FO := FEnv → M (Option Int)
abbrev FG := SV → FEnv → M FEnv
inductive Out where
  | nx (ρ : FEnv)
  | rt (v : SV)
  | bk (ρ : FEnv)
  | ct (ρ : FEnv)
abbrev FS := FEnv → M Out
def Out.fin (n : Nat) (E : EndsP) (μ : Mem) : Out → Prop
  | .nx ρ => E.nx ⟨n, ρ⟩ μ
  | .rt v => E.rt v μ
  | .bk ρ => E.bk ⟨n, ρ⟩ μ
  | .ct ρ => E.ct ⟨n, ρ⟩ μ
def toX (n : Nat) (f : FX) : TX := fun x ρ μ Q => ρ.n = n ∧ (f ρ.f μ).fin x Q
def toT (n : Nat) (f : FT) : TXT := fun x ρ μ Q => ρ.n = n ∧ (f ρ.f μ).fin x Q
def toA (n : Nat) (f : FA) : TXA := fun x ρ μ Q => ρ.n = n ∧ (f ρ.f μ).fin x Q
def toI (n : Nat) (f : FI) : TXI := fun x ρ μ Q => ρ.n = n ∧ (f ρ.f μ).fin x Q
def toO (n : Nat) (f : FO) : TXO := fun x ρ μ Q => ρ.n = n ∧ (f ρ.f μ).fin x Q
def toG (n : Nat) (g : FG) : TXG := fun x s ρ μ Q => ρ.n = n ∧ (g s ρ.f μ).fin x fun r μ' => Q ⟨n, r⟩ μ'
def toS (n : Nat) (f : FS) : TXS := fun E ρ μ => ρ.n = n ∧ (f ρ.f μ).fin E.ex fun o μ' => o.fin n E μ'

def fV (i : Nat) : FX := fun ρ μ => match ρ i with
  | .d a => .ok (.d a) μ
  | .c k => .ok (.c k) μ
  | .un => .no
def fC (d : D) : FX := fun _ => ret (.d d)
def fOp (g : SV → SV → M SV) (a b : FX) : FX := fun ρ => bnd (a ρ) fun s => bnd (b ρ) fun t => g s t
def fUn (g : SV → M SV) (a : FX) : FX := fun ρ => bnd (a ρ) g
def tr : SV → M Bool := fun s μ => match s with
  | .d (.bl b) => .ok b μ
  | _ => .no
def fT (a : FX) : FT := fun ρ => bnd (a ρ) tr
def fTAnd (a b : FT) : FT := fun ρ => bnd (a ρ) fun k => if k then b ρ else ret false
def fTOr (a b : FT) : FT := fun ρ => bnd (a ρ) fun k => if k then ret true else b ρ
def fTNot (a : FT) : FT := fun ρ => bnd (a ρ) fun k => ret (!k)
def fAnd (a b : FX) : FX := fun ρ => bnd (bnd (a ρ) tr) fun k => if k then b ρ else ret (.d (.bl false))
def fOr (a b : FX) : FX := fun ρ => bnd (bnd (a ρ) tr) fun k => if k then ret (.d (.bl true)) else b ρ
def fNot (a : FX) : FX := fun ρ => bnd (bnd (a ρ) tr) fun k => ret (.d (.bl (!k)))
def fIf (c : FT) (a b : FX) : FX := fun ρ => bnd (c ρ) fun k => if k then a ρ else b ρ
def fChain (g g' : SV → SV → M SV) (a b c : FX) : FX := fun ρ => bnd (a ρ) fun s => bnd (b ρ) fun t => bnd (bnd (g s t) tr) fun k => if k then bnd (c ρ) fun u => g' t u else ret (.d (.bl false))
def fNil : FA := fun _ => ret []
def fCons (a : FX) (r : FA) : FA := fun ρ => bnd (a ρ) fun s => bnd (r ρ) fun ss => ret (s :: ss)
def allM (o : Option (List D)) (q : List D → M SV) : M SV := match o with
  | some ds => q ds
  | none => fun _ => .no
noncomputable def fTup (t : FA) : FX := fun ρ => bnd (t ρ) fun ss => allM (allD ss) fun ds => grd (ds.length ≤ sizeLine) (ret (.d (.tup ds)))
noncomputable def fLst (t : FA) : FX := fun ρ => bnd (t ρ) fun ss => allM (allD ss) fun ds => grd (ds.length ≤ sizeLine) (ret (.d (.lst ds)))
noncomputable def fLstC (t : FA) : FX := fun ρ => bnd (t ρ) fun ss => allM (allD ss) fun ds => grd (ds.length ≤ sizeLine) fun μ => .ok (.c μ.length) (μ ++ [.lst ds])
def fCall (g : List SV → M SV) (t : FA) : FX := fun ρ => bnd (t ρ) g
def fNone : FO := fun _ => ret none
def asInt : SV → M (Option Int) := fun s μ => match s with
  | .d (.int i) => .ok (some i) μ
  | _ => .no
def fSome (a : FX) : FO := fun ρ => bnd (a ρ) asInt
def fSl (g : SV → Option Int → Option Int → M SV) (a : FX) (l h : FO) : FX := fun ρ => bnd (a ρ) fun s => bnd (l ρ) fun lo => bnd (h ρ) fun hi => g s lo hi
noncomputable def addF (a b : SV) : M SV := fun μ => match a, b with
  | .d (.int i), .d (.int j) => .ok (.d (.int (i + j))) μ
  | .d (.str i), .d (.str j) => grd (i.length + j.length ≤ sizeLine) (ret (.d (.str (i ++ j)))) μ
  | .d (.tup l), .d (.tup m) => grd (l.length + m.length ≤ sizeLine) (ret (.d (.tup (l ++ m)))) μ
  | .d (.ntp l), .d (.tup m) => grd (l.length + m.length ≤ sizeLine) (ret (.d (catT (.ntp l) (.tup m) l m))) μ
  | .d (.tup l), .d (.ntp m) => grd (l.length + m.length ≤ sizeLine) (ret (.d (catT (.tup l) (.ntp m) l m))) μ
  | .d (.ntp l), .d (.ntp m) => grd (l.length + m.length ≤ sizeLine) (ret (.d (catT (.ntp l) (.ntp m) l m))) μ
  | a, b => match lstOf a μ, lstOf b μ with
    | some l, some m => grd (l.length + m.length ≤ sizeLine) (ret (.d (.lst (l ++ m)))) μ
    | _, _ => .no
def subF (a b : SV) : M SV := fun μ => match a, b with
  | .d (.int i), .d (.int j) => .ok (.d (.int (i - j))) μ
  | _, _ => .no
noncomputable def mulF (a b : SV) : M SV := fun μ => match a, b with
  | .d (.int i), .d (.int j) => grd (CMul i j) (ret (.d (.int (i * j)))) μ
  | .d (.str z), .d (.int j) => grd (0 ≤ j ∧ j ≤ 1000 ∧ z.length ≤ 1000) (ret (.d (.str (Txt.mul z j)))) μ
  | .d (.tup l), .d (.int j) => grd (l ≠ [] ∧ 2 ≤ j ∧ j ≤ 1000 ∧ l.length ≤ 1000) (ret (.d (.tup (List.replicate j.toNat l).flatten))) μ
  | .d (.ntp l), .d (.int j) => grd (l ≠ [] ∧ 2 ≤ j ∧ j ≤ 1000 ∧ l.length ≤ 1000) (ret (.d (.tup (List.replicate j.toNat l).flatten))) μ
  | a, .d (.int j) => match lstOf a μ with
    | some l => grd (-(2 ^ 63) ≤ j ∧ j < 2 ^ 63 ∧ l.length * j.toNat ≤ sizeLine) (ret (.d (.lst (List.replicate j.toNat l).flatten))) μ
    | _ => .no
  | _, _ => .no
noncomputable def modF (a b : SV) : M SV := fun μ => match a, b with
  | .d (.int i), .d (.int j) => grd (0 < j) (ret (.d (.int (i % j)))) μ
  | _, _ => .no
noncomputable def divF (a b : SV) : M SV := fun μ => match a, b with
  | .d (.int i), .d (.int j) => grd (CDiv i j) (ret (.d (.int (i / j)))) μ
  | _, _ => .no
noncomputable def powF (a b : SV) : M SV := fun μ => match a, b with
  | .d (.int i), .d (.int j) => grd (CPow i j) (ret (.d (.int (i ^ j.toNat)))) μ
  | _, _ => .no
def negF (a : SV) : M SV := fun μ => match a with
  | .d (.int i) => .ok (.d (.int (-i))) μ
  | _ => .no
noncomputable def ltF (a b : SV) : M SV := fun μ => match a, b with
  | .d (.int i), .d (.int j) => .ok (.d (.bl (decide (i < j)))) μ
  | .d (.str i), .d (.str j) => .ok (.d (.bl (decide (i.cps.toList < j.cps.toList)))) μ
  | .d x, .d y => grd (isTp x = true ∧ isTp y = true ∧ okEq x = true ∧ okEq y = true ∧ alD x y = true) (ret (.d (.bl (ltD x y)))) μ
  | _, _ => .no
noncomputable def leF (a b : SV) : M SV := fun μ => match a, b with
  | .d (.int i), .d (.int j) => .ok (.d (.bl (decide (i ≤ j)))) μ
  | .d (.str i), .d (.str j) => .ok (.d (.bl (!decide (j.cps.toList < i.cps.toList)))) μ
  | .d x, .d y => grd (isTp x = true ∧ isTp y = true ∧ okEq x = true ∧ okEq y = true ∧ alD x y = true) (ret (.d (.bl (!ltD y x)))) μ
  | _, _ => .no
noncomputable def gtF (a b : SV) : M SV := fun μ => match a, b with
  | .d (.int i), .d (.int j) => .ok (.d (.bl (decide (j < i)))) μ
  | .d (.str i), .d (.str j) => .ok (.d (.bl (decide (j.cps.toList < i.cps.toList)))) μ
  | .d x, .d y => grd (isTp x = true ∧ isTp y = true ∧ okEq x = true ∧ okEq y = true ∧ alD x y = true) (ret (.d (.bl (ltD y x)))) μ
  | _, _ => .no
noncomputable def geF (a b : SV) : M SV := fun μ => match a, b with
  | .d (.int i), .d (.int j) => .ok (.d (.bl (decide (j ≤ i)))) μ
  | .d (.str i), .d (.str j) => .ok (.d (.bl (!decide (i.cps.toList < j.cps.toList)))) μ
  | .d x, .d y => grd (isTp x = true ∧ isTp y = true ∧ okEq x = true ∧ okEq y = true ∧ alD x y = true) (ret (.d (.bl (!ltD x y)))) μ
  | _, _ => .no
def iltF (a b : SV) : M SV := fun μ => match a, b with
  | .d (.int i), .d (.int j) => .ok (.d (.bl (decide (i < j)))) μ
  | _, _ => .no
def ileF (a b : SV) : M SV := fun μ => match a, b with
  | .d (.int i), .d (.int j) => .ok (.d (.bl (decide (i ≤ j)))) μ
  | _, _ => .no
noncomputable def eqF (a b : SV) : M SV := fun μ => match a, b with
  | .d (.int i), .d (.int j) => .ok (.d (.bl (decide (i = j)))) μ
  | .d (.bl i), .d (.bl j) => .ok (.d (.bl (i == j))) μ
  | .d x, .d y => grd (okEq x = true ∧ okEq y = true) (ret (.d (.bl (deq x y)))) μ
  | _, _ => .no
noncomputable def neF (a b : SV) : M SV := fun μ => match a, b with
  | .d (.int i), .d (.int j) => .ok (.d (.bl (!decide (i = j)))) μ
  | .d (.bl i), .d (.bl j) => .ok (.d (.bl (!(i == j)))) μ
  | .d x, .d y => grd (okEq x = true ∧ okEq y = true) (ret (.d (.bl (!deq x y)))) μ
  | _, _ => .no
/-- what `in` says of a value and a thing that holds values -/
noncomputable def inO (μ : Mem) (a b : SV) : R Bool := match a, b with
  | .d k, .d (.dic t ks vs) => grd (fitK t k = true) (ret (findD ks vs k).isSome) μ
  | .d k, .d (.tup l) => grd (okEq k = true ∧ okEq (.tup l) = true) (ret (inD k l)) μ
  | .d k, .d (.ntp l) => grd (okEq k = true ∧ okEq (.ntp l) = true) (ret (inD k l)) μ
  | .d k, .d (.lst l) => grd (okEq k = true ∧ okEq (.lst l) = true) (ret (inD k l)) μ
  | .d (.str x), .d (.str z) => match x.cps.toList with
    | [c] => .ok (decide (c ∈ z.cps.toList)) μ
    | _ => .no
  | .d k, .c j => match μ[j]? with
    | some (.lst l) => grd (okEq k = true ∧ okEq (.lst l) = true) (ret (inD k l)) μ
    | some (.dK ks vs) => grd (fitK false k = true) (ret (findD ks vs k).isSome) μ
    | some (.dT ks vs) => grd (fitK true k = true) (ret (findD ks vs k).isSome) μ
    | _ => .no
  | _, _ => .no
noncomputable def inF (a b : SV) : M SV := fun μ => match inO μ a b with
  | .ok k μ' => .ok (.d (.bl k)) μ'
  | .ex C fs μ' => .ex C fs μ'
  | .no => .no
noncomputable def niF (a b : SV) : M SV := fun μ => match inO μ a b with
  | .ok k μ' => .ok (.d (.bl (!k))) μ'
  | .ex C fs μ' => .ex C fs μ'
  | .no => .no
def isNF (a : SV) : M SV := fun μ => match a with
  | .d .non => .ok (.d (.bl true)) μ
  | .d _ => .ok (.d (.bl false)) μ
  | .c _ => .ok (.d (.bl false)) μ
  | .un => .no
def notNF (a : SV) : M SV := fun μ => match a with
  | .d .non => .ok (.d (.bl false)) μ
  | .d _ => .ok (.d (.bl true)) μ
  | .c _ => .ok (.d (.bl true)) μ
  | .un => .no
def isBF (a b : SV) : M SV := fun μ => match a, b with
  | .d (.bl x), .d (.bl y) => .ok (.d (.bl (decide (x = y)))) μ
  | _, _ => .no
def notBF (a b : SV) : M SV := fun μ => match a, b with
  | .d (.bl x), .d (.bl y) => .ok (.d (.bl (!decide (x = y)))) μ
  | _, _ => .no
def ixF (a b : SV) : M SV := fun μ => match b with
  | .d (.int i) => match ixOf a μ i with
    | some d => .ok (.d d) μ
    | none => .no
  | _ => .no
noncomputable def dgetF (a b : SV) : M SV := fun μ => match b with
  | .d k => match dicOf a μ with
    | some z => grd (fitK z.1 k = true) (fun μ => match findD z.2.1 z.2.2 k with
      | some d => .ok (.d d) μ
      | none => .no) μ
    | none => .no
  | _ => .no
noncomputable def slF (a : SV) (lo hi : Option Int) : M SV := fun μ => match a with
  | .d (.tup l) => .ok (.d (.tup (cutD l lo hi))) μ
  | .d (.ntp l) => .ok (.d (cutN l lo hi)) μ
  | .d (.scr l) => .ok (.d (.lst (cutD (l.map .int) lo hi))) μ
  | .d (.str z) => grd (z.length ≤ sizeLine) (ret (.d (.str (cutS z lo hi)))) μ
  | a => match lstOf a μ with
    | some l => .ok (.d (.lst (cutD l lo hi))) μ
    | none => .no
def lenF : List SV → M SV := fun ss μ => match ss with
  | [s] => match lenOf s μ with
    | some n => .ok (.d (.int (n : Nat))) μ
    | none => .no
  | _ => .no
def isiF (k : TyK) (s : SV) : M SV := fun μ => match isKs k s μ with
  | some b => .ok (.d (.bl b)) μ
  | none => .no
def allF : List SV → M SV := fun ss μ => match ss with
  | [s] => match (lstOf s μ).bind bools with
    | some bs => .ok (.d (.bl (bs.all id))) μ
    | none => .no
  | _ => .no
def anyF : List SV → M SV := fun ss μ => match ss with
  | [s] => match (lstOf s μ).bind bools with
    | some bs => .ok (.d (.bl (bs.any id))) μ
    | none => .no
  | _ => .no
def tupF : List SV → M SV := fun ss μ => match ss with
  | [s] => match lstOf s μ with
    | some l => .ok (.d (.ntp l)) μ
    | none => match tupOf s with
      | some _ => .ok s μ
      | none => .no
  | _ => .no
def listF : List SV → M SV := fun ss μ => match ss with
  | [s] => match (lstOf s μ).or (tupOf s) with
    | some l => .ok (.d (.lst l)) μ
    | none => .no
  | _ => .no
def listCF : List SV → M SV := fun ss μ => match ss with
  | [s] => match (lstOf s μ).or (tupOf s) with
    | some l => .ok (.c μ.length) (μ ++ [.lst l])
    | none => .no
  | _ => .no
noncomputable def sortedF : List SV → M SV := fun ss μ => match ss with
  | [s] => match lstOf s μ with
    | some l => grd (okSort l) (ret (.d (.lst (srtD l)))) μ
    | none => .no
  | _ => .no
def intF : List SV → M SV := fun ss μ => match ss with
  | [.d (.int i)] => .ok (.d (.int i)) μ
  | [.d (.bl b)] => .ok (.d (.int (if b then 1 else 0))) μ
  | _ => .no
def absF : List SV → M SV := fun ss μ => match ss with
  | [.d (.int i)] => .ok (.d (.int (if i < 0 then -i else i))) μ
  | _ => .no
noncomputable def divmodF : List SV → M SV := fun ss μ => match ss with
  | [.d (.int i), .d (.int j)] => grd (CDiv i j) (ret (.d (.tup [.int (i / j), .int (i % j)]))) μ
  | _ => .no
noncomputable def maxF : List SV → M SV := fun ss μ => match ss with
  | [.d (.int i), .d (.int j)] => .ok (.d (.int (if j > i then j else i))) μ
  | [.d (.str i), .d (.str j)] => grd (okEq (.str i) = true ∧ okEq (.str j) = true) (ret (.d (if ltD (.str i) (.str j) = true then .str j else .str i))) μ
  | [.d (.tup l), .d (.tup m)] => grd (okEq (.tup l) = true ∧ okEq (.tup m) = true ∧ alP (.tup l) (.tup m) = true) (ret (.d (if ltD (.tup l) (.tup m) = true then .tup m else .tup l))) μ
  | _ => .no
noncomputable def minF : List SV → M SV := fun ss μ => match ss with
  | [.d (.int i), .d (.int j)] => .ok (.d (.int (if j < i then j else i))) μ
  | [.d (.str i), .d (.str j)] => grd (okEq (.str i) = true ∧ okEq (.str j) = true) (ret (.d (if ltD (.str j) (.str i) = true then .str j else .str i))) μ
  | [.d (.tup l), .d (.tup m)] => grd (okEq (.tup l) = true ∧ okEq (.tup m) = true ∧ alP (.tup l) (.tup m) = true) (ret (.d (if ltD (.tup m) (.tup l) = true then .tup m else .tup l))) μ
  | _ => .no
def appendF (o : SV) (ss : List SV) : M SV := fun μ => match o, ss with
  | .c k, [.d y] => match μ[k]? with
    | some (.lst l) => if l.length < sizeLine then .ok (.d .non) (μ.set k (.lst (l ++ [y]))) else .no
    | _ => .no
  | _, _ => .no
def joinF (o s : SV) : M SV := fun μ => match o with
  | .d (.str a) => match (lstOf s μ).or (tupOf s) with
    | some l => match txts l with
      | some ys => if (ys.map (·.length)).sum + ys.length * a.length ≤ 16777216 then .ok (.d (.str (Txt.join a ys))) μ else .no
      | none => .no
    | none => .no
  | _ => .no
/-- the first place of y -/
def firstIx (l : List D) (y : D) : Option Nat := l.findIdx? fun z => deq z y
noncomputable def indexF (o : SV) (ss : List SV) : M SV := fun μ => match o with
  | .d (.ntp l) => match ss with
    | [.d (.str z)] => match txts l with
      | some ys => match ys.findIdx? (fun y => decide (y = z)) with
        | some j => .ok (.d (.int (j : Nat))) μ
        | none => .no
      | none => .no
    | _ => .no
  | o => match ss with
    | [.d y] => match lstOf o μ with
      | some l => grd (okEq (.lst l) = true ∧ okEq y = true) (fun μ => match firstIx l y with
        | some j => .ok (.d (.int (j : Nat))) μ
        | none => .no) μ
      | none => .no
    | _ => .no

def itF (a : FX) : FI := fun ρ => bnd (a ρ) fun s μ => match s with
  | .d d => match itD d with
    | some l => .ok l μ
    | none => .no
  | _ => .no
def enumF (t : FA) : FI := fun ρ => bnd (t ρ) fun ss μ => match ss with
  | [.d (.tup l)] => .ok (enumD l) μ
  | [.d (.ntp l)] => .ok (enumD l) μ
  | [.d (.lst l)] => .ok (enumD l) μ
  | _ => .no
def zipF (t : FA) : FI := fun ρ => bnd (t ρ) fun ss μ => match ss with
  | [.d (.tup l), .d (.tup m)] => .ok (zipD l m) μ
  | [.d (.ntp l), .d (.tup m)] => .ok (zipD l m) μ
  | [.d (.tup l), .d (.ntp m)] => .ok (zipD l m) μ
  | [.d (.ntp l), .d (.ntp m)] => .ok (zipD l m) μ
  | [.d (.lst l), .d (.lst m)] => .ok (zipD l m) μ
  | _ => .no
noncomputable def rng1F (t : FA) : FI := fun ρ => bnd (t ρ) fun ss μ => match ss with
  | [.d (.int n)] => grd (-(2 ^ 62) ≤ n ∧ n < 2 ^ 62) (ret (rngD 0 n.toNat)) μ
  | _ => .no
noncomputable def rng2F (t : FA) : FI := fun ρ => bnd (t ρ) fun ss μ => match ss with
  | [.d (.int lo), .d (.int hi)] => grd (-(2 ^ 62) ≤ lo ∧ lo < 2 ^ 62 ∧ -(2 ^ 62) ≤ hi ∧ hi < 2 ^ 62) (ret (rngD lo (hi - lo).toNat)) μ
  | _ => .no
def gN (i : Nat) : FG := fun s ρ => ret (put ρ i s)
def gAll : List FG → List D → FEnv → M FEnv
  | [], [], ρ => ret ρ
  | g :: gs, d :: ds, ρ => bnd (g (.d d) ρ) fun ρ' => gAll gs ds ρ'
  | _, _, _ => fun _ => .no
def gT (gs : List FG) : FG := fun s ρ => match s with
  | .d (.tup ds) => if ds.length = gs.length then gAll gs ds ρ else fun _ => .no
  | _ => fun _ => .no
/-- l[i] = .. -/
def gSub (o i : FX) : FG := fun s ρ => bnd (o ρ) fun so => bnd (i ρ) fun si μ => match so, si, s with
  | .c k, .d (.int i), .d v => match μ[k]? with
    | some (.lst l) => match ixN l.length i with
      | some j => .ok ρ (μ.set k (.lst (l.set j v)))
      | none => .no
    | _ => .no
  | _, _, _ => .no

def fSkip : FS := fun ρ => ret (.nx ρ)
def fSeq (t u : FS) : FS := fun ρ => bnd (t ρ) fun o => match o with
  | .nx ρ' => u ρ'
  | o => ret o
def fBrk : FS := fun ρ => ret (.bk ρ)
def fCnt : FS := fun ρ => ret (.ct ρ)
def fExpr (a : FX) : FS := fun ρ => bnd (a ρ) fun _ => ret (.nx ρ)
def fRet (a : FX) : FS := fun ρ => bnd (a ρ) fun s => ret (.rt s)
def fRetN : FS := fun _ => ret (.rt (.d .non))
def fIfS (c : FT) (t u : FS) : FS := fun ρ => bnd (c ρ) fun k => if k then t ρ else u ρ
def fNever : FS := fun _ _ => .no
def fAsg (a : FX) (g : FG) : FS := fun ρ => bnd (a ρ) fun s => bnd (g s ρ) fun ρ' => ret (.nx ρ')
def fPar (i j : Nat) (t : FA) : FS := fun ρ => bnd (t ρ) fun ss => match ss with
  | [s, r] => ret (.nx (put (put ρ i s) j r))
  | _ => fun _ => .no
noncomputable def dputF (so si s : SV) : M Unit := fun μ => match so, si, s with
  | .c k, .d key, .d v => match μ[k]? with
    | some (.dK ks vs) => grd (fitK false key = true ∧ ks.length < sizeLine) (fun μ => .ok () (μ.set k (.dK (putKs ks key) (putVs ks vs key v)))) μ
    | some (.dT ks vs) => grd (fitK true key = true ∧ ks.length < sizeLine) (fun μ => .ok () (μ.set k (.dT (putKs ks key) (putVs ks vs key v)))) μ
    | _ => .no
  | _, _, _ => .no
noncomputable def fDPut (o i e : FX) : FS := fun ρ => bnd (e ρ) fun s => bnd (o ρ) fun so => bnd (i ρ) fun si => bnd (dputF so si s) fun _ => ret (.nx ρ)
def fNewK : FX := fun _ μ => .ok (.c μ.length) (μ ++ [.dK [] []])
def fNewT : FX := fun _ μ => .ok (.c μ.length) (μ ++ [.dT [] []])
/-- the turns of a for -/
def fLoop (step : SV → FS) : List D → FS
  | [], ρ => ret (.nx ρ)
  | d :: ds, ρ => bnd (step (.d d) ρ) fun o => match o with
    | .nx ρ' => fLoop step ds ρ'
    | .ct ρ' => fLoop step ds ρ'
    | .bk ρ' => ret (.nx ρ')
    | .rt v => ret (.rt v)
def fFor (it : FI) (g : FG) (b : FS) : FS := fun ρ => bnd (it ρ) fun ds => fLoop (fun d ρ => bnd (g d ρ) b) ds ρ
/-- the turns of a comprehension -/
def cLoop (step : D → M (Option SV)) : List D → M (List D)
  | [], μ => .ok [] μ
  | d :: ds, μ => match step d μ with
    | .ok none μ' => cLoop step ds μ'
    | .ok (some (.d y)) μ' => match cLoop step ds μ' with
      | .ok r μ2 => .ok (y :: r) μ2
      | _ => .no
    | _ => .no
def cStep (g : FG) (c : FT) (e : FX) (vs : List Nat) (ρ : FEnv) (d : D) : M (Option SV) := bnd (g (.d d) (wip ρ vs)) fun ρ2 => bnd (c ρ2) fun k => if k then bnd (e ρ2) fun s => ret (some s) else ret none
def fYes : FT := fun _ => ret true
def finLF : List D → M SV := fun acc => ret (.d (.lst acc))
def finCF : List D → M SV := fun acc μ => .ok (.c μ.length) (μ ++ [.lst acc])
noncomputable def fLc (fin : List D → M SV) (it : FI) (g : FG) (c : FT) (e : FX) (vs : List Nat) : FX := fun ρ => bnd (it ρ) fun ds => grd (ds.length ≤ sizeLine) (bnd (cLoop (cStep g c e vs ρ) ds) fin)
/-- two generators -/
def cLoop2 (step : D → M (Option (List D))) : List D → M (List D)
  | [], μ => .ok [] μ
  | d :: ds, μ => match step d μ with
    | .ok none μ' => cLoop2 step ds μ'
    | .ok (some l) μ' => match cLoop2 step ds μ' with
      | .ok r μ2 => .ok (l ++ r) μ2
      | _ => .no
    | _ => .no
def cStep2 (g : FG) (c : FT) (it1 : FI) (g1 : FG) (c1 : FT) (e : FX) (vs vs1 : List Nat) (ρ : FEnv) (d : D) : M (Option (List D)) := bnd (g (.d d) (wip ρ vs)) fun ρ2 => bnd (c ρ2) fun k =>
  if k then bnd (it1 ρ2) fun es => bnd (cLoop (cStep g1 c1 e vs1 ρ2) es) fun l => ret (some l) else ret none
/-- the list stays small -/
noncomputable def fLc2 (fin : List D → M SV) (it : FI) (g : FG) (c : FT) (it1 : FI) (g1 : FG) (c1 : FT) (e : FX) (vs vs1 : List Nat) : FX := fun ρ => bnd (it ρ) fun ds => bnd (cLoop2 (cStep2 g c it1 g1 c1 e vs vs1 ρ) ds) fun l => grd (l.length ≤ sizeLine) (fin l)

/-- a cell that a call may take -/
def flC {α : Type} (c : Cell) (r : R α) : R α := match c with
  | .dC _ _ => .no
  | .inC _ _ _ => .no
  | .lsC _ => .no
  | .dN _ _ => .no
  | _ => r
def flR {α : Type} : Mem → R α → R α
  | [], r => r
  | c :: cs, r => flC c (flR cs r)
open Classical in
noncomputable def callM (f : List SV → M SV) (ss : List SV) : M SV := fun μ => if (cellsOf ss).Nodup then flR (picked μ (cellsOf ss)) (match f (relab 0 ss) (picked μ (cellsOf ss)) with
    | .ok (.d d) μ' => flR (μ'.take (cellsOf ss).length) (.ok (.d d) (merge μ (cellsOf ss) μ'))
    | .ok (.c j) μ' => flR (μ'.take (cellsOf ss).length) (if j < (cellsOf ss).length then .ok (.c ((cellsOf ss).getD j 0)) (merge μ (cellsOf ss) μ') else flC (μ'.getD j nocell) (.ok (.c μ.length) (merge μ (cellsOf ss) μ' ++ [μ'.getD j nocell])))
    | .ok .un _ => .no
    | .ex C fs μ' => flR (μ'.take (cellsOf ss).length) (.ex C fs (merge μ (cellsOf ss) μ'))
    | .no => .no)
  else .no
/-- .. a new list or dict is data from here on -/
noncomputable def callMF (f : List SV → M SV) (ss : List SV) : M SV := fun μ => grd (cellsOf ss).Nodup (fun μ => flR (picked μ (cellsOf ss)) (match f (relab 0 ss) (picked μ (cellsOf ss)) with
    | .ok (.d d) μ' => flR (μ'.take (cellsOf ss).length) (.ok (.d d) (merge μ (cellsOf ss) μ'))
    | .ok (.c j) μ' => flR (μ'.take (cellsOf ss).length) (match frzS (cellsOf ss).length μ' 3 (.c j) with
      | some d => .ok (.d d) (merge μ (cellsOf ss) μ')
      | none => .no)
    | .ok .un _ => .no
    | .ex C fs μ' => flR (μ'.take (cellsOf ss).length) (.ex C fs (merge μ (cellsOf ss) μ'))
    | .no => .no)) μ
def fstart (as : List SV) : FEnv := fun i => as.getD i .un
def fDef (k : Nat) (b : FS) : List SV → M SV := fun as μ => if as.length = k then match b (fstart as) μ with
    | .ok (.nx _) μ' => .ok (.d .non) μ'
    | .ok (.rt v) μ' => .ok v μ'
    | .ok _ _ => .no
    | .ex C fs μ' => .ex C fs μ'
    | .no => .no
  else .no
def pF (f : List SV → M SV) : PSp := fun x as μ Q => (f as μ).fin x Q
/-- keywords -/
def permM (perm : List Nat) (f : List SV → M SV) (n m : Nat) (t tk : FA) : FX := fun ρ => bnd (t ρ) fun ss => bnd (tk ρ) fun zs => if ss.length = n ∧ zs.length = m then f (permG .un perm ss zs) else fun _ => .no
end PL
namespace PL
open PySem PySem.Spec PyProof.Rows L2 RZ
section
variable {X : Cx} {W : WX} {a b c e o i tg iter elt tg1 iter1 : Expr} {es ifs ifs1 : List Expr} {t : TX} {tt : TXT} {tA : TXA} {tS : TXS} {n : Nat} {fa fb fc fe fo fi : FX} {ft fu : FT} {fl fk : FA} {pos p apos cpos tpos p2 pos' ppos : Pos} {x : Str} {st : Stmt} {rest : List Stmt} {kk : Nat} {elts : List Expr}
theorem PX.to (h : PX X W e t) (i : ∀ x ρ μ Q, toX n fa x ρ μ Q → t x ρ μ Q) : PX X W e (toX n fa) :=
  ⟨h.pe.imp fun σ H Q ⟨A, ρ, μ, G, Qp, xp, S, ht, hx, k⟩ => ⟨A, ρ, μ, G, Qp, xp, S, i _ _ _ _ ht, hx, k⟩⟩
theorem PXT.to (h : PXT X W e tt) (i : ∀ x ρ μ Q, toT n ft x ρ μ Q → tt x ρ μ Q) : PXT X W e (toT n ft) :=
  ⟨h.pt.imp fun σ H Q ⟨A, ρ, μ, G, Qp, xp, S, ht, hx, k⟩ => ⟨A, ρ, μ, G, Qp, xp, S, i _ _ _ _ ht, hx, k⟩⟩
theorem PXW.to (h : PXW X W e tt) (i : ∀ x ρ μ Q, toT n ft x ρ μ Q → tt x ρ μ Q) : PXW X W e (toT n ft) :=
  ⟨h.pw.imp fun σ H Q ⟨A, ρ, μ, G, Qp, xp, S, ht, hx, k⟩ => ⟨A, ρ, μ, G, Qp, xp, S, i _ _ _ _ ht, hx, k⟩⟩
theorem PXTs.to (h : PXTs X W es tt) (i : ∀ x ρ μ Q, toT n ft x ρ μ Q → tt x ρ μ Q) : PXTs X W es (toT n ft) :=
  ⟨h.pt.imp fun σ H Q ⟨A, ρ, μ, G, Qp, xp, S, ht, hx, k⟩ => ⟨A, ρ, μ, G, Qp, xp, S, i _ _ _ _ ht, hx, k⟩⟩
theorem PXA.to (h : PXA X W es tA) (i : ∀ x ρ μ Q, toA n fl x ρ μ Q → tA x ρ μ Q) : PXA X W es (toA n fl) :=
  ⟨h.pa.imp fun σ H Q ⟨A, ρ, μ, G, Qp, xp, S, ht, hx, k⟩ => ⟨A, ρ, μ, G, Qp, xp, S, i _ _ _ _ ht, hx, k⟩⟩
theorem PXK.to {kws : List Keyword} (h : PXK X W kws tA) (i : ∀ x ρ μ Q, toA n fl x ρ μ Q → tA x ρ μ Q) : PXK X W kws (toA n fl) :=
  ⟨h.pk.imp fun σ H Q ⟨A, ρ, μ, G, Qp, xp, S, ht, hx, k⟩ => ⟨A, ρ, μ, G, Qp, xp, S, i _ _ _ _ ht, hx, k⟩⟩
theorem PXO.to {e : Option Expr} {t : TXO} {f : FO} (h : PXO X W e t) (i : ∀ x ρ μ Q, toO n f x ρ μ Q → t x ρ μ Q) : PXO X W e (toO n f) :=
  ⟨h.po.imp fun σ H Q ⟨A, ρ, μ, G, Qp, xp, S, ht, hx, k⟩ => ⟨A, ρ, μ, G, Qp, xp, S, i _ _ _ _ ht, hx, k⟩⟩
theorem PXG.to {own : List Nat} {t : TXG} {f : FG} (h : PXG X W own e t) (i : ∀ x s ρ μ Q, toG n f x s ρ μ Q → t x s ρ μ Q) : PXG X W own e (toG n f) :=
  ⟨h.pg.imp fun v σ H Q ⟨A, ρ, μ, G, s, Qp, xp, S, r, ht, hx, k⟩ => ⟨A, ρ, μ, G, s, Qp, xp, S, r, i _ _ _ _ _ ht, hx, k⟩⟩
def toGs (n : Nat) (gs : List FG) : TXGs := fun x ds ρ μ Q => ρ.n = n ∧ (gAll gs ds ρ.f μ).fin x fun r μ' => Q ⟨n, r⟩ μ'
theorem PXGs.to {own : List Nat} {t : TXGs} {gs : List FG} (h : PXGs X W own es t) (i : ∀ x s ρ μ Q, toGs n gs x s ρ μ Q → t x s ρ μ Q) : PXGs X W own es (toGs n gs) :=
  ⟨h.pg.imp fun v σ H Q ⟨A, ρ, μ, G, s, Qp, xp, S, r, ht, hx, k⟩ => ⟨A, ρ, μ, G, s, Qp, xp, S, r, i _ _ _ _ _ ht, hx, k⟩⟩
theorem PXI.to {ti : TXI} {f : FI} (h : PXI X W tg iter ti) (i : ∀ x ρ μ Q, toI n f x ρ μ Q → ti x ρ μ Q) : PXI X W tg iter (toI n f) := by
  obtain ⟨wi, hp, hw⟩ := h.ex
  exact ⟨wi, hp, fun σ H R ⟨A, ρ, μ, G, Qp, xp, S, ht, hx, k⟩ => hw _ _ _ ⟨A, ρ, μ, G, Qp, xp, S, i _ _ _ _ ht, hx, k⟩⟩
theorem PXS.to {f : FS} (h : PXS X W st tS) (i : ∀ E ρ μ, toS n f E ρ μ → tS E ρ μ) : PXS X W st (toS n f) :=
  ⟨h.ps.imp fun D σ H ⟨A, ρ, μ, G, E, S, ht, k⟩ => ⟨A, ρ, μ, G, E, S, i _ _ _ ht, k⟩⟩
theorem PXSs.to {f : FS} (h : PXSs X W rest tS) (i : ∀ E ρ μ, toS n f E ρ μ → tS E ρ μ) : PXSs X W rest (toS n f) :=
  ⟨h.ps.imp fun D σ H ⟨A, ρ, μ, G, E, S, ht, k⟩ => ⟨A, ρ, μ, G, E, S, i _ _ _ ht, k⟩⟩
theorem pf_name (i : Nat) {x : Str} {pos : Pos} (hN : X.N[i]? = some x := by rfl) (hn : i < n := by decide) (hv : Vis X.env.scope x := by first | exact Or.inl rfl | exact Or.inr (Or.inl rfl) | exact Or.inr (Or.inr rfl)) (hd : (x == ("__debug__" : Str)) = false := by decide)
    (hcd : (x == ("__classdict__" : Str)) = false := by decide) : PX X W (.Name x pos) (toX n (fV i)) :=
  (px_name i hN hv hd hcd).to fun x ρ μ Q ⟨h, q⟩ => by
    refine ⟨by rw [h]; exact hn, ?_⟩
    unfold fV at q
    split at q
    · rename_i e; first | exact q | (rw [e]; exact q)
    · rename_i e; first | exact q | (rw [e]; exact q)
    · exact q.elim
theorem pf_c {d : D} (h : PX X W e (xC d)) : PX X W e (toX n (fC d)) := h.to fun x ρ μ Q ⟨_, q⟩ => q
theorem to_op {P : SV → SV → Mem → VP → Prop} {g : SV → SV → M SV} (hg : ∀ sa sb μ x Q, (g sa sb μ).fin x Q → P sa sb μ Q) (x : XP) (ρ : Env') (μ : Mem) (Q : VP) (h : toX n (fOp g fa fb) x ρ μ Q) : xOp P (toX n fa) (toX n fb) x ρ μ Q := by
  obtain ⟨hn, h⟩ := h
  exact ⟨hn, R.mono (fin_bnd.mp h) fun s μ1 h1 => ⟨hn, R.mono (fin_bnd.mp h1) fun t μ2 h2 => hg _ _ _ _ _ h2⟩⟩
theorem pf_op {P : SV → SV → Mem → VP → Prop} {g : SV → SV → M SV} (h : PX X W e (xOp P (toX n fa) (toX n fb))) (hg : ∀ sa sb μ x Q, (g sa sb μ).fin x Q → P sa sb μ Q) : PX X W e (toX n (fOp g fa fb)) := h.to (to_op hg)
theorem pf_opT {P : SV → SV → Mem → VP → Prop} {g : SV → SV → M SV} (h : PXT X W e (xTest (xOp P (toX n fa) (toX n fb)))) (hg : ∀ sa sb μ x Q, (g sa sb μ).fin x Q → P sa sb μ Q) : PXT X W e (toT n (fT (fOp g fa fb))) :=
  h.to fun x ρ μ Q h => by
    obtain ⟨hn, h⟩ := h
    refine to_op hg x ρ μ _ ⟨hn, R.mono (fin_bnd.mp h) fun s μ1 h1 => ?_⟩
    match s, h1 with
    | .d (.bl k), h1 => exact h1
theorem ok_add : ∀ sa sb μ x Q, (addF sa sb μ).fin x Q → pAddV sa sb μ Q := by
  intro sa sb μ x Q h
  unfold addF at h
  split at h
  · exact h
  · exact fin_grd h
  · exact fin_grd h
  · exact fin_grd h
  · exact fin_grd h
  · exact fin_grd h
  · rename_i h1 h2 h3 h4 h5 h6
    split at h
    · rename_i l m e1 e2
      have key : on (lstOf sa μ) fun l => on (lstOf sb μ) fun m => l.length + m.length ≤ sizeLine ∧ Q (.d (.lst (l ++ m))) μ := by
        rw [e1, e2]; exact fin_grd h
      cases sa with
      | un => exact key
      | c k => exact key
      | d a =>
        cases a <;> first | (cases e1; done) | skip
        all_goals (cases sb with
          | un => cases e2
          | c k => exact key
          | d b => cases b <;> first | (cases e2; done) | exact key)
    · exact h.elim
theorem ok_sub : ∀ sa sb μ x Q, (subF sa sb μ).fin x Q → pSubU sa sb μ Q := by
  intro sa sb μ x Q h
  unfold subF at h
  unfold pSubU
  split at h
  · exact h
  · exact h.elim
theorem ok_mul : ∀ sa sb μ x Q, (mulF sa sb μ).fin x Q → pMulW sa sb μ Q := by
  intro sa sb μ x Q h
  unfold mulF at h
  unfold pMulW pMulV pMulU
  split at h
  · exact fin_grd h
  · exact fin_grd h
  · exact fin_grd h
  · exact fin_grd h
  · rename_i j h1 h2 h3 h4
    have key : on (lstOf sa μ) fun l => (-(2 ^ 63) ≤ j ∧ j < 2 ^ 63 ∧ l.length * j.toNat ≤ sizeLine) ∧ Q (.d (.lst (List.replicate j.toNat l).flatten)) μ := by
      split at h
      · rename_i l e; rw [e]; exact fin_grd h
      · exact h.elim
    cases sa with
    | un => exact key
    | c k => exact key
    | d d => cases d <;> first | exact (h1 _ rfl).elim | exact (h2 _ rfl).elim | exact (h3 _ rfl).elim | exact (h4 _ rfl).elim | exact key
  · exact h.elim
theorem ok_mod : ∀ sa sb μ x Q, (modF sa sb μ).fin x Q → pModU sa sb μ Q := by
  intro sa sb μ x Q h
  unfold modF at h
  unfold pModU
  split at h
  · exact fin_grd h
  · exact h.elim
theorem ok_div : ∀ sa sb μ x Q, (divF sa sb μ).fin x Q → pDiv sa sb μ Q := by
  intro sa sb μ x Q h
  unfold divF at h
  unfold pDiv pII
  split at h
  · exact fin_grd h
  · exact h.elim
theorem ok_pow : ∀ sa sb μ x Q, (powF sa sb μ).fin x Q → pPow sa sb μ Q := by
  intro sa sb μ x Q h
  unfold powF at h
  unfold pPow pII
  split at h
  · exact fin_grd h
  · exact h.elim
theorem ok_lt : ∀ sa sb μ x Q, (ltF sa sb μ).fin x Q → pLtV sa sb μ Q := by
  intro sa sb μ x Q h
  unfold pLtV
  split
  · exact h
  · exact h
  · rename_i h1 h2
    unfold ltF at h
    split at h
    · rename_i e1 e2; injection e1 with e1; injection e2 with e2; exact (h1 _ _ e1 e2).elim
    · rename_i e1 e2; injection e1 with e1; injection e2 with e2; exact (h2 _ _ e1 e2).elim
    · rename_i e1 e2
      injection e1 with e1; injection e2 with e2
      subst e1; subst e2
      exact fin_grd h
    · exact h.elim
  · unfold ltF at h
    split at h
    · rename_i h4; exact (h4 _ _ rfl rfl).elim
    · rename_i h4; exact (h4 _ _ rfl rfl).elim
    · rename_i h4; exact (h4 _ _ rfl rfl).elim
    · exact h.elim
theorem ok_le : ∀ sa sb μ x Q, (leF sa sb μ).fin x Q → pLeV sa sb μ Q := by
  intro sa sb μ x Q h
  unfold pLeV
  split
  · exact h
  · exact h
  · rename_i h1 h2
    unfold leF at h
    split at h
    · rename_i e1 e2; injection e1 with e1; injection e2 with e2; exact (h1 _ _ e1 e2).elim
    · rename_i e1 e2; injection e1 with e1; injection e2 with e2; exact (h2 _ _ e1 e2).elim
    · rename_i e1 e2
      injection e1 with e1; injection e2 with e2
      subst e1; subst e2
      exact fin_grd h
    · exact h.elim
  · unfold leF at h
    split at h
    · rename_i h4; exact (h4 _ _ rfl rfl).elim
    · rename_i h4; exact (h4 _ _ rfl rfl).elim
    · rename_i h4; exact (h4 _ _ rfl rfl).elim
    · exact h.elim
theorem ok_gt : ∀ sa sb μ x Q, (gtF sa sb μ).fin x Q → pGtV sa sb μ Q := by
  intro sa sb μ x Q h
  unfold pGtV
  split
  · exact h
  · exact h
  · rename_i h1 h2
    unfold gtF at h
    split at h
    · rename_i e1 e2; injection e1 with e1; injection e2 with e2; exact (h1 _ _ e1 e2).elim
    · rename_i e1 e2; injection e1 with e1; injection e2 with e2; exact (h2 _ _ e1 e2).elim
    · rename_i e1 e2
      injection e1 with e1; injection e2 with e2
      subst e1; subst e2
      exact fin_grd h
    · exact h.elim
  · unfold gtF at h
    split at h
    · rename_i h4; exact (h4 _ _ rfl rfl).elim
    · rename_i h4; exact (h4 _ _ rfl rfl).elim
    · rename_i h4; exact (h4 _ _ rfl rfl).elim
    · exact h.elim
theorem ok_ge : ∀ sa sb μ x Q, (geF sa sb μ).fin x Q → pGeV sa sb μ Q := by
  intro sa sb μ x Q h
  unfold pGeV
  split
  · exact h
  · exact h
  · rename_i h1 h2
    unfold geF at h
    split at h
    · rename_i e1 e2; injection e1 with e1; injection e2 with e2; exact (h1 _ _ e1 e2).elim
    · rename_i e1 e2; injection e1 with e1; injection e2 with e2; exact (h2 _ _ e1 e2).elim
    · rename_i e1 e2
      injection e1 with e1; injection e2 with e2
      subst e1; subst e2
      exact fin_grd h
    · exact h.elim
  · unfold geF at h
    split at h
    · rename_i h4; exact (h4 _ _ rfl rfl).elim
    · rename_i h4; exact (h4 _ _ rfl rfl).elim
    · rename_i h4; exact (h4 _ _ rfl rfl).elim
    · exact h.elim
theorem ok_ile : ∀ sa sb μ x Q, (ileF sa sb μ).fin x Q → pLe sa sb μ Q := by
  intro sa sb μ x Q h
  unfold ileF at h
  unfold pLe pI0
  split at h <;> first | exact h | exact h.elim
theorem ok_eq : ∀ sa sb μ x Q, (eqF sa sb μ).fin x Q → pEqU sa sb μ Q := by
  intro sa sb μ x Q h
  unfold pEqU
  split
  · exact h
  · exact h
  · rename_i h1 h2
    unfold eqF at h
    split at h
    · rename_i e1 e2; injection e1 with e1; injection e2 with e2; exact (h1 _ _ e1 e2).elim
    · rename_i e1 e2; injection e1 with e1; injection e2 with e2; exact (h2 _ _ e1 e2).elim
    · rename_i e1 e2
      injection e1 with e1; injection e2 with e2
      subst e1; subst e2
      exact fin_grd h
    · exact h.elim
  · unfold eqF at h
    split at h
    · rename_i h4; exact (h4 _ _ rfl rfl).elim
    · rename_i h4; exact (h4 _ _ rfl rfl).elim
    · rename_i h4; exact (h4 _ _ rfl rfl).elim
    · exact h.elim
theorem ok_ne : ∀ sa sb μ x Q, (neF sa sb μ).fin x Q → pNeU sa sb μ Q := by
  intro sa sb μ x Q h
  unfold pNeU
  split
  · exact h
  · exact h
  · rename_i h1 h2
    unfold neF at h
    split at h
    · rename_i e1 e2; injection e1 with e1; injection e2 with e2; exact (h1 _ _ e1 e2).elim
    · rename_i e1 e2; injection e1 with e1; injection e2 with e2; exact (h2 _ _ e1 e2).elim
    · rename_i e1 e2
      injection e1 with e1; injection e2 with e2
      subst e1; subst e2
      exact fin_grd h
    · exact h.elim
  · unfold neF at h
    split at h
    · rename_i h4; exact (h4 _ _ rfl rfl).elim
    · rename_i h4; exact (h4 _ _ rfl rfl).elim
    · rename_i h4; exact (h4 _ _ rfl rfl).elim
    · exact h.elim
theorem ok_in : ∀ sa sb μ x Q, (inF sa sb μ).fin x Q → pInU sa sb μ Q := by
  intro sa sb μ x Q h
  have h : (inO μ sa sb).fin x fun k μ' => Q (.d (.bl k)) μ' := by
    unfold inF at h
    cases e : inO μ sa sb <;> rw [e] at h <;> exact h
  unfold inO at h
  unfold pInU
  split at h
  · exact fin_grd h
  · exact fin_grd h
  · exact fin_grd h
  · exact fin_grd h
  · rename_i x z _
    split at h
    · rename_i c e
      refine ⟨c, ?_, h⟩
      cases x with
      | mk cps => simp only at e; congr 1; exact Array.toList_inj.mp (by simpa using e)
    · exact h.elim
  · split at h
    · rename_i e; first | exact fin_grd h | (simp only [e]; exact fin_grd h)
    · rename_i e; first | exact fin_grd h | (simp only [e]; exact fin_grd h)
    · rename_i e; first | exact fin_grd h | (simp only [e]; exact fin_grd h)
    · exact h.elim
  · exact h.elim
theorem ok_ni : ∀ sa sb μ x Q, (niF sa sb μ).fin x Q → pNiU sa sb μ Q := by
  intro sa sb μ x Q h
  have h : (inO μ sa sb).fin x fun k μ' => Q (.d (.bl (!k))) μ' := by
    unfold niF at h
    cases e : inO μ sa sb <;> rw [e] at h <;> exact h
  unfold inO at h
  unfold pNiU
  split at h
  · exact fin_grd h
  · exact fin_grd h
  · exact fin_grd h
  · exact fin_grd h
  · rename_i x z _
    split at h
    · rename_i c e
      refine ⟨c, ?_, h⟩
      cases x with
      | mk cps => simp only at e; congr 1; exact Array.toList_inj.mp (by simpa using e)
    · exact h.elim
  · split at h
    · rename_i e; first | exact fin_grd h | (simp only [e]; exact fin_grd h)
    · rename_i e; first | exact fin_grd h | (simp only [e]; exact fin_grd h)
    · rename_i e; first | exact fin_grd h | (simp only [e]; exact fin_grd h)
    · exact h.elim
  · exact h.elim
theorem ok_ix : ∀ sa sb μ x Q, (ixF sa sb μ).fin x Q → pIx sa sb μ Q := by
  intro sa sb μ x Q h
  unfold ixF at h
  unfold pIx
  split at h
  · split at h
    · rename_i e; show on _ _; rw [e]; exact h
    · exact h.elim
  · exact h.elim
theorem ok_dget : ∀ sa sb μ x Q, (dgetF sa sb μ).fin x Q → pDGet sa sb μ Q := by
  intro sa sb μ x Q h
  unfold dgetF at h
  unfold pDGet
  split at h
  · split at h
    · rename_i e
      show on _ _
      rw [e]
      obtain ⟨h1, h2⟩ := fin_grd h
      refine ⟨h1, ?_⟩
      split at h2
      · rename_i e2; rw [e2]; exact h2
      · exact h2.elim
    · exact h.elim
  · exact h.elim
variable (ha : PX X W a (toX n fa)) (hb : PX X W b (toX n fb)) (hc : PX X W c (toX n fc))
include ha hb
theorem pf_add : PX X W (.BinOp a .Add b pos) (toX n (fOp addF fa fb)) := pf_op (px_addV ha hb) ok_add
theorem pf_sub : PX X W (.BinOp a .Sub b pos) (toX n (fOp subF fa fb)) := pf_op (px_subU ha hb) ok_sub
theorem pf_mul : PX X W (.BinOp a .Mult b pos) (toX n (fOp mulF fa fb)) := pf_op (px_mulW ha hb) ok_mul
theorem pf_mod : PX X W (.BinOp a .Mod b pos) (toX n (fOp modF fa fb)) := pf_op (px_modU ha hb) ok_mod
theorem pf_div : PX X W (.BinOp a .FloorDiv b pos) (toX n (fOp divF fa fb)) := pf_op (px_divI ha hb) ok_div
theorem pf_pow : PX X W (.BinOp a .Pow b pos) (toX n (fOp powF fa fb)) := pf_op (px_powI ha hb) ok_pow
theorem pf_lt (hu : X.A.units + 64 < cLine) : PX X W (.Compare a [.Lt] [b] pos) (toX n (fOp ltF fa fb)) := pf_op (px_ltV hu ha hb) ok_lt
theorem pf_le (hu : X.A.units + 64 < cLine) : PX X W (.Compare a [.LtE] [b] pos) (toX n (fOp leF fa fb)) := pf_op (px_leV hu ha hb) ok_le
theorem pf_eq (hu : X.A.units + 64 < cLine) : PX X W (.Compare a [.Eq] [b] pos) (toX n (fOp eqF fa fb)) := pf_op (px_eqU hu ha hb) ok_eq
theorem pf_ne (hu : X.A.units + 64 < cLine) : PX X W (.Compare a [.NotEq] [b] pos) (toX n (fOp neF fa fb)) := pf_op (px_neU hu ha hb) ok_ne
theorem pf_in (hu : X.A.units + 64 < cLine) (hm : behindInMarks .In b = false := by first | exact nomark _ | rfl) : PX X W (.Compare a [.In] [b] pos) (toX n (fOp inF fa fb)) := pf_op (px_inU hu ha hb hm) ok_in
theorem pf_notin (hu : X.A.units + 64 < cLine) (hm : behindInMarks .NotIn b = false := by first | exact nomark _ | rfl) : PX X W (.Compare a [.NotIn] [b] pos) (toX n (fOp niF fa fb)) := pf_op (px_notinU hu ha hb hm) ok_ni
theorem pft_lt (hu : X.A.units + 64 < cLine) : PXT X W (.Compare a [.Lt] [b] pos) (toT n (fT (fOp ltF fa fb))) := pf_opT (pxt_ltV hu ha hb) ok_lt
theorem pft_le (hu : X.A.units + 64 < cLine) : PXT X W (.Compare a [.LtE] [b] pos) (toT n (fT (fOp leF fa fb))) := pf_opT (pxt_leV hu ha hb) ok_le
theorem pft_gt (hu : X.A.units + 64 < cLine) : PXT X W (.Compare a [.Gt] [b] pos) (toT n (fT (fOp gtF fa fb))) := pf_opT (pxt_gtV hu ha hb) ok_gt
theorem pft_ge (hu : X.A.units + 64 < cLine) : PXT X W (.Compare a [.GtE] [b] pos) (toT n (fT (fOp geF fa fb))) := pf_opT (pxt_geV hu ha hb) ok_ge
theorem pft_eq (hu : X.A.units + 64 < cLine) : PXT X W (.Compare a [.Eq] [b] pos) (toT n (fT (fOp eqF fa fb))) := pf_opT (pxt_eqU hu ha hb) ok_eq
theorem pft_ne (hu : X.A.units + 64 < cLine) : PXT X W (.Compare a [.NotEq] [b] pos) (toT n (fT (fOp neF fa fb))) := pf_opT (pxt_neU hu ha hb) ok_ne
theorem pf_ix (hs : PlainIx b := by intro _ _; rfl) : PX X W (.Subscript a b pos) (toX n (fOp ixF fa fb)) := pf_op (px_ix ha hb hs) ok_ix
theorem pf_dget (hu : X.A.units + 1 < cLine) (hs : NoSl b := by intro _ _; rfl) : PX X W (.Subscript a b pos) (toX n (fOp dgetF fa fb)) := pf_op (px_dget hu ha hb hs) ok_dget
include hc
theorem to_chain {P P' : SV → SV → Mem → VP → Prop} {g g' : SV → SV → M SV} (hg : ∀ sa sb μ x Q, (g sa sb μ).fin x Q → P sa sb μ Q) (hg' : ∀ sa sb μ x Q, (g' sa sb μ).fin x Q → P' sa sb μ Q) (x : XP) (ρ : Env') (μ : Mem) (Q : VP) (h : toX n (fChain g g' fa fb fc) x ρ μ Q) : xChain P P' (toX n fa) (toX n fb) (toX n fc) x ρ μ Q := by
  obtain ⟨hn, h⟩ := h
  refine ⟨hn, R.mono (fin_bnd.mp h) fun s μ1 h1 => ⟨hn, R.mono (fin_bnd.mp h1) fun t μ2 h2 => hg _ _ _ _ _ (R.mono (fin_bnd.mp (fin_bnd.mp h2)) fun z μ3 h3 => ?_)⟩⟩
  match z, h3 with
  | .d (.bl true), h3 => exact ⟨hn, R.mono (fin_bnd.mp h3) fun u μ4 h4 => hg' _ _ _ _ _ h4⟩
  | .d (.bl false), h3 => exact h3
end
section
variable {X : Cx} {W : WX} {a b c e o i tg iter elt tg1 iter1 : Expr} {es ifs ifs1 : List Expr} {t : TX} {tt : TXT} {tA : TXA} {tS : TXS} {n : Nat} {fa fb fc fe fo fi : FX} {ft fu : FT} {fl fk : FA} {pos p apos cpos tpos p2 pos' ppos : Pos} {x : Str} {st : Stmt} {rest : List Stmt} {kk : Nat} {elts : List Expr}
theorem to_test {f : FX} {t : TX} (i : ∀ x ρ μ Q, toX n f x ρ μ Q → t x ρ μ Q) (x : XP) (ρ : Env') (μ : Mem) (Q : Bool → Mem → Prop) (h : toT n (fT f) x ρ μ Q) : xTest t x ρ μ Q := by
  obtain ⟨hn, h⟩ := h
  refine i _ _ _ _ ⟨hn, R.mono (fin_bnd.mp h) fun s μ1 h1 => ?_⟩
  match s, h1 with
  | .d (.bl k), h1 => exact h1
section
variable (ha : PX X W a (toX n fa)) (hb : PX X W b (toX n fb)) (hc : PX X W c (toX n fc))
include ha hb hc
theorem pf_lele (hm : lastMarks [.LtE, .LtE] [b, c] = false := by with_unfolding_all rfl) : PX X W (.Compare a [.LtE, .LtE] [b, c] pos) (toX n (fChain ileF ileF fa fb fc)) := (px_leleI ha hb hc hm).to (to_chain ha hb hc ok_ile ok_ile)
theorem pft_lele (hm : lastMarks [.LtE, .LtE] [b, c] = false := by with_unfolding_all rfl) : PXT X W (.Compare a [.LtE, .LtE] [b, c] pos) (toT n (fT (fChain ileF ileF fa fb fc))) := (pxt_leleI ha hb hc hm).to (to_test (to_chain ha hb hc ok_ile ok_ile))
end
end
end PL
namespace PL
open PySem PySem.Spec PyProof.Rows L2 RZ
section
variable {X : Cx} {W : WX} {a b c e o i tg iter elt tg1 iter1 : Expr} {es ifs ifs1 : List Expr} {t : TX} {tt : TXT} {tA : TXA} {tS : TXS} {n : Nat} {fa fb fc fe fo fi : FX} {ft fu : FT} {fl fk : FA} {pos p apos cpos tpos p2 pos' ppos : Pos} {x : Str} {st : Stmt} {rest : List Stmt} {kk : Nat} {elts : List Expr} {nm : Option Str} {kpos : Pos} {kws : List Keyword}
theorem pft_val (h : PX X W e (toX n fa)) (he : ∀ whole, isTrue e X.env whole = (do let v ← whole; standAt e.pos; holding [v] (truthy v)) := by intro _; rfl) : PXT X W e (toT n (fT fa)) :=
  (pxt_val h he).to (to_test fun _ _ _ _ h => h)
theorem pfw_and1 (ha : PXT X W a (toT n ft)) : PXW X W (.BoolOp .And [a] pos) (toT n ft) := pxw_and1 ha
theorem pfw_or1 (ha : PXT X W a (toT n ft)) : PXW X W (.BoolOp .Or [a] pos) (toT n ft) := pxw_or1 ha
theorem pfw_and (ha : PXT X W a (toT n ft)) (hb : PXW X W (.BoolOp .And (b :: es) pos) (toT n fu)) : PXW X W (.BoolOp .And (a :: b :: es) pos) (toT n (fTAnd ft fu)) :=
  (pxw_and ha hb).to fun x ρ μ Q ⟨hn, h⟩ => ⟨hn, R.mono (fin_bnd.mp h) fun k μ1 h1 => by
    cases k with
    | true => exact ⟨hn, h1⟩
    | false => exact h1⟩
theorem pfw_or (ha : PXT X W a (toT n ft)) (hb : PXW X W (.BoolOp .Or (b :: es) pos) (toT n fu)) : PXW X W (.BoolOp .Or (a :: b :: es) pos) (toT n (fTOr ft fu)) :=
  (pxw_or ha hb).to fun x ρ μ Q ⟨hn, h⟩ => ⟨hn, R.mono (fin_bnd.mp h) fun k μ1 h1 => by
    cases k with
    | true => exact h1
    | false => exact ⟨hn, h1⟩⟩
theorem pft_not (ha : PXT X W a (toT n ft)) : PXT X W (.UnaryOp .Not a pos) (toT n (fTNot ft)) :=
  (pxt_not ha).to fun x ρ μ Q ⟨hn, h⟩ => ⟨hn, R.mono (fin_bnd.mp h) fun k μ1 h1 => h1⟩
theorem pf_one {op} (h : PX X W a (toX n fa)) : PX X W (.BoolOp op [a] pos) (toX n fa) := px_one h
theorem pf_and (ha : PX X W a (toX n fa)) (hb : PX X W (.BoolOp .And (b :: es) pos) (toX n fb)) : PX X W (.BoolOp .And (a :: b :: es) pos) (toX n (fAnd fa fb)) :=
  (px_and ha hb).to fun x ρ μ Q ⟨hn, h⟩ => ⟨hn, R.mono (fin_bnd.mp (fin_bnd.mp h)) fun s μ1 h1 => by
    match s, h1 with
    | .d (.bl true), h1 => exact ⟨hn, h1⟩
    | .d (.bl false), h1 => exact h1⟩
theorem pf_not (ha : PX X W a (toX n fa)) : PX X W (.UnaryOp .Not a pos) (toX n (fNot fa)) :=
  (px_not ha).to fun x ρ μ Q ⟨hn, h⟩ => ⟨hn, R.mono (fin_bnd.mp (fin_bnd.mp h)) fun s μ1 h1 => by
    match s, h1 with
    | .d (.bl k), h1 => exact h1⟩
theorem pf_neg (ha : PX X W a (toX n fa)) : PX X W (.UnaryOp .USub a pos) (toX n (fUn negF fa)) :=
  (px_neg ha).to fun x ρ μ Q ⟨hn, h⟩ => ⟨hn, R.mono (fin_bnd.mp h) fun s μ1 h1 => by
    unfold negF at h1
    split at h1 <;> first | exact h1 | exact h1.elim⟩
theorem pf_if (hc : PXT X W c (toT n ft)) (ha : PX X W a (toX n fa)) (hb : PX X W b (toX n fb)) : PX X W (.IfExp c a b pos) (toX n (fIf ft fa fb)) :=
  (px_if hc ha hb).to fun x ρ μ Q ⟨hn, h⟩ => ⟨hn, R.mono (fin_bnd.mp h) fun k μ1 h1 => by
    cases k with
    | true => exact ⟨hn, h1⟩
    | false => exact ⟨hn, h1⟩⟩
theorem pfa_nil : PXA X W [] (toA n fNil) := pxa_nil.to fun x ρ μ Q ⟨hn, h⟩ => h
theorem pfa_cons (ha : PX X W e (toX n fa)) (hr : PXA X W es (toA n fl)) (hs : starEach (e :: es) X.env = (false, eval e X.env) :: starEach es X.env := by rfl) : PXA X W (e :: es) (toA n (fCons fa fl)) :=
  (pxa_cons ha hr hs).to fun x ρ μ Q ⟨hn, h⟩ => ⟨hn, R.mono (fin_bnd.mp h) fun s μ1 h1 => ⟨hn, R.mono (fin_bnd.mp h1) fun ss μ2 h2 => h2⟩⟩
theorem pfk_nil : PXK X W [] (toA n fNil) := pxk_nil.to fun x ρ μ Q ⟨hn, h⟩ => h
theorem pfk_cons (ha : PX X W e (toX n fa)) (hr : PXK X W kws (toA n fl)) : PXK X W (⟨nm, e, kpos⟩ :: kws) (toA n (fCons fa fl)) :=
  (pxk_cons ha hr).to fun x ρ μ Q ⟨hn, h⟩ => ⟨hn, R.mono (fin_bnd.mp h) fun s μ1 h1 => ⟨hn, R.mono (fin_bnd.mp h1) fun ss μ2 h2 => h2⟩⟩
theorem fin_allM {o : Option (List D)} {q : List D → M SV} {μ : Mem} {x : XP} {Q : VP} (h : (allM o q μ).fin x Q) : ∃ ds, o = some ds ∧ (q ds μ).fin x Q := by
  cases o with
  | none => exact h.elim
  | some ds => exact ⟨ds, rfl, h⟩
theorem pf_tup {x1} (h : PXA X W es (toA n fl)) : PX X W (.Tuple es x1 pos) (toX n (fTup fl)) :=
  (px_tup h).to fun x ρ μ Q ⟨hn, h⟩ => ⟨hn, R.mono (fin_bnd.mp h) fun ss μ1 h1 => by
    obtain ⟨ds, e, h2⟩ := fin_allM h1
    rw [e]; exact fin_grd h2⟩
theorem pf_lst (h : PXA X W es (toA n fl)) : PX X W (.List es pos) (toX n (fLst fl)) :=
  (px_lst h).to fun x ρ μ Q ⟨hn, h⟩ => ⟨hn, R.mono (fin_bnd.mp h) fun ss μ1 h1 => by
    obtain ⟨ds, e, h2⟩ := fin_allM h1
    rw [e]; exact fin_grd h2⟩
theorem pf_lstC (h : PXA X W es (toA n fl)) : PX X W (.List es pos) (toX n (fLstC fl)) :=
  (px_lstC h).to fun x ρ μ Q ⟨hn, h⟩ => ⟨hn, R.mono (fin_bnd.mp h) fun ss μ1 h1 => by
    obtain ⟨ds, e, h2⟩ := fin_allM h1
    rw [e]; exact fin_grd h2⟩
theorem pf_call {P : List SV → Mem → VP → Prop} {g : List SV → M SV} (h : PX X W e (xCall P (toA n fl))) (hg : ∀ ss μ x Q, (g ss μ).fin x Q → P ss μ Q) : PX X W e (toX n (fCall g fl)) :=
  h.to fun x ρ μ Q ⟨hn, h⟩ => ⟨hn, R.mono (fin_bnd.mp h) fun ss μ1 h1 => hg _ _ _ _ h1⟩
theorem ok_len : ∀ ss μ x Q, (lenF ss μ).fin x Q → pLen ss μ Q := by
  intro ss μ x Q h
  unfold lenF at h
  unfold pLen
  split at h
  · split at h
    · rename_i e; show on _ _; rw [e]; exact h
    · exact h.elim
  · exact h.elim
theorem ok_all : ∀ ss μ x Q, (allF ss μ).fin x Q → pAll ss μ Q := by
  intro ss μ x Q h
  unfold allF at h
  unfold pAll
  split at h
  · split at h
    · rename_i e; show on _ _; rw [e]; exact h
    · exact h.elim
  · exact h.elim
theorem ok_tup : ∀ ss μ x Q, (tupF ss μ).fin x Q → pTupN ss μ Q := by
  intro ss μ x Q h
  unfold tupF at h
  unfold pTupN
  split at h
  · split at h
    · rename_i e; first | exact h | (simp only [e]; exact h)
    · rename_i e
      try simp only [e]
      split at h
      · rename_i e2; rw [e2]; exact ⟨rfl, h⟩
      · exact h.elim
  · exact h.elim
theorem ok_sorted : ∀ ss μ x Q, (sortedF ss μ).fin x Q → pSorted ss μ Q := by
  intro ss μ x Q h
  unfold sortedF at h
  unfold pSorted
  split at h
  · split at h
    · rename_i e; show on _ _; rw [e]; exact fin_grd h
    · exact h.elim
  · exact h.elim
theorem ok_int : ∀ ss μ x Q, (intF ss μ).fin x Q → pInt ss μ Q := by
  intro ss μ x Q h
  unfold intF at h
  unfold pInt
  split at h <;> first | exact h | exact h.elim
theorem ok_abs : ∀ ss μ x Q, (absF ss μ).fin x Q → pAbs ss μ Q := by
  intro ss μ x Q h
  unfold absF at h
  unfold pAbs
  split at h <;> first | exact h | exact h.elim
theorem ok_divmod : ∀ ss μ x Q, (divmodF ss μ).fin x Q → pDivmod ss μ Q := by
  intro ss μ x Q h
  unfold divmodF at h
  unfold pDivmod
  split at h <;> first | exact fin_grd h | exact h.elim
theorem ok_max : ∀ ss μ x Q, (maxF ss μ).fin x Q → pmaxU ss μ Q := by
  intro ss μ x Q h
  unfold maxF at h
  unfold pmaxU
  split at h <;> first | exact h | exact fin_grd h | exact h.elim
theorem ok_min : ∀ ss μ x Q, (minF ss μ).fin x Q → pminU ss μ Q := by
  intro ss μ x Q h
  unfold minF at h
  unfold pminU
  split at h <;> first | exact h | exact fin_grd h | exact h.elim
section
variable (hl : PXA X W [e] (toA n fl)) (he : starEach [e] X.env = (false, eval e X.env) :: starEach [] X.env := by rfl)
theorem pf_len (hg : Gl X "len") (hm : X.mg "len" = none) (hl : PXA X W [e] (toA n fl)) (he : starEach [e] X.env = (false, eval e X.env) :: starEach [] X.env := by rfl) : PX X W (.Call (.Name "len" p) [e] [] pos) (toX n (fCall lenF fl)) := pf_call (px_len hg hm hl he) ok_len
theorem pf_all (hc : X.calm = true) (hg : Gl X "all") (hm : X.mg "all" = none) (hl : PXA X W [e] (toA n fl)) (he : starEach [e] X.env = (false, eval e X.env) :: starEach [] X.env := by rfl) : PX X W (.Call (.Name "all" p) [e] [] pos) (toX n (fCall allF fl)) := pf_call (px_all hc hg hm hl he) ok_all
theorem pf_tuple (hg : Gl X "tuple") (hm : X.mg "tuple" = none) (hl : PXA X W [e] (toA n fl)) (he : starEach [e] X.env = (false, eval e X.env) :: starEach [] X.env := by rfl) : PX X W (.Call (.Name "tuple" p) [e] [] pos) (toX n (fCall tupF fl)) := pf_call (px_tupleN hg hm hl he) ok_tup
theorem pf_sorted (hu : X.A.units + 64 < cLine) (hg : Gl X "sorted") (hm : X.mg "sorted" = none) (hl : PXA X W [e] (toA n fl)) (he : starEach [e] X.env = (false, eval e X.env) :: starEach [] X.env := by rfl) : PX X W (.Call (.Name "sorted" p) [e] [] pos) (toX n (fCall sortedF fl)) := pf_call (px_sorted hu hg hm hl he) ok_sorted
theorem pf_intc (hg : Gl X "int") (hm : X.mg "int" = none) (hl : PXA X W [e] (toA n fl)) (he : starEach [e] X.env = (false, eval e X.env) :: starEach [] X.env := by rfl) : PX X W (.Call (.Name "int" p) [e] [] pos) (toX n (fCall intF fl)) := pf_call (px_intc hg hm hl he) ok_int
theorem pf_abs (hg : Gl X "abs") (hm : X.mg "abs" = none) (hl : PXA X W [e] (toA n fl)) (he : starEach [e] X.env = (false, eval e X.env) :: starEach [] X.env := by rfl) : PX X W (.Call (.Name "abs" p) [e] [] pos) (toX n (fCall absF fl)) := pf_call (px_abs hg hm hl he) ok_abs
end
theorem pf_divmod (hg : Gl X "divmod") (hm : X.mg "divmod" = none) (hl : PXA X W [a, b] (toA n fl)) (he : starEach [a, b] X.env = (false, eval a X.env) :: starEach [b] X.env := by rfl) (hpl : (backTo pos (starEach [b] X.env)).any (·.1) = false := by rfl) : PX X W (.Call (.Name "divmod" p) [a, b] [] pos) (toX n (fCall divmodF fl)) := pf_call (px_divmod hg hm hl he hpl) ok_divmod
theorem pf_max (hu : X.A.units + 64 < cLine) (hc : X.calm = true) (hg : Gl X "max") (hm : X.mg "max" = none) (hl : PXA X W [a, b] (toA n fl)) (he : starEach [a, b] X.env = (false, eval a X.env) :: starEach [b] X.env := by rfl) (hpl : (backTo pos (starEach [b] X.env)).any (·.1) = false := by rfl) : PX X W (.Call (.Name "max" p) [a, b] [] pos) (toX n (fCall maxF fl)) := pf_call (px_maxU hu hc hg hm hl he hpl) ok_max
theorem pf_min (hu : X.A.units + 64 < cLine) (hc : X.calm = true) (hg : Gl X "min") (hm : X.mg "min" = none) (hl : PXA X W [a, b] (toA n fl)) (he : starEach [a, b] X.env = (false, eval a X.env) :: starEach [b] X.env := by rfl) (hpl : (backTo pos (starEach [b] X.env)).any (·.1) = false := by rfl) : PX X W (.Call (.Name "min" p) [a, b] [] pos) (toX n (fCall minF fl)) := pf_call (px_minU hu hc hg hm hl he hpl) ok_min
theorem pf_isiK (k : TyK) {x : Str} {px' : Pos} (hg : Gl X "isinstance") (hm : X.mg "isinstance" = none) (hg2 : Gl X x) (hm2 : X.mg x = none) (hv : bootBuiltins x = some (.type k.nm)) (ha : PX X W a (toX n fa))
    (hn : x ≠ "__name__" := by decide) (hd : (x == ("__debug__" : Str)) = false := by decide)
    (he : starEach [a, .Name x px'] X.env = (false, eval a X.env) :: starEach [.Name x px'] X.env := by rfl) (he2 : starEach [.Name x px'] X.env = (false, eval (.Name x px') X.env) :: starEach [] X.env := by rfl) (hpl : (backTo pos (starEach [.Name x px'] X.env)).any (·.1) = false := by rfl) : PX X W (.Call (.Name "isinstance" p) [a, .Name x px'] [] pos) (toX n (fUn (isiF k) fa)) :=
  (px_isiK k hg hm hg2 hm2 hv ha hn hd he he2 hpl).to fun x ρ μ Q ⟨hn, h⟩ => ⟨hn, R.mono (fin_bnd.mp h) fun s μ1 h1 => by
    unfold isiF at h1
    unfold pIsK
    split at h1
    · rename_i e; rw [e]; exact h1
    · exact h1.elim⟩
theorem pfo_none : PXO X W none (toO n fNone) := pxo_none.to fun x ρ μ Q ⟨hn, h⟩ => h
theorem pfo_some (h : PX X W e (toX n fa)) : PXO X W (some e) (toO n (fSome fa)) :=
  (pxo_some h).to fun x ρ μ Q ⟨hn, h⟩ => ⟨hn, R.mono (fin_bnd.mp h) fun s μ1 h1 => by
    unfold asInt at h1
    split at h1 <;> first | exact h1 | exact h1.elim⟩
theorem pf_sl {lo hi : Option Expr} {f1 f2 : FO} (ha : PX X W a (toX n fa)) (hl : PXO X W lo (toO n f1)) (hh : PXO X W hi (toO n f2)) : PX X W (.Subscript a (.Slice lo hi none p2) pos) (toX n (fSl slF fa f1 f2)) :=
  (px_slV ha hl hh).to fun x ρ μ Q ⟨hn, h⟩ => ⟨hn, R.mono (fin_bnd.mp h) fun s μ1 h1 => ⟨hn, R.mono (fin_bnd.mp h1) fun l μ2 h2 => ⟨hn, R.mono (fin_bnd.mp h2) fun r μ3 h3 => by
    unfold slF at h3
    unfold pSlV
    split at h3
    · exact h3
    · exact h3
    · exact h3
    · exact fin_grd h3
    · rename_i g1 g2 g3 g4
      split at h3
      · rename_i e
        first
          | (split <;> first | exact (g1 _ rfl).elim | exact (g2 _ rfl).elim | exact (g3 _ rfl).elim | exact (g4 _ rfl).elim | (rw [e]; exact h3))
          | (rw [e]; exact h3)
      · exact h3.elim⟩⟩⟩
/-- the receiver is a list before the arguments are read and behind them -/
def fMethL (g : SV → List SV → M SV) (o : FX) (t : FA) : FX := fun ρ => bnd (o ρ) fun s μ => if (lstOf s μ).isSome = true then bnd (t ρ) (fun ss => g s ss) μ else .no
theorem pf_lmeth {P : SV → List SV → Mem → VP → Prop} {g : SV → List SV → M SV} (h : PX X W e (xMeth P (toX n fo) (toA n fl))) (hg : ∀ so ss μ x Q, (g so ss μ).fin x Q → P so ss μ Q) : PX X W e (toX n (fMethL g fo fl)) :=
  h.to fun x ρ μ Q ⟨hn, h⟩ => ⟨hn, R.mono (fin_bnd.mp h) fun s μ1 h1 => by
    split at h1
    · rename_i e
      exact ⟨e, hn, R.mono (fin_bnd.mp h1) fun ss μ2 h2 => hg _ _ _ _ _ h2⟩
    · exact h1.elim⟩
theorem ok_append : ∀ so ss μ x Q, (appendF so ss μ).fin x Q → pAppend so ss μ Q := by
  intro so ss μ x Q h
  unfold appendF at h
  unfold pAppend
  split at h
  · split at h
    · rename_i e
      try simp only [e]
      split at h
      · rename_i e2; exact ⟨e2, h⟩
      · exact h.elim
    · exact h.elim
  · exact h.elim
theorem pf_append (ho : PX X W o (toX n fo)) (ha : PXA X W [e] (toA n fl)) (hbase : attributeBase o "append" X.env (eval o X.env) = eval o X.env := by rfl)
    (hfew : ((backTo cpos (starEach [e] X.env)).all (fun x => !x.1) && (backToKw cpos (keywordEach [] X.env)).all (fun x => x.1.isSome)
      && decide ([e].length + ([] : List Keyword).length + (if ([] : List Keyword).isEmpty then 0 else 1) < 30)) = true := by rfl)
    (hline : (apos.endLine == cpos.line) = true := by rfl) (hs : starEach [e] X.env = (false, eval e X.env) :: starEach [] X.env := by rfl) : PX X W (.Call (.Attribute o "append" apos) [e] [] cpos) (toX n (fMethL appendF fo fl)) :=
  pf_lmeth (px_append ho ha hbase hfew hline hs) ok_append
/-- a join: the text first -/
def fJoin (fo fe : FX) : FX := fun ρ => bnd (fo ρ) fun so => match so with
  | .d (.str a) => bnd (fe ρ) fun s => joinF (.d (.str a)) s
  | _ => fun _ => .no
theorem pfi_U (he : PX X W e (toX n fe)) : PXI X W tg e (toI n (itF fe)) :=
  (pxi_U he).to fun x ρ μ Q ⟨hn, h⟩ => ⟨hn, R.mono (fin_bnd.mp h) fun s μ1 h1 => by
    split at h1
    · split at h1
      · rename_i e; show on _ _; rw [e]; exact h1
      · exact h1.elim
    · exact h1.elim⟩
theorem pfi_enum (hg : Gl X "enumerate") (hm : X.mg "enumerate" = none) (ha : PXA X W [e] (toA n fl)) (hs : starEach [e] X.env = [(false, eval e X.env)] := by rfl) : PXI X W (.Tuple elts kk tpos) (.Call (.Name "enumerate" p) [e] [] pos) (toI n (enumF fl)) :=
  (pxi_enumU hg hm ha hs).to fun x ρ μ Q ⟨hn, h⟩ => ⟨hn, R.mono (fin_bnd.mp h) fun s μ1 h1 => by
    split at h1 <;> first | exact h1 | exact h1.elim⟩
theorem pfi_zip (hg : Gl X "zip") (hm : X.mg "zip" = none) (ha : PXA X W [a, b] (toA n fl)) (hs : starEach [a, b] X.env = (false, eval a X.env) :: starEach [b] X.env := by rfl) (hpl : (backTo pos (starEach [b] X.env)).any (·.1) = false := by rfl) : PXI X W (.Tuple elts kk tpos) (.Call (.Name "zip" p) [a, b] [] pos) (toI n (zipF fl)) :=
  (pxi_zipU hg hm ha hs hpl).to fun x ρ μ Q ⟨hn, h⟩ => ⟨hn, R.mono (fin_bnd.mp h) fun s μ1 h1 => by
    split at h1 <;> first | exact h1 | exact h1.elim⟩
theorem pfi_range1 (hg : Gl X "range") (hm : X.mg "range" = none) (ha : PXA X W [a] (toA n fl)) (hs : starEach [a] X.env = [(false, eval a X.env)] := by rfl) : PXI X W tg (.Call (.Name "range" p) [a] [] pos) (toI n (rng1F fl)) :=
  (pxi_range1 hg hm ha hs).to fun x ρ μ Q ⟨hn, h⟩ => ⟨hn, R.mono (fin_bnd.mp h) fun s μ1 h1 => by
    split at h1 <;> first | exact fin_grd h1 | exact h1.elim⟩
theorem set_put (ρ : Env') (i : Nat) (s : SV) (h : ρ.n = n) : (⟨n, put ρ.f i s⟩ : Env') = ρ.set i s := by
  cases ρ; subst h; rfl
theorem pfg_name {i : Nat} {own : List Nat} {x : Str} (ho : i ∈ own) (hN : X.N.Nodup) (hi : X.N[i]? = some x) (hx : Loc X.env.scope x) (hf : X.fn x = true ∨ X.env.scope.names.lookup x = some .local := by first | exact .inl rfl | exact .inr rfl | assumption) : PXG X W own (.Name x pos) (toG n (gN i)) :=
  (pxg_name ho hN hi hx hf).to fun x s ρ μ Q ⟨hn, h⟩ => by
    show Q (ρ.set _ s) μ
    rw [← set_put ρ _ s hn]; exact h
variable {gs : List FG} {g g1 : FG} {own : List Nat}
theorem pfgs_nil : PXGs X W own [] (toGs n []) := pxgs_nil.to fun x ds ρ μ Q ⟨hn, h⟩ => by
  cases ds with
  | nil => cases ρ; subst hn; exact h
  | cons d ds => exact h.elim
theorem pfgs_cons (h1 : PXG X W own e (toG n g)) (h2 : PXGs X W own es (toGs n gs)) (hs : (assignEach (e :: es) X.env).map (·.2) = assign e X.env :: (assignEach es X.env).map (·.2) := by rfl) : PXGs X W own (e :: es) (toGs n (g :: gs)) :=
  (pxgs_cons h1 h2 hs).to fun x ds ρ μ Q ⟨hn, h⟩ => by
    cases ds with
    | nil => exact h.elim
    | cons d ds => exact ⟨hn, R.mono (fin_bnd.mp h) fun r μ1 h1 => ⟨rfl, h1⟩⟩
theorem pfg_tup {k : Nat} (hc : X.calm = true) (h : PXGs X W own es (toGs n gs)) (hn : (assignEach es X.env).length = gs.length := by rfl) (hst : (assignEach es X.env).findIdx? (·.1) = none := by rfl) : PXG X W own (.Tuple es k pos) (toG n (gT gs)) :=
  (pxg_tup hc h hn hst).to fun x s ρ μ Q ⟨hn, h⟩ => by
    unfold gT at h
    split at h
    · split at h
      · rename_i e; exact ⟨e, hn, h⟩
      · exact h.elim
    · exact h.elim
theorem pfg_sub (ho : PX X W o (toX n fo)) (hi : PX X W i (toX n fi))
    (ha : ∀ v, assign (.Subscript o i pos) X.env v = (do
      let ov ← holding [v] (eval o X.env)
      let iv ← holding [v, ov] (eval i X.env)
      standAt pos
      holding [v, ov, iv] (setItem ov iv v)
      release [v, ov, iv] []) := by intro _; rfl) : PXG X W own (.Subscript o i pos) (toG n (gSub fo fi)) :=
  (pxg_sub ho hi ha).to fun x s ρ μ Q ⟨hn, h⟩ => ⟨hn, R.mono (fin_bnd.mp h) fun so μ1 h1 => ⟨hn, R.mono (fin_bnd.mp h1) fun si μ2 h2 => by
    have e : (⟨n, ρ.f⟩ : Env') = ρ := by cases ρ; subst hn; rfl
    split at h2
    · split at h2
      · rename_i e1
        try simp only [e1]
        split at h2
        · rename_i e2; rw [e2]; rw [← e]; exact h2
        · exact h2.elim
      · exact h2.elim
    · exact h2.elim⟩⟩
end
end PL
namespace PL
open PySem PySem.Spec PyProof.Rows L2 RZ
section
variable {X : Cx} {W : WX} {a b c e o i tg iter elt tg1 iter1 : Expr} {es ifs ifs1 : List Expr} {n : Nat} {fa fb fc fe fo fi : FX} {ft fu : FT} {fl fk : FA} {pos p apos cpos tpos p2 pos' ppos : Pos} {x : Str} {st : Stmt} {rest : List Stmt} {s u : FS} {g g1 : FG} {it it1 : FI} {own : List Nat}
theorem env_eq (ρ : Env') (h : ρ.n = n) : (⟨n, ρ.f⟩ : Env') = ρ := by cases ρ; subst h; rfl
theorem pfss_nil : PXSs X W [] (toS n fSkip) := pss_nil'.to fun E ρ μ ⟨hn, h⟩ => by
  show E.nx ρ μ
  rw [← env_eq ρ hn]; exact h
theorem pfss_cons (h1 : PXS X W st (toS n s)) (h2 : PXSs X W rest (toS n u)) : PXSs X W (st :: rest) (toS n (fSeq s u)) :=
  (pxs_cons h1 h2).to fun E ρ μ ⟨hn, h⟩ => ⟨hn, R.mono (fin_bnd.mp h) fun o μ1 h1 => by
    cases o with
    | nx ρ' => exact ⟨rfl, h1⟩
    | rt v => exact h1
    | bk ρ' => exact h1
    | ct ρ' => exact h1⟩
theorem pfss_one (h1 : PXS X W st (toS n s)) : PXSs X W [st] (toS n s) := pxs_one h1
theorem pfs_expr (he : PX X W e (toX n fe)) (hs : swapsWith e none pos.line X.env = pure false := by rfl) : PXS X W (.Expr e pos) (toS n (fExpr fe)) :=
  (psx_expr he hs).to fun E ρ μ ⟨hn, h⟩ => ⟨hn, R.mono (fin_bnd.mp h) fun _ μ1 h1 => by
    show E.nx ρ μ1
    rw [← env_eq ρ hn]; exact h1⟩
theorem pfs_ret (he : PX X W e (toX n fe)) : PXS X W (.Return (some e) pos) (toS n (fRet fe)) :=
  (psx_ret he).to fun E ρ μ ⟨hn, h⟩ => ⟨hn, R.mono (fin_bnd.mp h) fun _ μ1 h1 => h1⟩
theorem pfs_if {c : Expr} {a b : List Stmt} (hc : PXT X W c (toT n ft)) (ha : PXSs X W a (toS n s)) (hb : PXSs X W b (toS n u)) : PXS X W (.If c a b pos) (toS n (fIfS ft s u)) :=
  (psx_if hc ha hb).to fun E ρ μ ⟨hn, h⟩ => ⟨hn, R.mono (fin_bnd.mp h) fun k μ1 h1 => by
    cases k with
    | true => exact ⟨hn, h1⟩
    | false => exact ⟨hn, h1⟩⟩
theorem pfs_never : PXS X W st (toS n fNever) := psx_never.to fun E ρ μ ⟨_, h⟩ => h
theorem pfs_asg {tg : Expr} (he : PX X W e (toX n fe)) (hg : PXG X W own tg (toG n g)) (hs : swapsWithSole [tg] e pos.line X.env = pure false := by rfl) (hw : swappedStores [tg] e X.env = pure none := by rfl)
    (h1 : (assignEach [tg] X.env).map (·.2) = [assign tg X.env] := by rfl) : PXS X W (.Assign [tg] e pos) (toS n (fAsg fe g)) :=
  (psx_asg he hg hs hw h1).to fun E ρ μ ⟨hn, h⟩ => ⟨hn, R.mono (fin_bnd.mp h) fun z μ1 h1 => ⟨hn, R.mono (fin_bnd.mp h1) fun r μ2 h2 => h2⟩⟩
theorem to_set {i : Nat} {t : TX} (j : ∀ x ρ μ Q, toX n fe x ρ μ Q → t x ρ μ Q) (E : EndsP) (ρ : Env') (μ : Mem) (h : toS n (fAsg fe (gN i)) E ρ μ) : xAsg t (xName i) E ρ μ := by
  obtain ⟨hn, h⟩ := h
  refine j _ _ _ _ ⟨hn, R.mono (fin_bnd.mp h) fun z μ1 h1 => ?_⟩
  show E.nx (ρ.set i z) μ1
  rw [← set_put ρ _ z hn]; exact h1
theorem pfs_set {i : Nat} {x : Str} {pos' : Pos} (hN : X.N.Nodup) (hi : X.N[i]? = some x) (hx : Loc X.env.scope x) (he : PX X W e (toX n fe)) (hs : swapsWith e (some (.Name x pos')) pos.line X.env = pure false := by rfl) (hf : X.fn x = true ∨ X.env.scope.names.lookup x = some .local := by first | exact .inl rfl | exact .inr rfl | assumption) :
    PXS X W (.Assign [.Name x pos'] e pos) (toS n (fAsg fe (gN i))) :=
  (psx_set hN hi hx he hs hf).to (to_set fun _ _ _ _ h => h)
theorem pfs_par {i j : Nat} {x y : Str} {px py pt : Pos} {kt k2 pt2} (hc : X.calm = true) (hN : X.N.Nodup) (hi : X.N[i]? = some x) (hj : X.N[j]? = some y) (hij : i ≠ j)
    (hx : X.env.scope.names.lookup x = some .local) (hy : X.env.scope.names.lookup y = some .local) (ha : PXA X W [a, b] (toA n fl))
    (hw : swappedStores [.Tuple [.Name x px, .Name y py] kt pt] (.Tuple [a, b] k2 pt2) X.env = pure (some [x, y]))
    (hs : swapsWithSole [.Tuple [.Name x px, .Name y py] kt pt] (.Tuple [a, b] k2 pt2) pos.line X.env = pure false := by rfl) :
    PXS X W (.Assign [.Tuple [.Name x px, .Name y py] kt pt] (.Tuple [a, b] k2 pt2) pos) (toS n (fPar i j fl)) :=
  (psx_par hc hN hi hj hij hx hy ha hw hs).to fun E ρ μ ⟨hn, h⟩ => ⟨hn, R.mono (fin_bnd.mp h) fun ss μ1 h1 => by
    split at h1
    · rename_i s r
      show E.nx ((ρ.set i s).set j r) μ1
      rw [← set_put (n := n) (ρ.set i s) j r hn]
      exact h1
    · exact h1.elim⟩
theorem drop_at {α : Type} {l : List α} {i : Nat} {d : α} (h : l[i]? = some d) : l.drop i = d :: l.drop (i + 1) := by
  obtain ⟨h1, h2⟩ := List.getElem?_eq_some_iff.mp h
  rw [List.drop_eq_getElem_cons h1, h2]
theorem pfs_for {body : List Stmt} (hp : PassesOwn (model X.prog X.w) X.A X.env X.xe) (hc : X.calm = true) (hi : PXI X W tg iter (toI n it)) (hg : PXG X W own tg (toG n g)) (hb : PXSs X W body (toS n s))
    (hs : ∀ x, foldedSetIterable iter X.env x = pure x := by intro _; rfl) : PXS X W (.For tg iter body [] pos) (toS n (fFor it g s)) :=
  (psx_for hp hc hi hg hb hs).to fun E ρ μ ⟨hn, h⟩ => ⟨hn, R.mono (fin_bnd.mp h) fun ds μ1 h1 => by
    refine ⟨fun i ρ μ => ρ.n = n ∧ (fLoop (fun d ρ => bnd (g d ρ) s) (ds.drop i) ρ.f μ).fin E.ex fun o μ' => o.fin n E μ', ⟨hn, h1⟩, ?_, ?_⟩
    · rintro i d ρ μ hd ⟨hn, h2⟩
      rw [drop_at hd] at h2
      have h3 := fin_bnd.mp (fin_bnd.mp h2)
      refine ⟨hn, R.mono h3 fun r μ2 h4 => ⟨rfl, R.mono h4 fun o μ3 h5 => ?_⟩⟩
      cases o with
      | nx ρ' => exact ⟨rfl, h5⟩
      | rt v => exact h5
      | bk ρ' => exact h5
      | ct ρ' => exact ⟨rfl, h5⟩
    · rintro ρ μ ⟨hn, h2⟩
      rw [List.drop_length] at h2
      rw [← env_eq ρ hn]; exact h2⟩
theorem wip_eq (ρ : Env') : ∀ vs : List Nat, wipeP ρ vs = ⟨ρ.n, wip ρ.f vs⟩
  | [] => rfl
  | v :: vs => by
    show (wipeP ρ vs).set v .un = _
    rw [wip_eq ρ vs]; rfl
theorem pfts_nil : PXTs X W [] (toT n fYes) := pxts_nil.to fun x ρ μ Q ⟨_, h⟩ => h
/-- what is left of a comprehension -/
def cEnd (fin : List D → Mem → VP → Prop) (Q : VP) (acc : List D) : R (List D) → Prop
  | .ok r μ => fin (acc ++ r) μ Q
  | _ => False
theorem to_lc {fin : List D → Mem → VP → Prop} {finF : List D → M SV} (hf : ∀ l μ x Q, (finF l μ).fin x Q → fin l μ Q) {vs : List Nat} (x : XP) (ρ : Env') (μ : Mem) (Q : VP) (h : toX n (fLc finF it g ft fe vs) x ρ μ Q) : xLc (toI n it) (toG n g) (toT n ft) (toX n fe) vs fin x ρ μ Q := by
  obtain ⟨hn, h⟩ := h
  refine ⟨hn, R.mono (fin_bnd.mp h) fun ds μ1 h1 => ?_⟩
  obtain ⟨hz, h1⟩ := fin_grd h1
  refine ⟨hz, fun i acc μ => cEnd fin Q acc (cLoop (cStep g ft fe vs ρ.f) (ds.drop i) μ), ?_, ?_, ?_⟩
  · show cEnd fin Q [] (cLoop (cStep g ft fe vs ρ.f) ds μ1)
    have h1 := fin_bnd.mp h1
    have nx : ∀ (l : List D) (μ : Mem) C fs μ', cLoop (cStep g ft fe vs ρ.f) l μ ≠ .ex C fs μ' := by
      intro l
      induction l with
      | nil => intro μ C fs μ' q; cases q
      | cons d l ih =>
        intro μ C fs μ' q
        unfold cLoop at q
        split at q
        · exact ih _ _ _ _ q
        · split at q <;> cases q
        · cases q
    cases e : cLoop (cStep g ft fe vs ρ.f) ds μ1 with
    | ok r μ2 => rw [e] at h1; exact hf _ _ _ _ h1
    | ex C fs μ2 => exact absurd e (nx _ _ _ _ _)
    | no => rw [e] at h1; exact h1.elim
  · rintro i d acc μ hd h2
    rw [drop_at hd] at h2
    unfold cLoop at h2
    have key : (cStep g ft fe vs ρ.f d μ).fin xF fun o μ' => match o with
        | none => cEnd fin Q acc (cLoop (cStep g ft fe vs ρ.f) (ds.drop (i + 1)) μ')
        | some (.d y) => cEnd fin Q (acc ++ [y]) (cLoop (cStep g ft fe vs ρ.f) (ds.drop (i + 1)) μ')
        | _ => False := by
      split at h2
      · rename_i e; rw [e]; exact h2
      · rename_i y μ2 e
        rw [e]
        show cEnd fin Q (acc ++ [y]) _
        split at h2
        · rename_i e2; rw [e2]; unfold cEnd at h2 ⊢; simpa using h2
        · exact h2.elim
      · exact h2.elim
    unfold cStep at key
    rw [wip_eq]
    refine ⟨hn, R.mono (fin_bnd.mp key) fun ρ2 μ2 h3 => ⟨rfl, R.mono (fin_bnd.mp h3) fun k μ3 h4 => ?_⟩⟩
    cases k with
    | false => exact h4
    | true =>
      refine ⟨rfl, R.mono (fin_bnd.mp h4) fun z μ4 h5 => ?_⟩
      match z, h5 with
      | .d y, h5 => exact h5
  · intro acc μ h2
    rw [List.drop_length] at h2
    unfold cLoop cEnd at h2
    simpa using h2
section
variable {scope : Scope} {own : List (Str × Nat)}
theorem pf_lc (hc : X.calm = true) (hN : X.N.Nodup) (hi : PXI X W tg iter (toI n it)) (ok : BlkOk X.N X.env.scope scope own)
    (hg : ∀ (s : Shared) (H : Hp) (C : Addr) (cl : List (Str × Addr)) (fp : List Addr), PXG (X.blk s H scope (compEnvC scope cl C X.env) fp) wF (own.map (·.2)) tg (toG n g))
    (ht : ∀ (s : Shared) (H : Hp) (C : Addr) (cl : List (Str × Addr)) (fp : List Addr), PXTs (X.blk s H scope (compEnvC scope cl C X.env) fp) wF ifs (toT n ft))
    (he : ∀ (s : Shared) (H : Hp) (C : Addr) (cl : List (Str × Addr)) (fp : List Addr), PX (X.blk s H scope (compEnvC scope cl C X.env) fp) wF elt (toX n fe)) (hs : ∀ x, foldedSetIterable iter X.env x = pure x := by intro _; rfl) :
    PX X W (.ListComp elt [⟨tg, iter, ifs, 0⟩] scope pos) (toX n (fLc finLF it g ft fe (own.map (·.2)))) := (px_lc hc hN hi ok hg ht he hs).to (to_lc fun _ _ _ _ h => h)
end
theorem nx_cLoop (step : D → M (Option SV)) : ∀ (l : List D) (μ : Mem) C fs μ', cLoop step l μ ≠ .ex C fs μ' := by
  intro l
  induction l with
  | nil => intro μ C fs μ' q; cases q
  | cons d l ih =>
    intro μ C fs μ' q
    unfold cLoop at q
    split at q
    · exact ih _ _ _ _ q
    · split at q <;> cases q
    · cases q
theorem nx_cLoop2 (step : D → M (Option (List D))) : ∀ (l : List D) (μ : Mem) C fs μ', cLoop2 step l μ ≠ .ex C fs μ' := by
  intro l
  induction l with
  | nil => intro μ C fs μ' q; cases q
  | cons d l ih =>
    intro μ C fs μ' q
    unfold cLoop2 at q
    split at q
    · exact ih _ _ _ _ q
    · split at q <;> cases q
    · cases q
/-- what is left of a comprehension with two generators -/
def cEnd2 (fin : List D → Mem → VP → Prop) (Q : VP) (acc : List D) : R (List D) → Prop
  | .ok r μ => acc.length + r.length ≤ sizeLine ∧ fin (acc ++ r) μ Q
  | _ => False
theorem cEnd2_app {fin : List D → Mem → VP → Prop} {Q : VP} {acc l : List D} {r : List D} {μ : Mem} (h : cEnd2 fin Q acc (.ok (l ++ r) μ)) : cEnd2 fin Q (acc ++ l) (.ok r μ) := by
  obtain ⟨h1, h2⟩ := h
  refine ⟨by simp at h1 ⊢; omega, by simpa using h2⟩
theorem to_lc2 {fin : List D → Mem → VP → Prop} {finF : List D → M SV} (hf : ∀ l μ x Q, (finF l μ).fin x Q → fin l μ Q) {vs vs1 : List Nat} (x : XP) (ρ : Env') (μ : Mem) (Q : VP) (h : toX n (fLc2 finF it g ft it1 g1 fu fe vs vs1) x ρ μ Q) : xLc2 (toI n it) (toG n g) (toT n ft) (toI n it1) (toG n g1) (toT n fu) (toX n fe) vs vs1 fin x ρ μ Q := by
  obtain ⟨hn, h⟩ := h
  refine ⟨hn, R.mono (fin_bnd.mp h) fun ds μ1 h1 => ?_⟩
  refine ⟨fun i acc μ => cEnd2 fin Q acc (cLoop2 (cStep2 g ft it1 g1 fu fe vs vs1 ρ.f) (ds.drop i) μ), ?_, ?_, ?_⟩
  · show cEnd2 fin Q [] (cLoop2 (cStep2 g ft it1 g1 fu fe vs vs1 ρ.f) ds μ1)
    have h1 := fin_bnd.mp h1
    cases e : cLoop2 (cStep2 g ft it1 g1 fu fe vs vs1 ρ.f) ds μ1 with
    | ok r μ2 => rw [e] at h1; have h2 := fin_grd h1; exact ⟨by simpa using h2.1, hf _ _ _ _ h2.2⟩
    | ex C fs μ2 => exact absurd e (nx_cLoop2 _ _ _ _ _ _)
    | no => rw [e] at h1; exact h1.elim
  · rintro i d acc μ hd h2
    rw [drop_at hd] at h2
    unfold cLoop2 at h2
    have key : (cStep2 g ft it1 g1 fu fe vs vs1 ρ.f d μ).fin xF fun o μ' => match o with
        | none => cEnd2 fin Q acc (cLoop2 (cStep2 g ft it1 g1 fu fe vs vs1 ρ.f) (ds.drop (i + 1)) μ')
        | some l => cEnd2 fin Q (acc ++ l) (cLoop2 (cStep2 g ft it1 g1 fu fe vs vs1 ρ.f) (ds.drop (i + 1)) μ') ∧ acc.length + l.length ≤ sizeLine := by
      split at h2
      · rename_i e; rw [e]; exact h2
      · rename_i l μ2 e
        rw [e]
        show cEnd2 fin Q (acc ++ l) _ ∧ _
        split at h2
        · rename_i e2; rw [e2]; exact ⟨cEnd2_app h2, by have := h2.1; simp at this; omega⟩
        · exact h2.elim
      · exact h2.elim
    unfold cStep2 at key
    rw [wip_eq]
    refine ⟨hn, R.mono (fin_bnd.mp key) fun ρ2 μ2 h3 => ⟨rfl, R.mono (fin_bnd.mp h3) fun k μ3 h4 => ?_⟩⟩
    cases k with
    | false => exact h4
    | true =>
      refine ⟨rfl, R.mono (fin_bnd.mp h4) fun es μ4 h5 => ?_⟩
      have h6 := fin_bnd.mp h5
      refine ⟨fun j acc' μ => ∃ r μ', cLoop (cStep g1 fu fe vs1 ρ2) (es.drop j) μ = .ok r μ' ∧ cEnd2 fin Q (acc' ++ r) (cLoop2 (cStep2 g ft it1 g1 fu fe vs vs1 ρ.f) (ds.drop (i + 1)) μ') ∧ acc'.length + r.length ≤ sizeLine, ?_, ?_, ?_⟩
      · show ∃ r μ', cLoop _ es μ4 = _ ∧ _
        cases e : cLoop (cStep g1 fu fe vs1 ρ2) es μ4 with
        | ok r μ5 => rw [e] at h6; exact ⟨r, μ5, rfl, h6⟩
        | ex C fs μ5 => exact absurd e (nx_cLoop _ _ _ _ _ _)
        | no => rw [e] at h6; exact h6.elim
      · rintro j d' acc' μ5 hd' ⟨r, μ6, e6, h7, h8⟩
        rw [drop_at hd'] at e6
        unfold cLoop at e6
        have key2 : (cStep g1 fu fe vs1 ρ2 d' μ5).fin xF fun o μ' => match o with
            | none => ∃ r μ2, cLoop (cStep g1 fu fe vs1 ρ2) (es.drop (j + 1)) μ' = .ok r μ2 ∧ cEnd2 fin Q (acc' ++ r) (cLoop2 (cStep2 g ft it1 g1 fu fe vs vs1 ρ.f) (ds.drop (i + 1)) μ2) ∧ acc'.length + r.length ≤ sizeLine
            | some (.d y) => acc'.length < sizeLine ∧ ∃ r μ2, cLoop (cStep g1 fu fe vs1 ρ2) (es.drop (j + 1)) μ' = .ok r μ2 ∧ cEnd2 fin Q ((acc' ++ [y]) ++ r) (cLoop2 (cStep2 g ft it1 g1 fu fe vs vs1 ρ.f) (ds.drop (i + 1)) μ2) ∧ (acc' ++ [y]).length + r.length ≤ sizeLine
            | _ => False := by
          split at e6
          · rename_i e; rw [e]; exact ⟨r, μ6, e6, h7, h8⟩
          · rename_i y μ7 e
            rw [e]
            split at e6
            · rename_i r2 μ8 e8
              cases e6
              refine ⟨by simp at h8; omega, r2, μ6, e8, by simpa using h7, by simp at h8 ⊢; omega⟩
            · cases e6
          · cases e6
        unfold cStep at key2
        rw [wip_eq]
        refine ⟨rfl, R.mono (fin_bnd.mp key2) fun ρ5 μ7 h9 => ⟨rfl, R.mono (fin_bnd.mp h9) fun k μ8 h10 => ?_⟩⟩
        cases k with
        | false => exact h10
        | true =>
          refine ⟨rfl, R.mono (fin_bnd.mp h10) fun z μ9 h11 => ?_⟩
          match z, h11 with
          | .d y, h11 => exact h11
      · rintro acc' μ5 ⟨r, μ6, e6, h7, _⟩
        rw [List.drop_length] at e6
        unfold cLoop at e6
        cases e6
        simpa using h7
  · intro acc μ h2
    rw [List.drop_length] at h2
    unfold cLoop2 cEnd2 at h2
    simpa using h2.2
section
variable {scope : Scope} {own : List (Str × Nat)}
theorem pf_lc2 (vs1 : List Nat) (hc : X.calm = true) (hN : X.N.Nodup) (hi : PXI X W tg iter (toI n it)) (ok : BlkOk X.N X.env.scope scope own) (hv : ∀ i ∈ vs1, i ∈ own.map (·.2))
    (hg : ∀ (s : Shared) (H : Hp) (C : Addr) (cl : List (Str × Addr)) (fp : List Addr), PXG (X.blk s H scope (compEnvC scope cl C X.env) fp) wF (own.map (·.2)) tg (toG n g))
    (ht : ∀ (s : Shared) (H : Hp) (C : Addr) (cl : List (Str × Addr)) (fp : List Addr), PXTs (X.blk s H scope (compEnvC scope cl C X.env) fp) wF ifs (toT n ft))
    (hi1 : ∀ (s : Shared) (H : Hp) (C : Addr) (cl : List (Str × Addr)) (fp : List Addr), PXI (X.blk s H scope (compEnvC scope cl C X.env) fp) wF tg1 iter1 (toI n it1))
    (hg1 : ∀ (s : Shared) (H : Hp) (C : Addr) (cl : List (Str × Addr)) (fp : List Addr), PXG (X.blk s H scope (compEnvC scope cl C X.env) fp) wF vs1 tg1 (toG n g1))
    (ht1 : ∀ (s : Shared) (H : Hp) (C : Addr) (cl : List (Str × Addr)) (fp : List Addr), PXTs (X.blk s H scope (compEnvC scope cl C X.env) fp) wF ifs1 (toT n fu))
    (he : ∀ (s : Shared) (H : Hp) (C : Addr) (cl : List (Str × Addr)) (fp : List Addr), PX (X.blk s H scope (compEnvC scope cl C X.env) fp) wF elt (toX n fe)) (hs : ∀ x, foldedSetIterable iter X.env x = pure x := by intro _; rfl) (hs1 : ∀ env x, foldedSetIterable iter1 env x = pure x := by intro _ _; rfl) :
    PX X W (.ListComp elt [⟨tg, iter, ifs, 0⟩, ⟨tg1, iter1, ifs1, 0⟩] scope pos) (toX n (fLc2 finLF it g ft it1 g1 fu fe (own.map (·.2)) vs1)) := (px_lc2 vs1 hc hN hi ok hv hg ht hi1 hg1 ht1 he hs hs1).to (to_lc2 fun _ _ _ _ h => h)
end
theorem ndP_in {ks : List Nat} {A : Prop} (nd : ks.Nodup) (h : A) : ndP ks A := by
  match ks with
  | [] => exact h
  | [_] => exact h
  | _ :: _ :: _ => exact ⟨nd, h⟩
theorem flC_fin {α : Type} {c : Cell} {r : R α} {x : XP} {Q : α → Mem → Prop} (h : (flC c r).fin x Q) : flat1 c = true ∧ r.fin x Q := by
  cases c <;> first | exact ⟨rfl, h⟩ | exact h.elim
theorem flR_fin {α : Type} {r : R α} {x : XP} {Q : α → Mem → Prop} : ∀ {cs : Mem}, (flR cs r).fin x Q → flP cs (r.fin x Q)
  | [], h => h
  | c :: cs, h => ⟨(flC_fin h).1, flR_fin (flC_fin h).2⟩
theorem flP_mono {A B : Prop} (i : A → B) : ∀ {cs : Mem}, flP cs A → flP cs B
  | [], h => i h
  | _ :: _, ⟨h1, h2⟩ => ⟨h1, flP_mono i h2⟩
theorem callM_ok {f : List SV → M SV} {ss : List SV} {μ : Mem} {x : XP} {Q : VP} (h : (callM f ss μ).fin x Q) : callP (pF f) x ss μ Q := by
  unfold callM at h
  split at h
  · rename_i nd
    refine ndP_in nd (flP_mono (fun h => ?_) (flR_fin h))
    show (f (relab 0 ss) (picked μ (cellsOf ss))).fin _ _
    split at h
    · rename_i e; rw [e]; exact flR_fin h
    · rename_i e
      rw [e]
      refine flP_mono (fun h => ?_) (flR_fin h)
      split at h
      · rename_i hj; show (if _ then _ else _); rw [if_pos hj]; exact h
      · rename_i hj; show (if _ then _ else _); rw [if_neg hj]; exact flC_fin h
    · exact h.elim
    · rename_i e; rw [e]; exact flR_fin h
    · exact h.elim
  · exact h.elim
variable {k k' : Nat} {ps : List Str} {f : List SV → M SV} {kws : List Keyword}
theorem pf_user (h : Has X.prog X.w X.K X.mg X.base k x ps (pF f)) (tk : Takes X W) (hr : Room k' X.A) (hle : k ≤ k') (hg : Gl X x) (ha : PXA X W (e :: es) (toA n fl)) (hdb : (x == ("__debug__" : Str)) = false := by decide) (he : starEach (e :: es) X.env = (false, eval e X.env) :: starEach es X.env := by rfl) (hpl : (backTo pos (starEach es X.env)).any (·.1) = false := by rfl) :
    PX X W (.Call (.Name x ppos) (e :: es) [] pos) (toX n (fCall (callM f) fl)) :=
  (px_callH h tk hr hle hg ha hdb he hpl).to fun x ρ μ Q ⟨hn, h⟩ => ⟨hn, R.mono (fin_bnd.mp h) fun ss μ1 h1 => callM_ok h1⟩
theorem pf_userK0 {ks : List Str} {perm : List Nat} {st : Stmt} (h : HasK X.prog X.w X.K X.mg X.base k x st ps (pF f)) (tk : Takes X W) (hr : Room k' X.A) (hle : k ≤ k') (hg : Gl X x)
    (hb : BindK x ps 0 ks perm st) (hkw : PXK X W kws (toA n fk)) (hall : (backToKw pos (keywordEach kws X.env)).all (·.1.isSome) = true := by rfl) (hks : (backToKw pos (keywordEach kws X.env)).filterMap (·.1) = ks := by rfl)
    (hdb : (x == ("__debug__" : Str)) = false := by decide)
    (hpl : ((backTo pos (starEach [] X.env)).any (·.1) || (backToKw pos (keywordEach kws X.env)).any (·.1.isNone)) = false := by rfl) : PX X W (.Call (.Name x ppos) [] kws pos) (toX n (permM perm (callM f) 0 ks.length fNil fk)) :=
  (px_callHK0 h tk hr hle hg hb hkw hall hks hdb hpl).to fun x ρ μ Q ⟨hn, h⟩ => by
    have h1 : (bnd (fk ρ.f) (fun zs => if ([] : List SV).length = 0 ∧ zs.length = ks.length then callM f (permG .un perm [] zs) else fun _ => .no) μ).fin x Q := h
    refine ⟨hn, R.mono (fin_bnd.mp h1) fun zs μ2 h2 => ?_⟩
    split at h2
    · rename_i e1; exact ⟨e1, callM_ok h2⟩
    · exact h2.elim
end
section
variable {P : Program} {w : World} {K : PySem.W.Frag} {mg : Str → Option Value} {base : Heap}
theorem has_f {x nm : Str} {st : Stmt} {N ps : List Str} {k n q : Nat} {b : FS} (D : DefN K mg x nm st) (S : FnScope N ps (defScope st)) (B : BindN nm st ps) (hn : N.length = n) (hq : ps.length = q) (hl : q ≤ n)
    (hb : ∀ (f : Addr) (cdv : Value) (A : Around) (outer : List Env) (s : Shared) (H : Hp) (E : XK), Room k (A.deeper (envOfC nm (defScope st) s.heap.objs.size f cdv)) →
      PXSs (cxOf (L2.CX P w) P w K mg base N nm (defScope st) f cdv A outer s H E) (fun cls d _ H => E cls d H) (defBody st) (toS n b)) : Has P w K mg base (k + 1) x ps (pF (fDef q b)) := by
  refine has_p D S B (fun x as μ Q h => ?_) hb fun x as μ Q h => ?_
  · unfold pF fDef at h
    split at h
    · rename_i e; exact e.trans hq.symm
    · exact h.elim
  · unfold pF fDef at h
    split at h
    · rename_i e
      refine ⟨by show as.length + (N.length - as.length) = n; rw [hn, e]; omega, ?_⟩
      show (b (fstart as) μ).fin x _
      split at h
      · rename_i e2; rw [e2]; exact h
      · rename_i e2; rw [e2]; exact h
      · exact h.elim
      · rename_i e2; rw [e2]; exact h
      · exact h.elim
    · exact h.elim
/-- a def that is called less deep than told -/
theorem has_no {x : Str} {st : Stmt} {ps : List Str} {k : Nat} (D : Def K mg x st) (B : BindN x st ps) : Has P w K mg base k x ps (pF fun _ _ => .no) :=
  (Has.never D B).imp fun _ _ _ _ h => h
end
end PL
namespace PL
open PySem PySem.Spec PyProof.Rows L2 RZ
section
variable {X : Cx} {W : WX} {a b c e o i tg iter elt tg1 iter1 : Expr} {es ifs ifs1 : List Expr} {n : Nat} {fa fb fc fe fo fi : FX} {ft fu : FT} {fl fk : FA} {pos p apos cpos tpos p2 pos' ppos : Pos} {x : Str} {st : Stmt} {rest : List Stmt} {s u : FS} {g g1 : FG} {it it1 : FI} {own : List Nat}
/-- x.index(y) -/
noncomputable def fIndex (fo : FX) (fl : FA) : FX := fun ρ => bnd (fo ρ) fun s μ => match s with
    | .d (.ntp _) => bnd (fl ρ) (indexF s) μ
    | _ => if (lstOf s μ).isSome = true then bnd (fl ρ) (indexF s) μ else .no
abbrev Tab := Str → Option (List SV → M SV)
def tabC (x : Str) (f : List SV → M SV) (T : Tab) : Tab := fun y => if y = x then some f else T y
noncomputable def fLocal (i : Nat) (T : Tab) (fl : FA) : FX := fun ρ => match ρ i with
  | .d (.fn f) => match T f with
    | some p => bnd (fl ρ) (callM p)
    | none => fun _ => .no
  | _ => fun _ => .no
theorem HeldP.up {P : Program} {w : World} {K : PySem.W.Frag} {mg : Str → Option Value} {base : Heap} {k k' : Nat} {f : Addr} {p : PSp} (h : HeldP P w K mg base k f p) (le : k ≤ k') : HeldP P w K mg base k' f p := by
  obtain ⟨fd, ps, F, r⟩ := h.ex
  exact ⟨fd, ps, ⟨F.1, fun A outer s H args us vs Q E hr e b r z => F.run A outer s H args us vs Q E (hr.mono le) e b r z⟩, r⟩
end
end PL
namespace PL
open PySem PySem.Spec PyProof.Rows L2
/-- what simp leaves alone: another argument hangs on it -/
class TgC (u : Type) : Type where
instance : TgC Unit := ⟨⟩
@[reducible] def TgU {α : Sort _} (_ : α) : Type := Unit
/-- what follows a value -/
def bR {α β : Type} (r : R α) (k : α → M β) [TgC (TgU k)] : R β := match r with
  | .ok a μ => k a μ
  | .ex C fs μ => .ex C fs μ
  | .no => .no
@[simp ↓] theorem bR_ok {α β : Type} {a : α} {μ : Mem} {k : α → M β} {t : TgC (TgU k)} : @bR α β (.ok a μ) k t = k a μ := rfl
@[simp] theorem bR_ex {α β : Type} {C : Str} {fs : List (Str × D)} {μ : Mem} {k : α → M β} {t : TgC (TgU k)} : @bR α β (.ex C fs μ) k t = .ex C fs μ := rfl
@[simp] theorem bR_no {α β : Type} {k : α → M β} {t : TgC (TgU k)} : @bR α β .no k t = .no := rfl
@[simp ↓] theorem bnd_s {α β : Type} {m : M α} {k : α → M β} {μ : Mem} : bnd m k μ = bR (m μ) k := by unfold bnd bR; cases m μ <;> rfl
@[simp ↓] theorem ret_s {α : Type} {a : α} {μ : Mem} : ret a μ = .ok a μ := rfl
theorem bR_k {α β : Type} {r : R α} {k k' : α → M β} (h : k = k') : bR r k = bR r k' := by subst h; rfl
@[simp] theorem put_same {ρ : FEnv} {i : Nat} {s : SV} : put ρ i s i = s := if_pos rfl
@[simp] theorem put_ne {ρ : FEnv} {i j : Nat} {s : SV} (h : j ≠ i) : put ρ i s j = ρ j := if_neg h
@[simp] theorem fstart_s {as : List SV} {i : Nat} : fstart as i = as.getD i .un := rfl
@[simp] theorem wip_nil {ρ : FEnv} : wip ρ [] = ρ := rfl
@[simp] theorem wip_cons {ρ : FEnv} {v : Nat} {vs : List Nat} : wip ρ (v :: vs) = put (wip ρ vs) v .un := rfl
/-- a slot's value -/
def vR (s : SV) (μ : Mem) : R SV := match s with
  | .d a => .ok (.d a) μ
  | .c k => .ok (.c k) μ
  | .un => .no
@[simp ↓] theorem fV_s {i : Nat} {ρ : FEnv} {μ : Mem} : fV i ρ μ = vR (ρ i) μ := rfl
@[simp] theorem vR_d {a : D} {μ : Mem} : vR (.d a) μ = .ok (.d a) μ := rfl
@[simp] theorem vR_c {k : Nat} {μ : Mem} : vR (.c k) μ = .ok (.c k) μ := rfl
@[simp ↓] theorem fC_s {d : D} {ρ : FEnv} {μ : Mem} : fC d ρ μ = .ok (.d d) μ := rfl
@[simp ↓] theorem fOp_s {g : SV → SV → M SV} {a b : FX} {ρ : FEnv} {μ : Mem} : fOp g a b ρ μ = bR (a ρ μ) fun s => bnd (b ρ) fun t => g s t := bnd_s
@[simp ↓] theorem fUn_s {g : SV → M SV} {a : FX} {ρ : FEnv} {μ : Mem} : fUn g a ρ μ = bR (a ρ μ) g := bnd_s
@[simp] theorem tr_s {b : Bool} {μ : Mem} : tr (.d (.bl b)) μ = .ok b μ := rfl
@[simp ↓] theorem fT_s {a : FX} {ρ : FEnv} {μ : Mem} : fT a ρ μ = bR (a ρ μ) tr := bnd_s
/-- the one or the other -/
def kI {α : Type} (b : Bool) (m m' : M α) [TgC (TgU m)] [TgC (TgU m')] (μ : Mem) : R α := if b = true then m μ else m' μ
@[simp ↓] theorem kI_t {α : Type} {m m' : M α} {μ : Mem} {t : TgC (TgU m)} {t' : TgC (TgU m')} : @kI α true m m' t t' μ = m μ := rfl
@[simp ↓] theorem kI_f {α : Type} {m m' : M α} {μ : Mem} {t : TgC (TgU m)} {t' : TgC (TgU m')} : @kI α false m m' t t' μ = m' μ := rfl
@[simp ↓] theorem fTAnd_s {a b : FT} {ρ : FEnv} {μ : Mem} : fTAnd a b ρ μ = bR (a ρ μ) fun k => kI k (b ρ) (ret false) := by
  unfold fTAnd; rw [bnd_s]; refine bR_k ?_; funext k μ; unfold kI; split <;> rfl
@[simp ↓] theorem fTOr_s {a b : FT} {ρ : FEnv} {μ : Mem} : fTOr a b ρ μ = bR (a ρ μ) fun k => kI k (ret true) (b ρ) := by
  unfold fTOr; rw [bnd_s]; refine bR_k ?_; funext k μ; unfold kI; split <;> rfl
@[simp ↓] theorem fTNot_s {a : FT} {ρ : FEnv} {μ : Mem} : fTNot a ρ μ = bR (a ρ μ) fun k => ret (!k) := bnd_s
@[simp ↓] theorem fAnd_s {a b : FX} {ρ : FEnv} {μ : Mem} : fAnd a b ρ μ = bR (bR (a ρ μ) tr) fun k => kI k (b ρ) (ret (.d (.bl false))) := by
  unfold fAnd; rw [bnd_s, bnd_s]; refine bR_k ?_; funext k μ; unfold kI; split <;> rfl
@[simp ↓] theorem fOr_s {a b : FX} {ρ : FEnv} {μ : Mem} : fOr a b ρ μ = bR (bR (a ρ μ) tr) fun k => kI k (ret (.d (.bl true))) (b ρ) := by
  unfold fOr; rw [bnd_s, bnd_s]; refine bR_k ?_; funext k μ; unfold kI; split <;> rfl
@[simp ↓] theorem fNot_s {a : FX} {ρ : FEnv} {μ : Mem} : fNot a ρ μ = bR (bR (a ρ μ) tr) fun k => ret (.d (.bl (!k))) := by unfold fNot; rw [bnd_s, bnd_s]
@[simp ↓] theorem fIf_s {c : FT} {a b : FX} {ρ : FEnv} {μ : Mem} : fIf c a b ρ μ = bR (c ρ μ) fun k => kI k (a ρ) (b ρ) := by
  unfold fIf; rw [bnd_s]; refine bR_k ?_; funext k μ; unfold kI; split <;> rfl
@[simp ↓] theorem fChain_s {g g' : SV → SV → M SV} {a b c : FX} {ρ : FEnv} {μ : Mem} : fChain g g' a b c ρ μ = bR (a ρ μ) fun s => bnd (b ρ) fun t => bnd (bnd (g s t) tr) fun k => kI k (bnd (c ρ) fun u => g' t u) (ret (.d (.bl false))) := by
  unfold fChain; rw [bnd_s]; refine bR_k ?_; funext s; congr; funext t; congr; funext k μ; unfold kI; split <;> rfl
@[simp ↓] theorem fNil_s {ρ : FEnv} {μ : Mem} : fNil ρ μ = .ok [] μ := rfl
@[simp ↓] theorem fCons_s {a : FX} {r : FA} {ρ : FEnv} {μ : Mem} : fCons a r ρ μ = bR (a ρ μ) fun s => bnd (r ρ) fun ss => ret (s :: ss) := bnd_s
@[simp] theorem allD_nil : allD [] = some [] := rfl
@[simp] theorem allD_cons {x : D} {r : List SV} : allD (.d x :: r) = (allD r).map (x :: ·) := rfl
@[simp] theorem allM_some {ds : List D} {q : List D → M SV} {μ : Mem} : allM (some ds) q μ = q ds μ := rfl
/-- a guard -/
@[simp ↓] theorem grd_s {α : Type} {c : Prop} {m : M α} {μ : Mem} (h : c) : grd c m μ = m μ := if_pos h
@[simp] theorem fTup_s {t : FA} {ρ : FEnv} {μ : Mem} : fTup t ρ μ = bR (t ρ μ) fun ss => allM (allD ss) fun ds => grd (ds.length ≤ sizeLine) (ret (.d (.tup ds))) := bnd_s
@[simp] theorem fLst_s {t : FA} {ρ : FEnv} {μ : Mem} : fLst t ρ μ = bR (t ρ μ) fun ss => allM (allD ss) fun ds => grd (ds.length ≤ sizeLine) (ret (.d (.lst ds))) := bnd_s
@[simp] theorem fLstC_s {t : FA} {ρ : FEnv} {μ : Mem} : fLstC t ρ μ = bR (t ρ μ) fun ss => allM (allD ss) fun ds => grd (ds.length ≤ sizeLine) fun μ => .ok (.c μ.length) (μ ++ [.lst ds]) := bnd_s
@[simp ↓] theorem fCall_s {g : List SV → M SV} {t : FA} {ρ : FEnv} {μ : Mem} : fCall g t ρ μ = bR (t ρ μ) g := bnd_s
@[simp ↓] theorem fNone_s {ρ : FEnv} {μ : Mem} : fNone ρ μ = .ok none μ := rfl
@[simp] theorem asInt_s {i : Int} {μ : Mem} : asInt (.d (.int i)) μ = .ok (some i) μ := rfl
@[simp ↓] theorem fSome_s {a : FX} {ρ : FEnv} {μ : Mem} : fSome a ρ μ = bR (a ρ μ) asInt := bnd_s
@[simp ↓] theorem fSl_s {g : SV → Option Int → Option Int → M SV} {a : FX} {l h : FO} {ρ : FEnv} {μ : Mem} : fSl g a l h ρ μ = bR (a ρ μ) fun s => bnd (l ρ) fun lo => bnd (h ρ) fun hi => g s lo hi := bnd_s
/-- what follows a statement -/
def sK (u : FS) [TgC (TgU u)] (o : Out) : M Out := match o with
  | .nx ρ => u ρ
  | o => ret o
@[simp ↓] theorem sK_nx {u : FS} {ρ : FEnv} {μ : Mem} {t : TgC (TgU u)} : @sK u t (.nx ρ) μ = u ρ μ := rfl
@[simp ↓] theorem sK_rt {u : FS} {v : SV} {μ : Mem} {t : TgC (TgU u)} : @sK u t (.rt v) μ = .ok (.rt v) μ := rfl
@[simp ↓] theorem sK_bk {u : FS} {ρ : FEnv} {μ : Mem} {t : TgC (TgU u)} : @sK u t (.bk ρ) μ = .ok (.bk ρ) μ := rfl
@[simp ↓] theorem sK_ct {u : FS} {ρ : FEnv} {μ : Mem} {t : TgC (TgU u)} : @sK u t (.ct ρ) μ = .ok (.ct ρ) μ := rfl
@[simp ↓] theorem fSeq_s {t u : FS} {ρ : FEnv} {μ : Mem} : fSeq t u ρ μ = bR (t ρ μ) (sK u) := by
  unfold fSeq; rw [bnd_s]; first | done | rfl | (congr; done) | (congr; funext o; cases o <;> rfl)
@[simp ↓] theorem fSkip_s {ρ : FEnv} {μ : Mem} : fSkip ρ μ = .ok (.nx ρ) μ := rfl
@[simp ↓] theorem fBrk_s {ρ : FEnv} {μ : Mem} : fBrk ρ μ = .ok (.bk ρ) μ := rfl
@[simp ↓] theorem fCnt_s {ρ : FEnv} {μ : Mem} : fCnt ρ μ = .ok (.ct ρ) μ := rfl
@[simp ↓] theorem fExpr_s {a : FX} {ρ : FEnv} {μ : Mem} : fExpr a ρ μ = bR (a ρ μ) fun _ => ret (.nx ρ) := bnd_s
@[simp ↓] theorem fRet_s {a : FX} {ρ : FEnv} {μ : Mem} : fRet a ρ μ = bR (a ρ μ) fun s => ret (.rt s) := bnd_s
@[simp ↓] theorem fRetN_s {ρ : FEnv} {μ : Mem} : fRetN ρ μ = .ok (.rt (.d .non)) μ := rfl
@[simp ↓] theorem fIfS_s {c : FT} {a b : FS} {ρ : FEnv} {μ : Mem} : fIfS c a b ρ μ = bR (c ρ μ) fun k => kI k (a ρ) (b ρ) := by
  unfold fIfS; rw [bnd_s]; refine bR_k ?_; funext k μ; unfold kI; split <;> rfl
@[simp] theorem fNever_s {ρ : FEnv} {μ : Mem} : fNever ρ μ = .no := rfl
@[simp ↓] theorem fAsg_s {a : FX} {g : FG} {ρ : FEnv} {μ : Mem} : fAsg a g ρ μ = bR (a ρ μ) fun s => bnd (g s ρ) fun ρ' => ret (.nx ρ') := bnd_s
@[simp ↓] theorem gN_s {i : Nat} {s : SV} {ρ : FEnv} {μ : Mem} : gN i s ρ μ = .ok (put ρ i s) μ := rfl
@[simp] theorem gT_s {gs : List FG} {ds : List D} {ρ : FEnv} {μ : Mem} (h : ds.length = gs.length) : gT gs (.d (.tup ds)) ρ μ = gAll gs ds ρ μ := by simp only [gT, h, if_true]
@[simp] theorem gAll_nil {ρ : FEnv} {μ : Mem} : gAll [] [] ρ μ = .ok ρ μ := rfl
@[simp] theorem gAll_cons {g : FG} {gs : List FG} {d : D} {ds : List D} {ρ : FEnv} {μ : Mem} : gAll (g :: gs) (d :: ds) ρ μ = bR (g (.d d) ρ μ) fun ρ' => gAll gs ds ρ' := bnd_s
def parK (i j : Nat) (ρ : FEnv) (ss : List SV) : M Out := match ss with
  | [s, r] => ret (.nx (put (put ρ i s) j r))
  | _ => fun _ => .no
@[simp] theorem parK_s {i j : Nat} {ρ : FEnv} {s r : SV} {μ : Mem} : parK i j ρ [s, r] μ = .ok (.nx (put (put ρ i s) j r)) μ := rfl
@[simp ↓] theorem fPar_s {i j : Nat} {t : FA} {ρ : FEnv} {μ : Mem} : fPar i j t ρ μ = bR (t ρ μ) (parK i j ρ) := by
  unfold fPar; rw [bnd_s]; rfl
@[simp ↓] theorem fDPut_s {o i e : FX} {ρ : FEnv} {μ : Mem} : fDPut o i e ρ μ = bR (e ρ μ) fun s => bnd (o ρ) fun so => bnd (i ρ) fun si => bnd (dputF so si s) fun _ => ret (.nx ρ) := bnd_s
@[simp ↓] theorem fNewK_s {ρ : FEnv} {μ : Mem} : fNewK ρ μ = .ok (.c μ.length) (μ ++ [.dK [] []]) := rfl
@[simp ↓] theorem fNewT_s {ρ : FEnv} {μ : Mem} : fNewT ρ μ = .ok (.c μ.length) (μ ++ [.dT [] []]) := rfl
def lK (step : SV → FS) (ds : List D) [TgC (TgU step)] [TgC (TgU ds)] (o : Out) : M Out := match o with
  | .nx ρ' => fLoop step ds ρ'
  | .ct ρ' => fLoop step ds ρ'
  | .bk ρ' => ret (.nx ρ')
  | .rt v => ret (.rt v)
@[simp ↓] theorem lK_nx {step : SV → FS} {ds : List D} {ρ : FEnv} {μ : Mem} {t : TgC (TgU step)} {t' : TgC (TgU ds)} : @lK step ds t t' (.nx ρ) μ = fLoop step ds ρ μ := rfl
@[simp ↓] theorem lK_ct {step : SV → FS} {ds : List D} {ρ : FEnv} {μ : Mem} {t : TgC (TgU step)} {t' : TgC (TgU ds)} : @lK step ds t t' (.ct ρ) μ = fLoop step ds ρ μ := rfl
@[simp ↓] theorem lK_bk {step : SV → FS} {ds : List D} {ρ : FEnv} {μ : Mem} {t : TgC (TgU step)} {t' : TgC (TgU ds)} : @lK step ds t t' (.bk ρ) μ = .ok (.nx ρ) μ := rfl
@[simp ↓] theorem lK_rt {step : SV → FS} {ds : List D} {v : SV} {μ : Mem} {t : TgC (TgU step)} {t' : TgC (TgU ds)} : @lK step ds t t' (.rt v) μ = .ok (.rt v) μ := rfl
@[simp] theorem fLoop_nil {step : SV → FS} {ρ : FEnv} {μ : Mem} : fLoop step [] ρ μ = .ok (.nx ρ) μ := rfl
theorem fLoop_cons {step : SV → FS} {d : D} {ds : List D} {ρ : FEnv} {μ : Mem} : fLoop step (d :: ds) ρ μ = bR (step (.d d) ρ μ) (lK step ds) := by
  unfold fLoop; rw [bnd_s]; first | done | rfl | (congr; done) | (congr; funext o; cases o <;> rfl)
/-- the body of a for -/
def bF (g : FG) (b : FS) : SV → FS := fun d ρ => bnd (g d ρ) b
@[simp ↓] theorem bF_s {g : FG} {b : FS} {s : SV} {ρ : FEnv} {μ : Mem} : bF g b s ρ μ = bR (g s ρ μ) b := bnd_s
@[simp ↓] theorem fFor_s {it : FI} {g : FG} {b : FS} {ρ : FEnv} {μ : Mem} : fFor it g b ρ μ = bR (it ρ μ) fun ds => fLoop (bF g b) ds ρ := bnd_s
@[simp] theorem fYes_s {ρ : FEnv} {μ : Mem} : fYes ρ μ = .ok true μ := rfl
@[simp ↓] theorem cStep_s {g : FG} {c : FT} {e : FX} {vs : List Nat} {ρ : FEnv} {d : D} {μ : Mem} : cStep g c e vs ρ d μ = bR (g (.d d) (wip ρ vs) μ) fun ρ2 => bnd (c ρ2) fun k => kI k (bnd (e ρ2) fun s => ret (some s)) (ret none) := by
  unfold cStep; rw [bnd_s]; refine bR_k ?_; funext ρ2; congr; funext k μ; unfold kI; split <;> rfl
@[simp ↓] theorem cStep2_s {g : FG} {c : FT} {it1 : FI} {g1 : FG} {c1 : FT} {e : FX} {vs vs1 : List Nat} {ρ : FEnv} {d : D} {μ : Mem} : cStep2 g c it1 g1 c1 e vs vs1 ρ d μ = bR (g (.d d) (wip ρ vs) μ) fun ρ2 => bnd (c ρ2) fun k => kI k (bnd (it1 ρ2) fun es => bnd (cLoop (cStep g1 c1 e vs1 ρ2) es) fun l => ret (some l)) (ret none) := by
  unfold cStep2; rw [bnd_s]; refine bR_k ?_; funext ρ2; congr; funext k μ; unfold kI; split <;> rfl
@[simp] theorem finLF_s {acc : List D} {μ : Mem} : finLF acc μ = .ok (.d (.lst acc)) μ := rfl
@[simp] theorem finCF_s {acc : List D} {μ : Mem} : finCF acc μ = .ok (.c μ.length) (μ ++ [.lst acc]) := rfl
@[simp ↓] theorem fLc_s {fin : List D → M SV} {it : FI} {g : FG} {c : FT} {e : FX} {vs : List Nat} {ρ : FEnv} {μ : Mem} : fLc fin it g c e vs ρ μ = bR (it ρ μ) fun ds => grd (ds.length ≤ sizeLine) (bnd (cLoop (cStep g c e vs ρ) ds) fin) := bnd_s
@[simp ↓] theorem fLc2_s {fin : List D → M SV} {it : FI} {g : FG} {c : FT} {it1 : FI} {g1 : FG} {c1 : FT} {e : FX} {vs vs1 : List Nat} {ρ : FEnv} {μ : Mem} : fLc2 fin it g c it1 g1 c1 e vs vs1 ρ μ = bR (it ρ μ) fun ds => bnd (cLoop2 (cStep2 g c it1 g1 c1 e vs vs1 ρ) ds) fun l => grd (l.length ≤ sizeLine) (fin l) := bnd_s
@[simp] theorem cLoop_nil {step : D → M (Option SV)} {μ : Mem} : cLoop step [] μ = .ok [] μ := rfl
def cK (step : D → M (Option SV)) (ds : List D) (o : Option SV) : M (List D) := fun μ' => match o with
  | none => cLoop step ds μ'
  | some (.d y) => match cLoop step ds μ' with
    | .ok r μ2 => .ok (y :: r) μ2
    | _ => .no
  | _ => .no
theorem cLoop_cons {step : D → M (Option SV)} {d : D} {ds : List D} {μ : Mem} {o : Option SV} {μ' : Mem} (h : step d μ = .ok o μ') : cLoop step (d :: ds) μ = cK step ds o μ' := by
  show (match step d μ with
    | .ok none μ' => cLoop step ds μ'
    | .ok (some (.d y)) μ' => _
    | _ => .no) = _
  rw [h]
  cases o with
  | none => rfl
  | some s => cases s <;> rfl
/-- a comprehension without a condition, of what leaves the cells alone -/
theorem cLoop_map {step : D → M (Option SV)} {μ : Mem} (f : D → D) : ∀ {ds : List D}, (∀ d ∈ ds, step d μ = .ok (some (.d (f d))) μ) → cLoop step ds μ = .ok (ds.map f) μ
  | [], _ => rfl
  | d :: ds, h => by
    rw [cLoop_cons (h d List.mem_cons_self)]
    show (match cLoop step ds μ with
      | .ok r μ2 => R.ok (f d :: r) μ2
      | _ => .no) = _
    rw [cLoop_map f fun x hx => h x (List.mem_cons_of_mem _ hx)]
    rfl
/-- .. over typed things -/
theorem cLoop_mapT {α : Type} {step : D → M (Option SV)} {μ : Mem} {l : List α} {en : α → D} (f : α → D) (h : ∀ a ∈ l, step (en a) μ = .ok (some (.d (f a))) μ) : cLoop step (l.map en) μ = .ok (l.map f) μ := by
  induction l with
  | nil => rfl
  | cons a l ih =>
    rw [List.map_cons, cLoop_cons (h a List.mem_cons_self)]
    show (match cLoop step (l.map en) μ with
      | .ok r μ2 => R.ok (f a :: r) μ2
      | _ => .no) = _
    rw [ih fun x hx => h x (List.mem_cons_of_mem _ hx)]
    rfl
/-- two generators, over typed things -/
theorem cLoop2_mapT {α : Type} {step : D → M (Option (List D))} {μ : Mem} {l : List α} {en : α → D} (f : α → List D) (h : ∀ a ∈ l, step (en a) μ = .ok (some (f a)) μ) : cLoop2 step (l.map en) μ = .ok (l.flatMap f) μ := by
  induction l with
  | nil => rfl
  | cons a l ih =>
    show (match step (en a) μ with
      | .ok none μ' => cLoop2 step (l.map en) μ'
      | .ok (some l') μ' => _
      | _ => .no) = _
    rw [h a List.mem_cons_self]
    show (match cLoop2 step (l.map en) μ with
      | .ok r μ2 => R.ok (f a ++ r) μ2
      | _ => .no) = _
    rw [ih fun x hx => h x (List.mem_cons_of_mem _ hx)]
    rfl
/-- what a def hands back -/
def oR (r : R Out) : R SV := match r with
  | .ok (.nx _) μ' => .ok (.d .non) μ'
  | .ok (.rt v) μ' => .ok v μ'
  | .ok _ _ => .no
  | .ex C fs μ' => .ex C fs μ'
  | .no => .no
@[simp] theorem oR_nx {ρ : FEnv} {μ : Mem} : oR (.ok (.nx ρ) μ) = .ok (.d .non) μ := rfl
@[simp] theorem oR_rt {v : SV} {μ : Mem} : oR (.ok (.rt v) μ) = .ok v μ := rfl
@[simp] theorem oR_ex {C : Str} {fs : List (Str × D)} {μ : Mem} : oR (.ex C fs μ) = .ex C fs μ := rfl
@[simp ↓] theorem fDef_s {k : Nat} {b : FS} {as : List SV} {μ : Mem} (h : as.length = k) : fDef k b as μ = oR (b (fstart as) μ) := by
  unfold fDef; rw [if_pos h]; rfl
@[simp ↓] theorem flR_nil {α : Type} {r : R α} : flR [] r = r := rfl
@[simp ↓] theorem flR_cons {α : Type} {c : Cell} {cs : Mem} {r : R α} : flR (c :: cs) r = flC c (flR cs r) := rfl
@[simp ↓] theorem flC_lst {α : Type} {l : List D} {r : R α} : flC (.lst l) r = r := rfl
@[simp ↓] theorem flC_dK {α : Type} {k l : List D} {r : R α} : flC (.dK k l) r = r := rfl
@[simp ↓] theorem flC_dT {α : Type} {k l : List D} {r : R α} : flC (.dT k l) r = r := rfl
@[simp ↓] theorem flC_ins {α : Type} {C : Str} {n : List Str} {l : List D} {r : R α} : flC (.ins C n l) r = r := rfl
@[simp] theorem nocell_s : nocell = .lst [] := rfl
/-- what a call hands back -/
def callR (μ : Mem) (ks : List Nat) (r : R SV) : R SV := match r with
    | .ok (.d d) μ' => flR (μ'.take ks.length) (.ok (.d d) (merge μ ks μ'))
    | .ok (.c j) μ' => flR (μ'.take ks.length) (if j < ks.length then .ok (.c (ks.getD j 0)) (merge μ ks μ') else flC (μ'.getD j nocell) (.ok (.c μ.length) (merge μ ks μ' ++ [μ'.getD j nocell])))
    | .ok .un _ => .no
    | .ex C fs μ' => flR (μ'.take ks.length) (.ex C fs (merge μ ks μ'))
    | .no => .no
@[simp] theorem callR_d {μ μ' : Mem} {ks : List Nat} {d : D} : callR μ ks (.ok (.d d) μ') = flR (μ'.take ks.length) (.ok (.d d) (merge μ ks μ')) := rfl
@[simp] theorem callR_c {μ μ' : Mem} {ks : List Nat} {j : Nat} : callR μ ks (.ok (.c j) μ') = flR (μ'.take ks.length) (if j < ks.length then .ok (.c (ks.getD j 0)) (merge μ ks μ') else flC (μ'.getD j nocell) (.ok (.c μ.length) (merge μ ks μ' ++ [μ'.getD j nocell]))) := rfl
@[simp] theorem callR_ex {μ μ' : Mem} {ks : List Nat} {C : Str} {fs : List (Str × D)} : callR μ ks (.ex C fs μ') = flR (μ'.take ks.length) (.ex C fs (merge μ ks μ')) := rfl
/-- .. of a def whose cells are told apart -/
def ndR {α : Type} (ks : List Nat) (r : R α) : R α := match ks with
  | [] => r
  | [_] => r
  | ks => if ks.Nodup then r else .no
@[simp ↓] theorem ndR_nil {α : Type} {r : R α} : ndR [] r = r := rfl
@[simp ↓] theorem ndR_one {α : Type} {r : R α} {k : Nat} : ndR [k] r = r := rfl
theorem ndR_eq {α : Type} {ks : List Nat} {r : R α} : ndR ks r = if ks.Nodup then r else .no := by
  match ks with
  | [] => simp
  | [_] => simp
  | _ :: _ :: _ => rfl
@[simp ↓] theorem callM_s {f : List SV → M SV} {ss : List SV} {μ : Mem} : callM f ss μ = ndR (cellsOf ss) (flR (picked μ (cellsOf ss)) (callR μ (cellsOf ss) (f (relab 0 ss) (picked μ (cellsOf ss))))) := by
  rw [ndR_eq]; unfold callM
  by_cases h : (cellsOf ss).Nodup
  · rw [if_pos h, if_pos h]; rfl
  · rw [if_neg h, if_neg h]
def callRF (μ : Mem) (ks : List Nat) (r : R SV) : R SV := match r with
    | .ok (.d d) μ' => flR (μ'.take ks.length) (.ok (.d d) (merge μ ks μ'))
    | .ok (.c j) μ' => flR (μ'.take ks.length) (match frzS ks.length μ' 3 (.c j) with
      | some d => .ok (.d d) (merge μ ks μ')
      | none => .no)
    | .ok .un _ => .no
    | .ex C fs μ' => flR (μ'.take ks.length) (.ex C fs (merge μ ks μ'))
    | .no => .no
@[simp] theorem callRF_d {μ μ' : Mem} {ks : List Nat} {d : D} : callRF μ ks (.ok (.d d) μ') = flR (μ'.take ks.length) (.ok (.d d) (merge μ ks μ')) := rfl
@[simp ↓] theorem callMF_s {f : List SV → M SV} {ss : List SV} {μ : Mem} : callMF f ss μ = ndR (cellsOf ss) (flR (picked μ (cellsOf ss)) (callRF μ (cellsOf ss) (f (relab 0 ss) (picked μ (cellsOf ss))))) := by
  rw [ndR_eq]; unfold callMF grd
  by_cases h : (cellsOf ss).Nodup
  · rw [if_pos h, if_pos h]; rfl
  · rw [if_neg h, if_neg h]
@[simp] theorem cellsOf_nil : cellsOf [] = [] := rfl
@[simp] theorem cellsOf_c {k : Nat} {r : List SV} : cellsOf (.c k :: r) = k :: cellsOf r := rfl
@[simp] theorem cellsOf_d {d : D} {r : List SV} : cellsOf (.d d :: r) = cellsOf r := rfl
@[simp] theorem relab_nil {n : Nat} : relab n [] = [] := rfl
@[simp] theorem relab_c {n k : Nat} {r : List SV} : relab n (.c k :: r) = .c n :: relab (n + 1) r := rfl
@[simp] theorem relab_d {n : Nat} {d : D} {r : List SV} : relab n (.d d :: r) = .d d :: relab n r := rfl
@[simp] theorem picked_nil {μ : Mem} : picked μ [] = [] := rfl
@[simp] theorem picked_cons {μ : Mem} {k : Nat} {ks : List Nat} : picked μ (k :: ks) = μ.getD k nocell :: picked μ ks := rfl
@[simp] theorem merge_nil {μ cs : Mem} : merge μ [] cs = μ := by cases cs <;> rfl
@[simp] theorem merge_cons {μ cs : Mem} {k : Nat} {ks : List Nat} {c : Cell} : merge μ (k :: ks) (c :: cs) = merge (μ.set k c) ks cs := rfl
def permK (perm : List Nat) (f : List SV → M SV) (n m : Nat) (ss zs : List SV) : M SV := if ss.length = n ∧ zs.length = m then f (permG .un perm ss zs) else fun _ => .no
@[simp] theorem permK_s {perm : List Nat} {f : List SV → M SV} {n m : Nat} {ss zs : List SV} {μ : Mem} (h : ss.length = n) (h2 : zs.length = m) : permK perm f n m ss zs μ = f (permG .un perm ss zs) μ := by unfold permK; rw [if_pos ⟨h, h2⟩]
@[simp ↓] theorem permM_s {perm : List Nat} {f : List SV → M SV} {n m : Nat} {t tk : FA} {ρ : FEnv} {μ : Mem} : permM perm f n m t tk ρ μ = bR (t ρ μ) fun ss => bnd (tk ρ) fun zs => permK perm f n m ss zs := bnd_s
@[simp] theorem permG_nil {us ws : List SV} : permG SV.un [] us ws = [] := rfl
@[simp] theorem permG_cons {i : Nat} {perm : List Nat} {us ws : List SV} : permG SV.un (i :: perm) us ws = (us ++ ws).getD i .un :: permG SV.un perm us ws := rfl
@[simp] theorem tabC_same {x : Str} {f : List SV → M SV} {T : Tab} : tabC x f T x = some f := if_pos rfl
noncomputable def lcK (T : Tab) (fl : FA) (ρ : FEnv) (s : SV) : M SV := match s with
  | .d (.fn f) => match T f with
    | some p => bnd (fl ρ) (callM p)
    | none => fun _ => .no
  | _ => fun _ => .no
@[simp ↓] theorem fLocal_s {i : Nat} {T : Tab} {fl : FA} {ρ : FEnv} {μ : Mem} : fLocal i T fl ρ μ = lcK T fl ρ (ρ i) μ := rfl
section
variable {i j : Int} {x y : Str} {l m : List D} {μ : Mem} {b b' : Bool} {k : Nat} {d : D}
@[simp] theorem addF_i : addF (.d (.int i)) (.d (.int j)) μ = .ok (.d (.int (i + j))) μ := rfl
@[simp] theorem addF_s : addF (.d (.str x)) (.d (.str y)) μ = grd (x.length + y.length ≤ sizeLine) (ret (.d (.str (x ++ y)))) μ := rfl
@[simp] theorem addF_t : addF (.d (.tup l)) (.d (.tup m)) μ = grd (l.length + m.length ≤ sizeLine) (ret (.d (.tup (l ++ m)))) μ := rfl
@[simp] theorem addF_l : addF (.d (.lst l)) (.d (.lst m)) μ = grd (l.length + m.length ≤ sizeLine) (ret (.d (.lst (l ++ m)))) μ := rfl
@[simp] theorem subF_i : subF (.d (.int i)) (.d (.int j)) μ = .ok (.d (.int (i - j))) μ := rfl
@[simp] theorem mulF_i : mulF (.d (.int i)) (.d (.int j)) μ = grd (CMul i j) (ret (.d (.int (i * j)))) μ := rfl
@[simp] theorem modF_i : modF (.d (.int i)) (.d (.int j)) μ = grd (0 < j) (ret (.d (.int (i % j)))) μ := rfl
@[simp] theorem divF_i : divF (.d (.int i)) (.d (.int j)) μ = grd (CDiv i j) (ret (.d (.int (i / j)))) μ := rfl
@[simp] theorem powF_i : powF (.d (.int i)) (.d (.int j)) μ = grd (CPow i j) (ret (.d (.int (i ^ j.toNat)))) μ := rfl
@[simp] theorem negF_i : negF (.d (.int i)) μ = .ok (.d (.int (-i))) μ := rfl
@[simp] theorem ltF_i : ltF (.d (.int i)) (.d (.int j)) μ = .ok (.d (.bl (decide (i < j)))) μ := rfl
@[simp] theorem ltF_s : ltF (.d (.str x)) (.d (.str y)) μ = .ok (.d (.bl (decide (x.cps.toList < y.cps.toList)))) μ := rfl
@[simp] theorem leF_i : leF (.d (.int i)) (.d (.int j)) μ = .ok (.d (.bl (decide (i ≤ j)))) μ := rfl
@[simp] theorem leF_s : leF (.d (.str x)) (.d (.str y)) μ = .ok (.d (.bl (!decide (y.cps.toList < x.cps.toList)))) μ := rfl
@[simp] theorem gtF_i : gtF (.d (.int i)) (.d (.int j)) μ = .ok (.d (.bl (decide (j < i)))) μ := rfl
@[simp] theorem gtF_s : gtF (.d (.str x)) (.d (.str y)) μ = .ok (.d (.bl (decide (y.cps.toList < x.cps.toList)))) μ := rfl
@[simp] theorem geF_i : geF (.d (.int i)) (.d (.int j)) μ = .ok (.d (.bl (decide (j ≤ i)))) μ := rfl
@[simp] theorem geF_s : geF (.d (.str x)) (.d (.str y)) μ = .ok (.d (.bl (!decide (x.cps.toList < y.cps.toList)))) μ := rfl
theorem ltF_t {u v : D} (hu : isTp u = true) (hv : isTp v = true) : ltF (.d u) (.d v) μ = grd (isTp u = true ∧ isTp v = true ∧ okEq u = true ∧ okEq v = true ∧ alD u v = true) (ret (.d (.bl (ltD u v)))) μ := by
  cases u <;> simp [isTp] at hu <;> cases v <;> simp [isTp] at hv <;> rfl
theorem leF_t {u v : D} (hu : isTp u = true) (hv : isTp v = true) : leF (.d u) (.d v) μ = grd (isTp u = true ∧ isTp v = true ∧ okEq u = true ∧ okEq v = true ∧ alD u v = true) (ret (.d (.bl (!ltD v u)))) μ := by
  cases u <;> simp [isTp] at hu <;> cases v <;> simp [isTp] at hv <;> rfl
@[simp] theorem iltF_i : iltF (.d (.int i)) (.d (.int j)) μ = .ok (.d (.bl (decide (i < j)))) μ := rfl
@[simp] theorem ileF_i : ileF (.d (.int i)) (.d (.int j)) μ = .ok (.d (.bl (decide (i ≤ j)))) μ := rfl
@[simp] theorem eqF_i : eqF (.d (.int i)) (.d (.int j)) μ = .ok (.d (.bl (decide (i = j)))) μ := rfl
@[simp] theorem eqF_b : eqF (.d (.bl b)) (.d (.bl b')) μ = .ok (.d (.bl (b == b'))) μ := rfl
@[simp] theorem neF_i : neF (.d (.int i)) (.d (.int j)) μ = .ok (.d (.bl (!decide (i = j)))) μ := rfl
@[simp] theorem neF_b : neF (.d (.bl b)) (.d (.bl b')) μ = .ok (.d (.bl (!(b == b')))) μ := rfl
theorem eqF_d {u v : D} (hu : okEq u = true) (hv : okEq v = true) : eqF (.d u) (.d v) μ = .ok (.d (.bl (deq u v))) μ := by
  unfold eqF
  split
  · rename_i e1 e2; injection e1 with e1; injection e2 with e2; subst e1; subst e2; rw [deq_int]
  · rename_i e1 e2; injection e1 with e1; injection e2 with e2; subst e1; subst e2; rw [deq_bl]
  · rename_i e1 e2; injection e1 with e1; injection e2 with e2; subst e1; subst e2; exact grd_pos ⟨hu, hv⟩
  · rename_i h; exact (h _ _ rfl rfl).elim
theorem neF_d {u v : D} (hu : okEq u = true) (hv : okEq v = true) : neF (.d u) (.d v) μ = .ok (.d (.bl (!deq u v))) μ := by
  unfold neF
  split
  · rename_i e1 e2; injection e1 with e1; injection e2 with e2; subst e1; subst e2; rw [deq_int]
  · rename_i e1 e2; injection e1 with e1; injection e2 with e2; subst e1; subst e2; rw [deq_bl]
  · rename_i e1 e2; injection e1 with e1; injection e2 with e2; subst e1; subst e2; exact grd_pos ⟨hu, hv⟩
  · rename_i h; exact (h _ _ rfl rfl).elim
@[simp] theorem isNF_non : isNF (.d .non) μ = .ok (.d (.bl true)) μ := rfl
@[simp] theorem isNF_bl : isNF (.d (.bl b)) μ = .ok (.d (.bl false)) μ := rfl
@[simp] theorem isNF_int : isNF (.d (.int i)) μ = .ok (.d (.bl false)) μ := rfl
@[simp] theorem isNF_str : isNF (.d (.str x)) μ = .ok (.d (.bl false)) μ := rfl
@[simp] theorem isNF_tup : isNF (.d (.tup l)) μ = .ok (.d (.bl false)) μ := rfl
@[simp] theorem isNF_ntp : isNF (.d (.ntp l)) μ = .ok (.d (.bl false)) μ := rfl
@[simp] theorem isNF_lst : isNF (.d (.lst l)) μ = .ok (.d (.bl false)) μ := rfl
@[simp] theorem isNF_c : isNF (.c k) μ = .ok (.d (.bl false)) μ := rfl
@[simp] theorem notNF_non : notNF (.d .non) μ = .ok (.d (.bl false)) μ := rfl
@[simp] theorem notNF_bl : notNF (.d (.bl b)) μ = .ok (.d (.bl true)) μ := rfl
@[simp] theorem notNF_int : notNF (.d (.int i)) μ = .ok (.d (.bl true)) μ := rfl
@[simp] theorem notNF_str : notNF (.d (.str x)) μ = .ok (.d (.bl true)) μ := rfl
@[simp] theorem notNF_tup : notNF (.d (.tup l)) μ = .ok (.d (.bl true)) μ := rfl
@[simp] theorem notNF_ntp : notNF (.d (.ntp l)) μ = .ok (.d (.bl true)) μ := rfl
@[simp] theorem notNF_lst : notNF (.d (.lst l)) μ = .ok (.d (.bl true)) μ := rfl
@[simp] theorem notNF_c : notNF (.c k) μ = .ok (.d (.bl true)) μ := rfl
@[simp] theorem isBF_b : isBF (.d (.bl b)) (.d (.bl b')) μ = .ok (.d (.bl (decide (b = b')))) μ := rfl
@[simp] theorem notBF_b : notBF (.d (.bl b)) (.d (.bl b')) μ = .ok (.d (.bl (!decide (b = b')))) μ := rfl
/-- what comes at an index -/
def oD (o : Option D) (μ : Mem) : R SV := match o with
  | some d => .ok (.d d) μ
  | none => .no
@[simp] theorem oD_some : oD (some d) μ = .ok (.d d) μ := rfl
@[simp] theorem ixF_s {a : SV} : ixF a (.d (.int i)) μ = oD (ixOf a μ i) μ := by
  show (match ixOf a μ i with | some d => _ | none => _) = _
  cases ixOf a μ i <;> rfl
@[simp] theorem ixOf_t : ixOf (.d (.tup l)) μ i = atI l i := rfl
@[simp] theorem ixOf_n : ixOf (.d (.ntp l)) μ i = atI l i := rfl
@[simp] theorem ixOf_l : ixOf (.d (.lst l)) μ i = atI l i := rfl
@[simp] theorem ixOf_sc {z : List Int} : ixOf (.d (.scr z)) μ i = (atI z i).map .int := rfl
theorem ixOf_c (h : μ[k]? = some (.lst l)) : ixOf (.c k) μ i = atI l i := by simp only [ixOf, h]
@[simp] theorem atI_zero {α : Type} {a : α} {r : List α} : atI (a :: r) 0 = some a := by
  have := atI_nat (l := a :: r) (i := 0); simpa using this
@[simp] theorem atI_one {α : Type} {a a' : α} {r : List α} : atI (a :: a' :: r) 1 = some a' := by
  have := atI_nat (l := a :: a' :: r) (i := 1); simpa using this
@[simp] theorem atI_two {α : Type} {a a' a2 : α} {r : List α} : atI (a :: a' :: a2 :: r) 2 = some a2 := by
  have := atI_nat (l := a :: a' :: a2 :: r) (i := 2); simpa using this
@[simp] theorem atI_three {α : Type} {a a' a2 a3 : α} {r : List α} : atI (a :: a' :: a2 :: a3 :: r) 3 = some a3 := by
  have := atI_nat (l := a :: a' :: a2 :: a3 :: r) (i := 3); simpa using this
@[simp] theorem atI_n {α : Type} {r : List α} {n : Nat} : atI r (n : Int) = r[n]? := atI_nat
@[simp] theorem lenOf_t : lenOf (.d (.tup l)) μ = some l.length := rfl
@[simp] theorem lenOf_n : lenOf (.d (.ntp l)) μ = some l.length := rfl
@[simp] theorem lenOf_l : lenOf (.d (.lst l)) μ = some l.length := rfl
@[simp] theorem lenOf_sc {z : List Int} : lenOf (.d (.scr z)) μ = some z.length := rfl
theorem lenOf_c (h : μ[k]? = some (.lst l)) : lenOf (.c k) μ = some l.length := by simp only [lenOf, h]
theorem lenOf_str (h : x.length ≤ 16777216) : lenOf (.d (.str x)) μ = some x.length := by simp only [lenOf, if_pos (show x.length ≤ sizeLine by rw [sizeLine_eq]; exact h)]
@[simp] theorem strD_length : (strD x).length = x.length := by simp [strD, Str.length]
def oN (o : Option Nat) (μ : Mem) : R SV := match o with
  | some n => .ok (.d (.int (n : Nat))) μ
  | none => .no
@[simp] theorem oN_some {n : Nat} : oN (some n) μ = .ok (.d (.int n)) μ := rfl
@[simp] theorem lenF_s {s : SV} : lenF [s] μ = oN (lenOf s μ) μ := by
  show (match lenOf s μ with | some n => _ | none => _) = _
  cases lenOf s μ <;> rfl
def oB (o : Option Bool) (μ : Mem) : R SV := match o with
  | some n => .ok (.d (.bl n)) μ
  | none => .no
@[simp] theorem oB_some : oB (some b) μ = .ok (.d (.bl b)) μ := rfl
@[simp] theorem isiF_s {t : TyK} {s : SV} : isiF t s μ = oB (isKs t s μ) μ := by
  show (match isKs t s μ with | some n => _ | none => _) = _
  cases isKs t s μ <;> rfl
@[simp] theorem isKs_d {t : TyK} : isKs t (.d d) μ = isK t d := rfl
def oL (f : List Bool → Bool) (o : Option (List Bool)) (μ : Mem) : R SV := match o with
  | some bs => .ok (.d (.bl (f bs))) μ
  | none => .no
@[simp] theorem oL_some {f : List Bool → Bool} {bs : List Bool} : oL f (some bs) μ = .ok (.d (.bl (f bs))) μ := rfl
@[simp] theorem allF_s {s : SV} : allF [s] μ = oL (·.all id) ((lstOf s μ).bind bools) μ := by
  show (match (lstOf s μ).bind bools with | some n => _ | none => _) = _
  cases (lstOf s μ).bind bools <;> rfl
@[simp] theorem anyF_s {s : SV} : anyF [s] μ = oL (·.any id) ((lstOf s μ).bind bools) μ := by
  show (match (lstOf s μ).bind bools with | some n => _ | none => _) = _
  cases (lstOf s μ).bind bools <;> rfl
@[simp] theorem lstOf_l : lstOf (.d (.lst l)) μ = some l := rfl
@[simp] theorem lstOf_t : lstOf (.d (.tup l)) μ = none := rfl
@[simp] theorem lstOf_n : lstOf (.d (.ntp l)) μ = none := rfl
@[simp] theorem tupOf_t : tupOf (.d (.tup l)) = some l := rfl
@[simp] theorem tupOf_n : tupOf (.d (.ntp l)) = some l := rfl
@[simp] theorem bools_map_s {α : Type} (g : α → Bool) (l : List α) : bools (l.map fun d => .bl (g d)) = some (l.map g) := bools_map g l
@[simp] theorem tupF_l : tupF [.d (.lst l)] μ = .ok (.d (.ntp l)) μ := rfl
@[simp] theorem tupF_t : tupF [.d (.tup l)] μ = .ok (.d (.tup l)) μ := rfl
@[simp] theorem tupF_n : tupF [.d (.ntp l)] μ = .ok (.d (.ntp l)) μ := rfl
@[simp] theorem listF_l : listF [.d (.lst l)] μ = .ok (.d (.lst l)) μ := rfl
@[simp] theorem listF_t : listF [.d (.tup l)] μ = .ok (.d (.lst l)) μ := rfl
@[simp] theorem listF_n : listF [.d (.ntp l)] μ = .ok (.d (.lst l)) μ := rfl
@[simp] theorem listCF_l : listCF [.d (.lst l)] μ = .ok (.c μ.length) (μ ++ [.lst l]) := rfl
@[simp] theorem listCF_t : listCF [.d (.tup l)] μ = .ok (.c μ.length) (μ ++ [.lst l]) := rfl
@[simp] theorem listCF_n : listCF [.d (.ntp l)] μ = .ok (.c μ.length) (μ ++ [.lst l]) := rfl
@[simp] theorem sortedF_l : sortedF [.d (.lst l)] μ = grd (okSort l) (ret (.d (.lst (srtD l)))) μ := rfl
theorem sortedF_c (h : μ[k]? = some (.lst l)) : sortedF [.c k] μ = grd (okSort l) (ret (.d (.lst (srtD l)))) μ := by simp only [sortedF, lstOf, h]
@[simp] theorem intF_i : intF [.d (.int i)] μ = .ok (.d (.int i)) μ := rfl
@[simp] theorem intF_b : intF [.d (.bl b)] μ = .ok (.d (.int (if b then 1 else 0))) μ := rfl
@[simp] theorem absF_i : absF [.d (.int i)] μ = .ok (.d (.int (if i < 0 then -i else i))) μ := rfl
@[simp] theorem divmodF_i : divmodF [.d (.int i), .d (.int j)] μ = grd (CDiv i j) (ret (.d (.tup [.int (i / j), .int (i % j)]))) μ := rfl
@[simp] theorem maxF_i : maxF [.d (.int i), .d (.int j)] μ = .ok (.d (.int (if j > i then j else i))) μ := rfl
@[simp] theorem minF_i : minF [.d (.int i), .d (.int j)] μ = .ok (.d (.int (if j < i then j else i))) μ := rfl
@[simp] theorem fMethL_s {g : SV → List SV → M SV} {o : FX} {t : FA} {ρ : FEnv} : fMethL g o t ρ μ = bR (o ρ μ) fun s μ => if (lstOf s μ).isSome = true then bnd (t ρ) (fun ss => g s ss) μ else .no := bnd_s
theorem appendF_c {y : D} (h : μ[k]? = some (.lst l)) (hz : l.length < sizeLine) : appendF (.c k) [.d y] μ = .ok (.d .non) (μ.set k (.lst (l ++ [y]))) := by
  unfold appendF; simp only [h, hz, if_true]
def iD (o : Option (List D)) (μ : Mem) : R (List D) := match o with
  | some l => .ok l μ
  | none => .no
@[simp] theorem iD_some : iD (some l) μ = .ok l μ := rfl
def itK (s : SV) (μ : Mem) : R (List D) := match s with
  | .d d => iD (itD d) μ
  | _ => .no
@[simp] theorem itK_s : itK (.d d) μ = iD (itD d) μ := rfl
@[simp ↓] theorem itF_s {a : FX} {ρ : FEnv} : itF a ρ μ = bR (a ρ μ) itK := by
  unfold itF; rw [bnd_s]; congr
@[simp] theorem itD_t : itD (.tup l) = some l := rfl
@[simp] theorem itD_n : itD (.ntp l) = some l := rfl
@[simp] theorem itD_l : itD (.lst l) = some l := rfl
@[simp] theorem itD_s : itD (.scr z) = some (z.map .int) := rfl
@[simp] theorem itD_str : itD (.str x) = some (strD x) := rfl
@[simp] theorem itD_dic {t : Bool} {ks vs : List D} : itD (.dic t ks vs) = some ks := rfl
def enK (ss : List SV) (μ : Mem) : R (List D) := match ss with
  | [.d (.tup l)] => .ok (enumD l) μ
  | [.d (.ntp l)] => .ok (enumD l) μ
  | [.d (.lst l)] => .ok (enumD l) μ
  | _ => .no
@[simp] theorem enK_t : enK [.d (.tup l)] μ = .ok (enumD l) μ := rfl
@[simp] theorem enK_n : enK [.d (.ntp l)] μ = .ok (enumD l) μ := rfl
@[simp] theorem enK_l : enK [.d (.lst l)] μ = .ok (enumD l) μ := rfl
@[simp ↓] theorem enumF_s {t : FA} {ρ : FEnv} : enumF t ρ μ = bR (t ρ μ) enK := bnd_s
def ziK (ss : List SV) (μ : Mem) : R (List D) := match ss with
  | [.d (.tup l), .d (.tup m)] => .ok (zipD l m) μ
  | [.d (.ntp l), .d (.tup m)] => .ok (zipD l m) μ
  | [.d (.tup l), .d (.ntp m)] => .ok (zipD l m) μ
  | [.d (.ntp l), .d (.ntp m)] => .ok (zipD l m) μ
  | [.d (.lst l), .d (.lst m)] => .ok (zipD l m) μ
  | _ => .no
@[simp] theorem ziK_tt : ziK [.d (.tup l), .d (.tup m)] μ = .ok (zipD l m) μ := rfl
@[simp] theorem ziK_nt : ziK [.d (.ntp l), .d (.tup m)] μ = .ok (zipD l m) μ := rfl
@[simp] theorem ziK_tn : ziK [.d (.tup l), .d (.ntp m)] μ = .ok (zipD l m) μ := rfl
@[simp] theorem ziK_nn : ziK [.d (.ntp l), .d (.ntp m)] μ = .ok (zipD l m) μ := rfl
@[simp] theorem ziK_ll : ziK [.d (.lst l), .d (.lst m)] μ = .ok (zipD l m) μ := rfl
@[simp ↓] theorem zipF_s {t : FA} {ρ : FEnv} : zipF t ρ μ = bR (t ρ μ) ziK := bnd_s
noncomputable def r1K (ss : List SV) (μ : Mem) : R (List D) := match ss with
  | [.d (.int n)] => grd (-(2 ^ 62) ≤ n ∧ n < 2 ^ 62) (ret (rngD 0 n.toNat)) μ
  | _ => .no
@[simp] theorem r1K_s : r1K [.d (.int i)] μ = grd (-(2 ^ 62) ≤ i ∧ i < 2 ^ 62) (ret (rngD 0 i.toNat)) μ := rfl
@[simp ↓] theorem rng1F_s {t : FA} {ρ : FEnv} : rng1F t ρ μ = bR (t ρ μ) r1K := bnd_s
noncomputable def r2K (ss : List SV) (μ : Mem) : R (List D) := match ss with
  | [.d (.int lo), .d (.int hi)] => grd (-(2 ^ 62) ≤ lo ∧ lo < 2 ^ 62 ∧ -(2 ^ 62) ≤ hi ∧ hi < 2 ^ 62) (ret (rngD lo (hi - lo).toNat)) μ
  | _ => .no
@[simp] theorem r2K_s : r2K [.d (.int i), .d (.int j)] μ = grd (-(2 ^ 62) ≤ i ∧ i < 2 ^ 62 ∧ -(2 ^ 62) ≤ j ∧ j < 2 ^ 62) (ret (rngD i (j - i).toNat)) μ := rfl
@[simp ↓] theorem rng2F_s {t : FA} {ρ : FEnv} : rng2F t ρ μ = bR (t ρ μ) r2K := bnd_s
@[simp] theorem slF_t {lo hi : Option Int} : slF (.d (.tup l)) lo hi μ = .ok (.d (.tup (cutD l lo hi))) μ := rfl
@[simp] theorem slF_n {lo hi : Option Int} : slF (.d (.ntp l)) lo hi μ = .ok (.d (cutN l lo hi)) μ := rfl
@[simp] theorem slF_l {lo hi : Option Int} : slF (.d (.lst l)) lo hi μ = .ok (.d (.lst (cutD l lo hi))) μ := rfl
@[simp] theorem slF_sc {lo hi : Option Int} {z : List Int} : slF (.d (.scr z)) lo hi μ = .ok (.d (.lst (cutD (z.map .int) lo hi))) μ := rfl
@[simp ↓] theorem gSub_s {o i : FX} {s : SV} {ρ : FEnv} : gSub o i s ρ μ = bR (o ρ μ) fun so => bnd (i ρ) fun si μ => match so, si, s with
  | .c k, .d (.int i), .d v => match μ[k]? with
    | some (.lst l) => match ixN l.length i with
      | some j => .ok ρ (μ.set k (.lst (l.set j v)))
      | none => .no
    | _ => .no
  | _, _, _ => .no := bnd_s
end
end PL
namespace PL
open PySem PySem.Spec PyProof.Rows L2 RZ
section
variable {X : Cx} {W : WX} {a b c e o i tg iter elt tg1 iter1 : Expr} {es ifs ifs1 : List Expr} {n : Nat} {fa fb fc fe fo fi : FX} {ft fu : FT} {fl fk : FA} {pos p apos cpos tpos p1 p2 p3 pos' ppos : Pos} {x : Str} {st : Stmt} {rest : List Stmt} {s u : FS} {g g1 : FG} {it it1 : FI} {own : List Nat} {kk : Nat}
def revF (s : SV) : M SV := fun μ => match s with
  | .d (.tup l) => .ok (.d (.tup l.reverse)) μ
  | .d (.ntp l) => .ok (.d (.tup l.reverse)) μ
  | s => match lstOf s μ with
    | some l => .ok (.d (.lst l.reverse)) μ
    | none => .no
@[simp] theorem revF_t {l : List D} {μ : Mem} : revF (.d (.tup l)) μ = .ok (.d (.tup l.reverse)) μ := rfl
@[simp] theorem revF_n {l : List D} {μ : Mem} : revF (.d (.ntp l)) μ = .ok (.d (.tup l.reverse)) μ := rfl
@[simp] theorem revF_l {l : List D} {μ : Mem} : revF (.d (.lst l)) μ = .ok (.d (.lst l.reverse)) μ := rfl
def upperF (s : SV) : M SV := fun μ => match s with
  | .d (.str z) => if z.length ≤ 5592405 then .ok (.d (.str (Txt.upper z))) μ else .no
  | _ => .no
@[simp] theorem upperF_s {z : Str} {μ : Mem} : upperF (.d (.str z)) μ = if z.length ≤ 5592405 then .ok (.d (.str (Txt.upper z))) μ else .no := rfl
def strF (ss : List SV) : M SV := fun μ => match ss with
  | [.d (.int i)] => if i.natAbs.log2 < 1920 then .ok (.d (.str (toString i))) μ else .no
  | _ => .no
@[simp] theorem strF_i {i : Int} {μ : Mem} : strF [.d (.int i)] μ = if i.natAbs.log2 < 1920 then .ok (.d (.str (toString i))) μ else .no := rfl
abbrev FPs := FEnv → M (List (D × D))
def fpNil : FPs := fun _ => ret []
def pairM (k v : SV) (ps : List (D × D)) : M (List (D × D)) := fun μ => match k, v with
  | .d a, .d b => .ok ((a, b) :: ps) μ
  | _, _ => .no
@[simp] theorem pairM_s {a b : D} {ps : List (D × D)} {μ : Mem} : pairM (.d a) (.d b) ps μ = .ok ((a, b) :: ps) μ := rfl
def fpCons (k v : FX) (r : FPs) : FPs := fun ρ => bnd (k ρ) fun a => bnd (v ρ) fun b => bnd (r ρ) fun ps => pairM a b ps
noncomputable def fDisp (r : FPs) : FX := fun ρ => bnd (r ρ) fun ps => grd ((∀ p ∈ ps, fitK false p.1 = true) ∧ ps.length ≤ 15) (ret (.d (.dic false (mergeD [] [] ps).1 (mergeD [] [] ps).2)))
@[simp ↓] theorem fpNil_s {ρ : FEnv} {μ : Mem} : fpNil ρ μ = .ok [] μ := rfl
@[simp ↓] theorem fpCons_s {k v : FX} {r : FPs} {ρ : FEnv} {μ : Mem} : fpCons k v r ρ μ = bR (k ρ μ) fun a => bnd (v ρ) fun b => bnd (r ρ) fun ps => pairM a b ps := bnd_s
@[simp ↓] theorem fDisp_s {r : FPs} {ρ : FEnv} {μ : Mem} : fDisp r ρ μ = bR (r ρ μ) fun ps => grd ((∀ p ∈ ps, fitK false p.1 = true) ∧ ps.length ≤ 15) (ret (.d (.dic false (mergeD [] [] ps).1 (mergeD [] [] ps).2))) := bnd_s
end
end PL
namespace PL
open PySem PySem.Spec PyProof.Rows L2 RZ
section
variable {X : Cx} {W : WX} {a b : Expr} {fl : FA} {n : Nat} {pos : Pos}
theorem pfs_par2 {i j : Nat} {x y : Str} {px py pt : Pos} {kt k2 pt2} (hc : X.calm = true) (hN : X.N.Nodup) (hi : X.N[i]? = some x) (hj : X.N[j]? = some y)
    (hx : Loc X.env.scope x) (hy : Loc X.env.scope y) (ha : PXA X W [a, b] (toA n fl))
    (hfx : X.fn x = true ∨ X.env.scope.names.lookup x = some .local) (hfy : X.fn y = true ∨ X.env.scope.names.lookup y = some .local)
    (hw : swappedStores [.Tuple [.Name x px, .Name y py] kt pt] (.Tuple [a, b] k2 pt2) X.env = pure none := by rfl)
    (hs : swapsWithSole [.Tuple [.Name x px, .Name y py] kt pt] (.Tuple [a, b] k2 pt2) pos.line X.env = pure false := by rfl)
    (h1 : (assignEach [.Tuple [.Name x px, .Name y py] kt pt] X.env).map (·.2) = [assign (.Tuple [.Name x px, .Name y py] kt pt) X.env] := by rfl)
    (hn : (assignEach [.Name x px, .Name y py] X.env).length = 2 := by rfl) (hst : (assignEach [.Name x px, .Name y py] X.env).findIdx? (·.1) = none := by rfl)
    (hs1 : (assignEach [.Name x px, .Name y py] X.env).map (·.2) = assign (.Name x px) X.env :: (assignEach [.Name y py] X.env).map (·.2) := by rfl)
    (hs2 : (assignEach [.Name y py] X.env).map (·.2) = assign (.Name y py) X.env :: (assignEach [] X.env).map (·.2) := by rfl) :
    PXS X W (.Assign [.Tuple [.Name x px, .Name y py] kt pt] (.Tuple [a, b] k2 pt2) pos) (toS n (fPar i j fl)) :=
  (psx_par2 hc hN hi hj hx hy ha hfx hfy hw hs h1 hn hst hs1 hs2).to fun E ρ μ ⟨hn, h⟩ => ⟨hn, R.mono (fin_bnd.mp h) fun ss μ1 h1 => by
    split at h1
    · rename_i s r
      show E.nx ((ρ.set i s).set j r) μ1
      rw [← set_put (n := n) (ρ.set i s) j r hn]
      exact h1
    · exact h1.elim⟩
end
end PL
namespace PL
open PySem PySem.Spec PyProof.Rows L2 RZ
section
variable {X : Cx} {W : WX} {a b e : Expr} {fa fb : FX} {fl : FA} {n : Nat} {pos p : Pos}
noncomputable def addCF (s t : SV) : M SV := fun μ => match lstOf s μ, lstOf t μ with
  | some l, some m => grd (l.length + m.length ≤ sizeLine) (fun μ => .ok (.c μ.length) (μ ++ [.lst (l ++ m)])) μ
  | _, _ => .no
noncomputable def mulCF (s t : SV) : M SV := fun μ => match t with
  | .d (.int j) => match lstOf s μ with
    | some l => grd (-(2 ^ 63) ≤ j ∧ j < 2 ^ 63 ∧ l.length * j.toNat ≤ sizeLine) (fun μ => .ok (.c μ.length) (μ ++ [.lst (List.replicate j.toNat l).flatten])) μ
    | none => .no
  | _ => .no
noncomputable def sortedCF : List SV → M SV := fun ss μ => match ss with
  | [s] => match lstOf s μ with
    | some l => grd (okSort l) (fun μ => .ok (.c μ.length) (μ ++ [.lst (srtD l)])) μ
    | none => .no
  | _ => .no
section
variable {l m : List D} {μ : Mem} {j : Int} {k i : Nat}
@[simp] theorem addCF_l : addCF (.d (.lst l)) (.d (.lst m)) μ = grd (l.length + m.length ≤ sizeLine) (fun μ => .ok (.c μ.length) (μ ++ [.lst (l ++ m)])) μ := rfl
@[simp] theorem mulCF_l : mulCF (.d (.lst l)) (.d (.int j)) μ = grd (-(2 ^ 63) ≤ j ∧ j < 2 ^ 63 ∧ l.length * j.toNat ≤ sizeLine) (fun μ => .ok (.c μ.length) (μ ++ [.lst (List.replicate j.toNat l).flatten])) μ := rfl
@[simp] theorem sortedCF_l : sortedCF [.d (.lst l)] μ = grd (okSort l) (fun μ => .ok (.c μ.length) (μ ++ [.lst (srtD l)])) μ := rfl
end
end
end PL
namespace PL
open PySem PySem.Spec PyProof.Rows L2
open Classical in
noncomputable def putSs (ks : List D) (vs : List SV) (k : D) (v : SV) : List SV := if k ∈ ks then List.zipWith (fun k' v' => if k' = k then v else v') ks vs else vs ++ [v]
section
variable {κ : Type} [DecidableEq κ] {kd : κ → D} {K : PySem.W.Frag} {A : List Addr} {G : Hp}
end
section
variable {X : Cx} {W : WX} {a b c e o i : Expr} {ta tb tc te to ti : TX} {tL : TXA} {pos apos cpos pos' : Pos}
def findF {α : Type} (f : Str) : List Str → List α → Option α
  | n :: ns, v :: vs => if f == n then some v else findF f ns vs
  | _, _ => none
def putFn (f : Str) : List Str → List Str
  | [] => [f]
  | g :: r => if g = f then g :: r else g :: putFn f r
def putFv {α : Type} (f : Str) (v : α) : List Str → List α → List α
  | [], _ => [v]
  | g :: r, x :: xs => if g = f then v :: xs else x :: putFv f v r xs
  | _ :: _, [] => []
end
end PL
namespace PL
open PySem PySem.Spec PyProof.Rows L2
section
variable {P : Program} {w : World} {K : PySem.W.Frag} {mg : Str → Option Value} {base : Heap}
end
section
variable {X : Cx} {W : WX} {a b c e o : Expr} {es : List Expr} {ta tb te to : TX} {tL : TXA} {pos apos ppos : Pos} {ps : List Str} {p : PSp} {k k' : Nat} {C m : Str}
end
end PL
namespace PL
open PySem PySem.Spec PyProof.Rows L2 RZ
section
variable {P : Program} {w : World} {A : Around} {E : Value → Shared → Prop} {s : Shared} {z TI TO i1 i2 l1 l2 T : Addr} {f : Bool} {oT : Obj} {k m : Nat} {xs ys : Array Value} {Q : Option Value → Shared → Prop}
/-- a draw from a zip whose pair is kept by others: a pair is made anew -/
theorem zh_draw {x y : Value} (D : ZipApart z TI TO i1 i2 l1 l2) (hz : IsZipHeld s.heap z TI TO T f) (hT : s.heap.get? T = some oT) (hp : IsPair s.heap TI (.ref i1) (.ref i2))
    (a1 : s.heap.IsTupleIter i1 l1 k) (a2 : s.heap.IsTupleIter i2 l2 m) (b1 : s.heap.IsTuple l1 xs) (b2 : s.heap.IsTuple l2 ys) (e1 : xs[k]? = some x) (e2 : ys[m]? = some y)
    (q : ∀ g, IsZipHeld g z TI TO T true → g.IsTupleIter i1 l1 (k + 1) → g.IsTupleIter i2 l2 (m + 1) → IsPair g s.heap.objs.size x y → (∀ c o, c ∉ [z, i1, i2] → s.heap.get? c = some o → g.get? c = some o) →
      Q (some (.ref s.heap.objs.size)) { s with heap := g }) : wpAny (model P w) A (pyNext (.ref z)) Q E s := by
  unfold pyNext
  refine wpAny_bind (wpAny_attempt (wpAny_callSpecial?_slot (name := Str.ofString "__next__") ⟨_, hz, rfl⟩ F.slot_zip_next (wpAny_call_entry (Q := fun v s' => wpAny (model P w) A (pure (some v)) Q E s') F.slot_zip_next ⟨_, hz, rfl⟩ F.entry_zip_next ?_ (F.args_zip_next_1 _))))
  show wpAny (model P w) A.in1 (field (.ref z) 2 >>= _) _ _ s
  refine wpAny_bind (wpAny_field hz rfl (x := .bool false) rfl ?_)
  show wpAny (model P w) A.in1 (field (.ref z) 3 >>= _) _ _ s
  refine wpAny_bind (wpAny_field hz rfl (x := .ref TI) rfl (wpAny_bind (wpAny_seqItems hp rfl ?_)))
  show wpAny (model P w) A.in1 (Builtin.SmallTypes.ownedTupleIsFree (.ref z) >>= _) _ _ s
  refine wpAny_bind (wpAny_tupleHeld_zip hz hT fun g0 z0 t0 => ?_)
  simp only [Bool.false_eq_true, if_false]
  refine wpAny_bind ?_
  rw [← Array.forIn_toList]
  simp only [List.forIn_cons, List.forIn_nil]
  refine wpAny_bind (wpAny_bind (wpAny_holding ?_))
  show wpAny (model P w) A.in1 (Builtin.SmallTypes.nextOf (.ref i1) >>= _) _ _ _
  refine wpAny_bind (nextOf_tuple_item (s := { s with heap := g0 }) (a1.extBut t0.extBut D.i1z) (b1.extBut t0.extBut D.l1z) e1 fun g1 c1 t1 => wpAny_pure (wpAny_pure (wpAny_bind (wpAny_bind (wpAny_holding ?_)))))
  show wpAny (model P w) A.in1 (Builtin.SmallTypes.nextOf (.ref i2) >>= _) _ _ _
  refine wpAny_bind (nextOf_tuple_item (s := { s with heap := g1 }) ((a2.extBut t0.extBut D.i2z).extBut t1.extBut D.i12.symm) ((b2.extBut t0.extBut D.l2z).extBut t1.extBut D.l2i1) e2 fun g2 c2 t2 => wpAny_pure (wpAny_pure (wpAny_pure ?_)))
  show wpAny (model P w) A.in1 (newTuple [x, y] >>= _) _ _ _
  have hs : g2.objs.size = s.heap.objs.size := t2.1.trans (t1.1.trans t0.1)
  refine wpAny_bind (wpAny_newTuple (wpAny_pure ⟨.ref g2.objs.size, rfl, wpAny_pure ?_⟩))
  rw [hs]
  have old : ∀ c o, c ∉ [z, i1, i2] → s.heap.get? c = some o → g2.get? c = some o := fun c o hc e => by
    simp only [List.mem_cons, List.not_mem_nil, or_false, not_or] at hc
    exact t2.extBut _ _ hc.2.2 (t1.extBut _ _ hc.2.1 (t0.extBut _ _ hc.1 e))
  refine q _ (Heap.get?_push_of_some _ (t2.extBut _ _ D.i2z.symm (t1.extBut _ _ D.i1z.symm z0))) ((c1.extBut t2.extBut D.i12).at fun o e => Heap.get?_push_of_some _ e) (c2.at fun o e => Heap.get?_push_of_some _ e) ?_ fun c o hc e => Heap.get?_push_of_some _ (old c o hc e)
  have := Heap.get?_push_size g2 (o := { cls := .type "tuple", data := .seq #[x, y] }) rfl
  rw [hs] at this
  exact this
/-- the end of such a zip -/
theorem zh_stop (hh : A.handled = none) (D : ZipApart z TI TO i1 i2 l1 l2) (hz : IsZipHeld s.heap z TI TO T f) (hT : s.heap.get? T = some oT) (hp : IsPair s.heap TI (.ref i1) (.ref i2))
    (a1 : s.heap.IsTupleIter i1 l1 k) (a2 : s.heap.IsTupleIter i2 l2 m) (b1 : s.heap.IsTuple l1 xs) (b2 : s.heap.IsTuple l2 ys) (he : xs[k]? = none ∨ ys[m]? = none)
    (q : ∀ g, (∀ c o, c ∉ [z, i1, i2] → s.heap.get? c = some o → g.get? c = some o) → Q none { s with heap := g }) : wpAny (model P w) A (pyNext (.ref z)) Q E s := by
  unfold pyNext
  have ty : s.TypeIs (.ref z) "zip" := ⟨_, hz, rfl⟩
  refine wpAny_bind (wpAny_attempt (wpAny_callSpecial?_slot (name := Str.ofString "__next__") ty F.slot_zip_next (wpAny_call_entry F.slot_zip_next ty F.entry_zip_next ?_ (F.args_zip_next_1 _))))
  have raised : ∀ (g : Heap) (e : Addr), (∀ c o, c ∉ [z, i1, i2] → s.heap.get? c = some o → g.get? c = some o) → (∃ o, g.get? e = some o ∧ o.cls = .type "StopIteration") → wpAny (model P w) A (isInstance (.ref e) (.type "StopIteration") >>= fun b => if b = true then pure none else throw (.ref e)) Q E { s with heap := g } := fun g e kp ⟨o, eo, ec⟩ =>
    wpAny_bind (wpAny_isInstance (T := "StopIteration") (b := true) ⟨o, eo, ec⟩ isSubtype_stop (wpAny_pure (q g kp)))
  show wpAny (model P w) A.in1 (field (.ref z) 2 >>= _) _ _ s
  refine wpAny_bind (wpAny_field hz rfl (x := .bool false) rfl ?_)
  show wpAny (model P w) A.in1 (field (.ref z) 3 >>= _) _ _ s
  refine wpAny_bind (wpAny_field hz rfl (x := .ref TI) rfl (wpAny_bind (wpAny_seqItems hp rfl ?_)))
  show wpAny (model P w) A.in1 (Builtin.SmallTypes.ownedTupleIsFree (.ref z) >>= _) _ _ s
  refine wpAny_bind (wpAny_tupleHeld_zip hz hT fun g0 z0 t0 => ?_)
  simp only [Bool.false_eq_true, if_false]
  refine wpAny_bind ?_
  rw [← Array.forIn_toList]
  simp only [List.forIn_cons, List.forIn_nil]
  refine wpAny_bind (wpAny_bind (wpAny_holding ?_))
  show wpAny (model P w) A.in1 (Builtin.SmallTypes.nextOf (.ref i1) >>= _) _ _ _
  cases e1 : xs[k]? with
  | none =>
    exact wpAny_bind (nextOf_tuple_end (s := { s with heap := g0 }) hh (a1.extBut t0.extBut D.i1z) (b1.extBut t0.extBut D.l1z) e1 fun g1 e t1 ee => raised g1 e (fun c o hc eo => by
      simp only [List.mem_cons, List.not_mem_nil, or_false, not_or] at hc
      exact t1 _ _ hc.2.1 (t0.extBut _ _ hc.1 eo)) ee)
  | some x =>
    have e2 : ys[m]? = none := he.resolve_left (by rw [e1]; exact nofun)
    refine wpAny_bind (nextOf_tuple_item (s := { s with heap := g0 }) (a1.extBut t0.extBut D.i1z) (b1.extBut t0.extBut D.l1z) e1 fun g1 c1 t1 => wpAny_pure (wpAny_pure (wpAny_bind (wpAny_bind (wpAny_holding ?_)))))
    show wpAny (model P w) A.in1 (Builtin.SmallTypes.nextOf (.ref i2) >>= _) _ _ _
    exact wpAny_bind (nextOf_tuple_end (s := { s with heap := g1 }) hh ((a2.extBut t0.extBut D.i2z).extBut t1.extBut D.i12.symm) ((b2.extBut t0.extBut D.l2z).extBut t1.extBut D.l2i1) e2 fun g2 e t2 ee => raised g2 e (fun c o hc eo => by
      simp only [List.mem_cons, List.not_mem_nil, or_false, not_or] at hc
      exact t2 _ _ hc.2.2 (t1.extBut _ _ hc.2.1 (t0.extBut _ _ hc.1 eo))) ee)
end
/-- such a zip: nothing given out yet, or its first pair still held -/
def ZSt (z TI TO i1 i2 a b : Addr) (k : Nat) (ts : List Addr) (h : Heap) : Prop :=
  IsPair h TI (.ref i1) (.ref i2) ∧ h.IsTupleIter i1 a k ∧ h.IsTupleIter i2 b k ∧ match ts with
    | [] => IsZip h z TI TO .none ∧ ∃ u v, IsPair h TO u v
    | T :: _ => ∃ f, IsZipHeld h z TI TO T f
theorem ZSt.keep {z TI TO i1 i2 a b : Addr} {k : Nat} {ts : List Addr} {h g : Heap} (Z : ZSt z TI TO i1 i2 a b k ts h) (kp : ∀ c ∈ [z, TI, TO, i1, i2], ∀ o, h.get? c = some o → g.get? c = some o) : ZSt z TI TO i1 i2 a b k ts g := by
  obtain ⟨p, x, y, w⟩ := Z
  refine ⟨kp TI (by simp) _ p, x.at fun o => kp i1 (by simp) o, y.at fun o => kp i2 (by simp) o, ?_⟩
  cases ts with
  | nil =>
    obtain ⟨w1, u, v, w2⟩ := w
    exact ⟨kp z (by simp) _ w1, u, v, kp TO (by simp) _ w2⟩
  | cons T r =>
    obtain ⟨f, w⟩ := w
    exact ⟨f, kp z (by simp) _ w⟩
end PL
namespace PL
open PySem PySem.Spec PyProof.Rows L2 RZ
section
variable {X : Cx} {W : WX} {a b : Expr} {tL : TXA} {pos pos2 p p2 : Pos}
end
end PL
namespace PL
open PySem PySem.Spec PyProof.Rows L2 RZ
/-- what a zip of two tuples is while a dict at d is filled from it -/
def ZD (z TI TO i1 i2 a b d : Addr) (xs ys : Array Value) (i : Nat) (h : Heap) : Prop :=
  (∃ ts, ZSt z TI TO i1 i2 a b i ts h ∧ ∀ T r, ts = T :: r → T ≠ d ∧ ∃ o, h.get? T = some o ∧ T ∉ [z, TO, i1, i2]) ∧ h.IsTuple a xs ∧ h.IsTuple b ys
theorem zd_src {P : Program} {w : World} {A : Around} {z TI TO i1 i2 a b d : Addr} {xs ys : Array Value} (hh : A.handled = none) (D : ZipApart z TI TO i1 i2 a b) (hd : d ∉ [z, TI, TO, i1, i2, a, b]) :
    PairSrc P w A z d [z, TO, i1, i2] (min xs.size ys.size) (fun i k v => xs[i]? = some k ∧ ys[i]? = some v) (ZD z TI TO i1 i2 a b d xs ys) := by
  have cell : ∀ c ∈ [z, TI, TO, i1, i2, a, b], c ≠ d := fun c hc e => hd (e ▸ hc)
  refine ⟨fun q => hd ?_, fun i h h' st kp => ?_, fun i s Q E hi st dl q => ?_, fun s Q E st q => ?_⟩
  · simp only [List.mem_cons, List.not_mem_nil, or_false] at q ⊢
    rcases q with q | q | q | q <;> simp [q]
  · obtain ⟨⟨ts, Z, ht⟩, p1, p2⟩ := st
    refine ⟨⟨ts, Z.keep fun c hc o e => kp c o (cell c ?_) e, fun T r e => ?_⟩, p1.at fun o e => kp a o (cell a (by simp)) e, p2.at fun o e => kp b o (cell b (by simp)) e⟩
    · simp only [List.mem_cons, List.not_mem_nil, or_false] at hc ⊢
      rcases hc with q | q | q | q | q <;> simp [q]
    · obtain ⟨nd, o, go, nz⟩ := ht T r e
      exact ⟨nd, o, kp T o nd go, nz⟩
  · obtain ⟨⟨ts, ⟨hp, a1, a2, zz⟩, ht⟩, p1, p2⟩ := st
    have ex : xs[i]? = some (xs[i]'(by omega)) := Array.getElem?_eq_getElem _
    have ey : ys[i]? = some (ys[i]'(by omega)) := Array.getElem?_eq_getElem _
    have new : ∀ c o, s.heap.get? c = some o → s.heap.objs.size ≠ c := fun c o e => Nat.ne_of_gt (Heap.lt_size e)
    have n1 : s.heap.objs.size ≠ i1 := let ⟨o, e, _⟩ := a1; new _ o e
    have n2 : s.heap.objs.size ≠ i2 := let ⟨o, e, _⟩ := a2; new _ o e
    cases ts with
    | nil =>
      obtain ⟨z1, u, v, z2⟩ := zz
      refine pyNext_zipT_item D z1 hp z2 a1 a2 p1 p2 ex ey fun g z3 z4 c1 c2 gp gs kp => q s.heap.objs.size _ _ g s.toks ⟨ex, ey⟩ (.inl ⟨_, gp, rfl, _, rfl⟩) ⟨⟨[s.heap.objs.size], ⟨kp _ _ D.TIz D.TITO D.TIi1 D.TIi2 hp, c1, c2, false, z3⟩, fun T r e => ?_⟩, p1.at fun o e => kp a o D.l1z D.l1TO D.l1i1 D.l1i2 e, p2.at fun o e => kp b o D.l2z D.l2TO D.l2i1 D.l2i2 e⟩
        fun c o hc e => kp c o (fun q => hc (by simp [q])) (fun q => hc (by simp [q])) (fun q => hc (by simp [q])) (fun q => hc (by simp [q])) e
      cases e
      exact ⟨Nat.ne_of_gt dl, _, gp, by simp [new _ _ z1, new _ _ z2, n1, n2]⟩
    | cons T r =>
      obtain ⟨f, z1⟩ := zz
      obtain ⟨nd, o, go, nz⟩ := ht T r rfl
      refine zh_draw D z1 go hp a1 a2 p1 p2 ex ey fun g z3 c1 c2 gp kp => q s.heap.objs.size _ _ g s.toks ⟨ex, ey⟩ (.inl ⟨_, gp, rfl, _, rfl⟩) ⟨⟨T :: r, ⟨kp _ _ (by simp [D.TIz, D.TIi1, D.TIi2]) hp, c1, c2, true, z3⟩, fun T' r' e => ?_⟩, p1.at fun o e => kp a o (by simp [D.l1z, D.l1i1, D.l1i2]) e, p2.at fun o e => kp b o (by simp [D.l2z, D.l2i1, D.l2i2]) e⟩
        fun c o hc e => kp c o (fun q => hc (by
          simp only [List.mem_cons, List.not_mem_nil, or_false] at q ⊢
          rcases q with q | q | q <;> simp [q])) e
      cases e
      refine ⟨nd, o, kp T o (fun q => nz ?_) go, nz⟩
      simp only [List.mem_cons, List.not_mem_nil, or_false] at q ⊢
      rcases q with q | q | q <;> simp [q]
  · obtain ⟨⟨ts, ⟨hp, a1, a2, zz⟩, ht⟩, p1, p2⟩ := st
    have hend : xs[min xs.size ys.size]? = none ∨ ys[min xs.size ys.size]? = none := by
      simp only [Array.getElem?_eq_none_iff]
      omega
    cases ts with
    | nil =>
      obtain ⟨z1, u, v, z2⟩ := zz
      exact pyNext_zipT_end hh D z1 hp z2 a1 a2 p1 p2 hend fun g kp => q g s.toks fun c o hc e => kp c o (fun q => hc (by simp [q])) (fun q => hc (by simp [q])) (fun q => hc (by simp [q])) (fun q => hc (by simp [q])) e
    | cons T r =>
      obtain ⟨f, z1⟩ := zz
      obtain ⟨nd, o, go, nz⟩ := ht T r rfl
      exact zh_stop hh D z1 go hp a1 a2 p1 p2 hend fun g kp => q g s.toks fun c o hc e => kp c o (fun q => hc (by
        simp only [List.mem_cons, List.not_mem_nil, or_false] at q ⊢
        rcases q with q | q | q <;> simp [q])) e
/-- a zip of two tuples as dict's argument -/
theorem zd_arg {P : Program} {w : World} {z TI TO i1 i2 a b : Addr} {xs ys : Array Value} (D : ZipApart z TI TO i1 i2 a b) :
    PairArg P w "zip" z [z, TI, TO, i1, i2, a, b] [z, TO, i1, i2] (min xs.size ys.size) (fun i k v => xs[i]? = some k ∧ ys[i]? = some v) (fun h => ZSt z TI TO i1 i2 a b 0 [] h ∧ h.IsTuple a xs ∧ h.IsTuple b ys) where
  type := fun s ok => ⟨_, ok.1.2.2.2.1, rfl⟩
  notDict := by decide
  keep := fun h h' ok kp => ⟨ok.1.keep fun c _ o e => kp c o e, ok.2.1.at fun o e => kp a o e, ok.2.2.at fun o e => kp b o e⟩
  there := fun h ok c hc => by
    obtain ⟨⟨hp, ⟨o1, g1, _⟩, ⟨o2, g2, _⟩, z1, u, v, z2⟩, ⟨o3, g3, _⟩, o4, g4, _⟩ := ok
    simp only [List.mem_cons, List.not_mem_nil, or_false] at hc
    rcases hc with rfl | rfl | rfl | rfl | rfl | rfl | rfl <;> exact ⟨_, by assumption⟩
  sub := fun c hc => by
    simp only [List.mem_cons, List.not_mem_nil, or_false] at hc ⊢
    rcases hc with q | q | q | q <;> simp [q]
  noKeys := fun A s Q E hh ok h => getAttrOr_miss_zip ok.1.2.2.2.1 rfl rfl rfl zip_no_keys (by decide +kernel) hh h
  iter := fun A s d Q E hh ok _ hd q => wpAny_pyIter_zip ok.1.2.2.2.1 (q z _ _ s.heap s.toks (zd_src hh D hd) ⟨⟨[], ok.1, fun _ _ e => nomatch e⟩, ok.2⟩ (fun _ _ e => e) fun c hc => .inl hc)
end PL
namespace PL
open PySem PySem.Spec PyProof.Rows L2 RZ
theorem kv_zip : ∀ {ks : List Key} {ys : List V} {us : List Value}, Vals ys us → KV (ks.zip ys) (ks.zip us)
  | [], _, _, _ => .nil
  | _ :: _, [], _, .nil => .nil
  | _ :: _, _ :: _, _ :: _, .cons r rs => .cons ⟨rfl, r⟩ (kv_zip rs)
/-- d the new dict -/
def tDZ (K : PySem.W.Frag) (ta : TA) : TE := fun σ H Q => ta σ H fun vs H1 => ∃ (a b : Addr) (ks : List Key) (ys : List V), vs = [.ref a, .ref b] ∧ SqT K H1 a (ks.map kV) ∧ SqT K H1 b ys ∧ ∀ d, H1 d = none → Q (.ref d) (upd H1 d (.dK (mergeK [] (ks.zip ys))))
theorem pe_dzip {X : Cx} {e e2 : Expr} {ta : TA} {p p2 pos pos2 : Pos} (hc : X.calm = true) (hg : Gl X "dict") (hm : X.mg "dict" = none) (hg2 : Gl X "zip") (hm2 : X.mg "zip" = none) (ha : PA X [e, e2] ta)
    (hs : starEach [e, e2] X.env = (false, eval e X.env) :: starEach [e2] X.env := by rfl) (hpl : (backTo pos (starEach [e2] X.env)).any (·.1) = false := by rfl) :
    PE X (.Call (.Name "dict" p2) [.Call (.Name "zip" p) [e, e2] [] pos] [] pos2) (tDZ X.K ta) := by
  refine ⟨fun pins s σ H Q I h => ?_⟩
  refine Call_ (ld_blt I hg hm PyProof.Rows.boot_dict (PyProof.Rows.callWith_type1 ?_ rfl rfl))
  refine Calls.spliced_cons ?_
  refine Call_ (ld_blt I hg2 hm2 PyProof.Rows.boot_zip (PyProof.Rows.callWith_type1 (thn (ha.run pos pins s σ H _ I h) fun us s1 ⟨vs, H1, I1, r1, q1⟩ => ?_) hs hpl))
  obtain ⟨a, b, ks, ys, ev, hx, hy, q⟩ := q1
  subst ev
  have hus : us = [.ref a, .ref b] := by
    cases r1 with
    | cons r rr => cases rr with
      | cons r' rr =>
        cases rr
        cases r
        cases r'
        rfl
  subst hus
  obtain ⟨its, rv, p1, l1⟩ := I1.tuple hx
  obtain ⟨its2, rv2, p2, l2⟩ := I1.tuple hy
  obtain ⟨o1, ho1, _⟩ := id p1
  obtain ⟨o2, ho2, _⟩ := id p2
  refine call_zipT (show s1.heap.IsTuple a its.toArray from p1) (show s1.heap.IsTuple b its2.toArray from p2) fun g z1 z2 z3 a1 a2 sz kp => ?_
  have I2 : Inv X pins σ H1 { s1 with heap := g } := I1.kept (t' := s1.toks) kp
  refine Calls.spliced_nil ?_
  have hl1 := rv.length
  have hl2 := rv2.length
  rw [List.length_map] at hl1 l1
  have hlen : (ks.zip its2).length ≤ sizeLine := by rw [List.length_zip]; omega
  have fpc : ∀ c ∈ [s1.heap.objs.size + 4, s1.heap.objs.size + 3, s1.heap.objs.size, s1.heap.objs.size + 1], FpOk X pins H1 c := fun c hcm => by
    have hle : ∃ j, c = s1.heap.objs.size + j := by
      simp only [List.mem_cons, List.not_mem_nil, or_false] at hcm
      rcases hcm with q | q | q | q
      · exact ⟨4, q⟩
      · exact ⟨3, q⟩
      · exact ⟨0, q⟩
      · exact ⟨1, q⟩
    obtain ⟨j, rfl⟩ := hle
    have up : s1.heap.objs.size ≤ s1.heap.objs.size + j := Nat.le_add_right _ _
    exact I1.fpOk up (I1.hok.fresh up)
  refine PySem.call_dict_pairs (s := { s1 with heap := g }) (knd := mixKind X.prog X.w) (kvs := ks.zip its2) (zd_arg (xs := its.toArray) (ys := its2.toArray) (PySem.W.ktu_apart s1.heap.objs.size a b (Heap.lt_size ho1) (Heap.lt_size ho2))) (I.ok.hd hc)
    ⟨⟨z2, a1, a2, z1, _, _, z3⟩, show g.IsTuple a _ from p1.keeps kp, show g.IsTuple b _ from p2.keeps kp⟩ ⟨by rw [List.length_zip]; simp; omega, fun i key v e => ?_⟩ (by simp; omega) fun g' tk hd' kp' => ?_
  · obtain ⟨e1, e2⟩ := e
    rw [List.getElem?_toArray] at e1 e2
    have hi : i < ks.length := by
      have := (List.getElem?_eq_some_iff.mp e1).1
      omega
    have ek : ks[i]? = some ks[i] := List.getElem?_eq_getElem hi
    obtain ⟨u, eu, ru⟩ := rv.get (x := kV ks[i]) (by rw [List.getElem?_map, ek]; rfl)
    rw [e1] at eu
    cases eu
    exact ⟨ks[i], by rw [List.getElem?_zip_eq_some]; exact ⟨ek, e2⟩, kV_is ru⟩
  · have hm' : (g.objs.size == sysModules) = false := beq_eq_false_iff_ne.mpr (Nat.ne_of_gt I2.big)
    have hk : (mergeK [] (ks.zip ys)).length ≤ sizeLine := by
      refine Nat.le_trans (length_mergeK _ []) ?_
      rw [List.length_nil, Nat.zero_add, List.length_zip]
      omega
    refine ⟨.ref g.objs.size, _, I2.turnedNew (t' := tk) (ch := [s1.heap.objs.size + 4, s1.heap.objs.size + 3, s1.heap.objs.size, s1.heap.objs.size + 1]) (fun c o hc e => kp' c o hc e) fpc (Nat.le_refl _) (show ObjOk X.prog X.w _ _ _ (.dK (mergeK [] (ks.zip ys))) from ⟨hk, hm', _, KV.merge (kv_zip rv2) .nil, hd'⟩), rfl, q _ I2.fresh⟩
end PL
namespace PL
open PySem PySem.Spec PyProof.Rows L2
theorem keys_back {K : PySem.W.Frag} {G : Hp} : ∀ {l : List D} {us : List V}, Reps K G l us → (∀ d ∈ l, fitK false d = true) → ∃ ks : List Key, us = ks.map kV
  | _, _, .nil, _ => ⟨[], rfl⟩
  | _, _, .cons r rs, f => by
    obtain ⟨k, rfl⟩ := fitF (f _ List.mem_cons_self)
    obtain ⟨ks, rfl⟩ := keys_back rs fun d hd => f d (List.mem_cons_of_mem _ hd)
    exact ⟨k :: ks, by rw [keyD_val r]; rfl⟩
theorem zip_rep {K : PySem.W.Frag} {G : Hp} : ∀ {l m : List D} {us ws : List V}, Reps K G l us → Reps K G m ws → RepPs K G (l.zip m) (us.zip ws)
  | _, _, _, _, .nil, _ => .nil
  | _, _, _, _, .cons _ _, .nil => .nil
  | _, _, _, _, .cons a as, .cons b bs => .cons a b (zip_rep as bs)
theorem zip_kV : ∀ (ks : List Key) (ws : List V) {ms : List (Key × V)}, (ks.map kV).zip ws = ms.map (fun kv => (kV kv.1, kv.2)) → ms = ks.zip ws
  | [], _, ms, h => (List.map_eq_nil_iff.mp h.symm)
  | _ :: _, [], ms, h => (List.map_eq_nil_iff.mp h.symm)
  | k :: ks, w :: ws, ms, h => by
    cases ms with
    | nil => cases h
    | cons m ms =>
      rw [List.map_cons, List.zip_cons_cons, List.map_cons, List.cons.injEq, Prod.mk.injEq] at h
      obtain ⟨⟨h1, h2⟩, h3⟩ := h
      have e1 : k = m.1 := by
        revert h1
        unfold kV
        cases k <;> cases m.1 <;> simp
      rw [List.zip_cons_cons, zip_kV ks ws h3, e1, h2]
noncomputable def xDZip (t : TXA) : TX := fun x ρ μ Q => t x ρ μ fun ss μ1 => match ss with
  | [s, s'] => on (tupOf s) fun l => on (tupOf s') fun m => (∀ d ∈ l, fitK false d = true) ∧ Q (.d (.dic false (mergeD [] [] (l.zip m)).1 (mergeD [] [] (l.zip m)).2)) μ1
  | _ => False
section
variable {X : Cx} {W : WX} {a b : Expr} {tL : TXA} {pos pos2 p p2 : Pos}
theorem px_dzip (hc : X.calm = true) (hg : Gl X "dict") (hm : X.mg "dict" = none) (hg2 : Gl X "zip") (hm2 : X.mg "zip" = none) (ha : PXA X W [a, b] tL)
    (hs : starEach [a, b] X.env = (false, eval a X.env) :: starEach [b] X.env := by rfl) (hpl : (backTo pos (starEach [b] X.env)).any (·.1) = false := by rfl) :
    PX X W (.Call (.Name "dict" p2) [.Call (.Name "zip" p) [a, b] [] pos] [] pos2) (xDZip tL) := by
  refine ⟨(pe_dzip hc hg hm hg2 hm2 ha.pa hs hpl).imp fun σ H Q h => ?_⟩
  obtain ⟨A, ρ, μ, G, Qp, x, S, ht, hx, k⟩ := h
  refine ⟨A, ρ, μ, G, _, x, S, ht, hx, fun ss μ1 A1 G1 H1 vs q c1 s1 r1 => ?_⟩
  match ss, q, r1 with
  | [s, s'], q, .cons (v := v) r (.cons (v := v') r' .nil) =>
    obtain ⟨l, e1, q⟩ := on_of q
    obtain ⟨m, e2, f, q⟩ := on_of q
    obtain ⟨u, us, rfl, h1, h2⟩ := tupOf_rep e1 c1 r
    obtain ⟨w, ws, rfl, h3, h4⟩ := tupOf_rep e2 c1 r'
    obtain ⟨ks, rfl⟩ := keys_back h2 f
    refine ⟨u, w, ks, ws, rfl, h1, h3, fun d hd => ?_⟩
    obtain ⟨ms, g1, g2, g3⟩ := merge_rep (kvs := []) (zip_rep h2 h4) (fun p hp => f _ (List.of_mem_zip hp).1) .nil
    obtain rfl := zip_kV ks ws g1
    obtain ⟨c2, s2⟩ := c1.laid (o := .dK (mergeK [] (ks.zip ws))) hd
    exact k _ _ _ _ _ _ q c2 (s1.trans s2) (Rep.dicK (.inl upd_same) g2 (g3.mono s2.le))
end
/-- unlike keys: the pairs as they are -/
theorem mergeD_new : ∀ {ps : List (D × D)} {ks vs : List D}, (ks ++ ps.map (·.1)).Nodup → mergeD ks vs ps = (ks ++ ps.map (·.1), vs ++ ps.map (·.2))
  | [], ks, vs, _ => by simp [mergeD]
  | (k, v) :: ps, ks, vs, h => by
    have nk : k ∉ ks := fun q => by
      rw [List.nodup_append] at h
      exact h.2.2 k q k (by simp) rfl
    have e1 : putKs ks k = ks ++ [k] := by simp [putKs, nk]
    have e2 : putVs ks vs k v = vs ++ [v] := by simp [putVs, nk]
    rw [mergeD, e1, e2, mergeD_new (by simpa using h)]
    simp
theorem mergeD_zip {l m : List D} (h : l.Nodup) (e : l.length = m.length) : mergeD [] [] (l.zip m) = (l, m) := by
  have e1 : (l.zip m).map (·.1) = l := List.map_fst_zip (Nat.le_of_eq e)
  have e2 : (l.zip m).map (·.2) = m := List.map_snd_zip (Nat.le_of_eq e.symm)
  rw [mergeD_new (by rw [List.nil_append, e1]; exact h), List.nil_append, List.nil_append, e1, e2]
end PL
namespace PL
open PySem PySem.Spec PyProof.Rows L2 RZ
section
variable {X : Cx} {W : WX} {a b e : Expr} {fl : FA} {n : Nat} {pos p pos2 p2 : Pos}
def lzipF : List SV → M SV := fun ss μ => match ss with
  | [s, t] => match tupOf s, tupOf t with
    | some l, some m => .ok (.d (.lst (zipD l m))) μ
    | _, _ => .no
  | _ => .no
/-- unlike texts or numbers, as many as the values -/
def KeysOf (l m : List D) : Prop := (l.Nodup ∧ l.length = m.length) ∧ ∀ d ∈ l, fitK false d = true
noncomputable def dzipF : List SV → M SV := fun ss μ => match ss with
  | [s, t] => match tupOf s, tupOf t with
    | some l, some m => grd (KeysOf l m) (ret (.d (.dic false l m))) μ
    | _, _ => .no
  | _ => .no
theorem pf_dzip (hc : X.calm = true) (hg : Gl X "dict") (hm : X.mg "dict" = none) (hg2 : Gl X "zip") (hm2 : X.mg "zip" = none) (ha : PXA X W [a, b] (toA n fl))
    (hs : starEach [a, b] X.env = (false, eval a X.env) :: starEach [b] X.env := by rfl) (hpl : (backTo pos (starEach [b] X.env)).any (·.1) = false := by rfl) :
    PX X W (.Call (.Name "dict" p2) [.Call (.Name "zip" p) [a, b] [] pos] [] pos2) (toX n (fCall dzipF fl)) :=
  (px_dzip hc hg hm hg2 hm2 ha hs hpl).to fun x ρ μ Q ⟨hn, h⟩ => ⟨hn, R.mono (fin_bnd.mp h) fun ss μ1 h1 => by
    unfold dzipF at h1
    split at h1
    · split at h1
      · rename_i l m e1 e2
        obtain ⟨⟨⟨g1, g2⟩, g3⟩, h1⟩ := fin_grd h1
        show on (tupOf _) _
        rw [e1]
        show on (tupOf _) _
        rw [e2]
        refine ⟨g3, ?_⟩
        rw [mergeD_zip g1 g2]
        exact h1
      · exact h1.elim
    · exact h1.elim⟩
end
section
variable {l m : List D} {μ : Mem}
@[simp] theorem lzipF_tt : lzipF [.d (.tup l), .d (.tup m)] μ = .ok (.d (.lst (zipD l m))) μ := rfl
@[simp] theorem lzipF_nt : lzipF [.d (.ntp l), .d (.tup m)] μ = .ok (.d (.lst (zipD l m))) μ := rfl
@[simp] theorem dzipF_tt : dzipF [.d (.tup l), .d (.tup m)] μ = grd (KeysOf l m) (ret (.d (.dic false l m))) μ := rfl
@[simp] theorem dzipF_nt : dzipF [.d (.ntp l), .d (.tup m)] μ = grd (KeysOf l m) (ret (.d (.dic false l m))) μ := rfl
end
end PL
namespace PL
open PySem PySem.Spec PyProof.Rows L2
section
variable {X : Cx} {σ τ : L2.St} {vs : List Nat} {fp : List Addr} {tn : Nat → Heap → Prop} {W : Nat → Nat → Hp → Prop}
/-- an item goes into a dict of ours -/
theorem item_in {pins : List (Addr × Obj)} {H H' : Hp} {s : Shared} {E : Value → Shared → Prop} {D : Addr} {y v : V} {u r : Value} {Q : Unit → Shared → Prop} (room : X.A.units < cLine) (I : Inv X pins σ H s) (put : DPut H D y v H')
    (ru : RelV y u) (rr : RelV v r) (next : ∀ s', Inv X pins σ H' s' → Q () s') : wpAny (model X.prog X.w) X.A (dictSet D u r) Q E s := by
  rcases put with ⟨kvs, k, at_, rfl, few, rfl⟩ | ⟨kvs, k, b, at_, rfl, kb, few, rfl⟩
  · exact d_dictSet I at_ few ru rr next
  · obtain rfl : u = .ref b := ru
    obtain ⟨_, sys, old, pr, is⟩ := dt_of I.hok at_
    have n1 := Paired.length pr
    have n2 := length_putK kvs k v
    have few' : old.length ≤ sizeLine := by omega
    refine wpAny_dictSet_heap (knd := tupleKind (mixKind X.prog X.w)) (hsz := few') room (key_of I.hok kb) is fun h2 is2 same => next _ ?_
    have keep : ∀ c ys, H c = some (.tup ys) → upd H D (.dT (putK kvs k v)) c = some (.tup ys) := fun c ys ec => (upd_ne (ne_of ec at_ (fun z => nomatch z))).trans ec
    obtain ⟨o2, es, ep, there, rest⟩ := is2
    exact d_write I (by rw [at_]; exact True.intro) same ⟨o2, there⟩ ⟨by omega, sys, _, (pr.put k kb rr).keeps keep, o2, es, ep, there, rest.1, rest.2.1, rest.2.2.1, rest.2.2.2.2⟩
section
variable {sB : Shared} {HB : Hp} {scope : Scope} {ce : Env} {tg iter kx vx : Expr} {ifs : List Expr} {g : TG} {tt : TT} {tk tv : TE} {J : It} {it D : Addr} {pos : Pos}
end
section
variable {tg iter kx vx : Expr} {ifs : List Expr} {scope : Scope} {own : List (Str × Nat)} {pos : Pos} {wi : TI} {g : TG} {tt : TT} {tk tv : TE} {o0 : HO}
theorem new_ok {P : Program} {w : World} {H : Hp} (o : o0 = .dK [] ∨ o0 = .dT []) (h : Heap) (big : sysModules < h.objs.size) : ObjOk P w H (h.push { cls := .type "dict", data := .dict #[] }) h.objs.size o0 := by
  rcases o with rfl | rfl
  · exact dk_empty h big
  · exact dt_empty h big
end
end
end PL
namespace PL
open PySem PySem.Spec PyProof.Rows L2
section
variable {X : Cx} {W : WX} {tg iter kx vx : Expr} {ifs : List Expr} {scope : Scope} {own : List (Str × Nat)} {pos : Pos} {ti : TXI} {g : TXG} {tt : TXT} {tk tv : TX}
end
end PL
namespace PL
open PySem PySem.Spec PyProof.Rows L2 RZ
def attrK (C f : Str) (s : SV) : M SV := fun μ => match s with
  | .d (.obj C' ns vs) => if C' = C then match findF f ns vs with
    | some d => .ok (.d d) μ
    | none => .no
    else .no
  | .c j => match μ[j]? with
    | some (.inC C' ns vs) => if C' = C then match findF f ns vs with
      | some s => .ok s μ
      | none => .no
      else .no
    | _ => .no
  | _ => .no
def fAttr (C f : Str) (o : FX) : FX := fun ρ => bnd (o ρ) (attrK C f)
open Classical in
noncomputable def fldK (C f : Str) (s so : SV) : M Unit := fun μ => match so with
  | .c j => match μ[j]? with
    | some (.inC C' ns vs) => if (C' = C ∧ ns.length < 1000 ∧ s ≠ .un) then .ok () (μ.set j (.inC C (putFn f ns) (putFv f s ns vs))) else .no
    | _ => .no
  | _ => .no
noncomputable def fFld (C f : Str) (o e : FX) : FS := fun ρ => bnd (e ρ) fun s => bnd (o ρ) fun so => bnd (fldK C f s so) fun _ => ret (.nx ρ)
open Classical in
noncomputable def cputM (j : Nat) (sk s : SV) : M Unit := fun μ => match sk, μ[j]? with
  | .d key, some (.dC ks vs) => if (fitK true key = true ∧ ks.length < sizeLine ∧ s ≠ .un) then .ok () (μ.set j (.dC (putKs ks key) (putSs ks vs key s))) else .no
  | _, _ => .no
noncomputable def dcStep (g : FG) (c : FT) (ek ev : FX) (vs : List Nat) (ρ : FEnv) (j : Nat) (d : D) : M Unit := bnd (g (.d d) (wip ρ vs)) fun ρ2 => bnd (c ρ2) fun k => if k then bnd (ek ρ2) fun sk => bnd (ev ρ2) fun sv => cputM j sk sv else ret ()
def dcLoop (step : D → M Unit) : List D → M Unit
  | [] => fun μ => .ok () μ
  | d :: ds => fun μ => match step d μ with
    | .ok _ μ' => dcLoop step ds μ'
    | _ => .no
noncomputable def fDcC (it : FI) (g : FG) (c : FT) (ek ev : FX) (vs : List Nat) : FX := fun ρ => bnd (it ρ) fun ds μ => match dcLoop (dcStep g c ek ev vs ρ μ.length) ds (μ ++ [.dC [] []]) with
  | .ok _ μ' => .ok (.c μ.length) μ'
  | _ => .no
def methK (C m : Str) (f : SV → M SV) (s : SV) : M SV := match s with
  | .d (.obj C' ns vs) => if C' = C ∧ (findF m ns vs).isNone = true then f s else fun _ => .no
  | _ => fun _ => .no
noncomputable def fMethO (C m : Str) (f : List SV → M SV) (o : FX) (fl : FA) : FX := fun ρ => bnd (o ρ) (methK C m fun s => bnd (fl ρ) fun ss => callM f (s :: ss))
noncomputable def fMethOF (C m : Str) (f : List SV → M SV) (o : FX) (fl : FA) : FX := fun ρ => bnd (o ρ) (methK C m fun s => bnd (fl ρ) fun ss => callMF f (s :: ss))
section
variable {X : Cx} {W : WX} {a b c e o i tg iter kx vx : Expr} {es ifs : List Expr} {fo fe fi fk fv : FX} {fl : FA} {n : Nat} {pos apos ppos pos' : Pos} {C f m : Str} {g : FG} {ft : FT} {it : FI}
variable {k k' : Nat} {ps : List Str} {p : List SV → M SV}
end
section
variable {P : Program} {w : World} {K : PySem.W.Frag} {mg : Str → Option Value} {base : Heap}
end
section
variable {C f m : Str} {o e : FX} {fl : FA} {ρ : FEnv} {μ μ' : Mem} {ns : List Str} {vs : List D} {ss us : List SV} {s : SV} {j : Nat} {d : D} {ks : List D}
@[simp ↓] theorem fAttr_s : fAttr C f o ρ μ = bR (o ρ μ) (attrK C f) := bnd_s
@[simp ↓] theorem fFld_s : fFld C f o e ρ μ = bR (e ρ μ) fun s => bnd (o ρ) fun so => bnd (fldK C f s so) fun _ => ret (.nx ρ) := bnd_s
noncomputable def dcK (step : Nat → D → M Unit) (ds : List D) : M SV := fun μ => match dcLoop (step μ.length) ds (μ ++ [.dC [] []]) with
  | .ok _ μ' => .ok (.c μ.length) μ'
  | _ => .no
@[simp ↓] theorem fDcC_s {it : FI} {g : FG} {c : FT} {ek ev : FX} {vs : List Nat} : fDcC it g c ek ev vs ρ μ = bR (it ρ μ) (dcK (dcStep g c ek ev vs ρ)) := bnd_s
@[simp ↓] theorem fMethO_s {f : List SV → M SV} : fMethO C m f o fl ρ μ = bR (o ρ μ) (methK C m fun s => bnd (fl ρ) fun ss => callM f (s :: ss)) := bnd_s
@[simp ↓] theorem fMethOF_s {f : List SV → M SV} : fMethOF C m f o fl ρ μ = bR (o ρ μ) (methK C m fun s => bnd (fl ρ) fun ss => callMF f (s :: ss)) := bnd_s
end
end PL
namespace PL
open PySem PySem.Spec PyProof.Rows L2
section
variable {X : Cx} {W : WX} {a b c e o tg iter elt tg1 iter1 k v : Expr} {es ifs ifs1 : List Expr} {ta tb tc te to tk tv : TX} {tL : TXA} {pos p : Pos} {g g1 : TXG} {ti ti1 : TXI} {tt tt1 : TXT}
def tOne (o0 : HO) (tk tv : TE) : TE := fun σ H Q => ∀ p, H p = none → tk σ (upd H p o0) fun x H1 => tv σ H1 fun y H2 => ∃ H3, DPut H2 p x y H3 ∧ Q (.ref p) H3
theorem pe_one {o0 : HO} {tk tv : TE} (o : o0 = .dK [] ∨ o0 = .dT []) (room : X.A.units < cLine) (hk : PE X k tk) (hv : PE X v tv) : PE X (.Dict [some k] [v] pos) (tOne o0 tk tv) := by
  constructor
  intro pins s σ H Q I asked
  rw [arm_eval_Dict, zip_pairTrees [some k] [v] X.env pos rfl rfl, dictDisplay_pairs _ (by simp [pairTrees]) (by simp [pairTrees])]
  refine wpAny_bind (wpAny_standAt (wpAny_bind ?_))
  unfold subDict
  refine wpAny_bind (wpAny_alloc (wpAny_bind (wpAny_holding ?_)))
  rw [if_pos (by simp [pairTrees])]
  have I1 := I.laid (t' := s.toks) (o := o0) (fun b u e => Heap.get?_push_of_some { cls := .type "dict", data := .dict #[] } e) (Nat.le_refl _) (new_ok o s.heap I.big)
  refine wpAny_bind (pairTrees_cons_walk (thn (hk.run _ _ _ _ _ I1 (asked _ (I.hok.fresh (Nat.le_refl _)))) fun kv s2 h2 => ?_))
  obtain ⟨x, H2, I2, rx, h2⟩ := h2
  refine thn (hv.run _ _ _ _ _ I2 h2) fun vv s3 h3 => ?_
  obtain ⟨y, H3, I3, ry, H4, put, q⟩ := h3
  refine pairTrees_nil_walk (wpAny_holding ?_)
  rw [List.forIn_cons]
  refine wpAny_bind (wpAny_bind ?_)
  show wpAny _ _ (dictSet s.heap.objs.size kv vv >>= fun _ => pure (ForInStep.yield PUnit.unit)) _ _ _
  refine wpAny_bind (item_in room I3 put rx ry fun s4 I4 => wpAny_pure ?_)
  exact wpAny_pure (wpAny_pure (wpAny_pure (wpAny_pure ⟨.ref s.heap.objs.size, H4, I4, rfl, q⟩)))
end
end PL
namespace PL
open PySem PySem.Spec PyProof.Rows L2 RZ
def parK3 (i j l : Nat) (ρ : FEnv) (ss : List SV) : M Out := match ss with
  | [s, r, q] => ret (.nx (put (put (put ρ i s) j r) l q))
  | _ => fun _ => .no
def fPar3 (i j l : Nat) (t : FA) : FS := fun ρ => bnd (t ρ) (parK3 i j l ρ)
def oneK (j : Nat) (sk sv : SV) : M SV := fun μ => match sk, sv, μ[j]? with
  | .d key, .d d, some (.dT [] []) => if fitK true key = true then .ok (.c j) (μ.set j (.dT [key] [d])) else .no
  | _, _, _ => .no
def fOneT (fk fv : FX) : FX := fun ρ μ => bnd (fk ρ) (fun sk => bnd (fv ρ) fun sv => oneK μ.length sk sv) (μ ++ [.dT [] []])
section
variable {X : Cx} {W : WX} {a b c e o tg iter elt tg1 iter1 k v : Expr} {ifs ifs1 : List Expr} {fe fk fv : FX} {fl : FA} {n : Nat} {pos p : Pos} {g g1 : FG} {ft fu : FT} {it it1 : FI}
end
section
variable {ρ : FEnv} {μ : Mem} {fk fv : FX} {t : FA} {i j l : Nat} {key d : D} {s r q : SV}
@[simp ↓] theorem fPar3_s : fPar3 i j l t ρ μ = bR (t ρ μ) (parK3 i j l ρ) := bnd_s
@[simp] theorem parK3_s : parK3 i j l ρ [s, r, q] μ = .ok (.nx (put (put (put ρ i s) j r) l q)) μ := rfl
@[simp ↓] theorem fOneT_s : fOneT fk fv ρ μ = bR (fk ρ (μ ++ [.dT [] []])) (fun sk => bnd (fv ρ) fun sv => oneK μ.length sk sv) := bnd_s
end
end PL
namespace PL
open PySem PySem.Spec PyProof.Rows L2 RZ
def fNewC : FX := fun _ μ => .ok (.c μ.length) (μ ++ [.dC [] []])
noncomputable def cputK (so si s : SV) : M Unit := match so with
  | .c k => cputM k si s
  | _ => fun _ => .no
noncomputable def fCPut (o i e : FX) : FS := fun ρ => bnd (e ρ) fun s => bnd (o ρ) fun so => bnd (i ρ) fun si => bnd (cputK so si s) fun _ => ret (.nx ρ)
section
variable {X : Cx} {W : WX} {o i e : Expr} {fo fi fe : FX} {n : Nat} {pos pos' : Pos}
end
section
variable {ρ : FEnv} {μ : Mem} {o i e : FX} {k : Nat} {si s : SV}
@[simp ↓] theorem fNewC_s : fNewC ρ μ = .ok (.c μ.length) (μ ++ [.dC [] []]) := rfl
@[simp ↓] theorem fCPut_s : fCPut o i e ρ μ = bR (e ρ μ) fun s => bnd (o ρ) fun so => bnd (i ρ) fun si => bnd (cputK so si s) fun _ => ret (.nx ρ) := bnd_s
@[simp] theorem cputK_c : cputK (.c k) si s = cputM k si s := rfl
end
end PL
namespace PL
open PySem PySem.Spec PyProof.Rows L2
section
variable {X : Cx} {W : WX} {a b : Expr} {ta tb : TX} {pos : Pos}
end
end PL
namespace PL
open PySem PySem.Spec PyProof.Rows L2 RZ
noncomputable def mulEF (a b : SV) : M SV := fun μ => match a, b with
  | .d (.tup []), .d (.int j) => grd (0 ≤ j ∧ j ≤ 1000) (ret a) μ
  | .d (.ntp []), .d (.int j) => grd (0 ≤ j ∧ j ≤ 1000) (ret a) μ
  | a, b => mulF a b μ
section
variable {X : Cx} {W : WX} {a b : Expr} {fa fb : FX} {n : Nat} {pos : Pos}
variable {l : List D} {j : Int} {μ : Mem}
@[simp] theorem mulEF_n0 : mulEF (.d (.ntp [])) (.d (.int j)) μ = grd (0 ≤ j ∧ j ≤ 1000) (ret (.d (.ntp []))) μ := rfl
@[simp] theorem mulEF_t0 : mulEF (.d (.tup [])) (.d (.int j)) μ = grd (0 ≤ j ∧ j ≤ 1000) (ret (.d (.tup []))) μ := rfl
end
end PL
namespace PL
open PySem PySem.Spec PyProof.Rows L2
section
variable {X : Cx} {W : WX} {o e f : Expr} {to te tf : TX} {pos apos cpos : Pos} {ps : List Str} {p : PSp} {k k' : Nat} {C m : Str}
end
end PL
namespace PL
open PySem PySem.Spec PyProof.Rows L2 RZ
noncomputable def get2K (sd sk sx : SV) : M SV := fun μ => match sk with
  | .d key => match dicOf sd μ with
    | some z => grd (fitK z.1 key = true) (ret (match findD z.2.1 z.2.2 key with
      | some d => .d d
      | none => sx)) μ
    | none => .no
  | _ => .no
def isDicK (s : SV) (m : M SV) : M SV := fun μ => if (dicOf s μ).isSome = true then m μ else .no
noncomputable def fGet2 (o e f : FX) : FX := fun ρ => bnd (o ρ) fun s => isDicK s (bnd (e ρ) fun t => bnd (f ρ) fun u => get2K s t u)
noncomputable def fMeth0 (C m : Str) (f : List SV → M SV) (o : FX) : FX := fun ρ => bnd (o ρ) (methK C m fun s => callM f [s])
section
variable {X : Cx} {W : WX} {o e f : Expr} {fo fe ff : FX} {n : Nat} {pos apos cpos : Pos} {ps : List Str} {p : List SV → M SV} {k k' : Nat} {C m : Str}
end
section
variable {ρ : FEnv} {μ : Mem} {o e f : FX} {s sx : SV} {key d : D} {ks vs : List D} {t : Bool} {C m : Str}
@[simp ↓] theorem fGet2_s : fGet2 o e f ρ μ = bR (o ρ μ) fun s => isDicK s (bnd (e ρ) fun t => bnd (f ρ) fun u => get2K s t u) := bnd_s
@[simp ↓] theorem fMeth0_s {p : List SV → M SV} : fMeth0 C m p o ρ μ = bR (o ρ μ) (methK C m fun s => callM p [s]) := bnd_s
end
end PL
namespace PL
open PySem PySem.Spec PyProof.Rows L2
section
variable {X : Cx} {W : WX} {e : Expr} {tL : TXA} {p pos : Pos}
end
end PL
namespace PL
open PySem PySem.Spec PyProof.Rows L2 RZ
def lenWF : List SV → M SV := fun ss μ => match ss with
  | [s] => match dicOf s μ with
    | some z => .ok (.d (.int (z.2.1.length : Nat))) μ
    | none => .no
  | _ => .no
section
variable {X : Cx} {W : WX} {e : Expr} {fl : FA} {n : Nat} {p pos : Pos}
variable {μ : Mem} {t : Bool} {ks vs : List D} {s : SV}
@[simp] theorem lenWF_d : lenWF [.d (.dic t ks vs)] μ = .ok (.d (.int ks.length)) μ := rfl
end
end PL
namespace PL
open PySem PySem.Spec PyProof.Rows L2 RZ
section
variable {K : PySem.W.Frag} {A1 A2 : List Addr} {G H H' : Hp} {μ : Mem} {kc : Nat} {ac : Addr} {ds : List D}
end
section
variable {X : Cx} {W : WX} {a b c e tg : Expr} {es : List Expr} {ta tb tc te : TX} {tL : TXA} {pos p tpos : Pos} {elts : List Expr} {kk : Nat}
variable {own : List Nat} {tA : TXT} {g : TXG} {t : TXS} {ti : TXI} {iter : Expr} {body : List Stmt}
variable {ifs : List Expr} {elt : Expr} {tt : TXT}
end
end PL
namespace PL
open PySem PySem.Spec PyProof.Rows L2 RZ
/-- the cell is as it was behind m -/
noncomputable def chk {α : Type} (kc : Nat) (l : List D) (m : M α) : M α := bnd m fun a μ => grd (μ[kc]? = some (.lst l)) (ret a) μ
noncomputable def chkS (kc : Nat) (l : List D) (step : SV → FS) : SV → FS := fun d ρ => chk kc l (step d ρ)
noncomputable def forKK (step : SV → FS) (ρ : FEnv) (s : SV) : M Out := fun μ => match s with
  | .c kc => match μ[kc]? with
    | some (.lst l) => fLoop (chkS kc l step) l ρ μ
    | _ => .no
  | _ => .no
noncomputable def fForK (tc : FX) (g : FG) (b : FS) : FS := fun ρ => bnd (tc ρ) fun s => forKK (fun d ρ => bnd (g d ρ) b) ρ s
noncomputable def chkC (kc : Nat) (l : List D) (step : D → M (Option SV)) : D → M (Option SV) := fun d => chk kc l (step d)
noncomputable def lcKK (fin : List D → M SV) (step : D → M (Option SV)) (s : SV) : M SV := fun μ => match s with
  | .c kc => match μ[kc]? with
    | some (.lst l) => grd (l.length ≤ sizeLine) (bnd (cLoop (chkC kc l step) l) fin) μ
    | _ => .no
  | _ => .no
noncomputable def fLcK (fin : List D → M SV) (tc : FX) (g : FG) (c : FT) (e : FX) (vs : List Nat) : FX := fun ρ => bnd (tc ρ) fun s => lcKK fin (cStep g c e vs ρ) s
section
variable {X : Cx} {W : WX} {a b c e tg elt iter : Expr} {ifs : List Expr} {fc fe : FX} {ft : FT} {g : FG} {s : FS} {n : Nat} {pos p : Pos}
section
variable {own : List Nat}
end
section
variable {scope : Scope} {own : List (Str × Nat)}
end
end
section
variable {ρ : FEnv} {μ : Mem} {kc : Nat} {l : List D} {fc e : FX} {g : FG} {c : FT} {b : FS} {vs : List Nat} {fin : List D → M SV} {step : SV → FS} {cs : D → M (Option SV)}
@[simp ↓] theorem chk_s {α : Type} {m : M α} : chk kc l m μ = bR (m μ) fun a μ => grd (μ[kc]? = some (.lst l)) (ret a) μ := bnd_s
@[simp ↓] theorem chkS_s {d : SV} : chkS kc l step d ρ μ = bR (step d ρ μ) fun a μ => grd (μ[kc]? = some (.lst l)) (ret a) μ := bnd_s
@[simp ↓] theorem chkC_s {d : D} : chkC kc l cs d μ = bR (cs d μ) fun a μ => grd (μ[kc]? = some (.lst l)) (ret a) μ := bnd_s
@[simp ↓] theorem fForK_s : fForK fc g b ρ μ = bR (fc ρ μ) (forKK (bF g b) ρ) := bnd_s
@[simp ↓] theorem fLcK_s : fLcK fin fc g c e vs ρ μ = bR (fc ρ μ) (lcKK fin (cStep g c e vs ρ)) := bnd_s
end
end PL

namespace PL
open PySem PySem.Spec PyProof.Rows L2
mutual
/-- plain data: what isinstance and len tell of it is known, through and through -/
def plain : D → Bool
  | .non => true
  | .bl _ => true
  | .int _ => true
  | .str x => PyData.strOk x && decide (x.length ≤ 1000)
  | .tup l => decide (l.length ≤ 100000) && plains l
  | .ntp l => decide (l.length ≤ 100000) && plains l
  | .lst l => decide (l.length ≤ 100000) && plains l
  | .dic _ _ _ => true
  | _ => false
def plains : List D → Bool
  | [] => true
  | d :: ds => plain d && plains ds
end
theorem plains_iff : ∀ {l : List D}, plains l = true ↔ ∀ d ∈ l, plain d = true
  | [] => by simp [plains]
  | d :: ds => by simp [plains, plains_iff (l := ds)]
@[simp] theorem plains_nil : plains [] = true := rfl
@[simp] theorem plains_cons {d : D} {l : List D} : plains (d :: l) = (plain d && plains l) := rfl
@[simp] theorem plain_non : plain .non = true := rfl
@[simp] theorem plain_bl {b : Bool} : plain (.bl b) = true := rfl
@[simp] theorem plain_int {b : Int} : plain (.int b) = true := rfl
@[simp] theorem plain_str {b : Str} : plain (.str b) = (PyData.strOk b && decide (b.length ≤ 1000)) := rfl
@[simp] theorem plain_tup {b : List D} : plain (.tup b) = (decide (b.length ≤ 100000) && plains b) := rfl
@[simp] theorem plain_ntp {b : List D} : plain (.ntp b) = (decide (b.length ≤ 100000) && plains b) := rfl
@[simp] theorem plain_lst {b : List D} : plain (.lst b) = (decide (b.length ≤ 100000) && plains b) := rfl
@[simp] theorem plain_dic {t : Bool} {ks vs : List D} : plain (.dic t ks vs) = true := rfl
@[elab_as_elim] theorem plain_cases {motive : (d : D) → plain d = true → Prop} (non : ∀ h, motive .non h) (bl : ∀ b h, motive (.bl b) h) (int : ∀ b h, motive (.int b) h) (str : ∀ b h, motive (.str b) h)
    (tup : ∀ b h, motive (.tup b) h) (ntp : ∀ b h, motive (.ntp b) h) (lst : ∀ b h, motive (.lst b) h) (dic : ∀ t k v h, motive (.dic t k v) h) (d : D) (h : plain d = true) : motive d h := by
  cases d with
  | non => exact non h
  | bl b => exact bl b h
  | int b => exact int b h
  | str b => exact str b h
  | tup b => exact tup b h
  | ntp b => exact ntp b h
  | lst b => exact lst b h
  | dic t k v => exact dic t k v h
  | fn x => simp [plain] at h
  | ty x => simp [plain] at h
  | scr x => simp [plain] at h
  | obj x y z => simp [plain] at h
/-- isinstance of plain data -/
def isKB : TyK → D → Bool
  | .bool, .bl _ => true
  | .int, .bl _ => true
  | .int, .int _ => true
  | .str, .str _ => true
  | .tuple, .tup _ => true
  | .tuple, .ntp _ => true
  | .list, .lst _ => true
  | .dict, .dic _ _ _ => true
  | _, _ => false
theorem isK_plain {k : TyK} {d : D} (h : plain d = true) : isK k d = some (isKB k d) := by
  cases d <;> cases k <;> first | rfl | (simp [plain] at h)
/-- the items of a tuple -/
def tupD : D → Option (List D)
  | .tup l => some l
  | .ntp l => some l
  | _ => none
@[simp] theorem tupD_t {l : List D} : tupD (.tup l) = some l := rfl
@[simp] theorem tupD_n {l : List D} : tupD (.ntp l) = some l := rfl
section
variable {l m : List D} {μ : Mem} {x : D} {u v : D}
@[simp] theorem addF_nt : addF (.d (.ntp l)) (.d (.tup m)) μ = grd (l.length + m.length ≤ sizeLine) (ret (.d (catT (.ntp l) (.tup m) l m))) μ := rfl
@[simp] theorem addF_tn : addF (.d (.tup l)) (.d (.ntp m)) μ = grd (l.length + m.length ≤ sizeLine) (ret (.d (catT (.tup l) (.ntp m) l m))) μ := rfl
@[simp] theorem addF_nn : addF (.d (.ntp l)) (.d (.ntp m)) μ = grd (l.length + m.length ≤ sizeLine) (ret (.d (catT (.ntp l) (.ntp m) l m))) μ := rfl
@[simp] theorem catT_r : catT u (.tup (x :: m)) l (x :: m) = .tup (l ++ x :: m) := by unfold catT; split <;> simp_all
theorem catT_l (h : l ≠ []) : catT (.tup l) v l m = .tup (l ++ m) := by unfold catT; rw [if_neg h]; split <;> simp_all
@[simp] theorem catT_la : catT (.tup (l ++ [x])) v (l ++ [x]) m = .tup (l ++ [x] ++ m) := catT_l (by simp)
@[simp] theorem catT_lc : catT (.tup (x :: l)) v (x :: l) m = .tup (x :: l ++ m) := catT_l (by simp)
@[simp] theorem mulF_str {z : Str} {j : Int} : mulF (.d (.str z)) (.d (.int j)) μ = grd (0 ≤ j ∧ j ≤ 1000 ∧ z.length ≤ 1000) (ret (.d (.str (Txt.mul z j)))) μ := rfl
@[simp] theorem mulF_tup {j : Int} : mulF (.d (.tup l)) (.d (.int j)) μ = grd (l ≠ [] ∧ 2 ≤ j ∧ j ≤ 1000 ∧ l.length ≤ 1000) (ret (.d (.tup (List.replicate j.toNat l).flatten))) μ := rfl
@[simp] theorem mulF_ntp {j : Int} : mulF (.d (.ntp l)) (.d (.int j)) μ = grd (l ≠ [] ∧ 2 ≤ j ∧ j ≤ 1000 ∧ l.length ≤ 1000) (ret (.d (.tup (List.replicate j.toNat l).flatten))) μ := rfl
end
theorem sizeLine_le {n : Nat} (h : n ≤ 1000000) : n ≤ sizeLine := by rw [sizeLine_eq]; omega
@[simp] theorem atI_succ {α : Type} {r : List α} {n : Nat} : atI r ((n : Int) + 1) = r[n + 1]? := by
  rw [show (n : Int) + 1 = ((n + 1 : Nat) : Int) by omega]; exact atI_nat
@[simp] theorem rngD_len {lo : Int} {n : Nat} : (rngD lo n).length = n := rngD_length lo n
/-- what simp leaves alone -/
inductive Tag {α : Sort _} (a : α) : Type | mk
inductive TagP (a : Prop) : Type | mk
@[reducible] def Hold (p : Prop) (_ : TagP p := .mk) : Prop := p
/-- hands back something with P -/
def gives {α : Type} (r : R α) (P : α → Mem → Prop) (_ : Tag P := .mk) : Prop := ∃ a μ, r = .ok a μ ∧ P a μ
theorem gives_ok {α : Type} {a : α} {μ : Mem} {P : α → Mem → Prop} (h : P a μ) : gives (.ok a μ) P := ⟨a, μ, rfl, h⟩
/-- a turn goes on, with I -/
def goes (r : R Out) (I : FEnv → Mem → Prop) (_ : Tag I := .mk) : Prop := match r with
  | .ok (.nx ρ) μ => I ρ μ
  | .ok (.ct ρ) μ => I ρ μ
  | _ => False
@[simp ↓] theorem goes_nx {ρ : FEnv} {μ : Mem} {I : FEnv → Mem → Prop} {t : Tag I} : goes (.ok (.nx ρ) μ) I t = Hold (I ρ μ) := rfl
@[simp ↓] theorem goes_ct {ρ : FEnv} {μ : Mem} {I : FEnv → Mem → Prop} {t : Tag I} : goes (.ok (.ct ρ) μ) I t = Hold (I ρ μ) := rfl
theorem goes_of {r : R Out} {I : FEnv → Mem → Prop} (h : goes r I) : ∃ ρ μ, (r = .ok (.nx ρ) μ ∨ r = .ok (.ct ρ) μ) ∧ I ρ μ := by
  cases r with
  | ex C fs μ => exact h.elim
  | no => exact h.elim
  | ok o μ => cases o with
    | nx ρ => exact ⟨ρ, μ, .inl rfl, h⟩
    | ct ρ => exact ⟨ρ, μ, .inr rfl, h⟩
    | rt v => exact h.elim
    | bk ρ => exact h.elim
/-- a turn hands v back -/
def hands (r : R Out) (v : SV) (J : Mem → Prop) (_ : Tag J := .mk) : Prop := match r with
  | .ok (.rt w) μ => w = v ∧ J μ
  | _ => False
@[simp ↓] theorem hands_rt {w v : SV} {μ : Mem} {J : Mem → Prop} {t : Tag J} : hands (.ok (.rt w) μ) v J t = (w = v ∧ Hold (J μ)) := rfl
/-- a loop whose turns all go on -/
theorem fLoop_inv {step : SV → FS} (I : Nat → FEnv → Mem → Prop) : ∀ {ds : List D} {ρ : FEnv} {μ : Mem} (n : Nat), I n ρ μ → (∀ i d ρ μ, ds[i]? = some d → I (n + i) ρ μ → goes (step (.d d) ρ μ) (I (n + i + 1))) →
    ∃ ρ' μ', fLoop step ds ρ μ = .ok (.nx ρ') μ' ∧ I (n + ds.length) ρ' μ'
  | [], ρ, μ, n, h0, _ => ⟨ρ, μ, rfl, h0⟩
  | d :: ds, ρ, μ, n, h0, hs => by
    obtain ⟨ρ1, μ1, e, h1⟩ := goes_of (hs 0 d ρ μ rfl h0)
    obtain ⟨ρ2, μ2, e2, h2⟩ := fLoop_inv I (ds := ds) (n + 1) h1 fun i d' ρ' μ' hd hi => by
      have := hs (i + 1) d' ρ' μ' (by simpa using hd) (by rw [show n + (i + 1) = n + 1 + i by omega]; exact hi)
      rw [show n + 1 + i + 1 = n + (i + 1) + 1 by omega]; exact this
    refine ⟨ρ2, μ2, ?_, by rw [List.length_cons, show n + (ds.length + 1) = n + 1 + ds.length by omega]; exact h2⟩
    rw [fLoop_cons]
    rcases e with e | e <;> rw [e] <;> exact e2
/-- .. over typed things; the things done so far are told -/
theorem fLoop_invT {α : Type} {step : SV → FS} {en : α → D} (I : List α → FEnv → Mem → Prop) : ∀ {l done : List α} {ρ : FEnv} {μ : Mem}, I done ρ μ → (∀ (pre : List α) (a : α) (post : List α) (ρ : FEnv) (μ : Mem), done ++ l = pre ++ a :: post → done.length ≤ pre.length → I pre ρ μ → goes (step (.d (en a)) ρ μ) (I (pre ++ [a]))) →
    ∃ ρ' μ', fLoop step (l.map en) ρ μ = .ok (.nx ρ') μ' ∧ I (done ++ l) ρ' μ'
  | [], done, ρ, μ, h0, _ => ⟨ρ, μ, rfl, by rw [List.append_nil]; exact h0⟩
  | a :: l, done, ρ, μ, h0, hs => by
    obtain ⟨ρ1, μ1, e, h1⟩ := goes_of (hs done a l ρ μ rfl (Nat.le_refl _) h0)
    obtain ⟨ρ2, μ2, e2, h2⟩ := fLoop_invT I (l := l) (done := done ++ [a]) h1 fun pre b post ρ' μ' hd hl hi => hs pre b post ρ' μ' (by rw [← hd]; simp) (by simp at hl; omega) hi
    refine ⟨ρ2, μ2, ?_, by simpa using h2⟩
    rw [List.map_cons, fLoop_cons]
    rcases e with e | e <;> rw [e] <;> exact e2
theorem loop_inv {step : SV → FS} {ds : List D} {ρ : FEnv} {μ : Mem} {z : R Out} (e : fLoop step ds ρ μ = z) (I : Nat → FEnv → Mem → Prop) (h0 : I 0 ρ μ) (hs : ∀ i d ρ μ, ds[i]? = some d → I i ρ μ → goes (step (.d d) ρ μ) (I (i + 1))) :
    ∃ ρ' μ', z = .ok (.nx ρ') μ' ∧ I ds.length ρ' μ' := by
  subst e
  have h := fLoop_inv I (ds := ds) 0 h0 fun i d ρ μ h1 h2 => by rw [Nat.zero_add] at h2 ⊢; exact hs i d ρ μ h1 h2
  rw [Nat.zero_add] at h
  exact h
theorem loop_invT {α : Type} {step : SV → FS} {l : List α} {en : α → D} {ρ : FEnv} {μ : Mem} {z : R Out} (e : fLoop step (l.map en) ρ μ = z) (I : List α → FEnv → Mem → Prop) (h0 : I [] ρ μ) (hs : ∀ (pre : List α) (a : α) (post : List α) (ρ : FEnv) (μ : Mem), l = pre ++ a :: post → I pre ρ μ → goes (step (.d (en a)) ρ μ) (I (pre ++ [a]))) :
    ∃ ρ' μ', z = .ok (.nx ρ') μ' ∧ I l ρ' μ' := by
  subst e
  have h := fLoop_invT (en := en) I (l := l) (done := []) h0 fun pre a post ρ μ h1 _ h2 => hs pre a post ρ μ (by simpa using h1) h2
  simpa using h
theorem enumD_get {l : List D} {i : Nat} {d : D} (h : (enumD l)[i]? = some d) : ∃ e, l[i]? = some e ∧ e ∈ l ∧ d = .tup [.int i, e] := by
  obtain ⟨e, h1, h2⟩ := enumD_at h
  exact ⟨e, h1, List.mem_of_getElem? h1, h2⟩
@[simp] theorem enumD_len {l : List D} : (enumD l).length = l.length := enumD_length l

end PL
namespace PL
open PySem PySem.Spec PyProof.Rows L2
noncomputable def f_is_whole : List SV → M SV := fDef 1 (fRet (fAnd (fUn (isiF .int) (fV 0)) (fNot (fUn (isiF .bool) (fV 0)))))
--.
noncomputable def f_is_between : List SV → M SV := fDef 3 (fRet (fAnd (fCall (callM f_is_whole) (fCons (fV 0) fNil)) (fChain ileF ileF (fV 1) (fV 0) (fV 2))))
--.
noncomputable def f_is_tuple_of : List SV → M SV := fDef 2 (fRet (fAnd (fUn (isiF .tuple) (fV 0)) (fOp eqF (fCall lenF (fCons (fV 0) fNil)) (fV 1))))
--.
noncomputable def f_is_name : List SV → M SV := fDef 1 (fSeq (fIfS (fTOr (fTNot (fT (fUn (isiF .str) (fV 0)))) (fTNot (fT (fChain ileF ileF (fC (.int 1)) (fCall lenF (fCons (fV 0) fNil)) (fC (.int 8)))))) (fRet (fC (.bl false))) fSkip)
  (fRet (fCall allF (fCons (fLc finLF (itF (fV 0)) (gN 1) fYes (fOp inF (fV 1) (fC (.str "abcdefghijklmnopqrstuvwxyz"))) [1]) fNil))))
--.
--.
--.
--.
def wholeB : D → Bool
  | .int _ => true
  | _ => false
def betwB (v : D) (lo hi : Int) : Bool := match v with
  | .int i => decide (lo ≤ i) && decide (i ≤ hi)
  | _ => false
theorem is_whole_ok {v : D} {μ : Mem} (h : plain v = true) : f_is_whole [.d v] μ = .ok (.d (.bl (wholeB v))) μ := by
  simp [isK, isKB, tupD, sizeLine_eq, f_is_whole, isK_plain h]
  cases v, h using plain_cases <;> simp [isK, isKB, tupD, sizeLine_eq, wholeB]
theorem is_between_ok {v : D} {lo hi : Int} {μ : Mem} (h : plain v = true) : f_is_between [.d v, .d (.int lo), .d (.int hi)] μ = .ok (.d (.bl (betwB v lo hi))) μ := by
  simp [isK, isKB, tupD, sizeLine_eq, f_is_between, is_whole_ok h]
  cases v, h using plain_cases <;> simp [isK, isKB, tupD, sizeLine_eq, wholeB, betwB]
  rename_i i _
  by_cases h1 : lo ≤ i <;> simp [isK, isKB, tupD, sizeLine_eq, h1]
theorem is_tuple_of_ok {v : D} {n : Int} {μ : Mem} (h : plain v = true) : f_is_tuple_of [.d v, .d (.int n)] μ = .ok (.d (.bl (match tupD v with | some l => decide ((l.length : Int) = n) | none => false))) μ := by
  simp [isK, isKB, tupD, sizeLine_eq, f_is_tuple_of, isK_plain h]
  cases v, h using plain_cases <;> simp [isK, isKB, tupD, sizeLine_eq, tupD]
abbrev LETTERS : Str := "abcdefghijklmnopqrstuvwxyz"
def letterB (c : Nat) : Bool := decide (c ∈ LETTERS.cps.toList)
def nmB (x : Str) : Bool := decide (1 ≤ x.length) && (decide (x.length ≤ 8) && x.cps.toList.all letterB)
def nameB : D → Bool
  | .str x => nmB x
  | _ => false
theorem in_letters {c : Nat} {x : Str} {μ : Mem} : inF (.d (.str ⟨#[c]⟩)) (.d (.str x)) μ = .ok (.d (.bl (decide (c ∈ x.cps.toList)))) μ := rfl
theorem is_name_ok {v : D} {μ : Mem} (h : plain v = true) : f_is_name [.d v] μ = .ok (.d (.bl (nameB v))) μ := by
  simp [isK, isKB, tupD, sizeLine_eq, f_is_name, isK_plain h]
  cases v, h using plain_cases <;> simp [isK, isKB, tupD, sizeLine_eq, nameB]
  rename_i x h
  simp at h
  have hx : x.length ≤ 16777216 := by omega
  simp [isK, isKB, tupD, sizeLine_eq, lenOf_str hx, nmB]
  by_cases h1 : (1 : Int) ≤ x.length
  · by_cases h2 : (x.length : Int) ≤ 8
    · simp [isK, isKB, tupD, sizeLine_eq, h1, h2, hx]
      rw [strD, cLoop_mapT (f := fun c => .bl (letterB c)) fun c hc => by simp [isK, isKB, tupD, sizeLine_eq, in_letters, letterB]]
      have h3 : 1 ≤ x.length := by omega
      have h4 : x.length ≤ 8 := by omega
      simp [isK, isKB, tupD, sizeLine_eq, h3, h4]
      trace_state
    · simp [isK, isKB, tupD, sizeLine_eq, h1, h2]
      omega
  · simp [isK, isKB, tupD, sizeLine_eq, h1]
    omega
/-- strictly rising, by lt -/
def risingB (lt : D → D → Bool) : List D → Bool
  | a :: b :: r => lt a b && risingB lt (b :: r)
  | _ => true
end PL
namespace PL
open PySem PySem.Spec PyProof.Rows L2
open PySem.W (Datum DatumOrd)
class Enc (α : Type) [DecidableEq α] [DatumOrd α] where
  en : α → D
  okk : α → Bool
  dep : Nat
  py : ∀ a, toPy (en a) = Datum.toD a
  fl : ∀ a k, okk a = true → dep ≤ k → flat k (en a) = true
  trans : ∀ a b c : α, DatumOrd.lt a b = true → DatumOrd.lt b c = true → DatumOrd.lt a c = true
  tri : ∀ a b : α, DatumOrd.lt a b = false → DatumOrd.lt b a = false → a = b
theorem nat_tri {x y : List Nat} (h1 : ¬ x < y) (h2 : ¬ y < x) : x = y := List.le_antisymm (List.not_lt.mp h2) (List.not_lt.mp h1)
theorem str_ext {x y : Str} (h : x.cps.toList = y.cps.toList) : x = y := by
  cases x; cases y; simp only at h; rw [Array.toList_inj.mp h]
instance : Enc Int where
  en := .int
  okk _ := true
  dep := 0
  py a := by simp only [toPy]; rfl
  fl a k _ _ := by cases k <;> rfl
  trans a b c h1 h2 := by have h1 := of_decide_eq_true h1; have h2 := of_decide_eq_true h2; exact decide_eq_true (by omega)
  tri a b h1 h2 := by have h1 := of_decide_eq_false h1; have h2 := of_decide_eq_false h2; omega
instance : Enc Str where
  en := .str
  okk := PyData.strOk
  dep := 0
  py a := by simp only [toPy]; rfl
  fl a k h _ := by cases k <;> exact h
  trans a b c h1 h2 := by have h1 := of_decide_eq_true h1; have h2 := of_decide_eq_true h2; exact decide_eq_true (List.lt_trans h1 h2)
  tri a b h1 h2 := by have h1 := of_decide_eq_false h1; have h2 := of_decide_eq_false h2; exact str_ext (nat_tri h1 h2)
section
variable {α β : Type} [DecidableEq α] [DatumOrd α] [Enc α] [DecidableEq β] [DatumOrd β] [Enc β]
@[simp] theorem dlt_self (a : α) : DatumOrd.lt a a = false := (DatumOrd.lt_eq a a).symm.trans (PySem.W.dataLt_self _)
theorem dlt_asymm {a b : α} (h : DatumOrd.lt a b = true) : DatumOrd.lt b a = false := by
  cases e : DatumOrd.lt b a with
  | false => rfl
  | true => have := Enc.trans _ _ _ h e; rw [dlt_self] at this; cases this
theorem dlt_ne {a b : α} (h : DatumOrd.lt a b = true) : a ≠ b := fun e => by subst e; rw [dlt_self] at h; cases h
theorem dle_iff {a b : α} : DatumOrd.lt b a = false ↔ DatumOrd.lt a b = true ∨ a = b := by
  constructor
  · intro h
    cases e : DatumOrd.lt a b with
    | true => exact .inl rfl
    | false => exact .inr (Enc.tri _ _ e h)
  · rintro (h | h)
    · exact dlt_asymm h
    · subst h; exact dlt_self _
theorem dlt_pair {p q : α × β} : DatumOrd.lt p q = if p.1 = q.1 then DatumOrd.lt p.2 q.2 else DatumOrd.lt p.1 q.1 := rfl
instance : Enc (α × β) where
  en p := .tup [Enc.en p.1, Enc.en p.2]
  okk p := Enc.okk p.1 && Enc.okk p.2
  dep := max (Enc.dep α) (Enc.dep β) + 1
  py p := by simp only [toPy, toPys, Enc.py]; rfl
  fl p k h hk := by
    cases k with
    | zero => omega
    | succ k =>
      simp only [Bool.and_eq_true] at h
      simp only [flat, flats, Enc.fl p.1 k h.1 (by omega), Enc.fl p.2 k h.2 (by omega), Bool.and_self]
  trans a b c h1 h2 := by
    rw [dlt_pair] at h1 h2 ⊢
    by_cases e1 : a.1 = b.1
    · rw [if_pos e1] at h1
      by_cases e2 : b.1 = c.1
      · rw [if_pos e2] at h2; rw [if_pos (e1.trans e2)]; exact Enc.trans _ _ _ h1 h2
      · rw [if_neg e2] at h2; rw [if_neg (by rw [e1]; exact e2), e1]; exact h2
    · rw [if_neg e1] at h1
      by_cases e2 : b.1 = c.1
      · rw [if_neg (by rw [← e2]; exact e1), ← e2]; exact h1
      · rw [if_neg e2] at h2
        have h3 := Enc.trans _ _ _ h1 h2
        rw [if_neg (dlt_ne h3)]; exact h3
  tri a b h1 h2 := by
    rw [dlt_pair] at h1 h2
    by_cases e1 : a.1 = b.1
    · rw [if_pos e1] at h1; rw [if_pos e1.symm] at h2
      exact Prod.ext e1 (Enc.tri _ _ h1 h2)
    · rw [if_neg e1] at h1; rw [if_neg (fun e => e1 e.symm)] at h2
      exact absurd (Enc.tri _ _ h1 h2) e1
/-- v stands for a: it reads as a does -/
def Is (v : D) (a : α) : Prop := toPy v = Datum.toD a ∧ flat (Enc.dep α) v = true
theorem flat_mono' : ∀ d : D, ∀ n k, flat n d = true → n ≤ k → flat k d = true := by
  intro d
  refine D.rec (motive_1 := fun d => ∀ n k, flat n d = true → n ≤ k → flat k d = true) (motive_2 := fun ds => ∀ n k, flats n ds = true → n ≤ k → flats k ds = true) ?_ ?_ ?_ ?_ ?_ ?_ ?_ ?_ ?_ ?_ ?_ ?_ ?_ ?_ d
  · intro n k h _; cases k <;> rfl
  · intro b n k h _; cases k <;> rfl
  · intro b n k h _; cases k <;> rfl
  · intro x n k h _; cases n <;> cases k <;> exact h
  · intro a n k h; cases n <;> simp [flat] at h
  · intro a n k h; cases n <;> simp [flat] at h
  · intro a n k h; cases n <;> simp [flat] at h
  all_goals first
    | (intro l ih n k h hk
       cases n with
       | zero => simp [flat] at h
       | succ n =>
         cases k with
         | zero => omega
         | succ k => simp only [flat] at h ⊢; exact ih n k h (by omega))
    | (intro t k v _ _ n k h; cases n <;> simp [flat] at h)
    | (intro C k v _ n k h; cases n <;> simp [flat] at h)
    | (intro n k _ _; simp [flats]; done)
    | (intro d ds i1 i2 n k h hk
       simp only [flats, Bool.and_eq_true] at h ⊢
       exact ⟨i1 n k h.1 hk, i2 n k h.2 hk⟩)
theorem Is.en {a : α} (h : Enc.okk a = true) : Is (Enc.en a) a := ⟨Enc.py a, Enc.fl a _ h (Nat.le_refl _)⟩
theorem Is.okEq {v : D} {a : α} (h : Is v a) (hd : Enc.dep α ≤ 60 := by decide) : okEq v = true := flat_mono' _ _ _ h.2 hd
theorem Is.deq {v w : D} {a b : α} (h : Is v a) (h' : Is w b) : deq v w = decide (a = b) := by
  unfold PL.deq; rw [h.1, h'.1, Datum.eqv]
theorem Is.ltD {v w : D} {a b : α} (h : Is v a) (h' : Is w b) : ltD v w = DatumOrd.lt a b := by
  unfold PL.ltD; rw [h.1, h'.1, DatumOrd.lt_eq]
theorem Is.alD {v w : D} {a b : α} (h : Is v a) (h' : Is w b) : alD v w = true := by
  unfold PL.alD; rw [h.1, h'.1]; exact DatumOrd.alike a b
theorem Is.eqF {v w : D} {a b : α} (h : Is v a) (h' : Is w b) {μ : Mem} (hd : Enc.dep α ≤ 60 := by decide) : eqF (.d v) (.d w) μ = .ok (.d (.bl (decide (a = b)))) μ := by
  rw [eqF_d (h.okEq hd) (h'.okEq hd), h.deq h']
theorem Is.neF {v w : D} {a b : α} (h : Is v a) (h' : Is w b) {μ : Mem} (hd : Enc.dep α ≤ 60 := by decide) : neF (.d v) (.d w) μ = .ok (.d (.bl (!decide (a = b)))) μ := by
  rw [neF_d (h.okEq hd) (h'.okEq hd), h.deq h']
theorem Is.ltF {v w : D} {a b : α} (h : Is v a) (h' : Is w b) (t : isTp v = true) (t' : isTp w = true) {μ : Mem} (hd : Enc.dep α ≤ 60 := by decide) : ltF (.d v) (.d w) μ = .ok (.d (.bl (DatumOrd.lt a b))) μ := by
  rw [ltF_t t t', grd_pos ⟨t, t', h.okEq hd, h'.okEq hd, h.alD h'⟩, h.ltD h']; rfl
theorem Is.leF {v w : D} {a b : α} (h : Is v a) (h' : Is w b) (t : isTp v = true) (t' : isTp w = true) {μ : Mem} (hd : Enc.dep α ≤ 60 := by decide) : leF (.d v) (.d w) μ = .ok (.d (.bl (!DatumOrd.lt b a))) μ := by
  rw [leF_t t t', grd_pos ⟨t, t', h.okEq hd, h'.okEq hd, h.alD h'⟩, h'.ltD h]; rfl
theorem Is.pair {v w : D} {a : α} {b : β} (h : Is v a) (h' : Is w b) : Is (.tup [v, w]) (a, b) := by
  refine ⟨by simp only [toPy, toPys, h.1, h'.1]; rfl, ?_⟩
  show flat (max (Enc.dep α) (Enc.dep β) + 1) _ = true
  simp only [flat, flats, flat_mono' _ _ _ h.2 (Nat.le_max_left _ _), flat_mono' _ _ _ h'.2 (Nat.le_max_right _ _), Bool.and_self]
theorem Is.int (i : Int) : Is (.int i) i := Is.en rfl
theorem Is.str {x : Str} (h : PyData.strOk x = true) : Is (.str x) x := Is.en h
theorem flats_of {n : Nat} : ∀ {l : List D}, (∀ d ∈ l, flat n d = true) → flats n l = true
  | [], _ => by simp [flats]
  | d :: l, h => by simp [flats, h d List.mem_cons_self, flats_of (l := l) fun x hx => h x (List.mem_cons_of_mem _ hx)]
theorem okEq_tup {l : List α} (h : ∀ a ∈ l, Enc.okk a = true) (hd : Enc.dep α ≤ 59 := by decide) : okEq (.tup (l.map Enc.en)) = true := by
  show flat (59 + 1) _ = true
  rw [flat]
  exact flats_of fun d hm => by obtain ⟨a, ha, rfl⟩ := List.mem_map.mp hm; exact Enc.fl a _ (h a ha) hd
theorem okEq_ntp {l : List α} (h : ∀ a ∈ l, Enc.okk a = true) (hd : Enc.dep α ≤ 59 := by decide) : okEq (.ntp (l.map Enc.en)) = true := by
  show flat (59 + 1) _ = true
  rw [flat]
  exact flats_of fun d hm => by obtain ⟨a, ha, rfl⟩ := List.mem_map.mp hm; exact Enc.fl a _ (h a ha) hd
theorem inD_en {v : D} {a : α} {l : List α} (h : Is v a) : inD v (l.map Enc.en) = decide (a ∈ l) := by
  unfold inD
  rw [List.any_map, Bool.eq_iff_iff, List.any_eq_true]
  have e : ∀ b : α, (((fun z => PL.deq z v) ∘ Enc.en) b) = decide (b = a) := fun b => by
    show PL.deq (Enc.en b) v = _
    unfold PL.deq; rw [h.1, Enc.py, Datum.eqv]
  constructor
  · rintro ⟨b, hb, h2⟩; rw [e] at h2; have := of_decide_eq_true h2; subst this; exact decide_eq_true hb
  · intro h2; exact ⟨a, of_decide_eq_true h2, by rw [e]; exact decide_eq_true rfl⟩
/-- sorted -/
def srt (l : List α) : List α := l.mergeSort fun a b => !DatumOrd.lt b a
theorem srt_perm (l : List α) : (srt l).Perm l := List.mergeSort_perm _ _
@[simp] theorem srt_length (l : List α) : (srt l).length = l.length := (srt_perm l).length_eq
theorem mem_srt {l : List α} {a : α} : a ∈ srt l ↔ a ∈ l := (srt_perm l).mem_iff
theorem srtD_en (l : List α) : srtD (l.map Enc.en) = (srt l).map Enc.en := by
  unfold srtD srt
  refine (List.map_mergeSort (f := Enc.en) (r := fun a b => !DatumOrd.lt b a) (s := PySem.W.dataLe false toPy) (l := l) fun a _ b _ => ?_).symm
  show _ = (!PySem.W.dataLt (toPy (Enc.en b)) (toPy (Enc.en a)))
  rw [Enc.py, Enc.py, DatumOrd.lt_eq]
theorem srt_le (l : List α) : (srt l).Pairwise fun a b => DatumOrd.lt b a = false := by
  have h := List.pairwise_mergeSort (le := fun a b : α => !DatumOrd.lt b a) (fun a b c h1 h2 => by
    simp only [Bool.not_eq_true'] at h1 h2 ⊢
    rcases dle_iff.mp h1 with h1 | rfl
    · rcases dle_iff.mp h2 with h2 | rfl
      · exact dlt_asymm (Enc.trans _ _ _ h1 h2)
      · exact dlt_asymm h1
    · exact h2) (fun a b => by
    cases e : DatumOrd.lt b a with
    | false => rfl
    | true => rw [dlt_asymm e]; rfl) l
  exact h.imp fun h => by simpa using h
theorem srt_lt {l : List α} (h : l.Nodup) : (srt l).Pairwise fun a b => DatumOrd.lt a b = true := by
  have h1 := srt_le l
  have h2 : (srt l).Nodup := (srt_perm l).nodup_iff.mpr h
  exact (h1.and h2).imp fun ⟨h1, h2⟩ => (dle_iff.mp h1).resolve_right h2
theorem okSort_en {l : List α} (h : ∀ a ∈ l, Enc.okk a = true) (hs : ∀ a ∈ l, (∃ x r, Datum.toD a = PyData.tuple (x :: r)) ∨ ∀ b : α, ∀ xs, Datum.toD b ≠ PyData.tuple xs) (hd : Enc.dep α ≤ 60 := by decide) : okSort (l.map Enc.en) := by
  refine ⟨fun d hm => ?_, ?_, ?_⟩
  · obtain ⟨a, ha, rfl⟩ := List.mem_map.mp hm; exact Enc.fl a _ (h a ha) hd
  · intro d hd d' hd'
    rw [List.map_map] at hd hd'
    obtain ⟨a, _, rfl⟩ := List.mem_map.mp hd
    obtain ⟨b, _, rfl⟩ := List.mem_map.mp hd'
    show PySem.W.alike (toPy (Enc.en a)) (toPy (Enc.en b)) = true
    rw [Enc.py, Enc.py]; exact DatumOrd.alike a b
  · rw [List.map_map]
    by_cases hc : ∃ b : α, ∃ xs, Datum.toD b = PyData.tuple xs
    · left
      intro d hd
      obtain ⟨a, ha, rfl⟩ := List.mem_map.mp hd
      rcases hs a ha with h | h
      · obtain ⟨x, r, e⟩ := h; exact ⟨x, r, (Enc.py a).trans e⟩
      · obtain ⟨b, xs, e⟩ := hc; exact absurd e (h b xs)
    · right
      intro d hd
      obtain ⟨a, ha, rfl⟩ := List.mem_map.mp hd
      show toPy (Enc.en a) ≠ _ ∧ _
      refine ⟨by rw [Enc.py]; exact DatumOrd.notNone a, fun xs e => hc ⟨a, xs, (Enc.py a).symm.trans e⟩⟩
theorem okSort_pair {l : List (α × β)} (h : ∀ a ∈ l, Enc.okk a = true) (hd : Enc.dep (α × β) ≤ 60 := by decide) : okSort (l.map Enc.en) :=
  okSort_en h (fun a _ => .inl ⟨_, _, rfl⟩) hd
end
theorem okSort_str {l : List Str} (h : ∀ a ∈ l, PyData.strOk a = true) : okSort (l.map .str) := okSort_en (α := Str) h fun a _ => .inr fun b xs e => by cases e
end PL
namespace PL
open PySem PySem.Spec PyProof.Rows L2
open PySem.W (Datum DatumOrd)
--.
--.
--.
--.
--.
--.
--.
--.
--.
--.
--.
--.
abbrev Side := Str × Int
abbrev Rule := Side × Side
def sltD (u v : D) : Bool := match u, v with
  | .str x, .str y => decide (x.cps.toList < y.cps.toList)
  | _, _ => false
/-- things: names, strictly rising, 1 to 14 -/
def thingsB (v : D) : Bool := match tupD v with
  | some l => decide (1 ≤ l.length) && decide (l.length ≤ 14) && l.all nameB && risingB sltD l
  | none => false
structure Ths (v : D) (ths : List Str) : Prop where
  tup : v = .tup (ths.map .str) ∨ v = .ntp (ths.map .str)
  name : ∀ x ∈ ths, nmB x = true ∧ PyData.strOk x = true ∧ x.length ≤ 1000
  lo : 1 ≤ ths.length
  hi : ths.length ≤ 14
  rise : ths.Pairwise fun a b => DatumOrd.lt a b = true
theorem risingB_pair {α : Type} {lt : D → D → Bool} {r : α → α → Bool} {en : α → D} (hl : ∀ a b, lt (en a) (en b) = r a b) (ht : ∀ a b c, r a b = true → r b c = true → r a c = true) : ∀ {l : List α}, risingB lt (l.map en) = true ↔ l.Pairwise fun a b => r a b = true
  | [] => by simp [risingB]
  | [a] => by simp [risingB]
  | a :: b :: l => by
    have ih := risingB_pair hl ht (l := b :: l)
    simp only [List.map_cons] at ih
    simp only [List.map_cons, risingB, Bool.and_eq_true, ih, hl]
    constructor
    · rintro ⟨h1, h2⟩
      refine List.pairwise_cons.mpr ⟨fun c hc => ?_, h2⟩
      rcases List.mem_cons.mp hc with rfl | hc
      · exact h1
      · exact ht _ _ _ h1 ((List.pairwise_cons.mp h2).1 c hc)
    · intro h
      exact ⟨(List.pairwise_cons.mp h).1 b List.mem_cons_self, (List.pairwise_cons.mp h).2⟩
theorem sltD_str (a b : Str) : sltD (.str a) (.str b) = DatumOrd.lt a b := rfl
theorem rising_strs {xs : List Str} : risingB sltD (xs.map .str) = true ↔ xs.Pairwise fun a b => DatumOrd.lt a b = true := risingB_pair sltD_str Enc.trans
theorem Ths.thingsB {v : D} {ths : List Str} (h : Ths v ths) : thingsB v = true := by
  have e : tupD v = some (ths.map .str) := by rcases h.tup with e | e <;> rw [e] <;> rfl
  unfold PL.thingsB
  rw [e]
  simp only [Bool.and_eq_true, decide_eq_true_eq]
  refine ⟨⟨⟨by simpa using h.lo, by simpa using h.hi⟩, ?_⟩, rising_strs.mpr h.rise⟩
  rw [List.all_map, List.all_eq_true]
  exact fun x hx => (h.name x hx).1
theorem plain_name {x : Str} (h : nmB x = true ∧ PyData.strOk x = true ∧ x.length ≤ 1000) : plain (.str x) = true := by simp [h.2]
theorem Ths.plain {v : D} {ths : List Str} (h : Ths v ths) : plain v = true := by
  have : plains (ths.map .str) = true := plains_iff.mpr fun d hd => by obtain ⟨x, hx, rfl⟩ := List.mem_map.mp hd; exact plain_name (h.name x hx)
  have h2 := h.hi
  rcases h.tup with e | e <;> rw [e] <;> simp [this] <;> omega
/-- a side of anything -/
def sideOf (v : D) : Option Side := match tupD v with
  | some [.str n, .int b] => if nmB n && (decide (0 ≤ b) && decide (b ≤ 1)) then some (n, b) else none
  | _ => none
/-- a rule of anything -/
def goodRule (r : Rule) : Bool := decide (r.1 = r.2) || DatumOrd.lt r.1.1 r.2.1
def ruleOf (v : D) : Option Rule := match tupD v with
  | some [a, b] => match sideOf a, sideOf b with
    | some s, some t => if goodRule (s, t) then some (s, t) else none
    | _, _ => none
  | _ => none
def ruleIn (ths : List Str) (v : D) : Bool := match ruleOf v with
  | some r => decide (r.1.1 ∈ ths) && decide (r.2.1 ∈ ths)
  | none => false
def rulesIn (ths : List Str) (v : D) (most : Nat) : Bool := match tupD v with
  | some l => decide (l.length ≤ most) && (l.all (ruleIn ths) && risingB ltD l)
  | none => false
def namesOf (v : D) : List Str := match tupD v with
  | some l => l.filterMap fun d => match d with | .str x => some x | _ => none
  | none => []
theorem Ths.names {v : D} {ths : List Str} (h : Ths v ths) : namesOf v = ths := by
  have e : tupD v = some (ths.map .str) := by rcases h.tup with e | e <;> rw [e] <;> rfl
  unfold namesOf; rw [e]; simp only [List.filterMap_map]
  exact List.filterMap_some
def bookB (v : D) : Bool := match tupD v with
  | some [t, r] => thingsB t && rulesIn (namesOf t) r 60
  | _ => false
end PL
namespace PL
open PySem PySem.Spec PyProof.Rows L2
theorem sIx_pos {n d : Nat} {k : Int} (h : 0 ≤ k) : HT.sIx n d (some k) = min k.toNat n := by
  show (if k < 0 then _ else min k.toNat n) = _
  rw [if_neg (by omega)]
theorem cutD_take {l : List D} {k : Int} (h : 0 ≤ k) : cutD l none (some k) = l.take k.toNat := by
  unfold cutD
  rw [sIx_pos h]
  show (l.drop 0).take (min k.toNat l.length - 0) = _
  rw [List.drop_zero, Nat.sub_zero, ← List.take_eq_take_min]
theorem cutD_drop {l : List D} {k : Int} (h : 0 ≤ k) : cutD l (some k) none = l.drop k.toNat := by
  unfold cutD
  rw [sIx_pos h]
  show (l.drop (min k.toNat l.length)).take (l.length - min k.toNat l.length) = _
  rw [List.take_of_length_le (by simp)]
  by_cases g : k.toNat ≤ l.length
  · rw [Nat.min_eq_left g]
  · rw [Nat.min_eq_right (by omega), List.drop_eq_nil_of_le (Nat.le_refl _), List.drop_eq_nil_of_le (by omega)]
/-- a slice of a tuple, as data -/
theorem cutN_tup {l : List D} {lo hi : Option Int} : tupD (cutN l lo hi) = some (cutD l lo hi) := by
  unfold cutN
  split
  · rename_i h
    unfold cutD
    rw [h.1, h.2]; simp [tupD]
  · rfl
abbrev cs (x : Str) : List Nat := x.cps.toList
theorem cs_len {x : Str} : x.length = (cs x).length := by simp [Str.length]
theorem strOk_iff {x : Str} : PyData.strOk x = true ↔ ∀ c ∈ cs x, c < 0x110000 := by
  unfold PyData.strOk
  rw [Array.all_eq_true_iff_forall_mem]
  simp [Array.mem_toList_iff]
theorem cLoop_inv {step : D → M (Option SV)} (I : Mem → Prop) (G : D → Prop) : ∀ {ds : List D} {μ : Mem}, I μ → (∀ d ∈ ds, ∀ μ, I μ → ∃ y μ', step d μ = .ok (some (.d y)) μ' ∧ G y ∧ I μ') → ∃ ys μ', cLoop step ds μ = .ok ys μ' ∧ ys.length = ds.length ∧ (∀ y ∈ ys, G y) ∧ I μ'
  | [], μ, h0, _ => ⟨[], μ, rfl, rfl, fun y hy => by simp at hy, h0⟩
  | d :: ds, μ, h0, hs => by
    obtain ⟨y, μ1, e, hy, h1⟩ := hs d List.mem_cons_self μ h0
    obtain ⟨ys, μ2, e2, hl, hg, h2⟩ := cLoop_inv I G (ds := ds) h1 fun d' hd' => hs d' (List.mem_cons_of_mem _ hd')
    refine ⟨y :: ys, μ2, ?_, by simp [hl], fun z hz => ?_, h2⟩
    · show (match step d μ with | .ok none μ' => cLoop step ds μ' | .ok (some (.d y)) μ' => _ | _ => .no) = _
      rw [e]
      show (match cLoop step ds μ1 with | .ok r μ2 => R.ok (y :: r) μ2 | _ => .no) = _
      rw [e2]
    · rcases List.mem_cons.mp hz with rfl | hz
      · exact hy
      · exact hg z hz
theorem loop_draw {step : D → M (Option SV)} {ds : List D} {μ : Mem} {z : R (List D)} (e : cLoop step ds μ = z) (I : Mem → Prop) (G : D → Prop) (h0 : I μ) (hs : ∀ d ∈ ds, ∀ μ, I μ → ∃ y μ', step d μ = .ok (some (.d y)) μ' ∧ G y ∧ I μ') : ∃ ys μ', z = .ok ys μ' ∧ ys.length = ds.length ∧ (∀ y ∈ ys, G y) ∧ I μ' := by
  subst e; exact cLoop_inv I G h0 hs
/-- .. whose members go with those of what is walked -/
theorem loop_drawT {α β : Type} {en : α → D} {en2 : β → D} {step : D → M (Option SV)} (I : Mem → Prop) (G : α → β → Prop) : ∀ {l : List α} {μ : Mem} {z : R (List D)}, cLoop step (l.map en) μ = z → I μ → (∀ a ∈ l, ∀ μ, I μ → ∃ c μ', step (en a) μ = .ok (some (.d (en2 c))) μ' ∧ G a c ∧ I μ') → ∃ (cs : List β) (μ' : Mem), z = .ok (cs.map en2) μ' ∧ cs.length = l.length ∧ (∀ (i : Nat) (a : α) (c : β), l[i]? = some a → cs[i]? = some c → G a c) ∧ I μ'
  | [], μ, _, rfl, h0, _ => ⟨[], μ, rfl, rfl, fun i a c h => by simp at h, h0⟩
  | a :: l, μ, _, rfl, h0, hs => by
    obtain ⟨c, μ1, e, hc, h1⟩ := hs a List.mem_cons_self μ h0
    obtain ⟨cs, μ2, e2, hl, hg, h2⟩ := loop_drawT I G (l := l) rfl h1 fun d' hd' => hs d' (List.mem_cons_of_mem _ hd')
    refine ⟨c :: cs, μ2, ?_, by simp [hl], fun i x y hx hy => ?_, h2⟩
    · show (match step (en a) μ with | .ok none μ' => cLoop step (l.map en) μ' | .ok (some (.d y)) μ' => _ | _ => .no) = _
      rw [e]
      show (match cLoop step (l.map en) μ1 with | .ok r μ2 => R.ok (en2 c :: r) μ2 | _ => .no) = _
      rw [e2]
      rfl
    · cases i with
      | zero => simp at hx hy; subst hx hy; exact hc
      | succ i => exact hg i x y (by simpa using hx) (by simpa using hy)
def jK (m : M SV) (s : SV) : M SV := match s with
  | .d (.str a) => bnd m fun z => joinF (.d (.str a)) z
  | _ => fun _ => .no
@[simp ↓] theorem fJoin_s {fo fe : FX} {ρ : FEnv} {μ : Mem} : fJoin fo fe ρ μ = bR (fo ρ μ) (jK (fe ρ)) := bnd_s
@[simp ↓] theorem jK_s {m : M SV} {a : Str} {μ : Mem} : jK m (.d (.str a)) μ = bR (m μ) (joinF (.d (.str a))) := bnd_s
theorem letters_cs : cs LETTERS = List.range' 97 26 := by decide +kernel
theorem mem_letters {c : Nat} : c ∈ cs LETTERS ↔ 97 ≤ c ∧ c < 123 := by rw [letters_cs, List.mem_range'_1]
theorem nmB_iff {x : Str} : nmB x = true ↔ 1 ≤ (cs x).length ∧ (cs x).length ≤ 8 ∧ ∀ c ∈ cs x, 97 ≤ c ∧ c < 123 := by
  unfold nmB letterB
  simp only [Bool.and_eq_true, decide_eq_true_eq, List.all_eq_true, cs_len]
  constructor
  · rintro ⟨h1, h2, h3⟩; exact ⟨h1, h2, fun c hc => mem_letters.mp (h3 c hc)⟩
  · rintro ⟨h1, h2, h3⟩; exact ⟨h1, h2, fun c hc => mem_letters.mpr (h3 c hc)⟩
theorem nmB_strOk {x : Str} (h : nmB x = true) : PyData.strOk x = true := strOk_iff.mpr fun c hc => by have := (nmB_iff.mp h).2.2 c hc; omega
theorem nmB_good {x : Str} (h : nmB x = true) : nmB x = true ∧ PyData.strOk x = true ∧ x.length ≤ 1000 := ⟨h, nmB_strOk h, by have := (nmB_iff.mp h).2.1; rw [cs_len]; omega⟩
theorem nodup_le {α : Type} [DecidableEq α] : ∀ {l l' : List α}, l.Nodup → (∀ a ∈ l, a ∈ l') → l.length ≤ l'.length
  | [], _, _, _ => Nat.zero_le _
  | a :: l, l', h, hs => by
    have h1 := List.nodup_cons.mp h
    have ha := hs a List.mem_cons_self
    have := nodup_le (l' := l'.erase a) h1.2 fun b hb => (List.mem_erase_of_ne (fun e => h1.1 (by rw [← e]; exact hb))).mpr (hs b (List.mem_cons_of_mem _ hb))
    rw [List.length_erase_of_mem ha] at this
    have := List.length_pos_of_mem ha
    simp only [List.length_cons]; omega
noncomputable def ixK (m : M (List SV)) (s : SV) (μ : Mem) : R SV := match s with
  | .d (.ntp _) => bnd m (indexF s) μ
  | _ => if (lstOf s μ).isSome = true then bnd m (indexF s) μ else .no
@[simp ↓] theorem fIndex_s {fo : FX} {fl : FA} {ρ : FEnv} {μ : Mem} : fIndex fo fl ρ μ = bR (fo ρ μ) (ixK (fl ρ)) := bnd_s
@[simp ↓] theorem ixK_n {m : M (List SV)} {l : List D} {μ : Mem} : ixK m (.d (.ntp l)) μ = bR (m μ) (indexF (.d (.ntp l))) := by
  show bnd m _ μ = _; exact bnd_s
@[simp] theorem plains_append {l m : List D} : plains (l ++ m) = (plains l && plains m) := by
  rw [Bool.eq_iff_iff, Bool.and_eq_true, plains_iff, plains_iff, plains_iff]
  exact ⟨fun h => ⟨fun d hd => h d (List.mem_append_left _ hd), fun d hd => h d (List.mem_append_right _ hd)⟩, fun h d hd => (List.mem_append.mp hd).elim (h.1 d) (h.2 d)⟩
theorem plain_tupD {v : D} {l : List D} (h : tupD v = some l) (hz : l.length ≤ 100000) (hp : plains l = true) : plain v = true := by
  cases v <;> simp [tupD] at h <;> subst h <;> simp [hz, hp]
theorem atI_last {α : Type} {l : List α} (h : 0 < l.length) : atI l (-1) = some (l[l.length - 1]'(by omega)) := by
  unfold atI ixN
  rw [if_neg (by omega), if_pos (by omega), show (-1 + (l.length : Int)).toNat = l.length - 1 by omega]
  exact List.getElem?_eq_getElem (by omega)
theorem cutT {w : D} {l : List D} {lo hi : Option Int} (h : tupD w = some l) : ∃ w', tupD w' = some (cutD l lo hi) ∧ ∀ μ, slF (.d w) lo hi μ = .ok (.d w') μ := by
  cases w <;> simp only [tupD, Option.some.injEq, reduceCtorEq] at h <;> subst h
  · exact ⟨_, rfl, fun _ => rfl⟩
  · exact ⟨_, cutN_tup, fun _ => rfl⟩

end PL
namespace PL
open PySem PySem.Spec PyProof.Rows L2
open PySem.W (Datum DatumOrd)
--.
--.
noncomputable def f__law_one (BEL : List SV → M SV) : List SV → M SV := fDef 2 (fRet (fOp ixF (fV 1) (fCall (callM BEL) (fCons (fV 0) (fCons (fCall lenF (fCons (fV 1) fNil)) fNil)))))
--.
--.
--.
--.
--.
--.
abbrev Pool := Int × Int × Int
def pc (p : Pool) : Cell := .lst [.int p.1, .int p.2.1, .int p.2.2]
@[simp ↓] theorem flC_pc {α : Type} {p : Pool} {r : R α} : flC (pc p) r = r := rfl
/-- a draw below n -/
structure Bel (B : List SV → M SV) : Prop where
  ok : ∀ (n : Int) (p : Pool), 0 < n → n < 1073741824 → ∃ r p', 0 ≤ r ∧ r < n ∧ B [.c 0, .d (.int n)] [pc p] = .ok (.d (.int r)) [pc p']
theorem callM_pool {f : List SV → M SV} {ss : List SV} {p p' : Pool} {d : D} {R R' : Mem} (hs : cellsOf ss = []) (hr : relab 1 ss = ss) (h : f (.c 0 :: ss) [pc p] = .ok (.d d) (pc p' :: R')) : callM f (.c 0 :: ss) (pc p :: R) = .ok (.d d) (pc p' :: R) := by
  rw [callM_s]; simp [hs, hr, h]
theorem Bel.call {B : List SV → M SV} (b : Bel B) {n : Int} {p : Pool} {R : Mem} (h0 : 0 < n) (h1 : n < 1073741824) : ∃ r p', 0 ≤ r ∧ r < n ∧ callM B [.c 0, .d (.int n)] (pc p :: R) = .ok (.d (.int r)) (pc p' :: R) := by
  obtain ⟨r, p', h2, h3, e⟩ := b.ok n p h0 h1
  exact ⟨r, p', h2, h3, callM_pool rfl rfl e⟩
theorem ixN30 : ixN 3 0 = some 0 := rfl
theorem ixN31 : ixN 3 1 = some 1 := rfl
theorem ixN32 : ixN 3 2 = some 2 := rfl
theorem one_ok {B : List SV → M SV} (b : Bel B) {v : D} {l : List D} {p : Pool} (hv : tupD v = some l ∨ v = .lst l) (h0 : 0 < l.length) (hz : l.length < 1073741824) : ∃ d p', d ∈ l ∧ f__law_one B [.c 0, .d v] [pc p] = .ok (.d d) [pc p'] := by
  obtain ⟨r, p', h1, h2, e⟩ := b.call (R := []) (n := l.length) (p := p) (by omega) (by omega)
  obtain ⟨i, rfl⟩ := Int.eq_ofNat_of_zero_le h1
  have hi : i < l.length := by omega
  refine ⟨l[i], p', List.getElem_mem hi, ?_⟩
  have hv2 : v = .tup l ∨ v = .ntp l ∨ v = .lst l := by
    rcases hv with hv | hv
    · cases v <;> simp [tupD] at hv <;> subst hv <;> simp
    · exact .inr (.inr hv)
  rcases hv2 with rfl | rfl | rfl <;> simp [f__law_one, e, -callM_s, hi]
theorem pairwise_names {fs : List Str} (hn : fs.Nodup) (hf : ∀ y ∈ fs, nmB y = true) (h0 : 1 ≤ fs.length) (h1 : fs.length ≤ 14) : Ths (.ntp ((srt fs).map .str)) (srt fs) where
  tup := .inr rfl
  name x hx := nmB_good (hf x (mem_srt.mp hx))
  lo := by rw [srt_length]; exact h0
  hi := by rw [srt_length]; exact h1
  rise := srt_lt hn
abbrev sD (s : Side) : D := .tup [.str s.1, .int s.2]
abbrev rD (r : Rule) : D := .tup [sD r.1, sD r.2]
def okS (ths : List Str) (s : Side) : Prop := s.1 ∈ ths ∧ (s.2 = 0 ∨ s.2 = 1)
def okR (ths : List Str) (r : Rule) : Prop := okS ths r.1 ∧ okS ths r.2 ∧ goodRule r = true
def sBack (s : Side) : Side := (s.1, 1 - s.2)
theorem okS_back {ths : List Str} {s : Side} (h : okS ths s) : okS ths (sBack s) := ⟨h.1, by have := h.2; simp only [sBack]; omega⟩
structure Book (v : D) (ths : List Str) (rs : List Rule) : Prop where
  eq : v = .tup [.ntp (ths.map .str), .ntp (rs.map rD)] ∨ v = .tup [.ntp (ths.map .str), .tup (rs.map rD)]
  tth : Ths (.ntp (ths.map .str)) ths
  rule : ∀ r ∈ rs, okR ths r
  few : rs.length ≤ 60
  rise : rs.Pairwise fun a b => DatumOrd.lt a b = true
theorem okk_rule {ths : List Str} {r : Rule} (h : okR ths r) (hn : ∀ x ∈ ths, nmB x = true) : Enc.okk r = true := by
  show ((PyData.strOk r.1.1 && true) && (PyData.strOk r.2.1 && true)) = true
  rw [nmB_strOk (hn _ h.1.1), nmB_strOk (hn _ h.2.1.1)]; rfl
/-- a book of any few rules, in any order -/
structure Bk (v : D) (ths : List Str) (rs : List Rule) : Prop where
  eq : v = .tup [.ntp (ths.map .str), .ntp (rs.map rD)] ∨ v = .tup [.ntp (ths.map .str), .tup (rs.map rD)]
  tth : Ths (.ntp (ths.map .str)) ths
  rule : ∀ r ∈ rs, okR ths r
  few : rs.length ≤ 400
theorem Book.bk {v : D} {ths : List Str} {rs : List Rule} (h : Book v ths rs) : Bk v ths rs := ⟨h.eq, h.tth, h.rule, by have := h.few; omega⟩
theorem sideOf_sD {ths : List Str} {s : Side} (h : okS ths s) (hnm : ∀ x ∈ ths, nmB x = true) : sideOf (sD s) = some s := by
  unfold sideOf
  simp only [tupD_t, hnm _ h.1, Bool.true_and]
  have h1 : (0 : Int) ≤ s.2 := by rcases h.2 with e | e <;> rw [e] <;> decide
  have h2 : s.2 ≤ 1 := by rcases h.2 with e | e <;> rw [e] <;> decide
  simp [h1, h2]
theorem ruleOf_rD {ths : List Str} {r : Rule} (h : okR ths r) (hnm : ∀ x ∈ ths, nmB x = true) : ruleOf (rD r) = some r := by
  unfold ruleOf
  simp only [tupD_t, sideOf_sD h.1 hnm, sideOf_sD h.2.1 hnm]
  rw [if_pos h.2.2]
theorem ruleIn_rD {ths : List Str} {r : Rule} (h : okR ths r) (hnm : ∀ x ∈ ths, nmB x = true) : ruleIn ths (rD r) = true := by
  unfold ruleIn; rw [ruleOf_rD h hnm]; simp [h.1.1, h.2.1.1]
theorem rD_is {ths : List Str} {r : Rule} (h : okR ths r) (hnm : ∀ x ∈ ths, nmB x = true) : Is (rD r) r := Is.en (okk_rule h hnm)
theorem rising_rules : ∀ {rs : List Rule} {ths : List Str}, (∀ r ∈ rs, okR ths r) → (∀ x ∈ ths, nmB x = true) → rs.Pairwise (fun a b => DatumOrd.lt a b = true) → risingB ltD (rs.map rD) = true := fun {rs ths} hr hnm hp => by
  have e : ∀ (rs : List Rule), (∀ r ∈ rs, okR ths r) → rs.Pairwise (fun a b => DatumOrd.lt a b = true) → risingB ltD (rs.map rD) = true := by
    intro rs
    induction rs with
    | nil => intro _ _; rfl
    | cons a l ih =>
      intro hr hp
      cases l with
      | nil => rfl
      | cons c l =>
        have h1 := List.pairwise_cons.mp hp
        have h2 := ih (fun r h => hr r (List.mem_cons_of_mem _ h)) h1.2
        simp only [List.map_cons, risingB, Bool.and_eq_true] at h2 ⊢
        refine ⟨?_, h2⟩
        rw [(rD_is (hr a List.mem_cons_self) hnm).ltD (rD_is (hr c (by simp)) hnm)]
        exact h1.1 c List.mem_cons_self
  exact e rs hr hp
theorem rules_true {ths : List Str} {rs : List Rule} {n : Nat} (hr : ∀ r ∈ rs, okR ths r) (hnm : ∀ x ∈ ths, nmB x = true) (hp : rs.Pairwise fun a b => DatumOrd.lt a b = true) (hz : rs.length ≤ n) : rulesIn ths (.ntp (rs.map rD)) n = true := by
  unfold rulesIn
  simp only [tupD_n, List.length_map, decide_eq_true hz, rising_rules hr hnm hp, Bool.true_and, Bool.and_true, List.all_map, List.all_eq_true]
  exact fun r h => ruleIn_rD (hr r h) hnm
theorem rules_trueT {ths : List Str} {rs : List Rule} {n : Nat} (hr : ∀ r ∈ rs, okR ths r) (hnm : ∀ x ∈ ths, nmB x = true) (hp : rs.Pairwise fun a b => DatumOrd.lt a b = true) (hz : rs.length ≤ n) : rulesIn ths (.tup (rs.map rD)) n = true := rules_true hr hnm hp hz
theorem Book.true {v : D} {ths : List Str} {rs : List Rule} (h : Book v ths rs) : bookB v = true := by
  unfold bookB
  rcases h.eq with e | e <;> rw [e] <;> simp only [rules_trueT h.rule (fun x hx => (h.tth.name x hx).1) h.rise h.few, tupD_t, h.tth.thingsB, h.tth.names, rules_true h.rule (fun x hx => (h.tth.name x hx).1) h.rise h.few, Bool.and_self]

end PL
namespace PL
open PySem PySem.Spec PyProof.Rows L2
open PySem.W (Datum DatumOrd)
--.
--.
--.
--.
--.
--.
--.
--.
end PL
namespace PL
open PySem PySem.Spec PyProof.Rows L2
open PySem.W (Datum DatumOrd)
--.
--.
--.
--.
--.
--.
--.
--.
--.
--.
--.
noncomputable def f__law_all : List SV → M SV := fDef 1 (fSeq (fAsg (fLst (fCons (fTup fNil) fNil)) (gN 1))
  (fSeq (fFor (rng1F (fCons (fV 0) fNil)) (gN 2) (fAsg (fOp addF (fLc finLF (itF (fV 1)) (gN 3) fYes (fOp addF (fV 3) (fTup (fCons (fC (.int 0)) fNil))) [3]) (fLc finLF (itF (fV 1)) (gN 3) fYes (fOp addF (fV 3) (fTup (fCons (fC (.int 1)) fNil))) [3])) (gN 1)))
  (fRet (fV 1))))
--.
--.
theorem Ths.lenF {t : D} {ths : List Str} {μ : Mem} (h : Ths t ths) : lenF [.d t] μ = .ok (.d (.int ths.length)) μ := by
  rcases h.tup with e | e <;> subst e <;> simp [lenF, lenOf]
theorem Ths.lenOf {t : D} {ths : List Str} {μ : Mem} (h : Ths t ths) : lenOf (.d t) μ = some ths.length := by
  rcases h.tup with e | e <;> subst e <;> simp [PL.lenOf]
/-- what a choosing says of a name -/
def vl : List Str → List Int → Str → Int
  | x :: xs, c :: cs, y => if x = y then c else vl xs cs y
  | _, _, _ => 0
theorem find_vl {y : Str} : ∀ {ths : List Str} {cs : List Int}, ths.length = cs.length → y ∈ ths → findD (ths.map .str) (cs.map .int) (.str y) = some (.int (vl ths cs y))
  | [], _, _, h => by simp at h
  | x :: xs, [], e, _ => by simp at e
  | x :: xs, c :: cs, e, h => by
    simp only [List.map_cons, findD, vl, D.str.injEq]
    by_cases q : x = y
    · simp [q]
    · rw [if_neg q, if_neg q]
      exact find_vl (by simpa using e) ((List.mem_cons.mp h).resolve_left fun z => q z.symm)
def hasS (ths : List Str) (cs : List Int) (s : Side) : Bool := decide (vl ths cs s.1 = s.2)
/-- a rule of which neither side is taken -/
def lost (ths : List Str) (cs : List Int) (r : Rule) : Bool := !hasS ths cs r.1 && !hasS ths cs r.2
theorem keys_of {ths : List Str} {cs : List Int} (hn : ths.Nodup) (e : ths.length = cs.length) : KeysOf (ths.map .str) (cs.map .int) := by
  refine ⟨⟨?_, by simpa using e⟩, fun d hd => ?_⟩
  · exact List.pairwise_map.mpr (hn.imp fun h q => h (by injection q))
  · obtain ⟨x, _, rfl⟩ := List.mem_map.mp hd
    rfl
theorem rise_ne {α : Type} [DecidableEq α] [DatumOrd α] {a b : α} (h : DatumOrd.lt a b = true) : a ≠ b := fun e => by
  subst e
  rw [← DatumOrd.lt_eq, PySem.W.dataLt_self] at h
  cases h
theorem Ths.nodup {t : D} {ths : List Str} (h : Ths t ths) : ths.Nodup := h.rise.imp rise_ne
theorem dgetF_dic {t : Bool} {ks vs : List D} {k d : D} {μ : Mem} (hf : fitK t k = true) (h : findD ks vs k = some d) : dgetF (.d (.dic t ks vs)) (.d k) μ = .ok (.d d) μ := by
  simp [dgetF, dicOf, grd, hf, h]
theorem dzip_ok {t v : D} {l m : List D} {μ : Mem} (ht : tupD t = some l) (hv : tupD v = some m) (h : KeysOf l m) : dzipF [.d t, .d v] μ = .ok (.d (.dic false l m)) μ := by
  have e1 : tupOf (.d t) = some l := by cases t <;> exact ht
  have e2 : tupOf (.d v) = some m := by cases v <;> exact hv
  simp [dzipF, e1, e2, grd, h, ret]
theorem has_ok {ths : List Str} {cs : List Int} {s : Side} {μ : Mem} (e : ths.length = cs.length) (hs : s.1 ∈ ths) : dgetF (.d (.dic false (ths.map .str) (cs.map .int))) (.d (.str s.1)) μ = .ok (.d (.int (vl ths cs s.1))) μ := dgetF_dic rfl (find_vl e hs)
theorem Ths.tupD {t : D} {ths : List Str} (h : Ths t ths) : tupD t = some (ths.map .str) := by
  rcases h.tup with e | e <;> subst e <;> rfl
theorem all_okA {n : Nat} {μ : Mem} (hn : n ≤ 14) : ∃ css : List (List Int), css.length = 2 ^ n ∧ (∀ cs ∈ css, cs.length = n ∧ ∀ x ∈ cs, x = 0 ∨ x = 1) ∧ (∀ cs : List Int, cs.length = n → (∀ x ∈ cs, x = 0 ∨ x = 1) → cs ∈ css) ∧ f__law_all [.d (.int n)] μ = .ok (.d (.lst (css.map fun cs => .tup (cs.map .int)))) μ := by
  have key : gives (f__law_all [.d (.int n)] μ) fun s μ2 => ∃ css : List (List Int), css.length = 2 ^ n ∧ (∀ cs ∈ css, cs.length = n ∧ ∀ x ∈ cs, x = 0 ∨ x = 1) ∧ (∀ cs : List Int, cs.length = n → (∀ x ∈ cs, x = 0 ∨ x = 1) → cs ∈ css) ∧ s = .d (.lst (css.map fun cs => .tup (cs.map .int))) ∧ μ2 = μ := by
    have z1 : (n : Int) < 4611686018427387904 := by omega
    have z2 : (-4611686018427387904 : Int) ≤ n := by omega
    have z3 : n ≤ 16777216 := by omega
    simp [isK, isKB, tupD, sizeLine_eq, f__law_all, z1, z2, z3]
    generalize el : fLoop _ _ _ _ = z
    obtain ⟨ρ', μ', rfl, css, c1, c2, c3, r1, rfl⟩ := loop_inv el (fun i ρ μ2 => ∃ css : List (List Int), css.length = 2 ^ i ∧ (∀ cs ∈ css, cs.length = i ∧ ∀ x ∈ cs, x = 0 ∨ x = 1) ∧ (∀ cs : List Int, cs.length = i → (∀ x ∈ cs, x = 0 ∨ x = 1) → cs ∈ css) ∧ ρ 1 = .d (.lst (css.map fun cs => .tup (cs.map .int))) ∧ μ2 = μ) ⟨[[]], rfl, by simp, fun cs h _ => by simp [List.eq_nil_of_length_eq_zero h], by simp, rfl⟩ (by
      rintro i d ρ μ2 hd ⟨css, c1, c2, c3, r1, rfl⟩
      have hi : i < n := by
        have := (List.getElem?_eq_some_iff.mp hd).1
        simpa [rngD] using this
      have hp : 2 ^ i ≤ 2 ^ 13 := Nat.pow_le_pow_right (by omega) (by omega)
      have hp : css.length ≤ 8192 := by rw [c1]; exact hp
      have lp : ∀ (b : Int) (ρ : FEnv), cLoop (cStep (gN 3) fYes (fOp addF (fV 3) (fTup (fCons (fC (.int b)) fNil))) [3] ρ) (css.map fun cs => .tup (cs.map .int)) μ2 = .ok (css.map fun cs => .tup ((cs ++ [b]).map .int)) μ2 := fun b ρ => by
        refine cLoop_mapT _ fun cs hcs => ?_
        have h1 := (c2 cs hcs).1
        have h2 : cs.length + 1 ≤ 16777216 := by omega
        simp [isK, isKB, tupD, sizeLine_eq, cStep, h2]
      have q1 : css.length ≤ 8388608 := by omega
      have q2 : css.length + css.length ≤ 16777216 := by omega
      have q0 : css.length ≤ 16777216 := by omega
      simp [isK, isKB, tupD, sizeLine_eq, r1, lp, finLF, q0, q1, q2]
      refine ⟨css.map (fun cs => cs ++ [0]) ++ css.map (fun cs => cs ++ [1]), ?_, ?_, ?_, ?_, rfl⟩
      · simp [c1, Nat.pow_succ]; omega
      · intro cs hcs
        simp only [List.mem_append, List.mem_map] at hcs
        rcases hcs with ⟨a, ha, rfl⟩ | ⟨a, ha, rfl⟩ <;> refine ⟨by simp [(c2 a ha).1], fun x hx => ?_⟩ <;> simp at hx <;> rcases hx with hx | hx
        · exact (c2 a ha).2 x hx
        · exact .inl hx
        · exact (c2 a ha).2 x hx
        · exact .inr hx
      · intro cs hl hb
        have hne : cs ≠ [] := fun z => by subst z; simp at hl
        obtain ⟨a, z, rfl⟩ : ∃ a z, cs = a ++ [z] := ⟨cs.dropLast, cs.getLast hne, (List.dropLast_concat_getLast hne).symm⟩
        have ha : a ∈ css := c3 a (by simpa using hl) fun x hx => hb x (by simp [hx])
        rcases hb z (by simp) with rfl | rfl
        · exact List.mem_append_left _ (List.mem_map.mpr ⟨a, ha, rfl⟩)
        · exact List.mem_append_right _ (List.mem_map.mpr ⟨a, ha, rfl⟩)
      · simp [Function.comp_def])
    simp [isK, isKB, tupD, sizeLine_eq, r1]
    have hL : (rngD 0 n).length = n := by simp [rngD]
    refine gives_ok ⟨css, ?_, ?_, ?_, rfl, rfl⟩
    · simpa using c1
    · simpa using c2
    · simpa using c3
  obtain ⟨_, _, e, css, h1, h2, h3, rfl, rfl⟩ := key
  exact ⟨css, h1, h2, h3, e⟩
/-- a row of truths that are all true -/
theorem trues {ys : List D} (hg : ∀ y ∈ ys, y = .bl true) : ∃ bs, bools ys = some bs ∧ bs.all id = true := by
  induction ys with
  | nil => exact ⟨[], rfl, rfl⟩
  | cons a l ih =>
    obtain ⟨bs, h1, h2⟩ := ih fun y hy => hg y (by simp [hy])
    have h3 := hg a (by simp)
    subst h3
    exact ⟨true :: bs, by simp [bools, h1], by simpa using h2⟩
end PL
namespace PL
open PySem PySem.Spec PyProof.Rows L2
open PySem.W (Datum DatumOrd)
--.
--.
--.
--.
--.
--.
/-- the steps from a side by one rule -/
def stp (s : Side) (p : Rule × Nat) : List (Nat × Side) := (if s = sBack p.1.1 then [(p.2, p.1.2)] else []) ++ (if p.1.1 ≠ p.1.2 ∧ s = sBack p.1.2 then [(p.2, p.1.1)] else [])
def stpsTo (rs : List Rule) (n : Nat) (s : Side) : List (Nat × Side) := (rs.zipIdx.take n).flatMap (stp s)
abbrev stps (rs : List Rule) (s : Side) : List (Nat × Side) := stpsTo rs rs.length s
end PL
namespace PL
open PySem PySem.Spec PyProof.Rows L2
open PySem.W (Datum DatumOrd)
--.
--.
--.
--.
--.
--.
--.
--.
theorem sBack_back {s : Side} : sBack (sBack s) = s := by
  obtain ⟨a, b⟩ := s
  simp only [sBack, Prod.mk.injEq, true_and]
  omega
/-- where a rule leads from a side -/
def hop (s : Side) (r : Rule) : Option Side := if sBack r.1 = s then some r.2 else if sBack r.2 = s then some r.1 else none
def hopAt (rs : List Rule) (s : Side) (i : Nat) : Option Side := rs[i]?.bind (hop s)
/-- .. and a row of them -/
def go (rs : List Rule) : Side → List Nat → Option Side
  | s, [] => some s
  | s, i :: is => (hopAt rs s i).bind fun t => go rs t is
theorem go_app {rs : List Rule} {i : Nat} : ∀ {is : List Nat} {s : Side}, go rs s (is ++ [i]) = (go rs s is).bind fun t => hopAt rs t i
  | [], s => by
    show (hopAt rs s i).bind (fun t => some t) = hopAt rs s i
    cases hopAt rs s i <;> rfl
  | j :: is, s => by
    simp only [List.cons_append, go]
    cases hopAt rs s j with
    | none => rfl
    | some t => exact go_app (is := is)
theorem hop_ok {ths : List Str} {s t : Side} {r : Rule} (hr : okR ths r) (h : hop s r = some t) : okS ths t := by
  unfold hop at h
  split at h
  · cases h; exact hr.2.1
  · split at h
    · cases h; exact hr.1
    · cases h
theorem hopAt_ok {ths : List Str} {rs : List Rule} {s t : Side} {i : Nat} (hr : ∀ r ∈ rs, okR ths r) (h : hopAt rs s i = some t) : okS ths t := by
  unfold hopAt at h
  obtain ⟨r, h1, h2⟩ := Option.bind_eq_some_iff.mp h
  exact hop_ok (hr r (List.mem_of_getElem? h1)) h2
theorem go_ok {ths : List Str} {rs : List Rule} {t : Side} (hr : ∀ r ∈ rs, okR ths r) : ∀ {is : List Nat} {s : Side}, okS ths s → go rs s is = some t → okS ths t
  | [], s, hs, h => by cases h; exact hs
  | i :: is, s, hs, h => by
    obtain ⟨u, h1, h2⟩ := Option.bind_eq_some_iff.mp h
    exact go_ok hr (hopAt_ok hr h1) h2
theorem ixT {w d : D} {l : List D} {i : Nat} {μ : Mem} (h : tupD w = some l) (e : l[i]? = some d) : ixF (.d w) (.d (.int i)) μ = .ok (.d d) μ := by
  cases w <;> simp only [tupD, Option.some.injEq, reduceCtorEq] at h <;> subst h <;> simp only [ixF, ixOf, atI_n, e]
end PL
namespace PL
open PySem PySem.Spec PyProof.Rows L2
open PySem.W (Datum DatumOrd)
--.
--.
--.
--.
/-- a side that was come to: from where, how far -/
structure Ent where
  side : Side
  par : Option (Nat × Side)
  dep : Nat
/-- what a search in breadth has when the first at_ sides are done -/
structure Bfs (rs : List Rule) (s : Side) (E : List Ent) (at_ : Nat) : Prop where
  head : E[0]? = some ⟨s, none, 0⟩
  tree : ∀ (k : Nat) (e : Ent), E[k]? = some e → k = 0 ∨ ∃ j f i, j < k ∧ E[j]? = some f ∧ e.par = some (i, f.side) ∧ hopAt rs f.side i = some e.side ∧ e.dep = f.dep + 1
  nodup : (E.map Ent.side).Nodup
  mono : ∀ (i j : Nat) (e f : Ent), i ≤ j → E[i]? = some e → E[j]? = some f → e.dep ≤ f.dep
  top : ∀ a : Ent, E[at_]? = some a → ∀ e ∈ E, e.dep ≤ a.dep + 1
  done : ∀ (i : Nat) (e : Ent), i < at_ → E[i]? = some e → ∀ p ∈ stps rs e.side, ∃ f ∈ E, f.side = p.2 ∧ f.dep ≤ e.dep + 1
theorem Bfs.start {rs : List Rule} {s : Side} : Bfs rs s [⟨s, none, 0⟩] 0 where
  head := rfl
  tree := fun k e h => by
    cases k with
    | zero => exact .inl rfl
    | succ k => simp at h
  nodup := by simp
  mono := fun i j e f h h1 h2 => by
    obtain ⟨e1, rfl⟩ := List.mem_singleton.mp (List.mem_of_getElem? h1)
    obtain rfl := List.mem_singleton.mp (List.mem_of_getElem? h2)
    exact Nat.zero_le _
  top := fun a h e he => by
    obtain rfl := List.mem_singleton.mp he
    exact Nat.zero_le _
  done := fun i e h => by omega
theorem Bfs.add {rs : List Rule} {s t : Side} {E : List Ent} {at_ i : Nat} {a : Ent} (B : Bfs rs s E at_) (ha : E[at_]? = some a) (hi : hopAt rs a.side i = some t) (ht : t ∉ E.map Ent.side) : Bfs rs s (E ++ [⟨t, some (i, a.side), a.dep + 1⟩]) at_ := by
  have hl := (List.getElem?_eq_some_iff.mp ha).1
  have cs : ∀ {k e}, (E ++ [(⟨t, some (i, a.side), a.dep + 1⟩ : Ent)])[k]? = some e → E[k]? = some e ∨ (k = E.length ∧ e = ⟨t, some (i, a.side), a.dep + 1⟩) := fun {k e} h => by
    rcases Nat.lt_or_ge k E.length with q | q
    · rw [List.getElem?_append_left q] at h; exact .inl h
    · rw [List.getElem?_append_right q] at h
      cases q2 : k - E.length with
      | zero => rw [q2] at h; simp at h; exact .inr ⟨by omega, h.symm⟩
      | succ m => rw [q2] at h; simp at h
  have up : ∀ {k e}, E[k]? = some e → (E ++ [(⟨t, some (i, a.side), a.dep + 1⟩ : Ent)])[k]? = some e := fun {k e} h => by
    rw [List.getElem?_append_left (List.getElem?_eq_some_iff.mp h).1]; exact h
  refine ⟨up B.head, fun k e h => ?_, ?_, fun p q e f hpq h1 h2 => ?_, fun a' h e he => ?_, fun p e hp h x hx => ?_⟩
  · rcases cs h with h | ⟨rfl, rfl⟩
    · rcases B.tree k e h with h | ⟨j, f, i', h1, h2, h3⟩
      · exact .inl h
      · exact .inr ⟨j, f, i', h1, up h2, h3⟩
    · exact .inr ⟨at_, a, i, hl, up ha, rfl, hi, rfl⟩
  · rw [List.map_append]
    refine List.nodup_append.mpr ⟨B.nodup, by simp, fun x hx y hy z => ?_⟩
    simp at hy
    subst hy z
    exact ht hx
  · rcases cs h1 with h1 | ⟨rfl, rfl⟩
    · rcases cs h2 with h2 | ⟨rfl, rfl⟩
      · exact B.mono p q e f hpq h1 h2
      · exact B.top a ha e (List.mem_of_getElem? h1)
    · rcases cs h2 with h2 | ⟨rfl, rfl⟩
      · have := (List.getElem?_eq_some_iff.mp h2).1; omega
      · exact Nat.le_refl _
  · obtain rfl : a = a' := by
      rcases cs h with h | ⟨h, -⟩
      · exact Option.some.inj (ha.symm.trans h)
      · omega
    rcases List.mem_append.mp he with he | he
    · exact B.top a ha e he
    · simp at he; subst he; exact Nat.le_refl _
  · rcases cs h with h | ⟨h, -⟩
    · obtain ⟨f, h1, h2⟩ := B.done p e hp h x hx
      exact ⟨f, List.mem_append_left _ h1, h2⟩
    · omega
theorem Bfs.next {rs : List Rule} {s : Side} {E : List Ent} {at_ : Nat} {a : Ent} (B : Bfs rs s E at_) (ha : E[at_]? = some a) (h : ∀ p ∈ stps rs a.side, ∃ f ∈ E, f.side = p.2 ∧ f.dep ≤ a.dep + 1) : Bfs rs s E (at_ + 1) where
  head := B.head
  tree := B.tree
  nodup := B.nodup
  mono := B.mono
  top := fun b hb e he => Nat.le_trans (B.top a ha e he) (by have := B.mono at_ (at_ + 1) a b (by omega) ha hb; omega)
  done := fun i e hi he => by
    rcases Nat.lt_or_ge i at_ with q | q
    · exact B.done i e q he
    · obtain rfl : i = at_ := by omega
      obtain rfl : a = e := Option.some.inj (ha.symm.trans he)
      exact h
theorem Bfs.row {rs : List Rule} {s : Side} {E : List Ent} {at_ : Nat} (B : Bfs rs s E at_) : ∀ (k : Nat) (e : Ent), E[k]? = some e → ∃ is, go rs s is = some e.side ∧ is.length = e.dep := by
  intro k
  induction k using Nat.strongRecOn with
  | ind k ih =>
    intro e he
    rcases B.tree k e he with rfl | ⟨j, f, i, h1, h2, h3, h4, h5⟩
    · rw [B.head] at he
      cases he
      exact ⟨[], rfl, rfl⟩
    · obtain ⟨is, g1, g2⟩ := ih j h1 f h2
      exact ⟨is ++ [i], by rw [go_app, g1]; exact h4, by simp [g2, h5]⟩
theorem hop_back {s t : Side} {r : Rule} (h : hop s r = some t) : hop (sBack t) r = some (sBack s) := by
  obtain ⟨a, b⟩ := r
  unfold hop at h ⊢
  simp only at h ⊢
  split at h
  · rename_i h1
    cases h
    subst h1
    rw [sBack_back]
    split
    · rename_i h2
      have := congrArg sBack h2
      rw [sBack_back, sBack_back] at this
      rw [this]
    · rw [if_pos rfl]
  · split at h
    · rename_i h1 h2
      cases h
      subst h2
      rw [if_pos rfl, sBack_back]
    · cases h
theorem go_append {rs : List Rule} {bs : List Nat} : ∀ {as : List Nat} {s : Side}, go rs s (as ++ bs) = (go rs s as).bind fun t => go rs t bs
  | [], s => rfl
  | a :: as, s => by
    simp only [List.cons_append, go]
    cases hopAt rs s a with
    | none => rfl
    | some t => exact go_append (as := as)
theorem go_back {rs : List Rule} : ∀ {is : List Nat} {s t : Side}, go rs s is = some t → go rs (sBack t) is.reverse = some (sBack s)
  | [], s, t, h => by cases h; rfl
  | i :: is, s, t, h => by
    obtain ⟨u, h1, h2⟩ := Option.bind_eq_some_iff.mp h
    rw [List.reverse_cons, go_append, go_back h2]
    show go rs (sBack u) [i] = _
    unfold hopAt at h1
    obtain ⟨r, h3, h4⟩ := Option.bind_eq_some_iff.mp h1
    show (hopAt rs (sBack u) i).bind _ = _
    unfold hopAt
    rw [h3]
    show (hop (sBack u) r).bind _ = _
    rw [hop_back h4]
    rfl
end PL
namespace PL
open PySem PySem.Spec PyProof.Rows L2
open PySem.W (Datum DatumOrd)
/-- s leads to t -/
def Led (rs : List Rule) (s t : Side) : Prop := ∃ is, go rs s is = some t
theorem Led.refl {rs : List Rule} (s : Side) : Led rs s s := ⟨[], rfl⟩
theorem Led.trans {rs : List Rule} {s t u : Side} (h : Led rs s t) (g : Led rs t u) : Led rs s u := by
  obtain ⟨a, ha⟩ := h
  obtain ⟨c, hc⟩ := g
  exact ⟨a ++ c, by rw [go_append, ha]; exact hc⟩
theorem Led.back {rs : List Rule} {s t : Side} (h : Led rs s t) : Led rs (sBack t) (sBack s) := by
  obtain ⟨a, ha⟩ := h
  exact ⟨_, go_back ha⟩
theorem Led.ok {ths : List Str} {rs : List Rule} {s t : Side} (hr : ∀ r ∈ rs, okR ths r) (hs : okS ths s) (h : Led rs s t) : okS ths t := by
  obtain ⟨a, ha⟩ := h
  exact go_ok hr hs ha
theorem Led.rule {rs : List Rule} {a c : Side} (h : (a, c) ∈ rs) : Led rs (sBack a) c ∧ Led rs (sBack c) a := by
  obtain ⟨i, hi⟩ := List.getElem?_of_mem h
  have key : ∀ u v, hop u (a, c) = some v → Led rs u v := fun u v e => ⟨[i], by
    show (hopAt rs u i).bind _ = _
    unfold hopAt
    rw [hi]
    show (hop u (a, c)).bind _ = _
    rw [e]
    rfl⟩
  constructor
  · exact key _ _ (by unfold hop; rw [if_pos rfl])
  · by_cases e : sBack a = sBack c
    · have e2 : a = c := by have := congrArg sBack e; rwa [sBack_back, sBack_back] at this
      subst e2
      exact key _ _ (by unfold hop; rw [if_pos rfl])
    · exact key _ _ (by
        show (if sBack a = sBack c then some c else if sBack c = sBack c then some a else none) = some a
        rw [if_neg e, if_pos rfl])
/-- a lot of sides, closed under what is led to, no side of it with its back -/
structure Lot (rs : List Rule) (A : Side → Prop) : Prop where
  closed : ∀ s t, A s → Led rs s t → A t
  alone : ∀ s, A s → ¬ A (sBack s)
theorem lot_of {rs : List Rule} {s : Side} (h : ¬ Led rs s (sBack s)) : Lot rs (Led rs s) where
  closed := fun _ _ a g => a.trans g
  alone := fun t a c => h (by
    have := c.back
    rw [sBack_back] at this
    exact a.trans this)
theorem Lot.add {rs : List Rule} {A : Side → Prop} {s : Side} (L : Lot rs A) (h : ¬ Led rs s (sBack s)) (ha : ¬ A (sBack s)) : Lot rs fun t => A t ∨ Led rs s t where
  closed := fun t u a g => a.elim (fun a => .inl (L.closed t u a g)) fun a => .inr (a.trans g)
  alone := by
    have cross : ∀ t, A t → ¬ Led rs s (sBack t) := fun t a g => ha (by
      have := g.back
      rw [sBack_back] at this
      exact L.closed _ _ a this)
    rintro t (a | a) (c | c)
    · exact L.alone t a c
    · exact cross t a c
    · exact cross _ c (by rw [sBack_back]; exact a)
    · exact (lot_of h).alone t a c
/-- where no side leads to its back and from it back to itself, a lot can be carried on to all things -/
theorem Lot.carry {rs : List Rule} : ∀ (xs : List Str) (A : Side → Prop), Lot rs A → (∀ x ∈ xs, ¬ (Led rs (x, 0) (x, 1) ∧ Led rs (x, 1) (x, 0))) → ∃ A', Lot rs A' ∧ (∀ s, A s → A' s) ∧ ∀ x ∈ xs, A' (x, 0) ∨ A' (x, 1)
  | [], A, L, _ => ⟨A, L, fun _ h => h, fun x h => by simp at h⟩
  | x :: xs, A, L, hk => by
    have hk2 : ∀ y ∈ xs, ¬ (Led rs (y, 0) (y, 1) ∧ Led rs (y, 1) (y, 0)) := fun y hy => hk y (List.mem_cons_of_mem _ hy)
    by_cases h : A (x, 0) ∨ A (x, 1)
    · obtain ⟨A', L', h1, h2⟩ := Lot.carry xs A L hk2
      refine ⟨A', L', h1, fun y hy => ?_⟩
      rcases List.mem_cons.mp hy with rfl | hy
      · exact h.imp (h1 _) (h1 _)
      · exact h2 y hy
    · have b0 : sBack (x, 0) = (x, 1) := rfl
      have b1 : sBack (x, 1) = (x, 0) := rfl
      by_cases g : Led rs (x, 0) (x, 1)
      · have g1 : ¬ Led rs (x, 1) (x, 0) := fun z => hk x List.mem_cons_self ⟨g, z⟩
        obtain ⟨A', L', h1, h2⟩ := Lot.carry xs _ (L.add (s := (x, 1)) g1 fun z => h (.inl z)) hk2
        refine ⟨A', L', fun s a => h1 s (.inl a), fun y hy => ?_⟩
        rcases List.mem_cons.mp hy with rfl | hy
        · exact .inr (h1 _ (.inr (Led.refl _)))
        · exact h2 y hy
      · obtain ⟨A', L', h1, h2⟩ := Lot.carry xs _ (L.add (s := (x, 0)) g fun z => h (.inr z)) hk2
        refine ⟨A', L', fun s a => h1 s (.inl a), fun y hy => ?_⟩
        rcases List.mem_cons.mp hy with rfl | hy
        · exact .inl (h1 _ (.inr (Led.refl _)))
        · exact h2 y hy
/-- cs keeps rs -/
def keepB (ths : List Str) (cs : List Int) (rs : List Rule) : Bool := rs.all fun r => !lost ths cs r
/-- what a choosing says, for one that is made name by name -/
theorem vl_map {f : Str → Int} {x : Str} : ∀ {ths : List Str}, ths.Nodup → x ∈ ths → vl ths (ths.map f) x = f x
  | [], _, h => by simp at h
  | y :: ths, hn, h => by
    simp only [List.map_cons, vl]
    by_cases e : y = x
    · rw [if_pos e, e]
    · rw [if_neg e]
      exact vl_map (List.nodup_cons.mp hn).2 ((List.mem_cons.mp h).resolve_left fun z => e z.symm)
theorem vl_bit {x : Str} : ∀ {ths : List Str} {cs : List Int}, ths.length = cs.length → x ∈ ths → (∀ c ∈ cs, c = 0 ∨ c = 1) → vl ths cs x = 0 ∨ vl ths cs x = 1
  | [], _, _, h, _ => by simp at h
  | y :: ths, [], e, _, _ => by simp at e
  | y :: ths, c :: cs, e, h, hc => by
    simp only [vl]
    by_cases g : y = x
    · rw [if_pos g]; exact hc c List.mem_cons_self
    · rw [if_neg g]
      exact vl_bit (by simpa using e) ((List.mem_cons.mp h).resolve_left fun z => g z.symm) fun d hd => hc d (List.mem_cons_of_mem _ hd)
/-- a choosing that keeps the rules has all to which its sides lead -/
theorem keep_hop {ths : List Str} {cs : List Int} {rs : List Rule} {s t : Side} {i : Nat} (he : ths.length = cs.length) (hc : ∀ c ∈ cs, c = 0 ∨ c = 1) (hr : ∀ r ∈ rs, okR ths r) (hk : keepB ths cs rs = true) (hs : hasS ths cs s = true) (h : hopAt rs s i = some t) : hasS ths cs t = true := by
  obtain ⟨r, h1, h2⟩ := Option.bind_eq_some_iff.mp h
  have hm := List.mem_of_getElem? h1
  have o := hr r hm
  have kr := List.all_eq_true.mp hk r hm
  simp only [lost, Bool.not_eq_true', Bool.and_eq_false_imp, Bool.not_eq_true', Bool.not_eq_false'] at kr
  have back : ∀ u : Side, okS ths u → hasS ths cs (sBack u) = true → hasS ths cs u = false := fun u ou hb => by
    have hb : vl ths cs u.1 = 1 - u.2 := of_decide_eq_true hb
    refine decide_eq_false fun z => ?_
    rcases ou.2 with e | e <;> omega
  unfold hop at h2
  split at h2
  · rename_i e
    cases h2
    rw [← e] at hs
    exact kr (back _ o.1 hs)
  · split at h2
    · rename_i e1 e
      cases h2
      rw [← e] at hs
      have := back _ o.2.1 hs
      cases g : hasS ths cs r.1 with
      | true => rfl
      | false => rw [kr g] at this; cases this
    · cases h2
theorem keep_led {ths : List Str} {cs : List Int} {rs : List Rule} (he : ths.length = cs.length) (hc : ∀ c ∈ cs, c = 0 ∨ c = 1) (hr : ∀ r ∈ rs, okR ths r) (hk : keepB ths cs rs = true) {s t : Side} (hs : hasS ths cs s = true) (h : Led rs s t) : hasS ths cs t = true := by
  obtain ⟨is, h⟩ := h
  induction is generalizing s with
  | nil => cases h; exact hs
  | cons i is ih =>
    obtain ⟨u, h1, h2⟩ := Option.bind_eq_some_iff.mp h
    exact ih (keep_hop he hc hr hk hs h1) h2
theorem has_back {ths : List Str} {cs : List Int} {s : Side} (he : ths.length = cs.length) (hc : ∀ c ∈ cs, c = 0 ∨ c = 1) (os : okS ths s) : hasS ths cs (sBack s) = !hasS ths cs s := by
  have := vl_bit he os.1 hc
  show decide (vl ths cs s.1 = 1 - s.2) = !decide (vl ths cs s.1 = s.2)
  rcases os.2 with e | e <;> rcases this with g | g <;> rw [e, g] <;> rfl
/-- a lot over all things is a choosing that keeps the rules -/
theorem Lot.choosing {ths : List Str} {rs : List Rule} {A : Side → Prop} (hn : ths.Nodup) (hr : ∀ r ∈ rs, okR ths r) (L : Lot rs A) (full : ∀ x ∈ ths, A (x, 0) ∨ A (x, 1)) : ∃ cs : List Int, ths.length = cs.length ∧ (∀ c ∈ cs, c = 0 ∨ c = 1) ∧ keepB ths cs rs = true ∧ ∀ s, okS ths s → (hasS ths cs s = true ↔ A s) := by
  classical
  have hbit : ∀ c ∈ ths.map (fun x => if A (x, 1) then (1 : Int) else 0), c = 0 ∨ c = 1 := fun c hc => by
    obtain ⟨x, _, rfl⟩ := List.mem_map.mp hc
    by_cases h : A (x, 1)
    · right; simp [h]
    · left; simp [h]
  have has : ∀ s, okS ths s → (hasS ths (ths.map fun x => if A (x, 1) then (1 : Int) else 0) s = true ↔ A s) := fun s os => by
    simp only [hasS, decide_eq_true_eq]
    rw [vl_map hn os.1]
    obtain ⟨x, b⟩ := s
    have hx : x ∈ ths := os.1
    rcases os.2 with e | e <;> simp only at e <;> subst e
    · by_cases h : A (x, 1)
      · have : ¬ A (x, 0) := L.alone (x, 1) h
        simp [h, this]
      · have : A (x, 0) := (full x hx).resolve_right h
        simp [h, this]
    · by_cases h : A (x, 1) <;> simp [h]
  refine ⟨_, by simp, hbit, ?_, has⟩
  rw [keepB, List.all_eq_true]
  rintro ⟨a, c⟩ hm
  have o := hr _ hm
  have ha := has a o.1
  have hc := has c o.2.1
  by_cases g : A a
  · simp [lost, ha.mpr g]
  · have gb : A (sBack a) := by
      obtain ⟨x, b⟩ := a
      rcases o.1.2 with e | e <;> simp only at e <;> subst e
      · exact (full x o.1.1).resolve_left g
      · exact (full x o.1.1).resolve_right g
    have gc : A c := L.closed _ _ gb (Led.rule hm).1
    simp [lost, hc.mpr gc]
/-- .. so that a lot is carried on to a choosing, where there is no knot -/
theorem Lot.kept {ths : List Str} {rs : List Rule} {A : Side → Prop} (hn : ths.Nodup) (hr : ∀ r ∈ rs, okR ths r) (L : Lot rs A) (nk : ∀ x ∈ ths, ¬ (Led rs (x, 0) (x, 1) ∧ Led rs (x, 1) (x, 0))) : ∃ cs : List Int, ths.length = cs.length ∧ (∀ c ∈ cs, c = 0 ∨ c = 1) ∧ keepB ths cs rs = true ∧ ∀ s, okS ths s → A s → hasS ths cs s = true := by
  obtain ⟨A', L', h1, h2⟩ := L.carry ths A nk
  obtain ⟨cs, c1, c2, c3, c4⟩ := L'.choosing hn hr h2
  exact ⟨cs, c1, c2, c3, fun s os a => (c4 s os).mpr (h1 s a)⟩
/-- a choosing of the things that keeps the rules -/
def Kp (ths : List Str) (rs : List Rule) (cs : List Int) : Prop := ths.length = cs.length ∧ (∀ c ∈ cs, c = 0 ∨ c = 1) ∧ keepB ths cs rs = true
theorem Kp.led {ths : List Str} {rs : List Rule} {cs : List Int} {s t : Side} (k : Kp ths rs cs) (hr : ∀ r ∈ rs, okR ths r) (hs : hasS ths cs s = true) (h : Led rs s t) : hasS ths cs t = true := keep_led k.1 k.2.1 hr k.2.2 hs h
theorem Kp.back {ths : List Str} {rs : List Rule} {cs : List Int} {s : Side} (k : Kp ths rs cs) (os : okS ths s) : hasS ths cs (sBack s) = !hasS ths cs s := has_back k.1 k.2.1 os
end PL
namespace PL
open PySem PySem.Spec PyProof.Rows L2 RZ
section
variable {X : Cx} {W : WX} {e o : Expr} {to : TX} {tL : TXA} {apos cpos : Pos}
end
end PL
namespace PL
open PySem PySem.Spec PyProof.Rows L2 RZ
section
variable {X : Cx} {W : WX} {e o : Expr} {n : Nat} {fo : FX} {fl : FA} {apos cpos : Pos}
noncomputable def indexN (l : List D) (ss : List SV) : M SV := match ss with
  | [.d y] => grd (okEq (.ntp l) = true ∧ okEq y = true) (fun μ => match firstIx l y with
    | some j => .ok (.d (.int (j : Nat))) μ
    | none => .no)
  | _ => fun _ => .no
noncomputable def indexNK (m : M (List SV)) : SV → M SV := fun s => match s with
  | .d (.ntp l) => bnd m (indexN l)
  | _ => fun _ => .no
noncomputable def fIndexN (fo : FX) (fl : FA) : FX := fun ρ => bnd (fo ρ) (indexNK (fl ρ))
@[simp ↓] theorem fIndexN_s {ρ : FEnv} {μ : Mem} : fIndexN fo fl ρ μ = bR (fo ρ μ) (indexNK (fl ρ)) := bnd_s
@[simp] theorem indexNK_n {m : M (List SV)} {l : List D} {μ : Mem} : indexNK m (.d (.ntp l)) μ = bR (m μ) (indexN l) := bnd_s
end
end PL
namespace PL
open PySem PySem.Spec PyProof.Rows L2 RZ
theorem KT.all {H : Hp} {more : List (List Key × V)} {prs : List (List Key × Addr × Value)} (t : KT H more prs) : ∀ {kvs : List (List Key × V)} {xs : List (List Key × Addr × Value)}, KT H kvs xs → KT H (more.foldl (fun acc kv => putK acc kv.1 kv.2) kvs) (storedAllH xs prs) := by
  induction t with
  | nil => exact fun r => r
  | @cons p q ps qs h t ih =>
    intro kvs xs r
    obtain ⟨k, b, u⟩ := q
    obtain ⟨h1, h2, h3⟩ := h
    simp only at h1 h2 h3
    subst h1
    exact ih (KT.put r p.1 h2 h3)
section
variable {X : Cx}
end
section
variable {X : Cx} {W : WX} {e : Expr} {tL : TXA} {p pos : Pos}
end
end PL
namespace PL
open PySem PySem.Spec PyProof.Rows L2 RZ
section
variable {X : Cx} {W : WX} {e : Expr} {fl : FA} {n : Nat} {p pos : Pos}
end
end PL
namespace PL
open PySem PySem.Spec PyProof.Rows L2 RZ
section
variable {X : Cx} {o e : Expr} {apos cpos : Pos} {td ty : TE}
end
section
variable {X : Cx} {W : WX} {o e : Expr} {to te : TX} {apos cpos : Pos}
end
section
variable {X : Cx} {W : WX} {e : Expr} {tL : TXA} {p pos : Pos}
end
end PL
namespace PL
open PySem PySem.Spec PyProof.Rows L2 RZ
noncomputable def updK (k : Nat) (so : SV) : M SV := fun μ => match so with
  | .d (.dic false ks2 vs2) => match μ[k]? with
    | some (.dK ks vs) => grd (ks.length + ks2.length ≤ sizeLine) (fun _ => .ok (.d .non) (μ.set k (.dK (mergeD ks vs (ks2.zip vs2)).1 (mergeD ks vs (ks2.zip vs2)).2))) μ
    | _ => .no
  | _ => .no
noncomputable def updF (m : M SV) (s : SV) : M SV := match s with
  | .c k => isDicK (.c k) (bnd m (updK k))
  | _ => fun _ => .no
noncomputable def fUpd (o e : FX) : FX := fun ρ => bnd (o ρ) (updF (e ρ))
section
variable {X : Cx} {W : WX} {o e : Expr} {fo fe : FX} {fl : FA} {n : Nat} {p pos apos cpos : Pos}
@[simp ↓] theorem fUpd_s {ρ : FEnv} {μ : Mem} : fUpd fo fe ρ μ = bR (fo ρ μ) (updF (fe ρ)) := bnd_s
end
end PL

namespace PySem.W
open PySem PyProof.Rows PySem.SeqAt
end PySem.W
namespace PL
open PySem PySem.Spec PyProof.Rows L2 RZ
end PL

namespace PySem.W
open PySem PyProof.Rows PySem.SeqAt
end PySem.W
namespace PL
open PySem PySem.Spec PyProof.Rows L2 RZ
end PL

namespace PL
open PySem PySem.Spec PyProof.Rows L2 RZ
def rIsiYT (K : PySem.W.Frag) : List V → Hp → VK → Prop := fun xs H Q => ∃ (x : V) (tp : Addr) (cs : List V) (t : Value) (us : List Value) (b : Bool), xs = [x, .ref tp] ∧ H tp = some (.tup cs) ∧ Paired ClsV cs us ∧ TyY K H x t ∧ PySem.W.kitAny K t us = some b ∧ Q (.bl b) H
theorem call_isiYT {X : Cx} : CallR X (.builtin "isinstance") (rIsiYT X.K) := by
  intro pins s σ H xs us Q I r h
  obtain ⟨x, tp, cs, t, ws, b, rfl, hT, k, ty, e, q⟩ := h
  obtain ⟨u1, u2, rfl, r1, r2⟩ := vals2 r
  cases (show u2 = Value.ref tp from r2)
  obtain ⟨P, Z, p, hx⟩ := kit_ofY I r1 ty
  obtain ⟨_, its, rv, o, h1, h2, n, h3⟩ := (show ObjOk X.prog X.w H s.heap tp (.tup cs) from I.hok tp _ hT)
  have e3 := ClsV.all k rv
  subst e3
  obtain ⟨oc, od, dt, sl⟩ := o
  simp only at h2 h3
  subst h2 h3
  exact PySem.W.kia_tup Z I.kIn p h1 e hx fun tk => ⟨.bl b, H, I.tok tk, rfl, q⟩
def pIs2 (k1 k2 : TyK) : List SV → Mem → VP → Prop := fun ss μ Q => match ss with
  | [s, .d (.tup [.ty U1, .ty U2])] => (U1 = k1.nm ∧ U2 = k2.nm) ∧ on (isKs k1 s μ) fun b1 => on (isKs k2 s μ) fun b2 => Q (.d (.bl (b1 || b2))) μ
  | _ => False
theorem pcall_is2 {K : PySem.W.Frag} {k1 k2 : TyK} : PCall K (rIsiYT K) (pIs2 k1 k2) := by
  intro ss μ A G H vs Qp Q h c rs k
  match ss, h, rs with
  | [s, .d (.tup [.ty U1, .ty U2])], h, .cons r (.cons r2 .nil) =>
    obtain ⟨⟨rfl, rfl⟩, h⟩ := h
    obtain ⟨b1, e1, h⟩ := on_of h
    obtain ⟨b2, e2, q⟩ := on_of h
    obtain ⟨T, t1, m1, i1⟩ := isKs_ok e1
    obtain ⟨T', t2, m2, i2⟩ := isKs_ok e2
    rw [t1] at t2
    cases t2
    have z1 := kit_ty (K := K) (of_decide_eq_true (List.all_eq_true.mp (List.all_eq_true.mp isTy_ok T (tyOf_mem t1)) k1.nm m1))
    have z2 := kit_ty (K := K) (of_decide_eq_true (List.all_eq_true.mp (List.all_eq_true.mp isTy_ok T (tyOf_mem t1)) k2.nm m2))
    cases r2 with
    | tup hg hs =>
      rename_i a ws
      cases hs with
      | cons ra rt =>
        cases rt with
        | cons rb rn =>
          cases rn
          cases ra
          cases rb
          refine ⟨_, a, _, .type T, [.type k1.nm, .type k2.nm], b1 || b2, rfl, c.le _ _ hg, .cons (.ty _) (.cons (.ty _) .nil), tyOf_rep t1 c r, ?_, k _ _ _ _ _ _ q c .refl (.bl _)⟩
          rw [i1] at z1
          rw [i2] at z2
          simp only [PySem.W.kitAny, z1, z2]
          cases b1 <;> cases b2 <;> rfl
theorem px_is2 {X : Cx} {W : WX} {a b : Expr} {tL : TXA} {p pos : Pos} (k1 k2 : TyK) (hg : Gl X "isinstance") (hm : X.mg "isinstance" = none) (ha : PXA X W [a, b] tL) (he : starEach [a, b] X.env = (false, eval a X.env) :: starEach [b] X.env := by rfl) (hpl : (backTo pos (starEach [b] X.env)).any (·.1) = false := by rfl) : PX X W (.Call (.Name "isinstance" p) [a, b] [] pos) (xCall (pIs2 k1 k2) tL) :=
  px_callB call_isiYT pcall_is2 hg hm (by decide +kernel) ha (by decide) (by decide) he hpl
def pPopAt : SV → List SV → Mem → VP → Prop := fun so ss μ Q => match so, ss with
  | .c k, [.d (.int i)] => match μ[k]? with
    | some (.lst l) => ∃ (j : Nat) (d : D), (i = j ∧ j < 9223372036854775808) ∧ l[j]? = some d ∧ Q (.d d) (μ.set k (.lst (l.eraseIdx j)))
    | _ => False
  | _, _ => False
theorem reps_erase {K : PySem.W.Frag} {G : Hp} : ∀ {l : List D} {us : List V} (j : Nat), Reps K G l us → Reps K G (l.eraseIdx j) (us.eraseIdx j)
  | _, _, _, .nil => .nil
  | _, _, 0, .cons _ rs => rs
  | _, _, j + 1, .cons r rs => .cons r (reps_erase j rs)
theorem reps_at {K : PySem.W.Frag} {G : Hp} : ∀ {l : List D} {us : List V} {j : Nat} {d : D}, Reps K G l us → l[j]? = some d → ∃ u, us[j]? = some u ∧ Rep K G d u
  | _, _, _, _, .nil, e => by simp at e
  | _, _, 0, _, .cons r _, e => by
    simp at e
    subst e
    exact ⟨_, rfl, r⟩
  | _, _, j + 1, _, .cons _ rs, e => by
    obtain ⟨u, h1, h2⟩ := reps_at (j := j) rs (by simpa using e)
    exact ⟨u, by simpa using h1, h2⟩
theorem pmt_popAt {K : PySem.W.Frag} : PMt K rPopAt pPopAt := by
  intro so ss μ A G H v vs Qp Q h c ro rs k
  match so, ss, h, ro, rs with
  | .c kk, [.d (.int i)], h, ro, .cons r .nil =>
    obtain ⟨a, ha, rfl⟩ := ro
    cases r
    simp only [pPopAt] at h
    split at h
    · rename_i l hk
      obtain ⟨j, d, ⟨rfl, hj⟩, hd, q⟩ := h
      obtain ⟨us, h1, h2⟩ := c.ok _ _ _ ha hk
      obtain ⟨u, hu, ru⟩ := reps_at h2 hd
      have hl : j < us.length := (List.getElem?_eq_some_iff.mp hu).1
      obtain ⟨c3, s3⟩ := c.write (o := .lst (us.eraseIdx j)) (cl := .lst (l.eraseIdx j)) ha ⟨_, upd_same, reps_erase j h2⟩
      refine ⟨a, us, (j : Int), j, u, rfl, rfl, h1, by omega, by omega, ?_, hu, k _ _ _ _ _ _ q c3 s3 (ru.mono s3.le)⟩
      unfold seqIndex?
      simp
      omega
    · exact h.elim
theorem px_popAt {X : Cx} {W : WX} {o e : Expr} {to : TX} {tL : TXA} {apos cpos : Pos} (ho : PX X W o to) (ha : PXA X W [e] tL) (hbase : attributeBase o "pop" X.env (eval o X.env) = eval o X.env := by rfl)
    (hfew : ((backTo cpos (starEach [e] X.env)).all (fun x => !x.1) && (backToKw cpos (keywordEach [] X.env)).all (fun x => x.1.isSome)
      && decide ([e].length + ([] : List Keyword).length + (if ([] : List Keyword).isEmpty then 0 else 1) < 30)) = true := by rfl)
    (hline : (apos.endLine == cpos.line) = true := by rfl) (hs : starEach [e] X.env = (false, eval e X.env) :: starEach [] X.env := by rfl) : PX X W (.Call (.Attribute o "pop" apos) [e] [] cpos) (xMeth pPopAt to tL) :=
  px_lmeth PySem.F.slot_list_pop PySem.F.type_list_pop mt_popAt pmt_popAt ho ha hbase hfew hline hs rfl
end PL
namespace PL
open PySem PySem.Spec PyProof.Rows L2 RZ
def is2K (o1 o2 : Option Bool) : M SV := match o1, o2 with
  | some b1, some b2 => ret (.d (.bl (b1 || b2)))
  | _, _ => fun _ => .no
def is2F (k1 k2 : TyK) : List SV → M SV := fun ss μ => match ss with
  | [s, .d (.tup [.ty U1, .ty U2])] => if U1 = k1.nm ∧ U2 = k2.nm then is2K (isKs k1 s μ) (isKs k2 s μ) μ else .no
  | _ => .no
theorem ok_is2 {k1 k2 : TyK} : ∀ ss μ x Q, (is2F k1 k2 ss μ).fin x Q → pIs2 k1 k2 ss μ Q := by
  intro ss μ x Q h
  unfold is2F at h
  unfold pIs2
  split at h
  · rename_i s U1 U2
    split at h
    · rename_i e
      refine ⟨e, ?_⟩
      cases e1 : isKs k1 s μ with
      | none => rw [e1] at h; exact h.elim
      | some b1 =>
        cases e2 : isKs k2 s μ with
        | none => rw [e1, e2] at h; exact h.elim
        | some b2 => rw [e1, e2] at h; exact h
    · exact h.elim
  · exact h.elim
noncomputable def popAtF (o : SV) (ss : List SV) : M SV := fun μ => match o, ss with
  | .c k, [.d (.int i)] => match μ[k]? with
    | some (.lst l) => grd (0 ≤ i ∧ i < 9223372036854775808) (fun μ => match l[i.toNat]? with
      | some d => .ok (.d d) (μ.set k (.lst (l.eraseIdx i.toNat)))
      | none => .no) μ
    | _ => .no
  | _, _ => .no
theorem ok_popAt : ∀ so ss μ x Q, (popAtF so ss μ).fin x Q → pPopAt so ss μ Q := by
  intro so ss μ x Q h
  unfold popAtF at h
  unfold pPopAt
  split at h
  · split at h
    · rename_i hk
      obtain ⟨hi, h⟩ := fin_grd h
      split at h
      · rename_i d hd
        try simp only [hk]
        exact ⟨_, d, ⟨by omega, by omega⟩, hd, h⟩
      · exact h.elim
    · exact h.elim
  · exact h.elim
section
variable {X : Cx} {W : WX} {a b e o : Expr} {fo : FX} {fl : FA} {n : Nat} {p pos apos cpos : Pos}
theorem pf_is2 (k1 k2 : TyK) (hg : Gl X "isinstance") (hm : X.mg "isinstance" = none) (hl : PXA X W [a, b] (toA n fl)) (he : starEach [a, b] X.env = (false, eval a X.env) :: starEach [b] X.env := by rfl) (hpl : (backTo pos (starEach [b] X.env)).any (·.1) = false := by rfl) : PX X W (.Call (.Name "isinstance" p) [a, b] [] pos) (toX n (fCall (is2F k1 k2) fl)) := pf_call (px_is2 k1 k2 hg hm hl he hpl) ok_is2
theorem pf_bty {x : Str} {T : String} (hg : Gl X x) (hm : X.mg x = none) (hv : bootBuiltins x = some (.type T)) (hn : x ≠ "__name__" := by decide) (hd : (x == ("__debug__" : Str)) = false := by decide) : PX X W (.Name x pos) (toX n (fC (.ty T))) :=
  (px_bty hg hm hv hn hd).to fun _ _ _ _ ⟨_, h⟩ => h
theorem pf_popAt (ho : PX X W o (toX n fo)) (ha : PXA X W [e] (toA n fl)) (hbase : attributeBase o "pop" X.env (eval o X.env) = eval o X.env := by rfl)
    (hfew : ((backTo cpos (starEach [e] X.env)).all (fun x => !x.1) && (backToKw cpos (keywordEach [] X.env)).all (fun x => x.1.isSome)
      && decide ([e].length + ([] : List Keyword).length + (if ([] : List Keyword).isEmpty then 0 else 1) < 30)) = true := by rfl)
    (hline : (apos.endLine == cpos.line) = true := by rfl) (hs : starEach [e] X.env = (false, eval e X.env) :: starEach [] X.env := by rfl) : PX X W (.Call (.Attribute o "pop" apos) [e] [] cpos) (toX n (fMethL popAtF fo fl)) :=
  pf_lmeth (px_popAt ho ha hbase hfew hline hs) ok_popAt
end
section
variable {μ : Mem} {d : D} {l : List D} {k : Nat}
@[simp] theorem is2F_tl : is2F .tuple .list [.d d, .d (.tup [.ty "tuple", .ty "list"])] μ = is2K (isK .tuple d) (isK .list d) μ := by
  simp only [is2F, isKs]
  rfl
@[simp] theorem is2K_s {b1 b2 : Bool} : is2K (some b1) (some b2) μ = .ok (.d (.bl (b1 || b2))) μ := rfl
theorem popAtF_c {i : Nat} (h : μ[k]? = some (.lst l)) (hd : l[i]? = some d) (hz : i < 9223372036854775808) : popAtF (.c k) [.d (.int i)] μ = .ok (.d d) (μ.set k (.lst (l.eraseIdx i))) := by
  simp only [popAtF, h]
  rw [grd_pos ⟨by omega, by omega⟩, Int.toNat_natCast, hd]
end
end PL
namespace PL
open PySem PySem.Spec PyProof.Rows L2
section
variable {P : Program} {w : World}
/-- v is no statement of a class, n levels down -/
def NoCls (P : Program) (w : World) (n : Nat) (s : Shared) (v : Value) : Prop := ∀ (A : Around) (E : Value → Shared → Prop) (Q : Bool → Shared → Prop), Q false s → wpAny (model P w) A (ofAClassStatement n v) Q E s
/-- whether v's hash goes by its value is answered -/
def HashAns (P : Program) (w : World) (n : Nat) (s : Shared) (v : Value) : Prop := ∀ (A : Around) (E : Value → Shared → Prop) (Q : Bool → Shared → Prop), (∀ b, Q b s) → wpAny (model P w) A (hashByValue n v) Q E s
theorem noCls_pure {n : Nat} {s : Shared} {v : Value} (h : ofAClassStatement n v = pure false) : NoCls P w n s v := fun A E Q q => by
  rw [h]; exact wpAny_pure q
theorem hashAns_pure {n : Nat} {s : Shared} {v : Value} {b : Bool} (h : hashByValue n v = pure b) : HashAns P w n s v := fun A E Q q => by
  rw [h]; exact wpAny_pure (q b)
theorem noCls_tup {n : Nat} {s : Shared} {a : Addr} {o : Obj} {vs : Array Value} {m : Nat} (ho : s.heap.get? a = some o) (hc : o.cls = .type "tuple") (hd : o.data = .seq vs m) (hq : ∀ v ∈ vs.toList, NoCls P w n s v) : NoCls P w (n + 1) s (.ref a) := fun A E Q q => by
  unfold ofAClassStatement
  refine wpAny_bind (wpAny_typeOf ⟨o, ho, hc⟩ ?_)
  dsimp only
  rw [if_pos (show (("tuple" : String) == "tuple") = true by decide)]
  refine wpAny_bind (wpAny_pure ?_)
  simp only [Bool.not_true, Bool.false_eq_true, if_false]
  refine wpAny_bind (wpAny_seqItems ho hd (wpAny_bind ?_))
  rw [← Array.forIn_toList]
  refine wpAny_forIn_list _ (fun l r s1 => s1 = s ∧ r.1 = none ∧ ∀ v ∈ l, NoCls P w n s v) _ ?_ ?_ _ _ ⟨rfl, rfl, hq⟩
  · intro v l r s1 ⟨e1, e2, all⟩
    subst e1
    refine wpAny_bind (all v List.mem_cons_self _ _ _ ?_)
    rw [if_neg (by decide)]
    exact wpAny_pure ⟨rfl, rfl, fun u hu => all u (List.mem_cons_of_mem _ hu)⟩
  · intro r s1 ⟨e1, e2, _⟩
    subst e1
    obtain ⟨r1, r2⟩ := r
    cases e2
    exact wpAny_pure q
theorem hashAns_tup {n : Nat} {s : Shared} {a : Addr} {o : Obj} {vs : Array Value} {m : Nat} (ho : s.heap.get? a = some o) (hc : o.cls = .type "tuple") (hd : o.data = .seq vs m) (hq : ∀ v ∈ vs.toList, HashAns P w n s v) : HashAns P w (n + 1) s (.ref a) := fun A E Q q => by
  unfold hashByValue
  refine wpAny_bind (wpAny_specialOf (T := "tuple") ⟨o, ho, hc⟩ F.slot_tuple_hash.lookup ?_)
  show wpAny _ _ (seqItems? (.ref a) >>= _) _ _ s
  refine wpAny_bind (wpAny_seqItems ho hd (wpAny_bind ?_))
  show wpAny _ _ (forIn vs _ _) _ _ s
  rw [← Array.forIn_toList]
  refine wpAny_forIn_list _ (fun l r s1 => s1 = s ∧ ∀ v ∈ l, HashAns P w n s v) _ ?_ ?_ _ _ ⟨rfl, hq⟩
  · intro v l r s1 ⟨e1, all⟩
    subst e1
    refine wpAny_bind (all v List.mem_cons_self _ _ _ fun b => ?_)
    cases b with
    | true =>
      rw [if_neg (by decide)]
      exact wpAny_pure ⟨rfl, fun u hu => all u (List.mem_cons_of_mem _ hu)⟩
    | false =>
      rw [if_pos (by decide)]
      exact wpAny_pure (wpAny_pure (q false))
  · intro r s1 ⟨e1, _⟩
    subst e1
    obtain ⟨r1, r2⟩ := r
    cases r1 with
    | none => exact wpAny_pure (q true)
    | some b => exact wpAny_pure (q b)
mutual
theorem noCls_key : ∀ (k : NestedKey) (v : Value) (n : Nat) (s : Shared), NestedIs s.heap k v → k.depth ≤ n → NoCls P w n s v
  | .none, _, n, s, h, _ => by cases h; exact noCls_pure (by cases n <;> rfl)
  | .num i, _, n, s, h, _ => by cases h <;> exact noCls_pure (by cases n <;> rfl)
  | .text x, _, n, s, h, _ => by cases h; exact noCls_pure (by cases n <;> rfl)
  | .tup ks, _, n, s, h, hn => by
    cases h with
    | tup h1 h2 h3 h4 =>
      unfold NestedKey.depth at hn
      obtain ⟨n, rfl⟩ : ∃ m, n = m + 1 := ⟨n - 1, by omega⟩
      exact noCls_tup h1 h2 h3 (noCls_keys ks _ n s h4 (by omega))
theorem noCls_keys : ∀ (ks : List NestedKey) (vs : List Value) (n : Nat) (s : Shared), NestedAll s.heap ks vs → NestedKey.depthAll ks ≤ n → ∀ v ∈ vs, NoCls P w n s v
  | [], _, n, s, h, _, v, hv => by cases h; cases hv
  | k :: ks, _, n, s, h, hn, v, hv => by
    cases h with
    | cons h1 h2 =>
      unfold NestedKey.depthAll at hn
      cases hv with
      | head => exact noCls_key k _ n s h1 (by omega)
      | tail _ hv => exact noCls_keys ks _ n s h2 (by omega) v hv
end
mutual
theorem hashAns_key : ∀ (k : NestedKey) (v : Value) (n : Nat) (s : Shared), NestedIs s.heap k v → k.depth ≤ n → HashAns P w n s v
  | .none, _, n, s, h, _ => by cases h; exact hashAns_pure (b := true) (by cases n <;> rfl)
  | .num i, _, n, s, h, _ => by cases h <;> exact hashAns_pure (b := true) (by cases n <;> rfl)
  | .text x, _, n, s, h, _ => by cases h; exact hashAns_pure (b := false) (by cases n <;> rfl)
  | .tup ks, _, n, s, h, hn => by
    cases h with
    | tup h1 h2 h3 h4 =>
      unfold NestedKey.depth at hn
      obtain ⟨n, rfl⟩ : ∃ m, n = m + 1 := ⟨n - 1, by omega⟩
      exact hashAns_tup h1 h2 h3 (hashAns_keys ks _ n s h4 (by omega))
theorem hashAns_keys : ∀ (ks : List NestedKey) (vs : List Value) (n : Nat) (s : Shared), NestedAll s.heap ks vs → NestedKey.depthAll ks ≤ n → ∀ v ∈ vs, HashAns P w n s v
  | [], _, n, s, h, _, v, hv => by cases h; cases hv
  | k :: ks, _, n, s, h, hn, v, hv => by
    cases h with
    | cons h1 h2 =>
      unfold NestedKey.depthAll at hn
      cases hv with
      | head => exact hashAns_key k _ n s h1 (by omega)
      | tail _ hv => exact hashAns_keys ks _ n s h2 (by omega) v hv
end
/-- a key of the set -/
abbrev NKey (P : Program) (w : World) (h : Heap) (k : NestedKey) (a : Addr) : Prop := (nestedKind P w).is h k a
theorem nkey_cls {A : Around} {E : Value → Shared → Prop} {s : Shared} {k : NestedKey} {a : Addr} {Q : Bool → Shared → Prop} (h : NKey P w s.heap k a) (q : Q false s) : wpAny (model P w) A (ofAClassStatement 8 (.ref a)) Q E s := noCls_key k _ 8 s h.1 h.2 A E Q q
theorem nkey_byv {A : Around} {E : Value → Shared → Prop} {s : Shared} {k : NestedKey} {a : Addr} {Q : Bool → Shared → Prop} (h : NKey P w s.heap k a) (q : ∀ b, Q b s) : wpAny (model P w) A (hashByValue 8 (.ref a)) Q E s := hashAns_key k _ 8 s h.1 h.2 A E Q q
/-- the search among keys shows nothing -/
theorem nkey_seen {A : Around} {E : Value → Shared → Prop} {s : Shared} {k : NestedKey} {a : Addr} {Q : Bool → Shared → Prop} (h : NKey P w s.heap k a) {ys : List Value} (hy : ∀ y ∈ ys, ∃ k' c, y = .ref c ∧ NKey P w s.heap k' c) (q : Q false s) :
    wpAny (model P w) A (searchCouldBeSeen (.ref a) ys) Q E s := by
  unfold searchCouldBeSeen
  refine wpAny_bind (wpAny_forIn_list _ (fun l r s1 => s1 = s ∧ r.1 = none ∧ ∀ y ∈ l, ∃ k' c, y = .ref c ∧ NKey P w s.heap k' c) _ ?_ ?_ _ _ ⟨rfl, rfl, hy⟩)
  · intro v l r s1 ⟨e1, e2, all⟩
    subst e1
    obtain ⟨k', c, rfl, hc⟩ := all v List.mem_cons_self
    have more : ∀ y ∈ l, ∃ k' c, y = .ref c ∧ NKey P w s1.heap k' c := fun u hu => all u (List.mem_cons_of_mem _ hu)
    dsimp only
    by_cases same : (a == c || (carriedByValue (.ref a) && carriedByValue (.ref c))) = true
    · exact wp_if_pos same (wpAny_pure ⟨rfl, rfl, more⟩)
    · refine wp_if_neg same (wpAny_bind ((nestedKind P w).quiet h ?_))
      simp only [Bool.not_true, Bool.false_eq_true, if_false]
      refine wpAny_bind ((nestedKind P w).quiet hc ?_)
      simp only [Bool.not_true, Bool.false_eq_true, if_false]
      refine wpAny_bind (nkey_cls h (wp_if_neg (by decide) (wpAny_bind (nkey_cls hc (wp_if_neg (by decide) (wpAny_pure ⟨rfl, rfl, more⟩))))))
  · intro r s1 ⟨e1, e2, _⟩
    subst e1
    obtain ⟨r1, r2⟩ := r
    cases e2
    exact wpAny_pure q
end
end PL
namespace PL
open PySem PySem.Spec PyProof.Rows L2
def Msk (m : Nat) : Prop := m = 7 ∨ m = 31 ∨ m = 127 ∨ m = 511 ∨ m = 2047
/-- the slots come to in n turns, as the bits of a number -/
def bitsO (m : Nat) : Nat → Nat → Nat → Nat
  | 0, _, acc => acc
  | n + 1, x, acc => bitsO m n ((x * 5 + 1) % (m + 1)) (acc ||| 1 <<< x)
theorem lcgI_front (m : Nat) : ∀ (k i : Nat), lcgI m ((i * 5 + 1) % (m + 1)) k = lcgI m i (k + 1)
  | 0, _ => rfl
  | k + 1, i => by
    show (lcgI m ((i * 5 + 1) % (m + 1)) k * 5 + 1) % (m + 1) = _
    rw [lcgI_front m k i]
    rfl
theorem mem_bits {m j : Nat} : ∀ {n x acc : Nat}, (bitsO m n x acc).testBit j = true → acc.testBit j = true ∨ ∃ k, k < n ∧ lcgI m x k = j
  | 0, _, _, h => .inl h
  | n + 1, x, acc, h => by
    rcases mem_bits (n := n) h with h | ⟨k, hk, e⟩
    · rw [Nat.testBit_or, Bool.or_eq_true] at h
      rcases h with h | h
      · exact .inl h
      · rw [Nat.one_shiftLeft, Nat.testBit_two_pow, decide_eq_true_eq] at h
        exact .inr ⟨0, by omega, h⟩
    · exact .inr ⟨k + 1, by omega, by rw [← e, ← lcgI_front]⟩
theorem bits511 : bitsO 511 512 0 0 = 2 ^ 512 - 1 := by decide +kernel
theorem bits2047 : bitsO 2047 2048 0 0 = 2 ^ 2048 - 1 := by decide +kernel
theorem round511 : lcgI 511 0 512 = 0 := by decide +kernel
theorem round2047 : lcgI 2047 0 2048 = 0 := by decide +kernel
theorem lcgI_two (m i a : Nat) : ∀ k, lcgI m (lcgI m i a) k = lcgI m i (a + k)
  | 0 => rfl
  | k + 1 => by
    show (lcgI m (lcgI m i a) k * 5 + 1) % (m + 1) = (lcgI m i (a + k) * 5 + 1) % (m + 1)
    rw [lcgI_two m i a k]
/-- from any slot each slot is come to -/
theorem msk_all {m : Nat} (hm : Msk m) {i j : Nat} (hi : i ≤ m) (hj : j ≤ m) : ∃ k, k ≤ m ∧ lcgI m i k = j := by
  have big : ∀ (M : Nat), bitsO M (M + 1) 0 0 = 2 ^ (M + 1) - 1 → lcgI M 0 (M + 1) = 0 → i ≤ M → j ≤ M → ∃ k, k ≤ M ∧ lcgI M i k = j := fun M b0 b1 hi hj => by
    have on : ∀ x, x ≤ M → ∃ k, k < M + 1 ∧ lcgI M 0 k = x := fun x hx => by
      have : (bitsO M (M + 1) 0 0).testBit x = true := by
        rw [b0, Nat.testBit_two_pow_sub_one, decide_eq_true_eq]
        omega
      rcases mem_bits this with h | h
      · simp at h
      · exact h
    obtain ⟨a, ha, rfl⟩ := on i hi
    obtain ⟨c, hc, rfl⟩ := on j hj
    by_cases h : a ≤ c
    · refine ⟨c - a, by omega, ?_⟩
      rw [lcgI_two, show a + (c - a) = c by omega]
    · refine ⟨c + (M + 1) - a, by omega, ?_⟩
      rw [lcgI_two, show a + (c + (M + 1) - a) = (M + 1) + c by omega, ← lcgI_two, b1]
  rcases hm with rfl | rfl | rfl | rfl | rfl
  · exact lcgI_all (.inl rfl) hi hj
  · exact lcgI_all (.inr (.inl rfl)) hi hj
  · exact lcgI_all (.inr (.inr rfl)) hi hj
  · exact big 511 bits511 round511 hi hj
  · exact big 2047 bits2047 round2047 hi hj
theorem msk_run {m : Nat} (hm : Msk m) (h : Int) {j : Nat} (hj : j ≤ m) : ∃ n, n ≤ m + 12 ∧ runI m (SetTable.bits h) n = j := by
  obtain ⟨k, hk, e⟩ := msk_all hm (runI_le m (SetTable.bits h) 12) hj
  refine ⟨12 + k, by omega, ?_⟩
  rw [runI_tail (bits_lt h), e]
theorem msk_way {m : Nat} (hm : Msk m) (h : Int) {j : Nat} (hj : j ≤ m) : ∃ k, k < 10 * SetTable.turns m ∧ way m h k = j := by
  obtain ⟨n, hn, rfl⟩ := msk_run hm h hj
  obtain ⟨k, hk, e⟩ := run_nth m (SetTable.bits h) n
  refine ⟨k, by unfold SetTable.turns; omega, ?_⟩
  unfold way
  rw [e]
  rfl
theorem way_in {m : Nat} {h : Int} {k : Nat} : way m h k ≤ m := by
  have hi : SetTable.bits h % (m + 1) ≤ m := Nat.le_of_lt_succ (Nat.mod_lt _ (Nat.succ_pos _))
  have r := runEnd_bd hi
  have q := nth_in k (runAt m (SetTable.bits h % (m + 1)) (SetTable.bits h)) (by
    show SetTable.bits h % (m + 1) + (SetTable.runEnd m (SetTable.bits h % (m + 1)) - SetTable.bits h % (m + 1)) ≤ m
    omega)
  exact Nat.le_trans (Nat.le_add_right _ _) q
/-- each slot of the table is come to from the hash that sits there -/
structure TabM (t : SetTable) (hs : List Int) : Prop where
  ris : Ris t.place.toList
  dm : t.dummies = #[]
  sz : t.place.size = hs.length
  mok : Msk t.mask
  bd : ∀ x ∈ t.place.toList, x ≤ t.mask
  reach : ∀ (i : Nat) (h : Int) (j : Nat), hs[i]? = some h → t.place.toList[i]? = some j → ∃ k, way t.mask h k = j ∧ ∀ k', k' < k → way t.mask h k' ∈ t.place.toList
theorem msk_odd {m : Nat} (h : Msk m) : m % 2 = 1 := by
  rcases h with rfl | rfl | rfl | rfl | rfl <;> rfl
theorem TabM.len {t : SetTable} {hs : List Int} (T : TabM t hs) : t.place.toList.length = hs.length := by
  rw [Array.length_toList, T.sz]
theorem TabM.first {t : SetTable} {hs : List Int} (T : TabM t hs) (hl : hs.length ≤ t.mask) (h : Int) : ∃ K, K < 10 * SetTable.turns t.mask ∧ way t.mask h K ∉ t.place.toList ∧ ∀ k, k < K → way t.mask h k ∈ t.place.toList := by
  obtain ⟨j, hj, hn⟩ := st_missing t.place.toList (t.mask + 1) (by rw [T.len]; omega)
  obtain ⟨k, hk, e⟩ := msk_way T.mok h (Nat.le_of_lt_succ hj)
  obtain ⟨K, h1, h2, h3⟩ := st_least (p := fun k => way t.mask h k ∉ t.place.toList) k (fun z => hn (e ▸ z))
  exact ⟨K, by omega, h2, fun k' hk' => Classical.not_not.mp (h3 k' hk')⟩
theorem TabM.before {t : SetTable} {hs : List Int} (T : TabM t hs) {h : Int} {K i j : Nat} (hK : way t.mask h K ∉ t.place.toList) (hi : hs[i]? = some h) (hj : t.place.toList[i]? = some j) : ∃ k, k < K ∧ way t.mask h k = j := by
  obtain ⟨k, e, hb⟩ := T.reach i h j hi hj
  refine ⟨k, Classical.byContradiction fun c => ?_, e⟩
  by_cases g : k = K
  · subst g
    exact hK (e ▸ List.mem_of_getElem? hj)
  · exact hK (hb K (by omega))
theorem TabM.put {t : SetTable} {hs : List Int} (T : TabM t hs) {h : Int} {K : Nat} (hK : way t.mask h K ∉ t.place.toList) (hb : ∀ k, k < K → way t.mask h k ∈ t.place.toList) :
    (t.put (way t.mask h K)).2 = SetTable.below t.place (way t.mask h K) ∧ SetTable.below t.place (way t.mask h K) ≤ hs.length ∧
    TabM (t.put (way t.mask h K)).1 (hs.take (SetTable.below t.place (way t.mask h K)) ++ h :: hs.drop (SetTable.below t.place (way t.mask h K))) ∧
    (t.put (way t.mask h K)).1.mask = t.mask ∧ (t.put (way t.mask h K)).1.led = t.led ∧ (t.put (way t.mask h K)).1.fill = hs.length + 1 := by
  have hin : way t.mask h K ≤ t.mask := way_in
  have hw : ∃ j, way t.mask h K = j := ⟨_, rfl⟩
  obtain ⟨j, hj⟩ := hw
  have cut := (below_cut T.ris j).1
  rw [hj] at hK hin ⊢
  generalize hp : SetTable.below t.place j = p at cut ⊢
  have p1 : p ≤ hs.length := by rw [← T.sz]; exact cut
  have p2 : p ≤ t.place.toList.length := by rw [T.len]; exact p1
  have pl := put_place t j
  rw [hp] at pl
  have sub : ∀ x, x ∈ t.place.toList → x ∈ (t.put j).1.place.toList := fun x hx => by
    rw [pl]
    exact mem_ins.mpr (.inr hx)
  have sz : (t.put j).1.place.size = hs.length + 1 := by rw [← Array.length_toList, pl, len_ins _ p2, T.len]
  refine ⟨hp, p1, {
    ris := ris_insert T.ris fun e => hK (List.mem_of_getElem? (by rw [Array.getElem?_toList]; exact e))
    dm := put_dm T.dm j
    sz := by rw [sz, len_ins _ p1]
    mok := T.mok
    bd := fun x hx => by
      rw [pl] at hx
      rcases mem_ins.mp hx with rfl | hx
      · exact hin
      · exact T.bd x hx
    reach := fun i h' j' e1 e2 => ?_ }, rfl, rfl, ?_⟩
  · rw [tins_get hs p1] at e1
    rw [pl, tins_get _ p2] at e2
    have old : ∀ q, hs[q]? = some h' → t.place.toList[q]? = some j' → ∃ k, way t.mask h' k = j' ∧ ∀ k', k' < k → way t.mask h' k' ∈ (t.put j).1.place.toList := fun q a1 a2 => by
      obtain ⟨k, b1, b2⟩ := T.reach q h' j' a1 a2
      exact ⟨k, b1, fun k' hk' => sub _ (b2 k' hk')⟩
    by_cases c : i < p
    · rw [if_pos c] at e1 e2
      exact old i e1 e2
    · rw [if_neg c] at e1 e2
      by_cases d : i = p
      · rw [if_pos d] at e1 e2
        obtain rfl := Option.some.inj e1
        obtain rfl := Option.some.inj e2
        exact ⟨K, hj, fun k' hk' => sub _ (hb k' hk')⟩
      · rw [if_neg d] at e1 e2
        exact old _ e1 e2
  · show (t.put j).1.place.size + (t.put j).1.dummies.size = hs.length + 1
    rw [sz, put_dm T.dm j]
    rfl
theorem free_at {m : Nat} (hm : Msk m) (owner : Array (Option Nat)) (h : Int) {j : Nat} (hj : j ≤ m) (hf : oAt owner j = none) :
    ∃ K, SetTable.layClean.free m owner (SetTable.turns m) (SetTable.bits h % (m + 1)) (SetTable.bits h) = some (way m h K) ∧ oAt owner (way m h K) = none ∧ ∀ k, k < K → oAt owner (way m h k) ≠ none := by
  obtain ⟨n, hn, e⟩ := msk_run hm h hj
  have there : oAt owner (way m h (off m (SetTable.bits h % (m + 1)) (SetTable.bits h) n)) = none := by
    have : way m h (off m (SetTable.bits h % (m + 1)) (SetTable.bits h) n) = j := by
      unfold way
      rw [nth_off, itL_run]
      exact e
    rw [this, hf]
  obtain ⟨K, k1, k2, k3⟩ := st_least (p := fun k => oAt owner (way m h k) = none) _ there
  have some' : ∀ k, k < K → (oAt owner (way m h k)).isNone = false := fun k hk => by
    cases z : oAt owner (way m h k) with
    | none => exact absurd z (k3 k hk)
    | some _ => rfl
  exact ⟨K, free_spec m owner (SetTable.turns m) n _ _ K (by unfold SetTable.turns; omega) k1 some' (by rw [show oAt owner (nth m (runAt m (SetTable.bits h % (m + 1)) (SetTable.bits h)) K).j = none from k2]; rfl), k2, k3⟩
theorem own_step {m : Nat} (hm : Msk m) {done : List Int} {owner : Array (Option Nat)} (W : Own m done owner) (hl : done.length ≤ m) (h : Int) :
    ∃ j, SetTable.layClean.free m owner (SetTable.turns m) (SetTable.bits h % (m + 1)) (SetTable.bits h) = some j ∧ Own m (done ++ [h]) (owner.setIfInBounds j (some done.length)) := by
  obtain ⟨ps, pl, pin⟩ := W.ps
  obtain ⟨j0, b0, n0⟩ := st_missing ps (m + 1) (by omega)
  have f0 : oAt owner j0 = none := Classical.byContradiction fun z => n0 (pin j0 (Nat.le_of_lt_succ b0) z)
  obtain ⟨K, q1, q2, q3⟩ := free_at hm owner h (Nat.le_of_lt_succ b0) f0
  have jm : way m h K ≤ m := way_in
  generalize hj : way m h K = j at q1 q2 jm
  have self : oAt (owner.setIfInBounds j (some done.length)) j = some done.length := oAt_set_self _ (by rw [W.sz]; omega)
  have keep : ∀ i, oAt owner i ≠ none → oAt (owner.setIfInBounds j (some done.length)) i ≠ none := fun i hi => by
    by_cases c : i = j
    · rw [c, self]
      simp
    · rw [oAt_set_ne _ c]
      exact hi
  refine ⟨j, q1, {
    sz := by rw [Array.size_setIfInBounds]; exact W.sz
    at_ := fun i k hi e => ?_
    all := fun k hk => ?_
    ps := ⟨j :: ps, by simp [pl], fun i hi e => ?_⟩ }⟩
  · by_cases c : i = j
    · rw [c, self] at e
      refine ⟨h, K, ?_, by rw [c]; exact hj, fun k' hk' => keep _ (q3 k' hk')⟩
      rw [← Option.some.inj e]
      simp
    · rw [oAt_set_ne _ c] at e
      obtain ⟨h', K', a1, a2, a3⟩ := W.at_ i k hi e
      exact ⟨h', K', by rw [List.getElem?_append_left (List.getElem?_eq_some_iff.mp a1).1]; exact a1, a2, fun k' hk' => keep _ (a3 k' hk')⟩
  · by_cases c : k < done.length
    · obtain ⟨i, hi, e⟩ := W.all k c
      refine ⟨i, hi, ?_⟩
      rw [oAt_set_ne _ fun z => by rw [z, q2] at e; cases e]
      exact e
    · have : k = done.length := by simp at hk; omega
      exact ⟨j, jm, by rw [this]; exact self⟩
  · by_cases c : i = j
    · rw [c]
      exact List.mem_cons_self
    · rw [oAt_set_ne _ c] at e
      exact List.mem_cons_of_mem _ (pin i hi e)
theorem own_fold {m : Nat} (hm : Msk m) : ∀ (rest done : List Int) (owner : Array (Option Nat)), Own m done owner → done.length + rest.length ≤ m →
    ∃ owner', rest.foldl (stepF m) (some (owner, done.length)) = some (owner', (done ++ rest).length) ∧ Own m (done ++ rest) owner' := by
  intro rest
  induction rest with
  | nil => exact fun done owner W _ => ⟨owner, by simp, by simpa using W⟩
  | cons h rest ih =>
    intro done owner W hl
    simp only [List.length_cons] at hl
    obtain ⟨j, e, W1⟩ := own_step hm W (by omega) h
    obtain ⟨owner', f, W2⟩ := ih (done ++ [h]) _ W1 (by simp; omega)
    rw [List.append_assoc] at f W2
    refine ⟨owner', ?_, W2⟩
    rw [List.foldl_cons, stepF_some e]
    simpa using f
theorem lay_ok {m : Nat} (hm : Msk m) {hs : Array Int} (hn : hs.size ≤ m) : ∃ owner, SetTable.layClean m hs = some owner ∧ Own m hs.toList owner := by
  obtain ⟨owner, f, W⟩ := own_fold hm hs.toList [] _ (Own.init m) (by simpa using hn)
  refine ⟨owner, ?_, W⟩
  have f : hs.toList.foldl (stepF m) (some (Array.replicate (m + 1) none, 0)) = some (owner, ([] ++ hs.toList).length) := f
  rw [layClean_eq, f]
  rfl
theorem relay_ok (t : SetTable) {hs : Array Int} {wanted M : Nat} (hw : SetTable.sizeAbove wanted - 1 = M) (hM : Msk M) (hn : hs.size ≤ M) :
    ∃ t' order, t.relaid hs wanted = some (t', order) ∧ order.toList.Perm (List.range hs.size) ∧ TabM t' (order.toList.map fun i => hs.getD i 0) ∧ t'.mask = M ∧ t'.led = t.led ∧ t'.plain = t.plain ∧ t'.dummies = #[] := by
  obtain ⟨owner, e, W⟩ := lay_ok hM hn
  have hr : t.relaid hs wanted = some (tabOf t M owner, ((liveOf M owner).map (·.2)).toArray) := by
    rw [relaid_eq, hw, e]
    rfl
  have ris := ris_live (fun j => owner.getD j none) (List.range (M + 1)) (by unfold Ris; exact List.pairwise_lt_range)
  have r1 : Ris ((liveOf M owner).map (·.1)) := ris.1
  have r2 : ∀ x ∈ (liveOf M owner).map (·.1), x ∈ List.range (M + 1) := ris.2
  have nd : ((liveOf M owner).map (·.1)).Nodup := r1.imp fun h => Nat.ne_of_lt h
  have has : ∀ k, k < hs.size → k ∈ (liveOf M owner).map (·.2) := fun k hk => by
    obtain ⟨j, b1, b2⟩ := W.all k (by simpa using hk)
    exact List.mem_map.mpr ⟨(j, k), (mem_live W.sz).mpr ⟨b1, b2⟩, rfl⟩
  have len : (liveOf M owner).length = hs.size := by
    obtain ⟨ps, p1, p2⟩ := W.ps
    have a := nat_nodup_len ((liveOf M owner).map (·.1)) ps nd fun x hx => by
      obtain ⟨⟨y, k⟩, hq, rfl⟩ := List.mem_map.mp hx
      obtain ⟨b1, b2⟩ := (mem_live W.sz).mp hq
      exact p2 y b1 (by rw [b2]; simp)
    have c := nat_nodup_len (List.range hs.size) ((liveOf M owner).map (·.2)) List.nodup_range fun k hk => has k (List.mem_range.mp hk)
    simp only [List.length_map, List.length_range, Array.length_toList] at a c p1
    omega
  refine ⟨tabOf t M owner, ((liveOf M owner).map (·.2)).toArray, hr, perm_range hs.size _ (by simpa using len) has, {
    ris := r1
    dm := rfl
    sz := by
      show ((liveOf M owner).map (·.1)).toArray.size = (((liveOf M owner).map (·.2)).map fun i => hs.getD i 0).length
      simp
    mok := hM
    bd := fun x hx => Nat.le_of_lt_succ (List.mem_range.mp (r2 x hx))
    reach := fun i h j e1 e2 => ?_ }, rfl, rfl, rfl, rfl⟩
  have e1 : (((liveOf M owner).map (·.2)).map fun i => hs.getD i 0)[i]? = some h := e1
  have e2 : ((liveOf M owner).map (·.1))[i]? = some j := e2
  rw [List.getElem?_map] at e2
  obtain ⟨⟨y, k⟩, hq, rfl⟩ := Option.map_eq_some_iff.mp e2
  rw [List.map_map, List.getElem?_map, hq] at e1
  have eh : hs.getD k 0 = h := Option.some.inj e1
  obtain ⟨b1, b2⟩ := (mem_live W.sz).mp (List.mem_of_getElem? hq)
  obtain ⟨h0, K, a1, a2, a3⟩ := W.at_ y k b1 b2
  have e0 : h0 = h := by
    rw [← eh, Array.getD_eq_getD_getElem?, ← Array.getElem?_toList, a1]
    rfl
  subst e0
  refine ⟨K, a2, fun k' hk' => ?_⟩
  cases z : oAt owner (way M h0 k') with
  | none => exact absurd z (a3 k' hk')
  | some k2 => exact List.mem_map.mpr ⟨(way M h0 k', k2), (mem_live W.sz).mpr ⟨way_in, z⟩, rfl⟩
theorem size_1228 : SetTable.sizeAbove (SetTable.grown 307) = 2048 := by decide +kernel
theorem size_308 : SetTable.sizeAbove (SetTable.grown 77) = 512 := by decide +kernel
end PL
namespace PL
open PySem PySem.Spec PyProof.Rows L2
/-- the members with their places in the heap -/
abbrev NL := List (Addr × NestedKey)
abbrev hashesOf (w : World) (L : NL) : List Int := L.map fun p => p.2.hash w
abbrev entriesOf (w : World) (L : NL) : List (Int × Value) := L.map fun p => (p.2.hash w, Value.ref p.1)
structure NSet (P : Program) (w : World) (h : Heap) (a : Addr) (L : NL) (es : Array (Int × Value)) (ep : Nat) (t : SetTable) : Prop where
  ob : ∃ o, h.get? a = some o ∧ o.ExactSet ∧ o.data = .set es ep t
  rows : es.toList = entriesOf w L
  tab : TabM t (hashesOf w L)
  nd : (L.map Prod.snd).Nodup
  keys : ∀ p ∈ L, NKey P w h p.2 p.1
  led : w.params.followText "set-order" = true ∨ t.led = true
  room : L.length * 5 < t.mask * 3
section
variable {P : Program} {w : World} {A : Around} {E : Value → Shared → Prop} {s : Shared} {h : Heap} {a x : Addr} {L : NL} {es : Array (Int × Value)} {ep : Nat} {t : SetTable} {k : NestedKey}
theorem NSet.size (R : NSet P w h a L es ep t) : es.size = L.length := by
  rw [← Array.length_toList, R.rows, List.length_map]
theorem NSet.places (R : NSet P w h a L es ep t) : t.place.size = L.length := by
  rw [R.tab.sz, List.length_map]
theorem NSet.fits (R : NSet P w h a L es ep t) : t.fits es.size = true := by
  have h1 := R.places
  have h2 := R.size
  have h3 := R.room
  simp only [SetTable.fits, SetTable.fill, R.tab.dm, Bool.and_eq_true, beq_iff_eq, decide_eq_true_eq]
  exact ⟨by omega, by simp; omega⟩
theorem NSet.entry (R : NSet P w h a L es ep t) {i : Nat} {p : Addr × NestedKey} (hp : L[i]? = some p) : es[i]? = some (p.2.hash w, .ref p.1) := by
  have e : es.toList[i]? = some (p.2.hash w, .ref p.1) := by rw [R.rows, List.getElem?_map, hp]; rfl
  rwa [Array.getElem?_toList] at e
theorem NSet.odd (R : NSet P w h a L es ep t) : ¬ t.gaveWay = true := by
  simp only [SetTable.gaveWay, msk_odd R.tab.mok]
  decide
/-- the c-th probe of a hash -/
abbrev prb (t : SetTable) (g : Int) (c : Nat) : SetTable.Probe := nth t.mask (t.probeStart g) c
theorem prb_j (t : SetTable) (g : Int) (c q : Nat) : (nth t.mask (prb t g c) q).j = way t.mask g (c + q) := by
  unfold prb
  rw [← nth_add]
  rfl
theorem prb_more (t : SetTable) (g : Int) (c q : Nat) : nth t.mask (prb t g c) q = prb t g (c + q) := (nth_add ..).symm
theorem nth_dummy (m : Nat) : ∀ (n : Nat) (p : SetTable.Probe), p.dummy = none → (nth m p n).dummy = none
  | 0, _, e => e
  | n + 1, p, e => nth_dummy m n (adv m p) (by unfold adv; split <;> exact e)
theorem prb_dummy (t : SetTable) (g : Int) (c : Nat) : (prb t g c).dummy = none := nth_dummy t.mask c _ rfl
/-- what the search finds: from the c-th place on -/
theorem nsearch (R : NSet P w s.heap a L es ep t) (hx : NKey P w s.heap k x) (hu : A.units + 8 < cLine) {K : Nat} (hK : way t.mask (k.hash w) K ∉ t.place.toList) (hb : ∀ c, c < K → way t.mask (k.hash w) c ∈ t.place.toList) (hf : K < 10 * SetTable.turns t.mask)
    {Q : SetFound → Shared → Prop} (yes : k ∈ L.map Prod.snd → Q (.there none) s) (no : k ∉ L.map Prod.snd → Q (.free (way t.mask (k.hash w) K) false) s) :
    ∀ (n c f : Nat) (stand : Option SetTable.Probe), K - c ≤ n → c ≤ K → n < f → stand.getD (t.probeStart (k.hash w)) = prb t (k.hash w) c →
      (∀ (i : Nat) (p : Addr × NestedKey), L[i]? = some p → p.2 = k → ∃ c', c ≤ c' ∧ c' < K ∧ t.place.toList[i]? = some (way t.mask (k.hash w) c')) →
      wpAny (model P w) A (setSearchFrom a (.ref x) (k.hash w) true f stand) Q E s := by
  intro n
  induction n using Nat.strongRecOn with
  | ind n ih =>
    intro c f stand h1 h2 h3 h4 h5
    obtain ⟨f, rfl⟩ : ∃ f', f = f' + 1 := ⟨f - 1, by omega⟩
    obtain ⟨o, ho, hex, hd⟩ := R.ob
    rw [setSearchFrom_succ]
    refine wpAny_bind (wpAny_setState_of ho hd R.fits ?_)
    dsimp only
    refine wp_if_neg R.odd ?_
    have hash_at : ∀ (i : Nat) (p : Addr × NestedKey), L[i]? = some p → (es[i]?.map (·.1)).getD 0 = p.2.hash w := fun i p hp => by rw [R.entry hp]; rfl
    have spec := go_spec t R.tab.ris R.tab.dm (fun i => (es[i]?.map (·.1)).getD 0) (k.hash w) (10 * SetTable.turns t.mask) (K - c) (prb t (k.hash w) c) (prb_dummy t _ c) (by omega)
      (fun q hq => by rw [prb_j]; exact hb _ (by omega)) (by rw [prb_j, Nat.add_sub_cancel' h2]; exact hK)
    rcases spec with ⟨q, i, hq, hi, hh, hno, hpr⟩ | ⟨hno, hpr⟩
    · rw [prb_j] at hi
      have e : t.probe (fun i => (es[i]?.map (·.1)).getD 0) (k.hash w) (stand.getD (t.probeStart (k.hash w))) = some (.candidate (way t.mask (k.hash w) (c + q)) i (prb t (k.hash w) (c + (q + 1)))) := by
        rw [h4, ← prb_j, ← prb_more]; exact hpr
      have il : i < L.length := by
        have := (List.getElem?_eq_some_iff.mp hi).1
        rw [Array.length_toList, R.places] at this
        exact this
      obtain ⟨p, hp⟩ : ∃ p, L[i]? = some p := ⟨_, List.getElem?_eq_getElem il⟩
      have pm := List.mem_of_getElem? hp
      have pk := R.keys p pm
      have live : t.slot (way t.mask (k.hash w) (c + q)) = .live i := slot_live R.tab.ris hi
      have main : wpAny (model P w) A (searchRest a (.ref x) (k.hash w) true f es t (way t.mask (k.hash w) (c + q)) i (prb t (k.hash w) (c + (q + 1)))) Q E s := by
        unfold searchRest
        rw [R.entry hp]
        dsimp only
        refine wpAny_bind (wpAny_holding ((nestedKind P w).eqBool hu pk hx ?_))
        refine wpAny_bind (wpAny_setState_of ho hd R.fits ?_)
        dsimp only
        by_cases hk : p.2 = k
        · exact wp_if_pos (by simp [hk]) (wpAny_pure (yes (List.mem_map.mpr ⟨p, pm, hk⟩)))
        · refine wp_if_neg (by simp [hk]) ?_
          rw [sameMem]
          dsimp only
          simp only [if_true, live, R.entry hp]
          refine wpAny_bind (wpAny_isSame_ref_self (wpAny_bind (wpAny_pure ?_)))
          simp only [if_true]
          refine wp_if_neg (by simp [hk]) ?_
          refine ih (K - (c + (q + 1))) (by omega) (c + (q + 1)) f _ (Nat.le_refl _) (by omega) (by omega) rfl fun j p' hj hk' => ?_
          obtain ⟨c', b1, b2, b3⟩ := h5 j p' hj hk'
          refine ⟨c', ?_, b2, b3⟩
          have ne1 : ¬ c' < c + q := fun z => hno (c' - c) j (by omega) (by rw [prb_j, Nat.add_sub_cancel' b1]; exact b3) (by rw [hash_at j p' hj, hk'])
          have ne2 : c' ≠ c + q := fun z => by
            rw [z] at b3
            have l2 := slot_live R.tab.ris b3
            rw [live] at l2
            injection l2 with l2
            subst l2
            rw [hp] at hj
            cases hj
            exact hk hk'
          omega
      rw [e]
      dsimp only
      by_cases hl : t.led = true
      · exact wp_if_neg (by simp [hl]) main
      · refine wp_if_pos (by simp [hl]) (wpAny_bind (nkey_seen hx (fun y hy => ?_) (wp_if_neg (by decide) main)))
        obtain ⟨r, hr, rfl⟩ := List.mem_map.mp hy
        have hr2 : r ∈ es.toList := by
          have := Array.mem_toList_iff.mp hr
          rw [Array.mem_filter] at this
          exact Array.mem_toList_iff.mpr this.1
        rw [R.rows] at hr2
        obtain ⟨p', hp', rfl⟩ := List.mem_map.mp hr2
        exact ⟨p'.2, p'.1, rfl, R.keys p' hp'⟩
    · have e : t.probe (fun i => (es[i]?.map (·.1)).getD 0) (k.hash w) (stand.getD (t.probeStart (k.hash w))) = some (.empty (way t.mask (k.hash w) K) none) := by
        rw [h4, show way t.mask (k.hash w) K = (nth t.mask (prb t (k.hash w) c) (K - c)).j by rw [prb_j, Nat.add_sub_cancel' h2]]; exact hpr
      rw [e]
      dsimp only
      refine wpAny_pure (no fun hm => ?_)
      obtain ⟨p', hp', hk'⟩ := List.mem_map.mp hm
      obtain ⟨j, hj⟩ := List.getElem?_of_mem hp'
      obtain ⟨c', b1, b2, b3⟩ := h5 j p' hj hk'
      exact hno (c' - c) j (by omega) (by rw [prb_j, Nat.add_sub_cancel' b1]; exact b3) (by rw [hash_at j p' hj, hk'])
theorem turns_small {m : Nat} (h : Msk m) : 10 * SetTable.turns m ≤ 21000 := by
  rcases h with rfl | rfl | rfl | rfl | rfl <;> simp [SetTable.turns]
/-- the search of one that is to be put in -/
theorem nsearch_add (R : NSet P w s.heap a L es ep t) (hx : NKey P w s.heap k x) (hu : A.units + 8 < cLine) {Q : SetFound → Shared → Prop} (yes : k ∈ L.map Prod.snd → Q (.there none) s)
    (no : ∀ K, k ∉ L.map Prod.snd → way t.mask (k.hash w) K ∉ t.place.toList → (∀ c, c < K → way t.mask (k.hash w) c ∈ t.place.toList) → Q (.free (way t.mask (k.hash w) K) false) s) :
    wpAny (model P w) A (setSearch a (.ref x) (k.hash w) true) Q E s := by
  have hroom := R.room
  obtain ⟨K, h1, h2, h3⟩ := R.tab.first (by rw [List.length_map]; omega) (k.hash w)
  have h4 := turns_small R.tab.mok
  unfold setSearch
  refine nsearch R hx hu h2 h3 h1 yes (fun n => no K n h2 h3) K 0 100000 none (by omega) (Nat.zero_le _) (by omega) rfl fun i p hp hk => ?_
  have hi : (hashesOf w L)[i]? = some (k.hash w) := by rw [List.getElem?_map, hp, ← hk]; rfl
  obtain ⟨j, hj⟩ : ∃ j, t.place.toList[i]? = some j := ⟨_, List.getElem?_eq_getElem (by
    rw [Array.length_toList, R.places]
    exact (List.getElem?_eq_some_iff.mp hp).1)⟩
  obtain ⟨c, b1, b2⟩ := R.tab.before h2 hi hj
  exact ⟨c, Nat.zero_le _, b1, by rw [hj, b2]⟩
end
end PL
namespace PL
open PySem PySem.Spec PyProof.Rows L2
theorem all_at {α : Type} : ∀ (L : List α), (List.range L.length).filterMap (fun i => L[i]?) = L
  | [] => rfl
  | a :: L => by
    rw [List.length_cons, List.range_succ_eq_map, List.filterMap_cons]
    simp only [List.getElem?_cons_zero, List.filterMap_map]
    exact congrArg (a :: ·) (all_at L)
theorem filterMap_of {α β : Type} {f : α → Option β} {g : α → β} : ∀ {l : List α}, (∀ a ∈ l, f a = some (g a)) → l.filterMap f = l.map g
  | [], _ => rfl
  | a :: l, h => by
    rw [List.filterMap_cons_some (h a List.mem_cons_self), List.map_cons, filterMap_of fun b hb => h b (List.mem_cons_of_mem _ hb)]
section
variable {P : Program} {w : World} {A : Around} {E : Value → Shared → Prop} {s : Shared} {h : Heap} {a x : Addr} {L : NL} {es : Array (Int × Value)} {ep : Nat} {t : SetTable} {k : NestedKey}
theorem entries_at (hr : es.toList = entriesOf w L) (i : Nat) : es[i]? = (L[i]?).map fun p => (p.2.hash w, Value.ref p.1) := by
  rw [← Array.getElem?_toList, hr, List.getElem?_map]
theorem entries_size (hr : es.toList = entriesOf w L) : es.size = L.length := by
  rw [← Array.length_toList, hr, List.length_map]
/-- the entries in another order -/
theorem reorder (hr : es.toList = entriesOf w L) {order : Array Nat} (hp : order.toList.Perm (List.range L.length)) :
    ∃ L2 : NL, (order.filterMap (es[·]?)).toList = entriesOf w L2 ∧ L2.Perm L ∧ hashesOf w L2 = order.toList.map fun i => (es.map (·.1)).getD i 0 := by
  refine ⟨order.toList.filterMap fun i => L[i]?, ?_, ?_, ?_⟩
  · rw [Array.toList_filterMap, entriesOf, List.map_filterMap]
    congr 1
    funext i
    exact entries_at hr i
  · have := hp.filterMap fun i => L[i]?
    rwa [all_at] at this
  · rw [hashesOf, List.map_filterMap]
    refine filterMap_of fun i hi => ?_
    have hl : i < L.length := List.mem_range.mp (hp.mem_iff.mp hi)
    have e := entries_at hr i
    rw [List.getElem?_eq_getElem hl] at e ⊢
    rw [Array.getD_eq_getD_getElem?, Array.getElem?_map, e]
    rfl
theorem nkey_other {h h' : Heap} {o : Obj} (hk : NKey P w h k x) (ho : h.get? a = some o) (hd : o.data = .set es ep t) (sb : Heap.SameBut a h h') : NKey P w h' k x :=
  ⟨NestedIs.at (fun b ob vs n h1 h2 => (sb.2 b fun z => by
    rw [z, ho] at h1
    cases h1
    rw [hd] at h2
    cases h2).trans h1) _ _ hk.1, hk.2⟩
/-- the table is laid anew -/
theorem nrelay {o : Obj} (ho : s.heap.get? a = some o) (hex : o.ExactSet) (hd : o.data = .set es ep t) (hr : es.toList = entriesOf w L) (hz : t.place.size = es.size) (hm : t.dummies = #[]) (hle : es.size ≤ t.mask)
    (nd : (L.map Prod.snd).Nodup) (keys : ∀ p ∈ L, NKey P w s.heap p.2 p.1) (led : w.params.followText "set-order" = true ∨ t.led = true) {wanted M : Nat} (hM : Msk M) (hw : SetTable.sizeAbove wanted = M + 1) (room : L.length * 5 < M * 3)
    {Q : Unit → Shared → Prop} (q : ∀ h' L' es' ep' t', Heap.SameBut a s.heap h' → NSet P w h' a L' es' ep' t' → L'.Perm L → Q () { s with heap := h' }) : wpAny (model P w) A (setRelay a wanted) Q E s := by
  have hM128 : M ≤ 2047 := by rcases hM with rfl | rfl | rfl | rfl | rfl <;> decide
  have size := entries_size hr
  have fits : t.fits es.size = true := by
    simp only [SetTable.fits, SetTable.fill, hm, Bool.and_eq_true, beq_iff_eq, decide_eq_true_eq]
    exact ⟨hz, by simp; omega⟩
  obtain ⟨t', order, e, hp, T, em, el, epl, edm⟩ := relay_ok t (hs := es.map (·.1)) (wanted := wanted) (M := M) (by omega) hM (by rw [Array.size_map]; omega)
  rw [Array.size_map, size] at hp
  obtain ⟨L2, r1, r2, r3⟩ := reorder hr hp
  rw [← r3] at T
  have size2 : (order.filterMap (es[·]?)).size = es.size := by rw [entries_size r1, r2.length_eq, size]
  rw [setRelay_eq]
  refine wpAny_bind (wpAny_setState_of ho hd fits ?_)
  dsimp only
  refine wp_if_neg (by rw [sizeLine_eq]; omega) ?_
  rw [e]
  dsimp only
  refine wpAny_bind (wp_if_neg (by rw [size2]; simp) (wpAny_pure ?_))
  dsimp only
  have sb : Heap.SameBut a s.heap (s.heap.update a (Obj.putSet (order.filterMap (es[·]?)) t')) := Heap.SameBut.update ..
  refine wpAny_storeSet_of ho hd (q _ L2 (order.filterMap (es[·]?)) (ep + 1) t' sb ?_ r2) (by rw [size2, sizeLine_eq]; omega)
  exact {
    ob := ⟨_, store_at ho hd, hex, rfl⟩
    rows := r1
    tab := T
    nd := (r2.map Prod.snd).nodup_iff.mpr nd
    keys := fun p hp => nkey_other (keys p (r2.mem_iff.mp hp)) ho hd sb
    led := by rw [el]; exact led
    room := by rw [r2.length_eq, em]; exact room }
theorem insert_perm {L : NL} {n : Nat} {p : Addr × NestedKey} : (L.take n ++ p :: L.drop n).Perm (p :: L) := by
  refine List.perm_middle.trans ?_
  rw [List.take_append_drop]
/-- a key is put in -/
theorem nadd (R : NSet P w s.heap a L es ep t) (hx : NKey P w s.heap k x) (hu : A.units + 8 < cLine) (few : L.length < 400) {Q : Bool → Shared → Prop}
    (q : ∀ b h' L' es' ep' t', Heap.SameBut a s.heap h' → NSet P w h' a L' es' ep' t' → (k ∈ L.map Prod.snd → L' = L) → (k ∉ L.map Prod.snd → L'.Perm ((x, k) :: L)) → Q b { s with heap := h' }) :
    wpAny (model P w) A (setAddHashed a (.ref x) (k.hash w)) Q E s := by
  obtain ⟨o, ho, hex, hd⟩ := id R.ob
  have size := R.size
  have room := R.room
  unfold setAddHashed
  refine wpAny_holding ?_
  rw [show 100000 = 99999 + 1 from rfl, setAddHashedIn_succ]
  refine wpAny_bind (wpAny_setState_of ho hd R.fits ?_)
  dsimp only
  refine wp_if_neg (by simp [byScan, Value.scannable]) ?_
  refine wpAny_bind (nsearch_add R hx hu (fun hm => ?_) fun K hm hK hb => ?_)
  · exact wpAny_pure (q false s.heap L es ep t (.refl a s.heap) R (fun _ => rfl) fun z => absurd hm z)
  · dsimp only
    refine wpAny_bind (wpAny_setState_of ho hd R.fits ?_)
    dsimp only
    obtain ⟨b1, b2, T, b4, b5, b9⟩ := R.tab.put hK hb
    generalize t.put (way t.mask (k.hash w) K) = pt at b1 b4 b5 b9 T ⊢
    obtain ⟨t1, n⟩ := pt
    dsimp only at b1 b4 b5 b9 T ⊢
    rw [← b1] at b2 T
    rw [List.length_map] at b9
    have rows1 : (SetTable.insertAt es n (k.hash w, Value.ref x)).toList = entriesOf w (L.take n ++ (x, k) :: L.drop n) := by
      rw [SetTable.toList_insertAt, R.rows]
      simp only [entriesOf, List.map_append, List.map_cons, List.map_take, List.map_drop]
    have T1 : TabM t1 (hashesOf w (L.take n ++ (x, k) :: L.drop n)) := by
      simp only [hashesOf, List.map_append, List.map_cons, List.map_take, List.map_drop] at T ⊢
      exact T
    have pm := insert_perm (L := L) (n := n) (p := (x, k))
    generalize SetTable.insertAt es n (k.hash w, Value.ref x) = es1 at rows1 ⊢
    generalize L.take n ++ (x, k) :: L.drop n = L1 at rows1 T1 pm
    have len1 : L1.length = L.length + 1 := pm.length_eq
    have size1 : es1.size = L.length + 1 := by rw [entries_size rows1, len1]
    have places1 : t1.place.size = L.length + 1 := by rw [T1.sz, List.length_map, len1]
    have nd1 : (L1.map Prod.snd).Nodup := (pm.map Prod.snd).nodup_iff.mpr (List.nodup_cons.mpr ⟨hm, R.nd⟩)
    have step : ∀ t2 : SetTable, t2.mask = t1.mask → t2.place = t1.place → t2.dummies = t1.dummies → t2.led = t1.led → TabM t2 (hashesOf w L1) →
        wpAny (model P w) A (do
          storeSet a es1 t2
          if (!false && t2.tooFull) = true then setRelay a (SetTable.grown (es.size + 1))
          return true) Q E s := fun t2 c1 c2 c3 c4 T2 => by
      have sb : Heap.SameBut a s.heap (s.heap.update a (Obj.putSet es1 t2)) := Heap.SameBut.update ..
      have ho1 := store_at (es' := es1) (t' := t2) ho hd
      refine wpAny_bind (wpAny_storeSet_of ho hd ?_ (by rw [size1, sizeLine_eq]; omega))
      generalize s.heap.update a (Obj.putSet es1 t2) = h1 at sb ho1 ⊢
      have keys1 : ∀ p ∈ L1, NKey P w h1 p.2 p.1 := fun p hp => by
        rcases List.mem_cons.mp (pm.mem_iff.mp hp) with z | hp
        · subst z; exact nkey_other hx ho hd sb
        · exact nkey_other (R.keys p hp) ho hd sb
      have led1 : w.params.followText "set-order" = true ∨ t2.led = true := by rw [c4, b5]; exact R.led
      have hfill : t2.fill = L.length + 1 := by
        rw [← b9]
        simp only [SetTable.fill, c2, c3]
      have htf : t2.tooFull = decide ((L.length + 1) * 5 ≥ t.mask * 3) := by
        rw [← hfill, ← b4, ← c1]; rfl
      dsimp only
      by_cases hf : (L.length + 1) * 5 ≥ t.mask * 3
      · rw [htf, decide_eq_true hf]
        refine wp_if_pos rfl (wpAny_bind ?_)
        have two : (t.mask = 7 ∧ L.length = 4) ∨ (t.mask = 31 ∧ L.length = 18) ∨ (t.mask = 127 ∧ L.length = 76) ∨ (t.mask = 511 ∧ L.length = 306) := by
          rcases R.tab.mok with z | z | z | z | z <;> rw [z] at room hf
          · exact .inl ⟨z, by omega⟩
          · exact .inr (.inl ⟨z, by omega⟩)
          · exact .inr (.inr (.inl ⟨z, by omega⟩))
          · exact .inr (.inr (.inr ⟨z, by omega⟩))
          · omega
        have go : ∀ M, Msk M → SetTable.sizeAbove (SetTable.grown (es.size + 1)) = M + 1 → L1.length * 5 < M * 3 →
            wpAny (model P w) A (setRelay a (SetTable.grown (es.size + 1))) (fun _ s' => wpAny (model P w) A (pure true) Q E s') E { s with heap := h1 } := fun M m1 m2 m3 =>
          nrelay (s := { s with heap := h1 }) ho1 hex rfl rows1 (by rw [c2, places1, size1]) T2.dm (by rw [size1, c1, b4]; omega) nd1 keys1 led1 m1 m2 m3
            fun h' L' es' ep' t' sb' R' pm' => wpAny_pure (q true h' L' es' ep' t' (sb.trans sb') R' (fun z => absurd z hm) fun _ => pm'.trans pm)
        rcases two with ⟨_, z⟩ | ⟨_, z⟩ | ⟨_, z⟩ | ⟨_, z⟩
        · exact go 31 (.inr (.inl rfl)) (by rw [size, z]; exact size_20) (by omega)
        · exact go 127 (.inr (.inr (.inl rfl))) (by rw [size, z]; exact size_76) (by omega)
        · exact go 511 (.inr (.inr (.inr (.inl rfl)))) (by rw [size, z]; exact size_308) (by omega)
        · exact go 2047 (.inr (.inr (.inr (.inr rfl)))) (by rw [size, z]; exact size_1228) (by omega)
      · rw [htf, decide_eq_false hf]
        refine wp_if_neg (by decide) (wpAny_pure (q true h1 L1 es1 (ep + 1) t2 sb ?_ (fun z => absurd z hm) fun _ => pm))
        exact {
          ob := ⟨_, ho1, hex, rfl⟩
          rows := rows1
          tab := T2
          nd := nd1
          keys := keys1
          led := led1
          room := by rw [len1, c1, b4]; omega }
    have ans : ∀ b : Bool, wpAny (model P w) A (do
          storeSet a es1 (if b = true then t1 else { t1 with plain := false })
          if (!false && (if b = true then t1 else { t1 with plain := false }).tooFull) = true then setRelay a (SetTable.grown (es.size + 1))
          return true) Q E s := fun b => by
      cases b with
      | true => exact step t1 rfl rfl rfl rfl T1
      | false => exact step { t1 with plain := false } rfl rfl rfl rfl ⟨T1.ris, T1.dm, T1.sz, T1.mok, T1.bd, T1.reach⟩
    by_cases hpl : t1.plain = true
    · exact wp_if_pos hpl (wpAny_bind (nkey_byv hx ans))
    · exact wp_if_neg hpl (wpAny_bind (wpAny_pure (ans true)))
end
end PL
namespace PL
open PySem PySem.Spec PyProof.Rows L2
/-- L holds the keys of done, each once -/
structure Once (done L : NL) : Prop where
  sub : ∀ p ∈ L, p ∈ done
  all : ∀ p ∈ done, p.2 ∈ L.map Prod.snd
  len : L.length ≤ done.length
theorem Once.nil : Once [] [] := ⟨fun _ h => h, fun _ h => (nomatch h), Nat.le_refl _⟩
theorem Once.old {done L : NL} {p : Addr × NestedKey} (o : Once done L) (h : p.2 ∈ L.map Prod.snd) : Once (done ++ [p]) L where
  sub := fun q hq => List.mem_append_left _ (o.sub q hq)
  all := fun q hq => by
    rcases List.mem_append.mp hq with hq | hq
    · exact o.all q hq
    · cases List.mem_singleton.mp hq; exact h
  len := by have := o.len; simp; omega
theorem Once.new {done L L' : NL} {p : Addr × NestedKey} (o : Once done L) (h : L'.Perm (p :: L)) : Once (done ++ [p]) L' where
  sub := fun q hq => by
    rcases List.mem_cons.mp (h.mem_iff.mp hq) with z | hq
    · exact List.mem_append_right _ (List.mem_singleton.mpr z)
    · exact List.mem_append_left _ (o.sub q hq)
  all := fun q hq => (h.map Prod.snd).mem_iff.mpr (by
    rcases List.mem_append.mp hq with hq | hq
    · exact List.mem_cons_of_mem _ (o.all q hq)
    · cases List.mem_singleton.mp hq; exact List.mem_cons_self)
  len := by have := o.len; rw [h.length_eq]; simp; omega
section
variable {P : Program} {w : World} {A : Around} {s : Shared} {L : NL} {es : Array (Int × Value)} {ep : Nat} {t : SetTable}
theorem NKey.up {h h' : Heap} {k : NestedKey} {a : Addr} (x : NKey P w h k a) (up : ∀ b o, h.get? b = some o → h'.get? b = some o) : NKey P w h' k a :=
  ⟨NestedIs.at (fun b o vs n e _ => up b o e) _ _ x.1, x.2⟩
theorem NSet.up {h h' : Heap} {a : Addr} (R : NSet P w h a L es ep t) (ha : ∀ o, h.get? a = some o → h'.get? a = some o) (hk : ∀ p ∈ L, NKey P w h' p.2 p.1) : NSet P w h' a L es ep t where
  ob := by obtain ⟨o, h1, h2⟩ := R.ob; exact ⟨o, ha o h1, h2⟩
  rows := R.rows
  tab := R.tab
  nd := R.nd
  keys := hk
  led := R.led
  room := R.room
abbrev newTab (w : World) : SetTable := .fresh 0 0 (!w.params.followText "set-order")
abbrev newSetObj (w : World) : Obj := { cls := .type "set", dict := none, data := .set #[] 0 (newTab w) }
theorem NSet.new {h : Heap} {a : Addr} (e : h.get? a = some (newSetObj w)) : NSet P w h a [] #[] 0 (newTab w) where
  ob := ⟨_, e, ⟨rfl, rfl, rfl⟩, rfl⟩
  rows := rfl
  tab := ⟨.nil, rfl, rfl, .inl rfl, fun x hx => (nomatch hx), fun i g j hi => by simp at hi⟩
  nd := .nil
  keys := fun p hp => nomatch hp
  led := by
    cases hb : w.params.followText "set-order" with
    | true => exact .inl rfl
    | false => right; show (!w.params.followText "set-order") = true; rw [hb]; rfl
  room := by show 0 * 5 < 7 * 3; decide
/-- what set(..) does with what it walks -/
theorem nupdate {I S : Addr} {fp wr : List Addr} {G : Array GenState → Array GenState → Prop} {ks : NL} {Pv : Nat → Value → Prop} {St : Nat → Shared → Prop} {R : Result → Shared → Prop} (W : WalksS P w A.in1 I fp wr G ks.length Pv St) (hS : S ∉ fp)
    (val : ∀ i v, Pv i v → ∃ p, ks[i]? = some p ∧ v = .ref p.1) (few : ks.length ≤ 400) (hu : A.in1.units + 8 < cLine) {h0 : Heap} (hk : ∀ p ∈ ks, NKey P w h0 p.2 p.1) (nS : h0.get? S = none) (nw : ∀ b ∈ wr, h0.get? b = none) :
    ∀ (rest done : NL) (s : Shared), ks = done ++ rest → St done.length s → (∀ b o, h0.get? b = some o → s.heap.get? b = some o) → (∃ L es ep t, NSet P w s.heap S L es ep t ∧ Once done L) →
      (∀ s' L es ep t, Moved (S :: wr) G s s' → NSet P w s'.heap S L es ep t → Once ks L → (∀ b o, h0.get? b = some o → s'.heap.get? b = some o) → R (.ok (.ret .none)) s') →
      codeAny (model P w) A (.builtin "set.update.loop" ⟨[.ref S, .ref I], []⟩) R s := by
  have out : S ∉ wr := fun z => hS (W.sub _ z)
  have wid : ∀ b ∈ wr, b ∈ S :: wr := fun b hb => List.mem_cons_of_mem _ hb
  have still : ∀ {u v : Shared}, Moved wr G u v → (∀ b o, h0.get? b = some o → u.heap.get? b = some o) → ∀ b o, h0.get? b = some o → v.heap.get? b = some o := fun m k b o e =>
    m.heap b o (fun z => nomatch (nw b z).symm.trans e) (k b o e)
  intro rest
  induction rest with
  | nil =>
    intro done s e st up ⟨L, es, ep, t, hR, on⟩ q
    rw [List.append_nil] at e
    subst e
    refine codeAny_builtin F.entry_set_update_loop ?_
    rw [Around.under_plainId F.plain_set_update_loop _]
    show wpAny _ A.in1 (pyNext (.ref I) >>= _) _ _ s
    refine wpAny_bind (W.done s _ _ st fun s1 m => ?_)
    have up1 := still m up
    show wpAny _ A.in1 (PySem.ret Value.none) _ _ s1
    exact wpAny_pure (q s1 L es ep t (m.mono wid) (hR.up (fun o => m.heap S o out) fun p hp => (hk p (on.sub p hp)).up up1) on up1)
  | cons p rest ih =>
    intro done s e st up ⟨L, es, ep, t, hR, on⟩ q
    have hl : done.length < ks.length := by rw [e]; simp
    have hat : ks[done.length]? = some p := by rw [e, List.getElem?_append_right (Nat.le_refl _)]; simp
    refine codeAny_builtin F.entry_set_update_loop ?_
    rw [Around.under_plainId F.plain_set_update_loop _]
    show wpAny _ A.in1 (pyNext (.ref I) >>= _) _ _ s
    refine wpAny_bind (W.item done.length s _ _ hl st fun v s1 hv st1 m => ?_)
    obtain ⟨p', hp', rfl⟩ := val _ v hv
    obtain rfl : p = p' := Option.some.inj (hat.symm.trans hp')
    have up1 := still m up
    have sub : ∀ y ∈ L, y ∈ ks := fun y hy => by rw [e]; exact List.mem_append_left _ (on.sub y hy)
    have R1 : NSet P w s1.heap S L es ep t := hR.up (fun o => m.heap S o out) fun y hy => (hk y (sub y hy)).up up1
    have x1 : NKey P w s1.heap p.2 p.1 := (hk p (List.mem_of_getElem? hat)).up up1
    show wpAny _ A.in1 (holding [Value.ref p.1] (setAdd S (.ref p.1)) >>= _) _ _ s1
    refine wpAny_bind (wpAny_holding ?_)
    unfold setAdd
    refine wpAny_holding (wpAny_bind ((nestedKind P w).pyHash hu x1 ?_))
    refine nadd (s := { s1 with toks := s1.toks + p.2.draws }) R1 x1 hu (by have := on.len; omega) fun b h2 L2 es2 ep2 t2 sb R2 c1 c2 => ?_
    have on2 : Once (done ++ [p]) L2 := by
      by_cases c : p.2 ∈ L.map Prod.snd
      · rw [c1 c]; exact on.old c
      · exact on.new (c2 c)
    have up2 : ∀ b o, h0.get? b = some o → h2.get? b = some o := fun b o z => (sb.2 b fun y => by rw [y, nS] at z; cases z).trans (up1 b o z)
    refine wpAny_pure ⟨plainId_quiet F.plain_set_update_loop _, ih (done ++ [p]) _ (by rw [e]; simp) ?_ up2 ⟨L2, es2, ep2, t2, R2, on2⟩ fun s3 L3 es3 ep3 t3 m3 R3 on3 up3 => ?_⟩
    · rw [List.length_append]
      exact W.frame _ s1 _ _ st1 (Nat.le_add_right _ _) fun b hb o z => (sb.2 b fun y => hS (y ▸ hb)).trans z
    · refine q s3 L3 es3 ep3 t3 (Moved.trans W.gtrans ((m.mono wid).then_heap (Nat.le_add_right _ _) fun b o hb z => ?_) m3) R3 on3 up3
      exact (sb.2 b fun y => hb (y ▸ List.mem_cons_self)).trans z
end
end PL
namespace PL
open PySem PySem.Spec PyProof.Rows L2
section
variable {P : Program} {w : World} {A : Around} {E : Value → Shared → Prop} {s : Shared}
theorem set_made {v : Value} {Q : Value → Shared → Prop}
    (body : wpAny (model P w) A.in1.in1 (Builtin.«set.__init__» ⟨[.ref s.heap.objs.size, v], []⟩) (fun f s' => f = .done (.ret .none) ∧ Q (.ref s.heap.objs.size) s') E { s with heap := s.heap.push (newSetObj w) }) :
    wpAny (model P w) A (call (.type "set") [v]) Q E s := by
  obtain ⟨c, tl, hm⟩ := F.called_set.mro
  have f1 := F.called_set.made
  have f2 := F.called_set.sub
  have f3 := F.called_set.notType
  have f4 := F.called_set.canCreate
  have f5 := F.typeCall_set_1 v
  refine wpAny_call (codeAny_of_tree ?_)
  show wpAny _ _ (callAny (.type "set") _) _ _ _
  refine wpAny_pure ⟨Code.quiet_builtin _ (by decide +kernel), codeAny_builtin F.entry_type_call ?_⟩
  rw [Around.under_plain (weight_type_call_type "set" [v] []) rfl]
  repeat (any_goals (first | assumption | wp_step))
  refine codeAny_mono (code_set_led1 v (E := E) (Q₁ := fun r s1 => r = .ref s.heap.objs.size ∧ s1 = { s with heap := s.heap.push (newSetObj w) }) ⟨rfl, rfl⟩) fun r s1 hr => ?_
  match r, hr with
  | .error e, hr => exact hr
  | .ok (.ret obj), ⟨e1, e2⟩ =>
    subst e1 e2
    have g1 : Shared.TypeIs { s with heap := s.heap.push (newSetObj w) } (.ref s.heap.objs.size) "set" := ⟨_, Heap.get?_push_size _ rfl, rfl⟩
    have g2 := F.called_set.init.lookup
    have g3 := F.called_set.init.bind (.ref s.heap.objs.size)
    repeat (any_goals (first | assumption | wp_step))
    refine codeAny_mono (codeAny_call_builtin (R := wants (fun r s2 => r = .none ∧ Q (.ref s.heap.objs.size) s2) E) F.called_set.init.plain F.entry_set_init (check_set_init_1 g1 ?_)) fun r2 s2 hr2 => ?_
    · refine wpAny_mono body (fun f s' h => ?_) fun e s' h => h
      obtain ⟨rfl, h⟩ := h
      exact ⟨rfl, h⟩
    · match r2, hr2 with
      | .error e, hr2 => exact hr2
      | .ok (.ret r), ⟨e1, h⟩ =>
        subst e1
        repeat (any_goals (first | assumption | wp_step))
end
end PL
namespace PL
open PySem PySem.Spec PyProof.Rows L2
section
variable {P : Program} {w : World} {A : Around} {E : Value → Shared → Prop} {s : Shared}
theorem past {h : Heap} {b : Addr} (hb : h.objs.size ≤ b) : h.get? b = none := by
  cases q : h.get? b with
  | none => rfl
  | some o => exact absurd (Heap.lt_size q) (Nat.not_lt_of_le hb)
theorem ref_at {ks : NL} {items : Array Value} (hit : items.toList = ks.map fun p => Value.ref p.1) {i : Nat} {v : Value} (hv : items[i]? = some v) : ∃ p, ks[i]? = some p ∧ v = .ref p.1 := by
  rw [← Array.getElem?_toList, hit, List.getElem?_map] at hv
  obtain ⟨p, h1, h2⟩ := Option.map_eq_some_iff.mp hv
  exact ⟨p, h1, h2.symm⟩
/-- set(xs), xs a list of keys -/
theorem nset_list {l : Addr} {items : Array Value} {ks : NL} {Q : Value → Shared → Prop} (hh : A.handled = none) (hl : s.heap.IsList l items) (hit : items.toList = ks.map fun p => Value.ref p.1) (hk : ∀ p ∈ ks, NKey P w s.heap p.2 p.1) (few : ks.length ≤ 400) (hu : A.units + 16 < cLine)
    (q : ∀ h' tk L es ep t, NSet P w h' s.heap.objs.size L es ep t → Once ks L → (∀ b o, s.heap.get? b = some o → h'.get? b = some o) → Q (.ref s.heap.objs.size) { s with heap := h', toks := tk }) :
    wpAny (model P w) A (call (.type "set") [.ref l]) Q E s := by
  refine set_made ?_
  have size : items.size = ks.length := by rw [← Array.length_toList, hit, List.length_map]
  obtain ⟨⟨cls, dict, data, slots⟩, ho, hc, n, hd⟩ := hl
  simp only at hc hd
  subst hc hd
  have lt : l < s.heap.objs.size := Heap.lt_size ho
  have ho1 : (s.heap.push (newSetObj w)).get? l = some { cls := .type "list", dict := dict, data := .seq items n, slots := slots } := Heap.get?_push_of_some _ ho
  have hl1 : (s.heap.push (newSetObj w)).IsList l items := ⟨_, ho1, rfl, n, rfl⟩
  have sz1 : (s.heap.push (newSetObj w)).objs.size = s.heap.objs.size + 1 := Heap.size_push ..
  have f1 := F.sub_list_set
  have f2 := F.sub_list_frozenset
  have f3 : (Value.type "list" == Value.type "dict") = false := by decide
  unfold Builtin.«set.__init__» noKeywords Builtin.Frozenset.updateFrom
  generalize hI : pyIter = PI
  wp_walk
  subst hI
  refine wpAny_pyIter_list hl1 ?_
  refine wpAny_bind (wpAny_runValue ?_)
  have hz : (s.heap.push (newSetObj w)).objs.size = s.heap.objs.size + 1 := Heap.size_push ..
  have neI : l ≠ (s.heap.push (newSetObj w)).objs.size := Nat.ne_of_lt (by rw [hz]; exact Nat.lt_succ_of_lt lt)
  have hh3 : A.in1.in1.in1.handled = none := by simp [hh]
  have W := (Walks.list (prog := P) (w := w) (A := A.in1.in1.in1) hh3 (s.heap.push (newSetObj w)).objs.size l neI items).toS
  rw [size] at W
  have hu3 : A.in1.in1.in1.units + 8 < cLine := by simp only [Around.in1_units]; omega
  have get2 : ((s.heap.push (newSetObj w)).push { cls := .type "list_iterator", data := .fields #[.ref l, .int 0 0] }).get? s.heap.objs.size = some (newSetObj w) := Heap.get?_push_of_some _ (Heap.get?_push_size _ rfl)
  refine nupdate W (S := s.heap.objs.size) ?_ (fun i v hv => ref_at hit hv) few hu3 (h0 := s.heap) hk (past (Nat.le_refl _)) (fun b hb => past (by rw [List.mem_singleton.mp hb, hz]; omega)) ks [] _ rfl
    ⟨⟨_, Heap.get?_push_size _ rfl, rfl, rfl⟩, hl1.push _⟩ (fun b o e => Heap.get?_push_of_some _ (Heap.get?_push_of_some _ e)) ⟨[], #[], 0, newTab w, .new get2, .nil⟩ ?_
  · rw [hz]
    simp only [List.mem_cons, List.not_mem_nil, or_false, not_or]
    exact ⟨Nat.ne_of_lt (Nat.lt_succ_self _), Nat.ne_of_gt lt⟩
  · intro s2 L es ep t m R on up
    obtain ⟨h2, g2, d2, tk2, o2⟩ := s2
    obtain rfl : g2 = s.gens := m.gens
    obtain rfl : d2 = s.drawn := m.drawn
    obtain rfl : o2 = s.os := m.os
    show wpAny _ _ _ _ _ _
    exact wpAny_pure (wpAny_pure ⟨rfl, q h2 tk2 L es ep t R on up⟩)
/-- set(xs), xs a tuple of keys -/
theorem nset_tuple {l : Addr} {items : Array Value} {ks : NL} {Q : Value → Shared → Prop} (hh : A.handled = none) (hl : s.heap.IsTuple l items) (hit : items.toList = ks.map fun p => Value.ref p.1) (hk : ∀ p ∈ ks, NKey P w s.heap p.2 p.1) (few : ks.length ≤ 400) (hu : A.units + 16 < cLine)
    (q : ∀ h' tk L es ep t, NSet P w h' s.heap.objs.size L es ep t → Once ks L → (∀ b o, s.heap.get? b = some o → h'.get? b = some o) → Q (.ref s.heap.objs.size) { s with heap := h', toks := tk }) :
    wpAny (model P w) A (call (.type "set") [.ref l]) Q E s := by
  refine set_made ?_
  have size : items.size = ks.length := by rw [← Array.length_toList, hit, List.length_map]
  obtain ⟨⟨cls, dict, data, slots⟩, ho, hc, n, hd⟩ := hl
  simp only at hc hd
  subst hc hd
  have lt : l < s.heap.objs.size := Heap.lt_size ho
  have ho1 : (s.heap.push (newSetObj w)).get? l = some { cls := .type "tuple", dict := dict, data := .seq items n, slots := slots } := Heap.get?_push_of_some _ ho
  have hl1 : (s.heap.push (newSetObj w)).IsTuple l items := ⟨_, ho1, rfl, n, rfl⟩
  have sz1 : (s.heap.push (newSetObj w)).objs.size = s.heap.objs.size + 1 := Heap.size_push ..
  have f1 := F.sub_tuple_set
  have f2 := F.sub_tuple_frozenset
  have f3 : (Value.type "tuple" == Value.type "dict") = false := by decide
  unfold Builtin.«set.__init__» noKeywords Builtin.Frozenset.updateFrom
  generalize hI : pyIter = PI
  wp_walk
  subst hI
  refine wpAny_pyIter_tuple hl1 ?_
  refine wpAny_bind (wpAny_runValue ?_)
  have hz : (s.heap.push (newSetObj w)).objs.size = s.heap.objs.size + 1 := Heap.size_push ..
  have neI : l ≠ (s.heap.push (newSetObj w)).objs.size := Nat.ne_of_lt (by rw [hz]; exact Nat.lt_succ_of_lt lt)
  have hh3 : A.in1.in1.in1.handled = none := by simp [hh]
  have W := (Walks.tuple (prog := P) (w := w) (A := A.in1.in1.in1) hh3 (s.heap.push (newSetObj w)).objs.size l neI items).toS
  rw [size] at W
  have hu3 : A.in1.in1.in1.units + 8 < cLine := by simp only [Around.in1_units]; omega
  have get2 : ((s.heap.push (newSetObj w)).push { cls := .type "tuple_iterator", data := .fields #[.ref l, .int 0 0] }).get? s.heap.objs.size = some (newSetObj w) := Heap.get?_push_of_some _ (Heap.get?_push_size _ rfl)
  refine nupdate W (S := s.heap.objs.size) ?_ (fun i v hv => ref_at hit hv) few hu3 (h0 := s.heap) hk (past (Nat.le_refl _)) (fun b hb => past (by rw [List.mem_singleton.mp hb, hz]; omega)) ks [] _ rfl
    ⟨⟨_, Heap.get?_push_size _ rfl, rfl, rfl⟩, hl1.push _⟩ (fun b o e => Heap.get?_push_of_some _ (Heap.get?_push_of_some _ e)) ⟨[], #[], 0, newTab w, .new get2, .nil⟩ ?_
  · rw [hz]
    simp only [List.mem_cons, List.not_mem_nil, or_false, not_or]
    exact ⟨Nat.ne_of_lt (Nat.lt_succ_self _), Nat.ne_of_gt lt⟩
  · intro s2 L es ep t m R on up
    obtain ⟨h2, g2, d2, tk2, o2⟩ := s2
    obtain rfl : g2 = s.gens := m.gens
    obtain rfl : d2 = s.drawn := m.drawn
    obtain rfl : o2 = s.os := m.os
    show wpAny _ _ _ _ _ _
    exact wpAny_pure (wpAny_pure ⟨rfl, q h2 tk2 L es ep t R on up⟩)
end
end PL
namespace PL
open PySem PySem.Spec PyProof.Rows L2
mutual
/-- the key that data is -/
def kOf : PyData → Option NestedKey
  | .none => some .none
  | .int i => some (.num i)
  | .str x => some (.text x)
  | .tuple xs => (kOfs xs).map .tup
  | _ => none
def kOfs : List PyData → Option (List NestedKey)
  | [] => some []
  | x :: xs => match kOf x, kOfs xs with
    | some k, some ks => some (k :: ks)
    | _, _ => none
end
mutual
theorem reads_key {h : Heap} : ∀ (d : PyData) (v : Value) (as : List Addr) (k : NestedKey), Reads h v d as → kOf d = some k → NestedIs h k v
  | .none, _, _, _, r, e => by cases r; simp only [kOf, Option.some.injEq] at e; subst e; exact .none
  | .int i, _, _, _, r, e => by cases r; simp only [kOf, Option.some.injEq] at e; subst e; exact .int _ _
  | .str x, _, _, _, r, e => by cases r; simp only [kOf, Option.some.injEq] at e; subst e; exact .text _ _
  | .tuple xs, _, _, _, r, e => by
    simp only [kOf] at e
    obtain ⟨ks, e1, rfl⟩ := Option.map_eq_some_iff.mp e
    cases r with
    | tuple h1 h2 h3 h4 => exact .tup h1 h2 h3 (reads_keys xs _ _ _ h4 e1)
  | .bool _, _, _, _, _, e => by simp [kOf] at e
  | .list _, _, _, _, _, e => by simp [kOf] at e
  | .dict _, _, _, _, _, e => by simp [kOf] at e
theorem reads_keys {h : Heap} : ∀ (ds : List PyData) (vs : List Value) (as : List Addr) (ks : List NestedKey), ReadsAll h vs ds as → kOfs ds = some ks → NestedAll h ks vs
  | [], _, _, _, r, e => by cases r; simp only [kOfs, Option.some.injEq] at e; subst e; exact .nil
  | d :: ds, _, _, _, r, e => by
    simp only [kOfs] at e
    split at e
    · rename_i k ks e1 e2
      cases e
      cases r with
      | cons h1 h2 => exact .cons (reads_key d _ _ _ h1 e1) (reads_keys ds _ _ _ h2 e2)
    · cases e
end
mutual
theorem kOf_inj : ∀ (d d' : PyData) (k : NestedKey), kOf d = some k → kOf d' = some k → d = d'
  | .none, d', _, e, e' => by simp only [kOf, Option.some.injEq] at e; subst e; cases d' <;> simp [kOf] at e' <;> rfl
  | .int i, d', _, e, e' => by simp only [kOf, Option.some.injEq] at e; subst e; cases d' <;> simp [kOf] at e' <;> rw [e']
  | .str x, d', _, e, e' => by simp only [kOf, Option.some.injEq] at e; subst e; cases d' <;> simp [kOf] at e' <;> rw [e']
  | .tuple xs, d', _, e, e' => by
    simp only [kOf] at e
    obtain ⟨ks, e1, rfl⟩ := Option.map_eq_some_iff.mp e
    cases d' <;> simp [kOf] at e'
    rename_i ys
    rw [kOfs_inj xs ys ks e1 e']
  | .bool _, _, _, e, _ => by simp [kOf] at e
  | .list _, _, _, e, _ => by simp [kOf] at e
  | .dict _, _, _, e, _ => by simp [kOf] at e
theorem kOfs_inj : ∀ (ds ds' : List PyData) (ks : List NestedKey), kOfs ds = some ks → kOfs ds' = some ks → ds = ds'
  | [], [], _, _, _ => rfl
  | [], d' :: ds', _, e, e' => by
    simp only [kOfs, Option.some.injEq] at e
    subst e
    simp only [kOfs] at e'
    split at e' <;> cases e'
  | d :: ds, [], _, e, e' => by
    simp only [kOfs, Option.some.injEq] at e'
    subst e'
    simp only [kOfs] at e
    split at e <;> cases e
  | d :: ds, d' :: ds', _, e, e' => by
    simp only [kOfs] at e e'
    split at e
    · rename_i k ks e1 e2
      cases e
      split at e'
      · rename_i k' ks' e3 e4
        cases e'
        rw [kOf_inj d d' k e1 e3, kOfs_inj ds ds' ks e2 e4]
      · cases e'
    · cases e
end
/-- the set at a, told apart from its members -/
structure NSet0 (w : World) (h : Heap) (a : Addr) (L : NL) : Prop where
  ex : ∃ (es : Array (Int × Value)) (ep : Nat) (t : SetTable), (∃ o, h.get? a = some o ∧ o.ExactSet ∧ o.data = .set es ep t) ∧ es.toList = entriesOf w L ∧ TabM t (hashesOf w L) ∧ (L.map Prod.snd).Nodup ∧ (w.params.followText "set-order" = true ∨ t.led = true) ∧ L.length * 5 < t.mask * 3
def nSetO (w : World) (a : Addr) (L : NL) : HO := .ext fun h => NSet0 w h a L
section
variable {P : Program} {w : World} {h : Heap} {a : Addr} {L : NL} {es : Array (Int × Value)} {ep : Nat} {t : SetTable}
theorem NSet.bare (R : NSet P w h a L es ep t) : NSet0 w h a L := ⟨es, ep, t, R.ob, R.rows, R.tab, R.nd, R.led, R.room⟩
theorem NSet0.full (R : NSet0 w h a L) (hk : ∀ p ∈ L, NKey P w h p.2 p.1) : ∃ es ep t, NSet P w h a L es ep t := by
  obtain ⟨es, ep, t, h1, h2, h3, h4, h5, h6⟩ := R.ex
  exact ⟨es, ep, t, h1, h2, h3, h4, hk, h5, h6⟩
theorem nSetO_ok {H : Hp} (R : NSet0 w h a L) : ObjOk P w H h a (nSetO w a L) := by
  have ⟨es, ep, t, ⟨o, ho, _⟩, _⟩ := R.ex
  refine ⟨R, ⟨o, ho⟩, fun h1 h2 p k => ?_⟩
  have ⟨es', ep', t', ⟨o', ho', r⟩, q⟩ := NSet0.ex p
  exact ⟨es', ep', t', ⟨o', k o' ho', r⟩, q⟩
end
theorem perm_back {α β : Type} {f : α → β} {l m : List β} (h : l.Perm m) : ∀ {B : List α}, m = B.map f → ∃ B' : List α, B'.Perm B ∧ l = B'.map f := by
  induction h with
  | nil => intro B e; exact ⟨[], by rw [List.map_eq_nil_iff.mp e.symm], rfl⟩
  | cons x _ ih =>
    intro B e
    match B, e with
    | b :: B, e =>
      rw [List.map_cons] at e
      injection e with e1 e2
      obtain ⟨B', h1, h2⟩ := ih e2
      exact ⟨b :: B', h1.cons b, by rw [List.map_cons, e1, h2]⟩
  | swap x y l =>
    intro B e
    match B, e with
    | b :: c :: B, e =>
      rw [List.map_cons, List.map_cons] at e
      injection e with e1 e2
      injection e2 with e2 e3
      exact ⟨c :: b :: B, .swap b c B, by rw [List.map_cons, List.map_cons, e1, e2, e3]⟩
  | trans _ _ ih1 ih2 =>
    intro B e
    obtain ⟨B1, h1, h2⟩ := ih2 e
    obtain ⟨B2, h3, h4⟩ := ih1 h2
    exact ⟨B2, h3.trans h1, h4⟩
end PL
namespace PL
open PySem PySem.Spec PyProof.Rows L2
/-- data that may be a member -/
def IsKeyD (d : D) : Prop := ∃ k : NestedKey, kOf (toPy d) = some k ∧ k.depth ≤ 8
noncomputable def keyOfD (d : D) : NestedKey := (kOf (toPy d)).getD .none
theorem keyOfD_at {d : D} (h : IsKeyD d) : kOf (toPy d) = some (keyOfD d) ∧ (keyOfD d).depth ≤ 8 := by
  obtain ⟨k, h1, h2⟩ := h
  unfold keyOfD
  rw [h1]
  exact ⟨rfl, h2⟩
/-- members: data and where they stand -/
abbrev MB := D × Addr
noncomputable abbrev rowOf (b : MB) : Addr × NestedKey := (b.2, keyOfD b.1)
structure MemOk (K : PySem.W.Frag) (H : Hp) (b : MB) : Prop where
  dp : Dp K H (.ref b.2) (toPy b.1)
  key : IsKeyD b.1
section
variable {X : Cx}
theorem vals_refs : ∀ {B : List MB} {us : List Value}, Vals (B.map fun b => V.ref b.2) us → us = B.map fun b => Value.ref b.2
  | [], _, .nil => rfl
  | b :: B, _, .cons r t => by cases r; rw [vals_refs t]; rfl
theorem MemOk.nkey {pins : List (Addr × Obj)} {σ : L2.St} {H : Hp} {s : Shared} {b : MB} (I : Inv X pins σ H s) (m : MemOk X.K H b) : NKey X.prog X.w s.heap (keyOfD b.1) b.2 := by
  obtain ⟨as, r⟩ := Dp.reads I (toPy b.1) (.ref b.2) (.ref b.2) m.dp rfl
  obtain ⟨h1, h2⟩ := keyOfD_at m.key
  exact ⟨reads_key _ _ _ _ r h1, h2⟩
/-- set(xs) -/
def rSetN (K : PySem.W.Frag) (w : World) : List V → Hp → VK → Prop := fun xs H Q => ∃ (l : Addr) (B : List MB), xs = [V.ref l] ∧ (SqL K H l (B.map fun b => V.ref b.2) ∨ SqT K H l (B.map fun b => V.ref b.2)) ∧ (∀ b ∈ B, MemOk K H b) ∧ B.length ≤ 400 ∧
  ∀ a (M : List MB), H a = none → M.length ≤ B.length → (∀ b ∈ M, b ∈ B) → (∀ b ∈ B, keyOfD b.1 ∈ M.map fun b => keyOfD b.1) → (M.map fun b => keyOfD b.1).Nodup → Q (.ref a) (upd H a (nSetO w a (M.map rowOf)))
theorem from_rows {B : List MB} : ∀ {L : NL}, (∀ q ∈ L, q ∈ B.map rowOf) → ∃ M : List MB, L = M.map rowOf ∧ ∀ b ∈ M, b ∈ B
  | [], _ => ⟨[], rfl, fun _ h => (nomatch h)⟩
  | q :: L, h => by
    obtain ⟨b, hb, e⟩ := List.mem_map.mp (h q List.mem_cons_self)
    obtain ⟨M, e2, hM⟩ := from_rows fun q' hq => h q' (List.mem_cons_of_mem _ hq)
    refine ⟨b :: M, by rw [List.map_cons, e, e2], fun c hc => ?_⟩
    rcases List.mem_cons.mp hc with rfl | hc
    · exact hb
    · exact hM c hc
theorem cr_setN (hc : X.calm = true) (hu : X.A.units + 64 < cLine) : CallR X (.type "set") (rSetN X.K X.w) := by
  intro pins s σ H xs us Q I r h
  obtain ⟨l, B, rfl, hl, hb, hf, q⟩ := h
  rw [Vals.ref1 r]
  have hn : H s.heap.objs.size = none := I.hok.fresh (Nat.le_refl _)
  have fin : ∀ h' tk L es ep t, NSet X.prog X.w h' s.heap.objs.size L es ep t → Once (B.map rowOf) L → (∀ b o, s.heap.get? b = some o → h'.get? b = some o) → EP X pins σ Q (.ref s.heap.objs.size) { s with heap := h', toks := tk } := fun h' tk L es ep t R on up => by
    obtain ⟨M, rfl, hM⟩ := from_rows on.sub
    refine ⟨.ref s.heap.objs.size, upd H s.heap.objs.size (nSetO X.w s.heap.objs.size (M.map rowOf)), I.laid (t' := tk) up (Nat.le_refl _) (nSetO_ok R.bare), rfl, q _ M hn (by have := on.len; simpa using this) hM (fun b hb => ?_) ?_⟩
    · have := on.all (rowOf b) (List.mem_map.mpr ⟨b, hb, rfl⟩)
      rw [List.map_map] at this
      exact this
    · have := R.nd
      rw [List.map_map] at this
      exact this
  have hk : ∀ p ∈ B.map rowOf, NKey X.prog X.w s.heap p.2 p.1 := fun p hp => by
    obtain ⟨b, hm, rfl⟩ := List.mem_map.mp hp
    exact (hb b hm).nkey I
  have e : (B.map rowOf).map (fun p => Value.ref p.1) = B.map fun b => Value.ref b.2 := by rw [List.map_map]; rfl
  rcases hl with hl | hl
  · obtain ⟨its, rv, pl, hz⟩ := I.list hl
    exact nset_list (P := X.prog) (w := X.w) (ks := B.map rowOf) (I.ok.hd hc) pl.isList (by rw [e]; simpa using vals_refs rv) hk (by rw [List.length_map]; exact hf) (by omega) fin
  · obtain ⟨its, rv, pl, hz⟩ := I.tuple hl
    exact nset_tuple (P := X.prog) (w := X.w) (ks := B.map rowOf) (I.ok.hd hc) (show s.heap.IsTuple l its.toArray from pl) (by rw [e]; simpa using vals_refs rv) hk (by rw [List.length_map]; exact hf) (by omega) fin
end
end PL
namespace PL
open PySem PySem.Spec PyProof.Rows L2
mutual
theorem reads_none {h : Heap} : ∀ (d : PyData) (v : Value) (as : List Addr) (k : NestedKey), Reads h v d as → kOf d = some k → as = []
  | .none, _, _, _, r, _ => by cases r; rfl
  | .int i, _, _, _, r, _ => by cases r; rfl
  | .str x, _, _, _, r, _ => by cases r; rfl
  | .tuple xs, _, _, _, r, e => by
    simp only [kOf] at e
    obtain ⟨ks, e1, rfl⟩ := Option.map_eq_some_iff.mp e
    cases r with
    | tuple h1 h2 h3 h4 => exact reads_nones xs _ _ _ h4 e1
  | .bool _, _, _, _, _, e => by simp [kOf] at e
  | .list _, _, _, _, _, e => by simp [kOf] at e
  | .dict _, _, _, _, _, e => by simp [kOf] at e
theorem reads_nones {h : Heap} : ∀ (ds : List PyData) (vs : List Value) (as : List Addr) (ks : List NestedKey), ReadsAll h vs ds as → kOfs ds = some ks → as = []
  | [], _, _, _, r, _ => by cases r; rfl
  | d :: ds, _, _, _, r, e => by
    simp only [kOfs] at e
    split at e
    · rename_i k ks e1 e2
      cases r with
      | cons h1 h2 => rw [reads_none d _ _ _ h1 e1, reads_nones ds _ _ _ h2 e2]; rfl
    · cases e
end
theorem each_of {R : Value → MB → Prop} : ∀ {M : List MB}, (∀ b ∈ M, R (.ref b.2) b) → W.EachIs R (M.map fun b => Value.ref b.2) M
  | [], _ => .nil
  | b :: M, h => .cons (h b List.mem_cons_self) (each_of fun c hc => h c (List.mem_cons_of_mem _ hc))
theorem each_is : ∀ {us : List Value} {M : List MB}, W.EachIs (fun u b => u = .ref b.2) us M → us = M.map fun b => Value.ref b.2
  | _, _, .nil => rfl
  | _, _, .cons h t => by rw [List.map_cons, ← h, each_is t]
theorem refs_vals : ∀ (M : List MB), Vals (M.map fun b => V.ref b.2) (M.map fun b => Value.ref b.2)
  | [] => .nil
  | b :: M => .cons rfl (refs_vals M)
section
variable {X : Cx}
/-- sorted(set) -/
def rSortN (K : PySem.W.Frag) (w : World) : List V → Hp → VK → Prop := fun vs H Q => ∃ (a : Addr) (M : List MB), vs = [V.ref a] ∧ H a = some (nSetO w a (M.map rowOf)) ∧ (∀ b ∈ M, MemOk K H b ∧ (toPy b.1).depth ≤ 60) ∧ M.length ≤ 400 ∧ W.AllAlike (M.map fun b => toPy b.1) ∧ W.Sortable (M.map fun b => toPy b.1) ∧
  ∀ (M' : List MB) (p : Addr), M'.Perm M → H p = none → Q (.ref p) (upd H p (.lst ((M'.mergeSort (W.dataLe false fun b : MB => toPy b.1)).map fun b => V.ref b.2)))
theorem cr_sortN (hc : X.calm = true) (hu : X.A.units + 64 < cLine) : CallR X (.builtin "sorted") (rSortN X.K X.w) := by
  intro pins s σ H vs us Q I r h
  obtain ⟨a, M, rfl, ha, hm, hf, hal, hso, q⟩ := h
  rw [Vals.ref1 r]
  have R0 : NSet0 X.w s.heap a (M.map rowOf) := (I.hok a _ ha).1
  obtain ⟨es, ep, t, R⟩ := R0.full (P := X.prog) fun p hp => by
    obtain ⟨b, hb, rfl⟩ := List.mem_map.mp hp
    exact (hm b hb).1.nkey I
  obtain ⟨o, ho, hex, hd⟩ := R.ob
  have size : es.size = M.length := by rw [R.size, List.length_map]
  refine Calls.call_function_entry kind_sorted plain_sorted entry_sorted (args_sorted1 _) ?_
  unfold Builtin.«sorted»
  refine wpAny_bind (m := checkCount "sorted" 1 1 _) (wpAny_pure ?_)
  refine wpAny_bind (collect_set (A := X.A.in1) (I.ok.hd hc) ⟨o, ho, hex.1, hd⟩ R.fits (by unfold scanBound; omega) R.tab.ris R.led fun s1 ms up hz g1 o1 pm => ?_)
  obtain ⟨M', pM, rfl⟩ := perm_back pm (f := fun b : MB => Value.ref b.2) (B := M) (by rw [R.rows, entriesOf, List.map_map, List.map_map]; rfl)
  have len : M'.length ≤ 400 := by rw [pM.length_eq]; exact hf
  have inM : ∀ b ∈ M', b ∈ M := fun b hb => pM.mem_iff.mp hb
  have perm2 := pM.map fun b : MB => toPy b.1
  have hal' : W.AllAlike (M'.map fun b => toPy b.1) := fun d hd d' hd' => hal d (perm2.mem_iff.mp hd) d' (perm2.mem_iff.mp hd')
  have hso' : W.Sortable (M'.map fun b => toPy b.1) := by
    rcases hso with h | h
    · exact .inl fun d hd => h d (perm2.mem_iff.mp hd)
    · exact .inr fun d hd => h d (perm2.mem_iff.mp hd)
  refine wpAny_bind (wpAny_newList ?_ (by rw [List.length_map, sizeLine_eq]; omega))
  have hL : (s1.heap.push (seqObj "list" (M'.map fun b => Value.ref b.2).toArray 0)).get? s1.heap.objs.size = some (seqObj "list" (M'.map fun b => Value.ref b.2).toArray 0) := Heap.get?_push_size _ rfl
  have rd : ∀ b ∈ M', ∃ as, Reads (s1.heap.push (seqObj "list" (M'.map fun b => Value.ref b.2).toArray 0)) (.ref b.2) (toPy b.1) as ∧ s1.heap.objs.size ∉ as := fun b hb => by
    obtain ⟨mk, _⟩ := hm b (inM b hb)
    obtain ⟨as, r⟩ := Dp.reads I (toPy b.1) (.ref b.2) (.ref b.2) mk.dp rfl
    have e := reads_none _ _ _ _ r (keyOfD_at mk.key).1
    subst e
    exact ⟨[], PyProof.Rows.Reads.keeps (fun c o e => Heap.get?_push_of_some _ (up c o e)) r, by simp⟩
  refine wpAny_bind (wpAny_holding (W.list_sort_data (R := fun u (b : MB) => u = .ref b.2) (s := { s1 with heap := s1.heap.push (seqObj "list" (M'.map fun b => Value.ref b.2).toArray 0) }) hL (each_of fun b _ => rfl) (each_of rd) hal' hso' (by rw [sizeLine_eq]; omega)
    (fun b hb => ?_) fun out ol oe => ?_))
  · have := (hm b (inM b hb)).2
    simp only [Around.in1_units]
    omega
  · have eo := each_is oe
    subst eo
    obtain ⟨n, hn⟩ := sortedHeap_at (vs := M'.map fun b => Value.ref b.2) (out := ((M'.mergeSort (W.dataLe false fun b : MB => toPy b.1)).map fun b => Value.ref b.2).toArray) hL
    have kept : ∀ b o, s.heap.get? b = some o → (sortedHeap (s1.heap.push (seqObj "list" (M'.map fun b => Value.ref b.2).toArray 0)) s1.heap.objs.size (M'.map fun b => Value.ref b.2) ((M'.mergeSort (W.dataLe false fun b : MB => toPy b.1)).map fun b => Value.ref b.2).toArray).get? b = some o := fun b o e => by
      have e1 := up b o e
      have lt := Heap.lt_size e1
      rw [sortedHeap_old (Nat.ne_of_lt lt) (by rw [size_push']; exact Nat.lt_succ_of_lt lt)]
      exact Heap.get?_push_of_some _ e1
    generalize sortedHeap (s1.heap.push (seqObj "list" (M'.map fun b => Value.ref b.2).toArray 0)) s1.heap.objs.size (M'.map fun b => Value.ref b.2) ((M'.mergeSort (W.dataLe false fun b : MB => toPy b.1)).map fun b => Value.ref b.2).toArray = hp at hn kept ⊢
    have fresh : H s1.heap.objs.size = none := I.hok.fresh hz
    have J : L2.Inv X pins σ (upd H s1.heap.objs.size (.lst ((M'.mergeSort (W.dataLe false fun b : MB => toPy b.1)).map fun b => V.ref b.2))) { s with heap := hp, gens := s1.gens, drawn := s1.drawn, toks := s1.toks } :=
      I.call (ch := []) (Un.laid kept hz fresh) (I.hok.laid kept hz ⟨by rw [List.length_map, (List.mergeSort_perm _ _).length_eq, sizeLine_eq]; omega, _, n, refs_vals _, hn⟩) (by rw [g1]; exact I.bare) (fun _ z => nomatch z)
    dsimp only
    rw [o1]
    exact wpAny_pure ⟨_, rfl, .ref s1.heap.objs.size, _, J, rfl, q M' _ pM fresh⟩
end
end PL
namespace PL
open PySem PySem.Spec PyProof.Rows L2
open Classical in
/-- each once -/
noncomputable def ddD : List D → List D
  | [] => []
  | d :: l => if d ∈ l then ddD l else d :: ddD l
theorem mem_ddD {d : D} : ∀ {l : List D}, d ∈ ddD l ↔ d ∈ l
  | [] => Iff.rfl
  | e :: l => by
    unfold ddD
    by_cases h : e ∈ l
    · rw [if_pos h, mem_ddD, List.mem_cons]
      exact ⟨.inr, fun z => z.elim (fun z => z ▸ h) id⟩
    · rw [if_neg h, List.mem_cons, List.mem_cons, mem_ddD]
theorem nodup_ddD : ∀ {l : List D}, (ddD l).Nodup
  | [] => .nil
  | e :: l => by
    unfold ddD
    by_cases h : e ∈ l
    · rw [if_pos h]; exact nodup_ddD
    · rw [if_neg h]; exact List.nodup_cons.mpr ⟨fun z => h (mem_ddD.mp z), nodup_ddD⟩
/-- data of which sets are made and sorted -/
structure OkSet (l : List D) : Prop where
  few : l.length ≤ 400
  each : ∀ d ∈ l, IsKeyD d ∧ okEq d = true ∧ ∃ xs, d = .tup xs ∨ d = .ntp xs
  sort : okSort l
  inj : ∀ d ∈ l, ∀ d' ∈ l, toPy d = toPy d' → d = d'
  perm : ∀ m, m.Perm (ddD l) → srtD m = srtD (ddD l)
def seqOf (s : SV) (μ : Mem) : Option (List D) := match tupOf s with
  | some l => some l
  | none => lstOf s μ
theorem seqOf_rep {K : PySem.W.Frag} {A : List Addr} {μ : Mem} {G H : Hp} {s : SV} {v : V} {l : List D} (e : seqOf s μ = some l) (c : Cells K A μ G H) (r : RepS K A G s v) : ∃ a us, v = .ref a ∧ (SqL K H a us ∨ SqT K H a us) ∧ Reps K G l us := by
  unfold seqOf at e
  split at e
  · rename_i l' h
    cases e
    match s, h, r with
    | .d (.tup l'), h, r =>
      cases h
      obtain ⟨a, us, rfl, h1, h2⟩ := Reps.sq r
      exact ⟨a, us, rfl, .inr (c.le.sqT h1), h2⟩
    | .d (.ntp l'), h, r =>
      cases h
      obtain ⟨a, us, rfl, h1, h2⟩ := Reps.sqn r
      exact ⟨a, us, rfl, .inr (c.le.sqT h1), h2⟩
  · obtain ⟨a, us, rfl, h1, h2⟩ := lstOf_rep e c r
    exact ⟨a, us, rfl, .inl (SqL.of h1), h2⟩
theorem stands {K : PySem.W.Frag} {G : Hp} : ∀ {l : List D} {us : List V}, Reps K G l us → (∀ d ∈ l, ∃ xs, d = .tup xs ∨ d = .ntp xs) → ∃ B : List MB, B.map Prod.fst = l ∧ (B.map fun b => V.ref b.2) = us ∧ ∀ b ∈ B, Rep K G b.1 (.ref b.2)
  | _, _, .nil, _ => ⟨[], rfl, rfl, fun _ h => (nomatch h)⟩
  | d :: l, v :: us, .cons r rs, h => by
    obtain ⟨B, h1, h2, h3⟩ := stands rs fun d' hd => h d' (List.mem_cons_of_mem _ hd)
    obtain ⟨a, rfl⟩ : ∃ a, v = .ref a := by
      obtain ⟨xs, rfl | rfl⟩ := h d List.mem_cons_self
      · obtain ⟨a, us', rfl, _⟩ := Reps.sq r; exact ⟨a, rfl⟩
      · obtain ⟨a, us', rfl, _⟩ := Reps.sqn r; exact ⟨a, rfl⟩
    refine ⟨(d, a) :: B, by simp [h1], by simp [h2], fun b hb => ?_⟩
    rcases List.mem_cons.mp hb with rfl | hb
    · exact r
    · exact h3 b hb
theorem reps_of {K : PySem.W.Frag} {G : Hp} : ∀ {T : List MB}, (∀ b ∈ T, Rep K G b.1 (.ref b.2)) → Reps K G (T.map Prod.fst) (T.map fun b => V.ref b.2)
  | [], _ => .nil
  | b :: T, h => .cons (h b List.mem_cons_self) (reps_of fun c hc => h c (List.mem_cons_of_mem _ hc))
theorem okEq_depth60 {d : D} (h : okEq d = true) : (toPy d).depth ≤ 60 := (flat_lay 60 d h).2
def pSortSet : List SV → Mem → VP → Prop := fun ss μ Q => match ss with
  | [s] => on (seqOf s μ) fun l => OkSet l ∧ Q (.d (.lst (srtD (ddD l)))) μ
  | _ => False
theorem pcall_sortSet {K : PySem.W.Frag} {w : World} : PCall K (fun vs H Q => rSetN K w vs H fun v H2 => rSortN K w [v] H2 Q) pSortSet := by
  intro ss μ A G H vs Qp Q h c rs k
  match ss, h, rs with
  | [s], h, .cons r .nil =>
    obtain ⟨l, e, ok, q⟩ := on_of h
    obtain ⟨a, us, rfl, hs, hr⟩ := seqOf_rep e c r
    obtain ⟨B, b1, b2, b3⟩ := stands hr fun d hd => (ok.each d hd).2.2
    have inl : ∀ b ∈ B, b.1 ∈ l := fun b hb => by rw [← b1]; exact List.mem_map.mpr ⟨b, hb, rfl⟩
    refine ⟨a, B, rfl, by rw [b2]; exact hs, fun b hb => ⟨rep_dp c.le 60 _ _ (ok.each _ (inl b hb)).2.1 (b3 b hb), (ok.each _ (inl b hb)).1⟩, by have := ok.few; rw [← b1, List.length_map] at this; exact this, fun a2 M ha hlen hM hcov hnd => ?_⟩
    obtain ⟨c2, s2⟩ := c.laid (o := nSetO w a2 (M.map rowOf)) ha
    have inL : ∀ b ∈ M, b.1 ∈ l := fun b hb => inl b (hM b hb)
    refine ⟨a2, M, rfl, upd_same, fun b hb => ⟨⟨rep_dp c2.le 60 _ _ (ok.each _ (inL b hb)).2.1 ((b3 b (hM b hb)).mono s2.le), (ok.each _ (inL b hb)).1⟩, ?_⟩, ?_, ?_, ?_, fun M' p pM hp => ?_⟩
    · exact okEq_depth60 (ok.each _ (inL b hb)).2.1
    · have := ok.few
      rw [← b1, List.length_map] at this
      omega
    · intro d hd d' hd'
      obtain ⟨b, hb, rfl⟩ := List.mem_map.mp hd
      obtain ⟨b', hb', rfl⟩ := List.mem_map.mp hd'
      exact ok.sort.2.1 _ (List.mem_map.mpr ⟨_, inL b hb, rfl⟩) _ (List.mem_map.mpr ⟨_, inL b' hb', rfl⟩)
    · rcases ok.sort.2.2 with h | h
      · refine .inl fun d hd => ?_
        obtain ⟨b, hb, rfl⟩ := List.mem_map.mp hd
        exact h _ (List.mem_map.mpr ⟨_, inL b hb, rfl⟩)
      · refine .inr fun d hd => ?_
        obtain ⟨b, hb, rfl⟩ := List.mem_map.mp hd
        exact h _ (List.mem_map.mpr ⟨_, inL b hb, rfl⟩)
    · have pd : (M'.map Prod.fst).Perm (ddD l) := by
        refine (pM.map Prod.fst).trans ((List.perm_ext_iff_of_nodup ?_ nodup_ddD).mpr fun d => ?_)
        · have : (M.map fun b => keyOfD b.1) = (M.map Prod.fst).map keyOfD := by rw [List.map_map]; rfl
          rw [this] at hnd
          exact nodup_of_map hnd
        · rw [mem_ddD]
          constructor
          · intro hd
            obtain ⟨b, hb, rfl⟩ := List.mem_map.mp hd
            exact inL b hb
          · intro hd
            rw [← b1] at hd
            obtain ⟨b, hb, rfl⟩ := List.mem_map.mp hd
            obtain ⟨b', hb', e'⟩ := List.mem_map.mp (hcov b hb)
            have k1 := (keyOfD_at (ok.each _ (inl b hb)).1).1
            have k2 := (keyOfD_at (ok.each _ (inL b' hb')).1).1
            rw [← e'] at k1
            have z := ok.inj _ (inl b hb) _ (inL b' hb') (kOf_inj _ _ _ k1 k2)
            rw [z]
            exact List.mem_map.mpr ⟨b', hb', rfl⟩
      have ef : (M'.mergeSort (W.dataLe false fun b : MB => toPy b.1)).map Prod.fst = srtD (ddD l) := by
        rw [← ok.perm _ pd]
        unfold srtD
        exact List.map_mergeSort (r := W.dataLe false fun b : MB => toPy b.1) (s := W.dataLe false toPy) (f := Prod.fst) (fun a _ b _ => rfl)
      obtain ⟨c3, s3⟩ := c2.laid (o := .lst ((M'.mergeSort (W.dataLe false fun b : MB => toPy b.1)).map fun b => V.ref b.2)) hp
      have rep : Reps K (upd G a2 (nSetO w a2 (M.map rowOf))) (srtD (ddD l)) ((M'.mergeSort (W.dataLe false fun b : MB => toPy b.1)).map fun b => V.ref b.2) := by
        rw [← ef]
        exact reps_of fun b hb => (b3 b (hM b (pM.mem_iff.mp ((List.mergeSort_perm _ _).mem_iff.mp hb)))).mono s2.le
      exact k _ _ _ _ _ _ q c3 (s2.trans s3) (Rep.lst upd_same (rep.mono s3.le))
section
variable {X : Cx} {W : WX} {e : Expr} {tL : TXA} {p p2 q pos : Pos}
theorem px_sortSet (hc : X.calm = true) (hu : X.A.units + 64 < cLine) (hg : Gl X "sorted") (hm : X.mg "sorted" = none) (hg2 : Gl X "set") (hm2 : X.mg "set" = none) (ha : PXA X W [e] tL) (he : starEach [e] X.env = (false, eval e X.env) :: starEach [] X.env := by rfl) :
    PX X W (.Call (.Name "sorted" p) [.Call (.Name "set" p2) [e] [] q] [] pos) (xCall pSortSet tL) :=
  ⟨(pe_callB (cr_sortN hc hu) hg hm (by decide +kernel) (pa_cons (pe_callTy (cr_setN hc hu) hg2 hm2 (by decide +kernel) ha.pa (by decide) (by decide) he rfl) pa_nil rfl) (by decide) (by decide) rfl rfl).imp fun σ H Q h => lift_call (pcall_sortSet (w := X.w)) h⟩
end
end PL
namespace PL
open PySem PySem.Spec PyProof.Rows L2
section
variable {P : Program} {w : World} {A : Around} {E : Value → Shared → Prop} {s : Shared}
end
section
variable {X : Cx}
end
section
variable {X : Cx} {W : WX} {e : Expr} {tL : TXA} {p pos : Pos}
end
end PL
namespace PL
open PySem PySem.Spec PyProof.Rows L2
section
variable {P : Program} {w : World} {A : Around} {E : Value → Shared → Prop} {s : Shared}
end
end PL
namespace PL
open PySem PySem.Spec PyProof.Rows L2
section
variable {X : Cx}
end
section
variable {X : Cx} {W : WX} {e : Expr} {tL : TXA} {p pos : Pos}
end
end PL
namespace PL
open PySem PySem.Spec PyProof.Rows L2
section
variable {X : Cx} {W : WX} {e : Expr} {tL : TXA} {p pos : Pos}
end
end PL
namespace PL
open PySem PySem.Spec PyProof.Rows L2 RZ
def listDicF : List SV → M SV := fun ss μ => match ss with
  | [s] => match dicOf s μ with
    | some (true, ks, _) => .ok (.d (.lst ks)) μ
    | _ => .no
  | _ => .no
section
variable {X : Cx} {W : WX} {e : Expr} {fl : FA} {n : Nat} {p pos : Pos}
@[simp] theorem listDicF_d {ks vs : List D} {μ : Mem} : listDicF [.d (.dic true ks vs)] μ = .ok (.d (.lst ks)) μ := rfl
end
end PL
namespace PL
open PySem PySem.Spec PyProof.Rows L2
open PySem.W (Datum DatumOrd)
--.
--.
--.
--.
--.
--.
--.
--.
/-- a lot over all things keeps the rules -/
theorem Lot.keeps {ths : List Str} {rs : List Rule} {A : Side → Prop} {cs : List Int} (hr : ∀ r ∈ rs, okR ths r) (L : Lot rs A) (full : ∀ x ∈ ths, A (x, 0) ∨ A (x, 1)) (has : ∀ s, okS ths s → (hasS ths cs s = true ↔ A s)) : keepB ths cs rs = true := by
  rw [keepB, List.all_eq_true]
  rintro ⟨a, c⟩ hm
  have o := hr _ hm
  have ha := has a o.1
  have hc := has c o.2.1
  by_cases g : A a
  · simp [lost, ha.mpr g]
  · have gb : A (sBack a) := by
      obtain ⟨x, b⟩ := a
      rcases o.1.2 with e | e <;> simp only at e <;> subst e
      · exact (full x o.1.1).resolve_left g
      · exact (full x o.1.1).resolve_right g
    have gc : A c := L.closed _ _ gb (Led.rule hm).1
    simp [lost, hc.mpr gc]
theorem Lot.fn {ths : List Str} {rs : List Rule} {A : Side → Prop} (L : Lot rs A) (ok : ∀ s, A s → okS ths s) {p q : Side} (hp : A p) (hq : A q) (e : p.1 = q.1) : p = q := by
  obtain ⟨x, a⟩ := p
  obtain ⟨y, c⟩ := q
  simp only at e
  subst e
  have h1 := (ok _ hp).2
  have h2 := (ok _ hq).2
  simp only at h1 h2
  by_cases z : a = c
  · rw [z]
  · exfalso
    have := L.alone _ hp
    apply this
    have e2 : sBack (x, a) = (x, c) := by
      show (x, 1 - a) = (x, c)
      congr 1
      omega
    rw [e2]
    exact hq
end PL
namespace PL
open PySem PySem.Spec PyProof.Rows L2
open PySem.W (Datum DatumOrd)
--.
end PL
namespace PL
open PySem PySem.Spec PyProof.Rows L2 RZ
noncomputable def sortSetF : List SV → M SV := fun ss μ => match ss with
  | [s] => match seqOf s μ with
    | some l => grd (OkSet l) (ret (.d (.lst (srtD (ddD l))))) μ
    | none => .no
  | _ => .no
theorem ok_sortSet : ∀ ss μ x Q, (sortSetF ss μ).fin x Q → pSortSet ss μ Q := by
  intro ss μ x Q h
  unfold sortSetF at h
  unfold pSortSet
  split at h
  · split at h
    · rename_i e
      have h2 := fin_grd h
      show on _ _
      rw [e]
      exact h2
    · exact h.elim
  · exact h.elim
section
variable {X : Cx} {W : WX} {e : Expr} {fl : FA} {n : Nat} {p p2 q pos : Pos}
theorem pf_sortSet (hc : X.calm = true) (hu : X.A.units + 64 < cLine) (hg : Gl X "sorted") (hm : X.mg "sorted" = none) (hg2 : Gl X "set") (hm2 : X.mg "set" = none) (hl : PXA X W [e] (toA n fl)) (he : starEach [e] X.env = (false, eval e X.env) :: starEach [] X.env := by rfl) :
    PX X W (.Call (.Name "sorted" p) [.Call (.Name "set" p2) [e] [] q] [] pos) (toX n (fCall sortSetF fl)) := pf_call (px_sortSet hc hu hg hm hg2 hm2 hl he) ok_sortSet
variable {μ : Mem} {l : List D} {k : Nat}
@[simp] theorem sortSetF_l : sortSetF [.d (.lst l)] μ = grd (OkSet l) (ret (.d (.lst (srtD (ddD l))))) μ := rfl
@[simp] theorem sortSetF_t : sortSetF [.d (.tup l)] μ = grd (OkSet l) (ret (.d (.lst (srtD (ddD l))))) μ := rfl
@[simp] theorem sortSetF_n : sortSetF [.d (.ntp l)] μ = grd (OkSet l) (ret (.d (.lst (srtD (ddD l))))) μ := rfl
end
end PL
namespace PL
open PySem PySem.Spec PyProof.Rows L2
open PySem.W (Datum DatumOrd)
section
variable {α : Type} [DecidableEq α] [DatumOrd α] [Enc α]
def ddT : List α → List α
  | [] => []
  | a :: l => if a ∈ l then ddT l else a :: ddT l
theorem mem_ddT {a : α} : ∀ {l : List α}, a ∈ ddT l ↔ a ∈ l
  | [] => Iff.rfl
  | b :: l => by
    unfold ddT
    by_cases h : b ∈ l
    · rw [if_pos h, mem_ddT, List.mem_cons]
      exact ⟨.inr, fun z => z.elim (fun z => z ▸ h) id⟩
    · rw [if_neg h, List.mem_cons, List.mem_cons, mem_ddT]
theorem nodup_ddT : ∀ {l : List α}, (ddT l).Nodup
  | [] => .nil
  | b :: l => by
    unfold ddT
    by_cases h : b ∈ l
    · rw [if_pos h]; exact nodup_ddT
    · rw [if_neg h]; exact List.nodup_cons.mpr ⟨fun z => h (mem_ddT.mp z), nodup_ddT⟩
theorem ddT_le : ∀ {l : List α}, (ddT l).length ≤ l.length
  | [] => Nat.le_refl _
  | b :: l => by
    unfold ddT
    have := ddT_le (l := l)
    split <;> simp <;> omega
theorem py_inj {a b : α} (h : toPy (Enc.en a) = toPy (Enc.en b)) : a = b := by
  rw [Enc.py, Enc.py] at h
  have e : PyData.eqv (Datum.toD a) (Datum.toD b) = decide (a = b) := Datum.eqv a b
  have e2 : PyData.eqv (Datum.toD b) (Datum.toD b) = decide (b = b) := Datum.eqv b b
  rw [h, e2, decide_eq_true rfl] at e
  exact of_decide_eq_true e.symm
theorem ddD_en : ∀ {l : List α}, ddD (l.map Enc.en) = (ddT l).map Enc.en
  | [] => rfl
  | a :: l => by
    unfold ddT
    rw [List.map_cons]
    unfold ddD
    have i : (Enc.en a ∈ l.map Enc.en) ↔ a ∈ l := by
      constructor
      · intro h
        obtain ⟨b, hb, e⟩ := List.mem_map.mp h
        rw [← py_inj (congrArg toPy e)]
        exact hb
      · exact fun h => List.mem_map.mpr ⟨a, h, rfl⟩
    by_cases h : a ∈ l
    · rw [if_pos h, if_pos (i.mpr h), ddD_en]
    · rw [if_neg h, if_neg fun z => h (i.mp z), ddD_en]; rfl
theorem rise_unique : ∀ {l m : List α}, l.Pairwise (fun a b => DatumOrd.lt a b = true) → m.Pairwise (fun a b => DatumOrd.lt a b = true) → (∀ a, a ∈ l ↔ a ∈ m) → l = m
  | [], [], _, _, _ => rfl
  | [], b :: m, _, _, h => absurd ((h b).mpr List.mem_cons_self) (by simp)
  | a :: l, [], _, _, h => absurd ((h a).mp List.mem_cons_self) (by simp)
  | a :: l, b :: m, h1, h2, h => by
    obtain ⟨a1, a2⟩ := List.pairwise_cons.mp h1
    obtain ⟨b1, b2⟩ := List.pairwise_cons.mp h2
    have irr : ∀ c : α, ¬ DatumOrd.lt c c = true := fun c z => by
      have := dlt_asymm z
      rw [z] at this
      cases this
    have e : a = b := by
      rcases List.mem_cons.mp ((h a).mp List.mem_cons_self) with e | e
      · exact e
      · rcases List.mem_cons.mp ((h b).mpr List.mem_cons_self) with z | z
        · exact z.symm
        · have := dlt_asymm (a1 b z)
          rw [b1 a e] at this
          cases this
    subst e
    rw [rise_unique a2 b2 fun c => ?_]
    constructor
    · intro hc
      rcases List.mem_cons.mp ((h c).mp (List.mem_cons_of_mem _ hc)) with z | z
      · subst z; exact absurd (a1 c hc) (irr c)
      · exact z
    · intro hc
      rcases List.mem_cons.mp ((h c).mpr (List.mem_cons_of_mem _ hc)) with z | z
      · subst z; exact absurd (b1 c hc) (irr c)
      · exact z
theorem srt_uni {l m : List α} (h : l.Perm m) (n : l.Nodup) : srt l = srt m :=
  rise_unique (srt_lt n) (srt_lt (h.nodup_iff.mp n)) fun a => by rw [mem_srt, mem_srt]; exact h.mem_iff
theorem okSet_en {l : List α} (few : l.length ≤ 400) (hk : ∀ a ∈ l, IsKeyD (Enc.en a) ∧ ∃ xs, Enc.en a = .tup xs ∨ Enc.en a = .ntp xs) (hs : okSort (l.map Enc.en)) : OkSet (l.map Enc.en) where
  few := by rw [List.length_map]; exact few
  each := fun d hd => by
    obtain ⟨a, ha, rfl⟩ := List.mem_map.mp hd
    exact ⟨(hk a ha).1, hs.1 _ hd, (hk a ha).2⟩
  sort := hs
  inj := fun d hd d' hd' e => by
    obtain ⟨a, ha, rfl⟩ := List.mem_map.mp hd
    obtain ⟨b, hb, rfl⟩ := List.mem_map.mp hd'
    rw [py_inj e]
  perm := fun m hm => by
    rw [ddD_en] at hm ⊢
    obtain ⟨m', h1, rfl⟩ := perm_back hm rfl
    rw [srtD_en, srtD_en, srt_uni h1 (h1.nodup_iff.mpr nodup_ddT)]
theorem sset_en {l : List α} : srtD (ddD (l.map Enc.en)) = (srt (ddT l)).map Enc.en := by rw [ddD_en, srtD_en]
end
theorem key_rule {r : Rule} : IsKeyD (rD r) := ⟨.tup [.tup [.text r.1.1, .num r.1.2], .tup [.text r.2.1, .num r.2.2]], by simp [toPy, toPys, kOf, kOfs], by simp [NestedKey.depth, NestedKey.depthAll]⟩
/-- sorted(set(xs)), xs rules -/
theorem okSet_rules {ths : List Str} {rs : List Rule} (hr : ∀ r ∈ rs, okR ths r) (hnm : ∀ x ∈ ths, nmB x = true) (few : rs.length ≤ 400) : OkSet (rs.map rD) :=
  okSet_en (α := Rule) (by omega) (fun r _ => ⟨key_rule, _, .inl rfl⟩) (okSort_pair (l := rs) fun a ha => okk_rule (hr a ha) hnm)
def ruleSet (rs : List Rule) : List Rule := srt (ddT rs)
theorem sset_rules {rs : List Rule} : srtD (ddD (rs.map rD)) = (ruleSet rs).map rD := sset_en (α := Rule)
theorem mem_ruleSet {rs : List Rule} {r : Rule} : r ∈ ruleSet rs ↔ r ∈ rs := by
  unfold ruleSet
  rw [mem_srt, mem_ddT]
theorem ruleSet_len {rs : List Rule} : (ruleSet rs).length ≤ rs.length := by
  unfold ruleSet
  rw [srt_length]
  exact ddT_le
theorem niT {α : Type} [DecidableEq α] [DatumOrd α] [Enc α] {v w : D} {a : α} {l : List α} {μ : Mem} (h : Is v a) (ho : ∀ a ∈ l, Enc.okk a = true) (hw : tupD w = some (l.map Enc.en)) (hd : Enc.dep α ≤ 59 := by decide) : niF (.d v) (.d w) μ = .ok (.d (.bl (!decide (a ∈ l)))) μ := by
  have e1 : okEq v = true := h.okEq (by omega)
  have key : inO μ (.d v) (.d w) = .ok (decide (a ∈ l)) μ := by
    cases w <;> simp only [tupD, Option.some.injEq, reduceCtorEq] at hw <;> subst hw
    · have e2 := okEq_tup ho hd
      have e : inO μ (.d v) (.d (.tup (l.map Enc.en))) = grd (okEq v = true ∧ okEq (.tup (l.map Enc.en)) = true) (ret (inD v (l.map Enc.en))) μ := by cases v <;> rfl
      rw [e, grd_pos ⟨e1, e2⟩, inD_en h]; rfl
    · have e2 := okEq_ntp ho hd
      have e : inO μ (.d v) (.d (.ntp (l.map Enc.en))) = grd (okEq v = true ∧ okEq (.ntp (l.map Enc.en)) = true) (ret (inD v (l.map Enc.en))) μ := by cases v <;> rfl
      rw [e, grd_pos ⟨e1, e2⟩, inD_en h]; rfl
  unfold niF
  rw [key]
theorem sortSetT {w : D} {l : List D} {μ : Mem} (h : tupD w = some l) : sortSetF [.d w] μ = grd (OkSet l) (ret (.d (.lst (srtD (ddD l))))) μ := by
  cases w <;> simp only [tupD, Option.some.injEq, reduceCtorEq] at h <;> subst h <;> rfl
theorem ni_of_in {a c : SV} {μ : Mem} {x : Bool} (h : inF a c μ = .ok (.d (.bl x)) μ) : niF a c μ = .ok (.d (.bl (!x))) μ := by
  unfold inF at h
  unfold niF
  split at h <;> simp_all
end PL
namespace PL
open PySem PySem.Spec PyProof.Rows L2
open PySem.W (Datum DatumOrd)
end PL
namespace PL
open PySem PySem.Spec PyProof.Rows L2
open PySem.W (Datum DatumOrd)
--.
--.
--.
--.
--.
--.
--.
--.
--.
--.
--.
--.
--.
end PL
namespace PL
open PySem PySem.Spec PyProof.Rows L2
section
variable {X : Cx} {W : WX} {a b c e iter tg elt : Expr} {ifs : List Expr} {ta tb te : TX} {ti : TXI} {g : TXG} {tt tA : TXT} {tL : TXA} {pos p : Pos}
end
end PL
namespace PL
open PySem PySem.Spec PyProof.Rows L2 RZ
def cLoopS (step : D → M (Option SV)) : List D → M (List SV)
  | [], μ => .ok [] μ
  | d :: ds, μ => match step d μ with
    | .ok none μ' => cLoopS step ds μ'
    | .ok (some s) μ' => match cLoopS step ds μ' with
      | .ok r μ2 => .ok (s :: r) μ2
      | _ => .no
    | _ => .no
def finSF : List SV → M SV := fun acc μ => .ok (.c μ.length) (μ ++ [.lsC acc])
noncomputable def fLcL (it : FI) (g : FG) (c : FT) (e : FX) (vs : List Nat) : FX := fun ρ => bnd (it ρ) fun ds => grd (ds.length ≤ sizeLine) (bnd (cLoopS (cStep g c e vs ρ) ds) finSF)
section
variable {n : Nat} {X : Cx} {W : WX} {a b elt iter tg : Expr} {ifs : List Expr} {it : FI} {g : FG} {ft : FT} {fe fa fb : FX} {pos p : Pos}
variable {scope : Scope} {own : List (Str × Nat)}
end
@[simp ↓] theorem fLcL_s {it : FI} {g : FG} {c : FT} {e : FX} {vs : List Nat} {ρ : FEnv} {μ : Mem} : fLcL it g c e vs ρ μ = bR (it ρ μ) fun ds => grd (ds.length ≤ sizeLine) (bnd (cLoopS (cStep g c e vs ρ) ds) finSF) := bnd_s
end PL
namespace PL
open PySem PySem.Spec PyProof.Rows L2
open PySem.W (Datum DatumOrd)
--.
--.
--.
--.
--.
def bits : Nat → List (List Int)
  | 0 => [[]]
  | n + 1 => (bits n).flatMap fun cs => [cs ++ [0], cs ++ [1]]
abbrev rowD (cs : List Int) : D := .tup (cs.map .int)
theorem at_inj {ths : List Str} {i j : Nat} {x : Str} (hn : ths.Nodup) (h1 : ths[i]? = some x) (h2 : ths[j]? = some x) : i = j := by
  obtain ⟨l1, e1⟩ := List.getElem?_eq_some_iff.mp h1
  obtain ⟨l2, e2⟩ := List.getElem?_eq_some_iff.mp h2
  exact (List.getElem_inj hn).mp (e1.trans e2.symm)
end PL
namespace PL
open PySem PySem.Spec PyProof.Rows L2 RZ
noncomputable def sortedTF : List SV → M SV := fun ss μ => match ss with
  | [s] => match tupOf s with
    | some l => grd (okSort l) (ret (.d (.lst (srtD l)))) μ
    | none => .no
  | _ => .no
section
variable {X : Cx} {W : WX} {e : Expr} {fl : FA} {n : Nat} {p pos : Pos}
variable {μ : Mem} {l : List D}
@[simp] theorem sortedTF_t : sortedTF [.d (.tup l)] μ = grd (okSort l) (ret (.d (.lst (srtD l)))) μ := rfl
@[simp] theorem sortedTF_n : sortedTF [.d (.ntp l)] μ = grd (okSort l) (ret (.d (.lst (srtD l)))) μ := rfl
end
end PL
namespace PL
open PySem PySem.Spec PyProof.Rows L2
open PySem.W (Datum DatumOrd)
noncomputable def f_with_rules : List SV → M SV := fDef 2 (fRet (fTup (fCons (fV 0) (fCons (fCall tupF (fCons (fCall sortSetF (fCons (fV 1) fNil)) fNil)) fNil))))
--.
--.
--.
--.
--.
--.
--.
--.
--.
--.
--.
theorem lenT {w : D} {l : List D} {μ : Mem} (h : tupD w = some l) : lenF [.d w] μ = .ok (.d (.int l.length)) μ := by
  cases w <;> simp only [tupD, Option.some.injEq, reduceCtorEq] at h <;> subst h <;> rfl
theorem with_rules_ok {t w : D} {ths : List Str} {rs : List Rule} {μ : Mem} (hr : ∀ r ∈ rs, okR ths r) (hnm : ∀ x ∈ ths, nmB x = true) (few : rs.length ≤ 400) (hw : tupD w = some (rs.map rD)) : f_with_rules [.d t, .d w] μ = .ok (.d (.tup [t, .ntp ((ruleSet rs).map rD)])) μ := by
  have e : ∀ μ, sortSetF [.d w] μ = .ok (.d (.lst ((ruleSet rs).map rD))) μ := fun μ => by
    rw [sortSetT hw, grd_pos (okSet_rules hr hnm few), sset_rules]; rfl
  simp (disch := first | assumption | omega | (simp [sizeLine_eq]; done) | (simp [sizeLine_eq]; omega) | fail) [isK, isKB, tupD, sizeLine_eq, grd_pos, f_with_rules, e]
end PL
namespace PL
open PySem PySem.Spec PyProof.Rows L2
open PySem.W (Datum DatumOrd)
--.
--.
--.
--.
--.
--.
--.
--.
--.
end PL
namespace PL
open PySem PySem.Spec PyProof.Rows L2
open PySem.W (Datum DatumOrd)
--.
--.
--.
--.
--.
--.
--.
--.
/-- a rule that follows: each choosing that keeps the rules keeps it -/
def Fol (ths : List Str) (rs : List Rule) (r : Rule) : Prop := ∀ cs, Kp ths rs cs → lost ths cs r = false
theorem Kp.less {ths : List Str} {rs rs' : List Rule} {cs : List Int} (k : Kp ths rs cs) (h : ∀ r ∈ rs', r ∈ rs) : Kp ths rs' cs := by
  refine ⟨k.1, k.2.1, ?_⟩
  have := k.2.2
  simp only [keepB, List.all_eq_true] at this ⊢
  exact fun r hr => this r (h r hr)
theorem Kp.more {ths : List Str} {rs rs' : List Rule} {cs : List Int} (k : Kp ths rs cs) (h : ∀ r ∈ rs', r ∈ rs ∨ Fol ths rs r) : Kp ths rs' cs := by
  refine ⟨k.1, k.2.1, ?_⟩
  have := k.2.2
  simp only [keepB, List.all_eq_true] at this ⊢
  intro r hr
  rcases h r hr with h | h
  · exact this r h
  · rw [h cs k]; rfl
theorem Fol.mono {ths : List Str} {rs rs' : List Rule} {r : Rule} (f : Fol ths rs' r) (h : ∀ r ∈ rs', r ∈ rs) : Fol ths rs r := fun cs k => f cs (k.less h)
end PL
namespace PL
open PySem PySem.Spec PyProof.Rows L2
open PySem.W (Datum DatumOrd)
--.
end PL
namespace PL
open PySem PySem.Spec PyProof.Rows L2
open PySem.W (Datum DatumOrd)
end PL
namespace PL
open PySem PySem.Spec PyProof.Rows L2
open PySem.W (Datum DatumOrd)
end PL
namespace PL
open PySem PySem.Spec PyProof.Rows L2
section
variable {X : Cx} {W : WX} {a b : Expr} {tL : TXA} {pos p : Pos} {x : Str}
end
end PL
namespace PL
open PySem PySem.Spec PyProof.Rows L2 RZ
def gcdF : List SV → M SV := fun ss μ => match ss with
  | [.d (.int i), .d (.int j)] => .ok (.d (.int ((Nat.gcd i.natAbs j.natAbs : Nat) : Int))) μ
  | _ => .no
section
variable {n : Nat} {X : Cx} {W : WX} {a b : Expr} {fl : FA} {pos p : Pos} {x : Str}
end
@[simp] theorem gcdF_i {i j : Int} {μ : Mem} : gcdF [.d (.int i), .d (.int j)] μ = .ok (.d (.int ((Nat.gcd i.natAbs j.natAbs : Nat) : Int))) μ := rfl
end PL
namespace PL
open PySem PySem.Spec PyProof.Rows L2
section
variable {X : Cx} {W : WX} {tg : Expr} {p : Pos} {x : Str} {l : List Int}
end
end PL
namespace PL
open PySem PySem.Spec PyProof.Rows L2 RZ
def gcF (l : List Int) : FI := fun _ μ => .ok (l.map D.int) μ
section
variable {n : Nat} {X : Cx} {W : WX} {tg : Expr} {p : Pos} {x : Str} {l : List Int}
end
@[simp ↓] theorem gcF_s {l : List Int} {ρ : FEnv} {μ : Mem} : gcF l ρ μ = .ok (l.map D.int) μ := rfl
end PL
namespace PL
open PySem PySem.Spec PyProof.Rows L2
section
variable {X : Cx}
end
abbrev PRel (K : PySem.W.Frag) (A : List Addr) (G : Hp) : List (D × SV) → List (List Key × Addr × V) → Prop := Paired fun p q => p.1 = .tup (q.1.map keyD) ∧ RepS K A G p.2 q.2.2
theorem PRel.mono {K : PySem.W.Frag} {A A' : List Addr} {G G' : Hp} (p : A <+: A') (g : LeZ G G') {acc : List (D × SV)} {l : List (List Key × Addr × V)} (h : PRel K A G acc l) : PRel K A' G' acc l := by
  induction h with
  | nil => exact .nil
  | cons h _ ih => exact .cons ⟨h.1, h.2.mono p g⟩ ih
theorem Step.tup {K : PySem.W.Frag} {A A' : List Addr} {μ : Mem} {G G' H H' : Hp} (s : Step A G H A' G' H') (c : Cells K A μ G H) {b : Addr} {ys : List V} (e : H b = some (.tup ys)) : H' b = some (.tup ys) := by
  have nb : b ∉ A := fun z => by
    obtain ⟨k, hk, e2⟩ := List.mem_iff_getElem.mp z
    have hk2 : k < μ.length := by rw [← c.len]; exact hk
    exact CellOk.notup (c.ok k b μ[k] (by rw [List.getElem?_eq_getElem hk, e2]) (List.getElem?_eq_getElem hk2)) e
  rcases s.keep _ _ e nb with q | ⟨_, q, _⟩
  · exact q
  · cases q
section
variable {X : Cx} {W : WX} {iter tg : Expr} {ifs : List Expr} {ti : TXI} {g : TXG} {tt : TXT} {tE : TXA} {es : List Expr} {pos p : Pos}
noncomputable def pPut (kv : List D × List SV) (p : D × SV) : List D × List SV := (putKs kv.1 p.1, putSs kv.1 kv.2 p.1 p.2)
end
section
variable {X : Cx} {W : WX} {iter tg kx vx : Expr} {ifs : List Expr} {ti : TXI} {g : TXG} {tt : TXT} {tE : TXA} {pos p lpos : Pos} {x1 : Nat} {es : List Expr}
end
end PL
namespace PL
open PySem PySem.Spec PyProof.Rows L2 RZ
def dpLoop (step : D → M (Option (D × SV))) : List D → M (List (D × SV))
  | [], μ => .ok [] μ
  | d :: ds, μ => match step d μ with
    | .ok none μ' => dpLoop step ds μ'
    | .ok (some s) μ' => match dpLoop step ds μ' with
      | .ok r μ2 => .ok (s :: r) μ2
      | _ => .no
    | _ => .no
def prK (ss : List SV) : M (Option (D × SV)) := match ss with
  | [.d key, s] => if fitK true key = true then ret (some (key, s)) else fun _ => .no
  | _ => fun _ => .no
def dpStep (g : FG) (c : FT) (e : FA) (vs : List Nat) (ρ : FEnv) (d : D) : M (Option (D × SV)) := bnd (g (.d d) (wip ρ vs)) fun ρ2 => bnd (c ρ2) fun k => if k then bnd (e ρ2) prK else ret none
noncomputable def finDP : List (D × SV) → M SV := fun acc μ => .ok (.c μ.length) (μ ++ [.dC (acc.foldl pPut ([], [])).1 (acc.foldl pPut ([], [])).2])
noncomputable def fDcP (it : FI) (g : FG) (c : FT) (e : FA) (vs : List Nat) : FX := fun ρ => bnd (it ρ) fun ds => grd (ds.length ≤ sizeLine) (bnd (dpLoop (dpStep g c e vs ρ) ds) finDP)
section
variable {n : Nat} {X : Cx} {W : WX} {iter tg : Expr} {ifs es : List Expr} {it : FI} {g : FG} {ft : FT} {fe : FA} {pos p lpos tpos : Pos} {x1 : Nat}
end
@[simp ↓] theorem fDcP_s {it : FI} {g : FG} {c : FT} {e : FA} {vs : List Nat} {ρ : FEnv} {μ : Mem} : fDcP it g c e vs ρ μ = bR (it ρ μ) fun ds => grd (ds.length ≤ sizeLine) (bnd (dpLoop (dpStep g c e vs ρ) ds) finDP) := bnd_s
@[simp] theorem prK_s {key : D} {s : SV} {μ : Mem} (h : fitK true key = true) : prK [.d key, s] μ = .ok (some (key, s)) μ := by
  show (if fitK true key = true then ret (some (key, s)) else fun _ => .no) μ = _
  rw [if_pos h]
  rfl
end PL
namespace PL
open PySem PySem.Spec PyProof.Rows L2
section
variable {X : Cx} {pos pos' : Pos}
end
end PL
namespace PL
open PySem PySem.Spec PyProof.Rows L2
abbrev MK : Type := Addr → List (D × Addr) → Heap → Prop
/-- what may go into it -/
structure OkPutN (ks : List D) (key : D) : Prop where
  few : ks.length < 1000
  each : ∀ d ∈ key :: ks, IsKeyD d ∧ okEq d = true
  tup : ∃ xs, key = .tup xs
  inj : ∀ d ∈ ks, toPy d = toPy key → d = key
section
variable {X : Cx} {W : WX} {o i e : Expr} {to ti te : TX} {tL : TXA} {pos pos' p : Pos}
end
end PL
namespace PL
open PySem PySem.Spec PyProof.Rows L2 RZ
def fNewN (mk : MK) : FX := fun _ μ => .ok (.c μ.length) (μ ++ [.dN mk []])
noncomputable def nputM (mk : MK) (so si s : SV) : M Unit := fun μ => match so, si, s with
  | .c k, .d key, .d (.bl true) => match μ[k]? with
    | some (.dN mk' ks) => grd (mk' = mk ∧ OkPutN ks key) (fun μ => .ok () (μ.set k (.dN mk (putKs ks key)))) μ
    | _ => .no
  | _, _, _ => .no
noncomputable def fNPut (mk : MK) (o i e : FX) : FS := fun ρ => bnd (e ρ) fun s => bnd (o ρ) fun so => bnd (i ρ) fun si => bnd (nputM mk so si s) fun _ => ret (.nx ρ)
section
variable {X : Cx} {W : WX} {o i e : Expr} {fo fi fe : FX} {fl : FA} {n : Nat} {pos pos' p : Pos}
end
section
variable {mk : MK} {ρ : FEnv} {μ : Mem} {o i e : FX} {k : Nat} {key : D} {ks : List D}
@[simp ↓] theorem fNewN_s : fNewN mk ρ μ = .ok (.c μ.length) (μ ++ [.dN mk []]) := rfl
@[simp ↓] theorem fNPut_s : fNPut mk o i e ρ μ = bR (e ρ μ) fun s => bnd (o ρ) fun so => bnd (i ρ) fun si => bnd (nputM mk so si s) fun _ => ret (.nx ρ) := bnd_s
end
end PL
namespace PL
open PySem PySem.Spec PyProof.Rows L2
section
variable {X : Cx} {W : WX} {e : Expr} {tL : TXA} {p pos : Pos}
end
end PL
namespace PL
open PySem PySem.Spec PyProof.Rows L2 RZ
noncomputable def listSF : List SV → M SV := fun ss μ => match ss with
  | [.d (.str z)] => grd (z.cps.size ≤ sizeLine) (ret (.d (.lst (strD z)))) μ
  | _ => .no
section
variable {n : Nat} {X : Cx} {W : WX} {e : Expr} {fl : FA} {pos p : Pos}
end
@[simp] theorem listSF_s {z : Str} {μ : Mem} : listSF [.d (.str z)] μ = grd (z.cps.size ≤ sizeLine) (ret (.d (.lst (strD z)))) μ := rfl
end PL
namespace PL
open PySem PySem.Spec PyProof.Rows L2
open PySem.W (Datum DatumOrd)
--.
/-- two sides of ascending names -/
def okB (ths : List Str) (p : Rule) : Prop := okS ths p.1 ∧ okS ths p.2 ∧ DatumOrd.lt p.1.1 p.2.1 = true
/-- the rule that bars them -/
def bk (p : Rule) : Rule := (sBack p.1, sBack p.2)
theorem okR_bk {ths : List Str} {p : Rule} (h : okB ths p) : okR ths (bk p) := ⟨okS_back h.1, okS_back h.2.1, by
  simp only [goodRule, bk, sBack, h.2.2, Bool.or_true]⟩
end PL
namespace PL
open PySem PySem.Spec PyProof.Rows L2
open PySem.W (Datum DatumOrd)
--.
--.
end PL
namespace PL
open PySem PySem.Spec PyProof.Rows L2
open PySem.W (Datum DatumOrd)
--.
--.
--.
--.
--.
--.
--.
--.
--.
--.
--.
--.
--.
--.
--.
--.
--.
--.
--.
--.
--.
--.
/-- where a label is to stand, its size -/
abbrev Pla := Int × Int × Int × Int
def strip (q : Pla) (a : Int) : Pla := if a = 1 then (q.1, q.2.1, q.1 + q.2.2.1, q.2.1 + q.2.2.2) else (q.1 - q.2.2.1, q.2.1, q.1, q.2.1 + q.2.2.2)
def ovl (s r : Pla) : Bool := decide (s.1 < r.2.2.1) && (decide (r.1 < s.2.2.1) && (decide (s.2.1 < r.2.2.2) && decide (r.2.1 < s.2.2.2)))
def cl2 (p q : Pla) (a c : Int) : Bool := ovl (strip p a) (strip q c)
def four : List (Int × Int) := [(0, 0), (0, 1), (1, 0), (1, 1)]
def bar4 (p q : Pla) (x y : Str) : List Rule := (four.filter fun ac => cl2 p q ac.1 ac.2).map fun ac => ((x, ac.1), (y, ac.2))
def barAt (ths : List Str) (P : List Pla) (i j : Nat) : List Rule := match P[i]?, P[j]?, ths[i]?, ths[j]? with
  | some p, some q, some x, some y => bar4 p q x y
  | _, _, _, _ => []
def rowTo (ths : List Str) (P : List Pla) (i k : Nat) : List Rule := (List.range k).flatMap fun k => barAt ths P i (i + 1 + k)
def barTo (ths : List Str) (P : List Pla) (i : Nat) : List Rule := (List.range i).flatMap fun i => rowTo ths P i (P.length - (i + 1))
abbrev bars (ths : List Str) (P : List Pla) : List Rule := barTo ths P P.length
theorem at_of {α : Type} {l : List α} {i : Nat} (h : i < l.length) : ∃ a, l[i]? = some a := ⟨_, List.getElem?_eq_getElem h⟩
end PL
namespace PL
open PySem PySem.Spec PyProof.Rows L2
/-- a kind of keys that are compared one by one -/
structure Sc (P : Program) (w : World) (K : Type) [DecidableEq K] (emb : K → V) where
  knd : PySem.KeyKind P w K
  is : ∀ k u, RelV (emb k) u ↔ knd.is k u = true
  scan : ∀ k u, knd.is k u = true → u.scannable = true
section
variable {K : Type} [DecidableEq K] {emb : K → V} {P : Program} {w : World} {A : Around} {E : Value → Shared → Prop} {s : Shared} {h : Heap} {a : Addr} {L : List K} {es : Array (Int × Value)} {ep : Nat} {t : SetTable} {k : K}
abbrev Row (z : Sc P w K emb) (k : K) (e : Int × Value) : Prop := z.knd.is k e.2 = true ∧ e.1 = z.knd.hash k
theorem paired_perm {α β : Type} {R : α → β → Prop} {m m' : List β} (hp : m'.Perm m) : ∀ {l : List α}, PySem.Paired R l m → ∃ l', l'.Perm l ∧ PySem.Paired R l' m' := by
  induction hp with
  | nil => intro l h; exact ⟨l, List.Perm.refl _, h⟩
  | cons x _ ih =>
    intro l h
    cases h with
    | cons r h =>
      obtain ⟨l', p, h'⟩ := ih h
      exact ⟨_, p.cons _, .cons r h'⟩
  | swap x y l2 =>
    intro l h
    cases h with
    | cons r h =>
      cases h with
      | cons r2 h => exact ⟨_, List.Perm.swap _ _ _, .cons r2 (.cons r h)⟩
  | trans _ _ ih1 ih2 =>
    intro l h
    obtain ⟨l1, p1, h1⟩ := ih2 h
    obtain ⟨l2, p2, h2⟩ := ih1 h1
    exact ⟨l2, p2.trans p1, h2⟩
theorem paired_mem {α β : Type} {R : α → β → Prop} : ∀ {l : List α} {m : List β}, PySem.Paired R l m → (∀ b ∈ m, ∃ a ∈ l, R a b) ∧ ∀ a ∈ l, ∃ b ∈ m, R a b
  | _, _, .nil => ⟨fun _ h => (nomatch h), fun _ h => (nomatch h)⟩
  | _, _, .cons r h => by
    obtain ⟨h1, h2⟩ := paired_mem h
    constructor
    · intro b hb
      rcases List.mem_cons.mp hb with rfl | hb
      · exact ⟨_, List.mem_cons_self, r⟩
      · obtain ⟨a, ha, q⟩ := h1 b hb
        exact ⟨a, List.mem_cons_of_mem _ ha, q⟩
    · intro a ha
      rcases List.mem_cons.mp ha with rfl | ha
      · exact ⟨_, List.mem_cons_self, r⟩
      · obtain ⟨b, hb, q⟩ := h2 a ha
        exact ⟨b, List.mem_cons_of_mem _ hb, q⟩
structure KSet (z : Sc P w K emb) (h : Heap) (a : Addr) (L : List K) (es : Array (Int × Value)) (ep : Nat) (t : SetTable) : Prop where
  ob : ∃ o, h.get? a = some o ∧ o.ExactSet ∧ o.data = .set es ep t
  rows : PySem.Paired (Row z) L es.toList
  nd : L.Nodup
  ris : Ris t.place.toList
  fits : t.fits es.size = true
  led : w.params.followText "set-order" = true ∨ t.led = true
variable {z : Sc P w K emb}
theorem KSet.size (R : KSet z h a L es ep t) : es.size = L.length := by
  rw [← Array.length_toList, ← R.rows.length]
theorem KSet.elems (R : KSet z h a L es ep t) : ElemsOf z.knd es.toList := fun e he => by
  obtain ⟨k, _, r1, r2⟩ := (paired_mem R.rows).1 e he
  exact ⟨⟨k, r1, r2⟩, z.scan k _ r1⟩
theorem kadd_tail {g : Bool → Sem Unit} (hg : ∀ (b : Bool) (s1 : Shared) (Q' : Unit → Shared → Prop), Q' () s1 → wpAny (model P w) A (g b) Q' E s1) {o : Obj} (ho : s.heap.get? a = some o) (hex : o.ExactSet) (hd : o.data = .set es ep t)
    {es1 : Array (Int × Value)} {t2 : SetTable} (rows1 : PySem.Paired (Row z) L es1.toList) (nd1 : L.Nodup) (small : L.length < scanBound) (f2 : t2.fits es1.size = true) (r2 : Ris t2.place.toList) (l2 : w.params.followText "set-order" = true ∨ t2.led = true) {wd : Bool} {R : Option Bool → Shared → Prop}
    (hR : ∀ h' L' es' ep' t', Heap.SameBut a s.heap h' → KSet z h' a L' es' ep' t' → L'.Perm L → R (some true) { s with heap := h' }) :
    wpAny (model P w) A (do
        storeSet a es1 t2
        if (!wd && t2.tooFull) = true then do
            g (relayAll t2 es1 (SetTable.grown es1.size)).2.2
            storeSet a (relayAll t2 es1 (SetTable.grown es1.size)).1 (relayAll t2 es1 (SetTable.grown es1.size)).2.1
            pure (some true)
          else pure (some true)) R E s := by
  have size1 : es1.size = L.length := by rw [← Array.length_toList, ← rows1.length]
  refine wpAny_bind (wpAny_storeSet_of ho hd ?_ (fits_of_scanBound (by rw [size1]; exact small)))
  have ho1 := store_at (es' := es1) (t' := t2) ho hd
  have sb1 := Heap.SameBut.update s.heap a (Obj.putSet es1 t2)
  split
  · have pm := relayAll_perm t2 es1 (SetTable.grown es1.size)
    have f3 := relayAll_fits t2 es1 (SetTable.grown es1.size)
    have r3 := relayAll_ris t2 es1 (SetTable.grown es1.size)
    have l3 := relayAll_led t2 es1 (SetTable.grown es1.size)
    generalize relayAll t2 es1 (SetTable.grown es1.size) = Z at pm f3 r3 l3 ⊢
    obtain ⟨es2, t3, gave⟩ := Z
    dsimp only at pm f3 r3 l3 ⊢
    obtain ⟨L', pL, rows2⟩ := paired_perm pm rows1
    have size2 : es2.size = L.length := by rw [← Array.length_toList, ← rows2.length, pL.length_eq]
    refine wpAny_bind (hg _ _ _ ?_)
    refine wpAny_bind (wpAny_storeSet_of ho1 rfl ?_ (fits_of_scanBound (by rw [size2]; exact small)))
    exact wpAny_pure (hR _ L' es2 _ t3 (sb1.trans (Heap.SameBut.update _ a _)) ⟨⟨_, store_at (es' := es2) (t' := t3) ho1 rfl, hex, rfl⟩, rows2, pL.nodup_iff.mpr nd1, r3, f3, l2.imp id fun q => by rw [l3]; exact q⟩ pL)
  · exact wpAny_pure (hR _ L es1 _ t2 sb1 ⟨⟨_, ho1, hex, rfl⟩, rows1, nd1, r2, f2, l2⟩ (List.Perm.refl _))
/-- a key is put in -/
theorem kadd {x : Value} (R : KSet z s.heap a L es ep t) (hx : z.knd.is k x = true) (few : L.length < 1000) {Q : Bool → Shared → Prop}
    (q : ∀ b h' L' es' ep' t', Heap.SameBut a s.heap h' → KSet z h' a L' es' ep' t' → (k ∈ L → L' = L) → (k ∉ L → L'.Perm (k :: L)) → Q b { s with heap := h' }) :
    wpAny (model P w) A (setAddHashed a x (z.knd.hash k)) Q E s := by
  obtain ⟨o, ho, hex, hd⟩ := id R.ob
  have hsc := z.scan k x hx
  have size := R.size
  have small : es.size < scanBound := by unfold scanBound; omega
  have hel := R.elems
  unfold setAddHashed setAddHashedIn
  refine wpAny_holding (wpAny_bind (wpAny_setState_of ho hd R.fits ?_))
  dsimp only
  rw [byScan_of hsc small hel]
  simp only [↓reduceIte]
  unfold setAddByScan
  refine wpAny_bind ?_
  refine wpAny_bind (wpAny_rule ?_)
  refine wpAny_bind (wpAny_setScan_of hx ho hd R.fits hel ?_)
  cases hr : List.findIdx? (fun e => z.knd.is k e.2) es.toList with
  | some j =>
    dsimp only
    obtain ⟨hj, hpj, _⟩ := List.findIdx?_eq_some_iff_getElem.mp hr
    obtain ⟨k', hk', r1, _⟩ := (paired_mem R.rows).1 _ (List.getElem_mem hj)
    have hm : k ∈ L := by rw [z.knd.inj _ k k' hpj r1]; exact hk'
    exact wpAny_pure (wpAny_pure (q _ s.heap L es ep t (Heap.SameBut.refl a s.heap) R (fun _ => rfl) fun n => absurd hm n))
  | none =>
    dsimp only
    have hn : k ∉ L := fun hm => by
      obtain ⟨e, he, r1, _⟩ := (paired_mem R.rows).2 k hm
      have c := List.findIdx?_eq_none_iff.mp hr e he
      rw [r1] at c
      cases c
    have hgw : ∀ (b : Bool) {s1 : Shared} {Q' : Unit → Shared → Prop}, Q' () s1 → wpAny (model P w) A (match b with | true => rule "set.scan.the-table-gave-way" | false => pure ()) Q' E s1 :=
      fun b s1 Q' hq => by cases b <;> first | exact wpAny_pure hq | exact wpAny_rule hq
    have pm := layNew_perm t es (z.knd.hash k) x
    have f1 := layNew_fits t es (z.knd.hash k) x
    have r1 := layNew_ris t es (z.knd.hash k) x R.ris
    have l1 := layNew_led t es (z.knd.hash k) x
    generalize layNew t es (z.knd.hash k) x = Z at pm f1 r1 l1 ⊢
    obtain ⟨es1, t1, wd, gave⟩ := Z
    dsimp only at pm f1 r1 l1 ⊢
    rw [Array.toList_push] at pm
    have pc : es1.toList.Perm ((z.knd.hash k, x) :: es.toList) := pm.trans (List.perm_append_singleton _ _)
    obtain ⟨L1, pL, rows1⟩ := paired_perm pc (PySem.Paired.cons (F := Row z) (show Row z k (z.knd.hash k, x) from ⟨hx, rfl⟩) R.rows)
    have nd1 : L1.Nodup := pL.nodup_iff.mpr (List.nodup_cons.mpr ⟨hn, R.nd⟩)
    have len1 : L1.length = L.length + 1 := pL.length_eq
    have led1 : w.params.followText "set-order" = true ∨ t1.led = true := R.led.imp id fun y => by rw [l1]; exact y
    have small1 : L1.length < scanBound := by unfold scanBound; omega
    have fin : ∀ h' L' es' ep' t', Heap.SameBut a s.heap h' → KSet z h' a L' es' ep' t' → L'.Perm L1 → Q true { s with heap := h' } := fun h' L' es' ep' t' sb R' p' =>
      q true h' L' es' ep' t' sb R' (fun y => absurd y hn) fun _ => p'.trans pL
    refine wpAny_bind (hgw _ ?_)
    split
    · refine wpAny_bind ?_
      rw [hashByValue_scannable 8 hsc]
      refine wpAny_pure ?_
      refine kadd_tail ?_ ho hex hd rows1 nd1 small1 ?_ ?_ ?_ ?_
      · intro b s1 Q' y; cases b <;> first | exact wpAny_pure y | exact wpAny_rule y
      · first | (split <;> first | exact f1 | exact SetTable.fits_plain_off f1) | exact f1
      · first | (split <;> exact r1) | exact r1
      · first | (split <;> exact led1) | exact led1
      · intro h' L' es' ep' t' sb R' p'; dsimp only; exact wpAny_pure (fin h' L' es' ep' t' sb R' p')
    · refine wpAny_bind (wpAny_pure ?_)
      simp only [↓reduceIte]
      refine kadd_tail ?_ ho hex hd rows1 nd1 small1 f1 r1 led1 ?_
      · intro b s1 Q' y; cases b <;> first | exact wpAny_pure y | exact wpAny_rule y
      · intro h' L' es' ep' t' sb R' p'; dsimp only; exact wpAny_pure (fin h' L' es' ep' t' sb R' p')
end
end PL
namespace PL
open PySem PySem.Spec PyProof.Rows L2
/-- L holds what is in done, each once -/
structure OnceK {K : Type} (done L : List K) : Prop where
  sub : ∀ p ∈ L, p ∈ done
  all : ∀ p ∈ done, p ∈ L
  len : L.length ≤ done.length
section
variable {K : Type}
theorem OnceK.nil : OnceK ([] : List K) [] := ⟨fun _ h => h, fun _ h => (nomatch h), Nat.le_refl _⟩
theorem OnceK.old {done L : List K} {p : K} (o : OnceK done L) (h : p ∈ L) : OnceK (done ++ [p]) L where
  sub := fun q hq => List.mem_append_left _ (o.sub q hq)
  all := fun q hq => by
    rcases List.mem_append.mp hq with hq | hq
    · exact o.all q hq
    · cases List.mem_singleton.mp hq; exact h
  len := by have := o.len; simp; omega
theorem OnceK.new {done L L' : List K} {p : K} (o : OnceK done L) (h : L'.Perm (p :: L)) : OnceK (done ++ [p]) L' where
  sub := fun q hq => by
    rcases List.mem_cons.mp (h.mem_iff.mp hq) with z | hq
    · exact List.mem_append_right _ (List.mem_singleton.mpr z)
    · exact List.mem_append_left _ (o.sub q hq)
  all := fun q hq => h.mem_iff.mpr (by
    rcases List.mem_append.mp hq with hq | hq
    · exact List.mem_cons_of_mem _ (o.all q hq)
    · cases List.mem_singleton.mp hq; exact List.mem_cons_self)
  len := by have := o.len; rw [h.length_eq]; simp; omega
end
section
variable {K : Type} [DecidableEq K] {emb : K → V} {P : Program} {w : World} {A : Around} {E : Value → Shared → Prop} {s : Shared} {L : List K} {es : Array (Int × Value)} {ep : Nat} {t : SetTable} {z : Sc P w K emb}
theorem KSet.at {h h' : Heap} {a : Addr} (R : KSet z h a L es ep t) (ha : ∀ o, h.get? a = some o → h'.get? a = some o) : KSet z h' a L es ep t :=
  ⟨by obtain ⟨o, h1, h2⟩ := R.ob; exact ⟨o, ha o h1, h2⟩, R.rows, R.nd, R.ris, R.fits, R.led⟩
theorem KSet.new {h : Heap} {a : Addr} (e : h.get? a = some (newSetObj w)) : KSet z h a [] #[] 0 (newTab w) where
  ob := ⟨_, e, ⟨rfl, rfl, rfl⟩, rfl⟩
  rows := .nil
  nd := .nil
  ris := .nil
  fits := rfl
  led := by
    cases hb : w.params.followText "set-order" with
    | true => exact .inl rfl
    | false => right; show (!w.params.followText "set-order") = true; rw [hb]; rfl
/-- what set(..) does with what it walks -/
theorem kupdate {I S : Addr} {fp wr : List Addr} {G : Array GenState → Array GenState → Prop} {ks : List K} {Pv : Nat → Value → Prop} {St : Nat → Shared → Prop} {R : Result → Shared → Prop} (W : WalksS P w A.in1 I fp wr G ks.length Pv St) (hS : S ∉ fp)
    (val : ∀ i v, Pv i v → ∃ k, ks[i]? = some k ∧ z.knd.is k v = true) (few : ks.length ≤ 1000) {h0 : Heap} (nS : h0.get? S = none) (nw : ∀ b ∈ wr, h0.get? b = none) :
    ∀ (rest done : List K) (s : Shared), ks = done ++ rest → St done.length s → (∀ b o, h0.get? b = some o → s.heap.get? b = some o) → (∃ L es ep t, KSet z s.heap S L es ep t ∧ OnceK done L) →
      (∀ s' L es ep t, Moved (S :: wr) G s s' → KSet z s'.heap S L es ep t → OnceK ks L → (∀ b o, h0.get? b = some o → s'.heap.get? b = some o) → R (.ok (.ret .none)) s') →
      codeAny (model P w) A (.builtin "set.update.loop" ⟨[.ref S, .ref I], []⟩) R s := by
  have out : S ∉ wr := fun y => hS (W.sub _ y)
  have wid : ∀ b ∈ wr, b ∈ S :: wr := fun b hb => List.mem_cons_of_mem _ hb
  have still : ∀ {u v : Shared}, Moved wr G u v → (∀ b o, h0.get? b = some o → u.heap.get? b = some o) → ∀ b o, h0.get? b = some o → v.heap.get? b = some o := fun m k b o e =>
    m.heap b o (fun y => nomatch (nw b y).symm.trans e) (k b o e)
  intro rest
  induction rest with
  | nil =>
    intro done s e st up ⟨L, es, ep, t, hR, on⟩ q
    rw [List.append_nil] at e
    subst e
    refine codeAny_builtin F.entry_set_update_loop ?_
    rw [Around.under_plainId F.plain_set_update_loop _]
    show wpAny _ A.in1 (pyNext (.ref I) >>= _) _ _ s
    refine wpAny_bind (W.done s _ _ st fun s1 m => ?_)
    have up1 := still m up
    show wpAny _ A.in1 (PySem.ret Value.none) _ _ s1
    exact wpAny_pure (q s1 L es ep t (m.mono wid) (hR.at fun o => m.heap S o out) on up1)
  | cons p rest ih =>
    intro done s e st up ⟨L, es, ep, t, hR, on⟩ q
    have hl : done.length < ks.length := by rw [e]; simp
    have hat : ks[done.length]? = some p := by rw [e, List.getElem?_append_right (Nat.le_refl _)]; simp
    refine codeAny_builtin F.entry_set_update_loop ?_
    rw [Around.under_plainId F.plain_set_update_loop _]
    show wpAny _ A.in1 (pyNext (.ref I) >>= _) _ _ s
    refine wpAny_bind (W.item done.length s _ _ hl st fun v s1 hv st1 m => ?_)
    obtain ⟨p', hp', hx⟩ := val _ v hv
    obtain rfl : p = p' := Option.some.inj (hat.symm.trans hp')
    have up1 := still m up
    have R1 : KSet z s1.heap S L es ep t := hR.at fun o => m.heap S o out
    show wpAny _ A.in1 (holding [v] (setAdd S v) >>= _) _ _ s1
    refine wpAny_bind (wpAny_holding ?_)
    unfold setAdd
    refine wpAny_holding (wpAny_bind (z.knd.pyHash hx ?_))
    refine kadd (s := { s1 with toks := s1.toks + 1 }) R1 hx (by have := on.len; omega) fun b h2 L2 es2 ep2 t2 sb R2 c1 c2 => ?_
    have on2 : OnceK (done ++ [p]) L2 := by
      by_cases c : p ∈ L
      · rw [c1 c]; exact on.old c
      · exact on.new (c2 c)
    have up2 : ∀ b o, h0.get? b = some o → h2.get? b = some o := fun b o y => (sb.2 b fun y' => by rw [y', nS] at y; cases y).trans (up1 b o y)
    refine wpAny_pure ⟨plainId_quiet F.plain_set_update_loop _, ih (done ++ [p]) _ (by rw [e]; simp) ?_ up2 ⟨L2, es2, ep2, t2, R2, on2⟩ fun s3 L3 es3 ep3 t3 m3 R3 on3 up3 => ?_⟩
    · rw [List.length_append]
      exact W.frame _ s1 _ _ st1 (Nat.le_add_right _ _) fun b hb o y => (sb.2 b fun y' => hS (y' ▸ hb)).trans y
    · refine q s3 L3 es3 ep3 t3 (Moved.trans W.gtrans ((m.mono wid).then_heap (Nat.le_add_right _ _) fun b o hb y => ?_) m3) R3 on3 up3
      exact (sb.2 b fun y' => hb (y' ▸ List.mem_cons_self)).trans y
theorem paired_at {items : Array Value} {ks : List K} (hit : PySem.Paired (fun k u => z.knd.is k u = true) ks items.toList) {i : Nat} {v : Value} (hv : items[i]? = some v) : ∃ k, ks[i]? = some k ∧ z.knd.is k v = true := by
  rw [← Array.getElem?_toList] at hv
  have key : ∀ {ks : List K} {l : List Value} {i : Nat}, PySem.Paired (fun k u => z.knd.is k u = true) ks l → l[i]? = some v → ∃ k, ks[i]? = some k ∧ z.knd.is k v = true := by
    intro ks l
    induction l generalizing ks with
    | nil => intro i _ e; simp at e
    | cons a l ih =>
      intro i h e
      cases h with
      | cons r h =>
        cases i with
        | zero => simp at e; subst e; exact ⟨_, rfl, r⟩
        | succ i => simpa using ih h (by simpa using e)
  exact key hit hv
/-- set(xs), xs a list -/
theorem kset_list {l : Addr} {items : Array Value} {ks : List K} {Q : Value → Shared → Prop} (hh : A.handled = none) (hl : s.heap.IsList l items) (hit : PySem.Paired (fun k u => z.knd.is k u = true) ks items.toList) (few : ks.length ≤ 1000)
    (q : ∀ h' tk L es ep t, KSet z h' s.heap.objs.size L es ep t → OnceK ks L → (∀ b o, s.heap.get? b = some o → h'.get? b = some o) → Q (.ref s.heap.objs.size) { s with heap := h', toks := tk }) :
    wpAny (model P w) A (call (.type "set") [.ref l]) Q E s := by
  refine set_made ?_
  have size : items.size = ks.length := by rw [← Array.length_toList, ← hit.length]
  obtain ⟨⟨cls, dict, data, slots⟩, ho, hc, n, hd⟩ := hl
  simp only at hc hd
  subst hc hd
  have lt : l < s.heap.objs.size := Heap.lt_size ho
  have ho1 : (s.heap.push (newSetObj w)).get? l = some { cls := .type "list", dict := dict, data := .seq items n, slots := slots } := Heap.get?_push_of_some _ ho
  have hl1 : (s.heap.push (newSetObj w)).IsList l items := ⟨_, ho1, rfl, n, rfl⟩
  have sz1 : (s.heap.push (newSetObj w)).objs.size = s.heap.objs.size + 1 := Heap.size_push ..
  have f1 := F.sub_list_set
  have f2 := F.sub_list_frozenset
  have f3 : (Value.type "list" == Value.type "dict") = false := by decide
  unfold Builtin.«set.__init__» noKeywords Builtin.Frozenset.updateFrom
  generalize hI : pyIter = PI
  wp_walk
  subst hI
  refine wpAny_pyIter_list hl1 ?_
  refine wpAny_bind (wpAny_runValue ?_)
  have hz : (s.heap.push (newSetObj w)).objs.size = s.heap.objs.size + 1 := Heap.size_push ..
  have neI : l ≠ (s.heap.push (newSetObj w)).objs.size := Nat.ne_of_lt (by rw [hz]; exact Nat.lt_succ_of_lt lt)
  have hh3 : A.in1.in1.in1.handled = none := by simp [hh]
  have W := (Walks.list (prog := P) (w := w) (A := A.in1.in1.in1) hh3 (s.heap.push (newSetObj w)).objs.size l neI items).toS
  rw [size] at W
  have get2 : ((s.heap.push (newSetObj w)).push { cls := .type "list_iterator", data := .fields #[.ref l, .int 0 0] }).get? s.heap.objs.size = some (newSetObj w) := Heap.get?_push_of_some _ (Heap.get?_push_size _ rfl)
  refine kupdate (z := z) W (S := s.heap.objs.size) ?_ (fun i v hv => paired_at hit hv) few (h0 := s.heap) (past (Nat.le_refl _)) (fun b hb => past (by rw [List.mem_singleton.mp hb, hz]; omega)) ks [] _ rfl
    ⟨⟨_, Heap.get?_push_size _ rfl, rfl, rfl⟩, hl1.push _⟩ (fun b o e => Heap.get?_push_of_some _ (Heap.get?_push_of_some _ e)) ⟨[], #[], 0, newTab w, .new get2, .nil⟩ ?_
  · rw [hz]
    simp only [List.mem_cons, List.not_mem_nil, or_false, not_or]
    exact ⟨Nat.ne_of_lt (Nat.lt_succ_self _), Nat.ne_of_gt lt⟩
  · intro s2 L es ep t m R on up
    obtain ⟨h2, g2, d2, tk2, o2⟩ := s2
    obtain rfl : g2 = s.gens := m.gens
    obtain rfl : d2 = s.drawn := m.drawn
    obtain rfl : o2 = s.os := m.os
    show wpAny _ _ _ _ _ _
    exact wpAny_pure (wpAny_pure ⟨rfl, q h2 tk2 L es ep t R on up⟩)
/-- set(xs), xs a tuple -/
theorem kset_tuple {l : Addr} {items : Array Value} {ks : List K} {Q : Value → Shared → Prop} (hh : A.handled = none) (hl : s.heap.IsTuple l items) (hit : PySem.Paired (fun k u => z.knd.is k u = true) ks items.toList) (few : ks.length ≤ 1000)
    (q : ∀ h' tk L es ep t, KSet z h' s.heap.objs.size L es ep t → OnceK ks L → (∀ b o, s.heap.get? b = some o → h'.get? b = some o) → Q (.ref s.heap.objs.size) { s with heap := h', toks := tk }) :
    wpAny (model P w) A (call (.type "set") [.ref l]) Q E s := by
  refine set_made ?_
  have size : items.size = ks.length := by rw [← Array.length_toList, ← hit.length]
  obtain ⟨⟨cls, dict, data, slots⟩, ho, hc, n, hd⟩ := hl
  simp only at hc hd
  subst hc hd
  have lt : l < s.heap.objs.size := Heap.lt_size ho
  have ho1 : (s.heap.push (newSetObj w)).get? l = some { cls := .type "tuple", dict := dict, data := .seq items n, slots := slots } := Heap.get?_push_of_some _ ho
  have hl1 : (s.heap.push (newSetObj w)).IsTuple l items := ⟨_, ho1, rfl, n, rfl⟩
  have sz1 : (s.heap.push (newSetObj w)).objs.size = s.heap.objs.size + 1 := Heap.size_push ..
  have f1 := F.sub_tuple_set
  have f2 := F.sub_tuple_frozenset
  have f3 : (Value.type "tuple" == Value.type "dict") = false := by decide
  unfold Builtin.«set.__init__» noKeywords Builtin.Frozenset.updateFrom
  generalize hI : pyIter = PI
  wp_walk
  subst hI
  refine wpAny_pyIter_tuple hl1 ?_
  refine wpAny_bind (wpAny_runValue ?_)
  have hz : (s.heap.push (newSetObj w)).objs.size = s.heap.objs.size + 1 := Heap.size_push ..
  have neI : l ≠ (s.heap.push (newSetObj w)).objs.size := Nat.ne_of_lt (by rw [hz]; exact Nat.lt_succ_of_lt lt)
  have hh3 : A.in1.in1.in1.handled = none := by simp [hh]
  have W := (Walks.tuple (prog := P) (w := w) (A := A.in1.in1.in1) hh3 (s.heap.push (newSetObj w)).objs.size l neI items).toS
  rw [size] at W
  have get2 : ((s.heap.push (newSetObj w)).push { cls := .type "tuple_iterator", data := .fields #[.ref l, .int 0 0] }).get? s.heap.objs.size = some (newSetObj w) := Heap.get?_push_of_some _ (Heap.get?_push_size _ rfl)
  refine kupdate (z := z) W (S := s.heap.objs.size) ?_ (fun i v hv => paired_at hit hv) few (h0 := s.heap) (past (Nat.le_refl _)) (fun b hb => past (by rw [List.mem_singleton.mp hb, hz]; omega)) ks [] _ rfl
    ⟨⟨_, Heap.get?_push_size _ rfl, rfl, rfl⟩, hl1.push _⟩ (fun b o e => Heap.get?_push_of_some _ (Heap.get?_push_of_some _ e)) ⟨[], #[], 0, newTab w, .new get2, .nil⟩ ?_
  · rw [hz]
    simp only [List.mem_cons, List.not_mem_nil, or_false, not_or]
    exact ⟨Nat.ne_of_lt (Nat.lt_succ_self _), Nat.ne_of_gt lt⟩
  · intro s2 L es ep t m R on up
    obtain ⟨h2, g2, d2, tk2, o2⟩ := s2
    obtain rfl : g2 = s.gens := m.gens
    obtain rfl : d2 = s.drawn := m.drawn
    obtain rfl : o2 = s.os := m.os
    show wpAny _ _ _ _ _ _
    exact wpAny_pure (wpAny_pure ⟨rfl, q h2 tk2 L es ep t R on up⟩)
end
end PL
namespace PL
open PySem PySem.Spec PyProof.Rows L2
/-- data of one piece -/
def vOf : D → V
  | .str x => .str x
  | .int i => .int i
  | _ => .non
def isLf : D → Bool
  | .str _ => true
  | .int _ => true
  | _ => false
/-- the set at a -/
structure KSet0 (w : World) (h : Heap) (a : Addr) (L : List V) : Prop where
  ex : ∃ (es : Array (Int × Value)) (ep : Nat) (t : SetTable), (∃ o, h.get? a = some o ∧ o.ExactSet ∧ o.data = .set es ep t) ∧ Vals L (es.toList.map (·.2)) ∧ Ris t.place.toList ∧ t.fits es.size = true ∧ (w.params.followText "set-order" = true ∨ t.led = true)
def kSetO (w : World) (a : Addr) (L : List V) : HO := .ext fun h => KSet0 w h a L
theorem kSetO_ok {P : Program} {w : World} {h : Heap} {a : Addr} {L : List V} {H : Hp} (R : KSet0 w h a L) : ObjOk P w H h a (kSetO w a L) := by
  have ⟨es, ep, t, ⟨o, ho, _⟩, _⟩ := R.ex
  refine ⟨R, ⟨o, ho⟩, fun h1 h2 p k => ?_⟩
  have ⟨es', ep', t', ⟨o', ho', r⟩, q⟩ := KSet0.ex p
  exact ⟨es', ep', t', ⟨o', k o' ho', r⟩, q⟩
theorem paired_map {α β γ δ : Type} {R : α → β → Prop} {R' : γ → δ → Prop} {f : α → γ} {g : β → δ} (h : ∀ a b, R a b → R' (f a) (g b)) : ∀ {l : List α} {m : List β}, PySem.Paired R l m → PySem.Paired R' (l.map f) (m.map g)
  | _, _, .nil => .nil
  | _, _, .cons r t => .cons (h _ _ r) (paired_map h t)
theorem paired_unmap {α β γ : Type} {R' : γ → β → Prop} {R : α → β → Prop} {f : α → γ} (h : ∀ a b, R' (f a) b → R a b) : ∀ {l : List α} {m : List β}, PySem.Paired R' (l.map f) m → PySem.Paired R l m
  | [], _, .nil => .nil
  | _ :: _, _, .cons r t => .cons (h _ _ r) (paired_unmap h t)
section
variable {X : Cx} {K : Type} [DecidableEq K] {emb : K → V}
theorem KSet.bare {z : Sc X.prog X.w K emb} {h : Heap} {a : Addr} {L : List K} {es : Array (Int × Value)} {ep : Nat} {t : SetTable} (R : KSet z h a L es ep t) : KSet0 X.w h a (L.map emb) :=
  ⟨es, ep, t, R.ob, paired_map (fun k e r => (z.is k e.2).mpr r.1) R.rows, R.ris, R.fits, R.led⟩
/-- set(xs) -/
def rSetK (F : PySem.W.Frag) (w : World) (emb : K → V) : List V → Hp → VK → Prop := fun xs H Q => ∃ (l : Addr) (B : List K), xs = [V.ref l] ∧ (SqL F H l (B.map emb) ∨ SqT F H l (B.map emb)) ∧ B.length ≤ 1000 ∧
  ∀ a (M : List K), H a = none → M.length ≤ B.length → (∀ b ∈ M, b ∈ B) → (∀ b ∈ B, b ∈ M) → M.Nodup → Q (.ref a) (upd H a (kSetO w a (M.map emb)))
theorem cr_setK (z : Sc X.prog X.w K emb) (hc : X.calm = true) (hu : X.A.units + 64 < cLine) : CallR X (.type "set") (rSetK X.K X.w emb) := by
  intro pins s σ H xs us Q I r h
  obtain ⟨l, B, rfl, hl, hf, q⟩ := h
  rw [Vals.ref1 r]
  have hn : H s.heap.objs.size = none := I.hok.fresh (Nat.le_refl _)
  have fin : ∀ h' tk L es ep t, KSet z h' s.heap.objs.size L es ep t → OnceK B L → (∀ b o, s.heap.get? b = some o → h'.get? b = some o) → EP X pins σ Q (.ref s.heap.objs.size) { s with heap := h', toks := tk } := fun h' tk L es ep t R on up =>
    ⟨.ref s.heap.objs.size, upd H s.heap.objs.size (kSetO X.w s.heap.objs.size (L.map emb)), I.laid (t' := tk) up (Nat.le_refl _) (kSetO_ok R.bare), rfl, q _ L hn on.len on.sub on.all R.nd⟩
  have pr : ∀ {its : List Value}, Vals (B.map emb) its → PySem.Paired (fun k u => z.knd.is k u = true) B its := fun rv => paired_unmap (fun k u y => (z.is k u).mp y) rv
  rcases hl with hl | hl
  · obtain ⟨its, rv, pl, hz⟩ := I.list hl
    exact kset_list (z := z) (I.ok.hd hc) pl.isList (by simpa using pr rv) hf fin
  · obtain ⟨its, rv, pl, hz⟩ := I.tuple hl
    exact kset_tuple (z := z) (I.ok.hd hc) (show s.heap.IsTuple l its.toArray from pl) (by simpa using pr rv) hf fin
theorem eachK : ∀ {us : List Value} {M : List D}, Vals (M.map vOf) us → W.EachIs (fun u d => RelV (vOf d) u) us M
  | _, [], .nil => .nil
  | _, _ :: _, .cons r t => .cons r (eachK t)
theorem eachK_vals : ∀ {us : List Value} {M : List D}, W.EachIs (fun u d => RelV (vOf d) u) us M → Vals (M.map vOf) us
  | _, _, .nil => .nil
  | _, _, .cons h t => .cons h (eachK_vals t)
theorem eachK_reads {h : Heap} {a : Addr} : ∀ {us : List Value} {M : List D}, (∀ d ∈ M, isLf d = true) → Vals (M.map vOf) us → W.EachIs (fun u d => ∃ as, Reads h u (toPy d) as ∧ a ∉ as) us M
  | _, [], _, .nil => .nil
  | _, d :: M, hm, .cons r t => by
    refine .cons ?_ (eachK_reads (fun e he => hm e (List.mem_cons_of_mem _ he)) t)
    have := hm d List.mem_cons_self
    cases d <;> simp [isLf] at this
    · obtain ⟨y, rfl⟩ := r
      exact ⟨[], by simp only [toPy]; exact .int _ _, by simp⟩
    · obtain ⟨y, rfl⟩ := r
      exact ⟨[], by simp only [toPy]; exact .str _ _, by simp⟩
/-- sorted(set) -/
def rSortK (w : World) : List V → Hp → VK → Prop := fun vs H Q => ∃ (a : Addr) (M : List D), vs = [V.ref a] ∧ H a = some (kSetO w a (M.map vOf)) ∧ (∀ d ∈ M, isLf d = true) ∧ M.length ≤ 1000 ∧ W.AllAlike (M.map toPy) ∧ W.Sortable (M.map toPy) ∧
  ∀ (M' : List D) (p : Addr), M'.Perm M → H p = none → Q (.ref p) (upd H p (.lst ((M'.mergeSort (W.dataLe false toPy)).map vOf)))
theorem cr_sortK (hc : X.calm = true) (hu : X.A.units + 64 < cLine) : CallR X (.builtin "sorted") (rSortK X.w) := by
  intro pins s σ H vs us Q I r h
  obtain ⟨a, M, rfl, ha, hm, hf, hal, hso, q⟩ := h
  rw [Vals.ref1 r]
  have R0 : KSet0 X.w s.heap a (M.map vOf) := (I.hok a _ ha).1
  obtain ⟨es, ep, t, ⟨o, ho, hex, hd⟩, rows, ris, fits, led⟩ := R0.ex
  have size : es.size = M.length := by
    have := rows.length
    rw [List.length_map, List.length_map, Array.length_toList] at this
    exact this.symm
  refine Calls.call_function_entry kind_sorted plain_sorted entry_sorted (args_sorted1 _) ?_
  unfold Builtin.«sorted»
  refine wpAny_bind (m := checkCount "sorted" 1 1 _) (wpAny_pure ?_)
  refine wpAny_bind (collect_set (A := X.A.in1) (I.ok.hd hc) ⟨o, ho, hex.1, hd⟩ fits (by unfold scanBound; omega) ris led fun s1 ms up hz g1 o1 pm => ?_)
  obtain ⟨L', pL, rows'⟩ := paired_perm pm rows
  obtain ⟨M', pM, rfl⟩ := perm_back pL (f := vOf) (B := M) rfl
  have len : M'.length ≤ 1000 := by rw [pM.length_eq]; exact hf
  have msl : ms.length = M'.length := by
    have := rows'.length
    rw [List.length_map] at this
    exact this.symm
  have inM : ∀ b ∈ M', b ∈ M := fun b hb => pM.mem_iff.mp hb
  have perm2 := pM.map toPy
  have hal' : W.AllAlike (M'.map toPy) := fun d hd d' hd' => hal d (perm2.mem_iff.mp hd) d' (perm2.mem_iff.mp hd')
  have hso' : W.Sortable (M'.map toPy) := by
    rcases hso with h | h
    · exact .inl fun d hd => h d (perm2.mem_iff.mp hd)
    · exact .inr fun d hd => h d (perm2.mem_iff.mp hd)
  have lf' : ∀ d ∈ M', isLf d = true := fun d hd => hm d (inM d hd)
  refine wpAny_bind (wpAny_newList ?_ (by rw [msl, sizeLine_eq]; omega))
  have hL : (s1.heap.push (seqObj "list" ms.toArray 0)).get? s1.heap.objs.size = some (seqObj "list" ms.toArray 0) := Heap.get?_push_size _ rfl
  refine wpAny_bind (wpAny_holding (W.list_sort_data (R := fun u (d : D) => RelV (vOf d) u) (s := { s1 with heap := s1.heap.push (seqObj "list" ms.toArray 0) }) hL (eachK rows') (eachK_reads lf' rows') hal' hso' (by rw [sizeLine_eq]; omega)
    (fun b hb => ?_) fun out ol oe => ?_))
  · have := lf' b hb
    have hd : (toPy b).depth ≤ 1 := by
      cases b <;> simp [isLf] at this <;> simp only [toPy, PyData.depth] <;> omega
    simp only [Around.in1_units]
    omega
  · have eo := eachK_vals oe
    obtain ⟨n, hn⟩ := sortedHeap_at (vs := ms) (out := out.toArray) hL
    have kept : ∀ b o, s.heap.get? b = some o → (sortedHeap (s1.heap.push (seqObj "list" ms.toArray 0)) s1.heap.objs.size ms out.toArray).get? b = some o := fun b o e => by
      have e1 := up b o e
      have lt := Heap.lt_size e1
      rw [sortedHeap_old (Nat.ne_of_lt lt) (by rw [size_push']; exact Nat.lt_succ_of_lt lt)]
      exact Heap.get?_push_of_some _ e1
    generalize sortedHeap (s1.heap.push (seqObj "list" ms.toArray 0)) s1.heap.objs.size ms out.toArray = hp at hn kept ⊢
    have fresh : H s1.heap.objs.size = none := I.hok.fresh hz
    have J : L2.Inv X pins σ (upd H s1.heap.objs.size (.lst ((M'.mergeSort (W.dataLe false toPy)).map vOf))) { s with heap := hp, gens := s1.gens, drawn := s1.drawn, toks := s1.toks } :=
      I.call (ch := []) (Un.laid kept hz fresh) (I.hok.laid kept hz ⟨by rw [List.length_map, (List.mergeSort_perm _ _).length_eq, sizeLine_eq]; omega, _, n, eo, hn⟩) (by rw [g1]; exact I.bare) (fun _ y => nomatch y)
    dsimp only
    rw [o1]
    exact wpAny_pure ⟨_, rfl, .ref s1.heap.objs.size, _, J, rfl, q M' _ pM fresh⟩
end
/-- texts, numbers -/
def scStr (P : Program) (w : World) : Sc P w Str V.str where
  knd := strKind P w
  is k u := by
    constructor
    · rintro ⟨t, rfl⟩
      show Value.isStrOf k (.str k t) = true
      simp [Value.isStrOf]
    · intro h
      exact Value.isStrOf_shape h
  scan k u h := by
    obtain ⟨t, rfl⟩ := Value.isStrOf_shape h
    rfl
end PL
namespace PL
open PySem PySem.Spec PyProof.Rows L2
/-- data of one kind -/
structure Lf (K : Type) [DecidableEq K] (enc : K → D) (emb : K → V) : Prop where
  rep : ∀ {F : PySem.W.Frag} {G : Hp} {k : K} {v : V}, Rep F G (enc k) v → v = emb k
  rp : ∀ {F : PySem.W.Frag} {G : Hp} {k : K}, Rep F G (enc k) (emb k)
  v : ∀ k, vOf (enc k) = emb k
  lf : ∀ k, isLf (enc k) = true
  inj : ∀ k k', enc k = enc k' → k = k'
theorem lf_str : Lf Str D.str V.str where
  rep h := by cases h; rfl
  rp := .str _
  v _ := rfl
  lf _ := rfl
  inj _ _ e := by injection e
/-- data of which sets are made and sorted -/
structure OkSetK {K : Type} (enc : K → D) (l : List D) : Prop where
  ex : ∃ ks : List K, l = ks.map enc
  few : l.length ≤ 1000
  sort : okSort l
  perm : ∀ m, m.Perm (ddD l) → srtD m = srtD (ddD l)
section
variable {K : Type} [DecidableEq K] {enc : K → D} {emb : K → V}
theorem reps_lf (e : Lf K enc emb) {F : PySem.W.Frag} {G : Hp} : ∀ {ks : List K} {us : List V}, Reps F G (ks.map enc) us → us = ks.map emb
  | [], _, .nil => rfl
  | _ :: _, _, .cons r t => by rw [List.map_cons, e.rep r, reps_lf e t]
theorem lf_reps (e : Lf K enc emb) {F : PySem.W.Frag} {G : Hp} : ∀ {ks : List K}, Reps F G (ks.map enc) (ks.map emb)
  | [] => .nil
  | _ :: _ => .cons e.rp (lf_reps e)
theorem lf_list : ∀ {l : List D}, (∀ d ∈ l, ∃ x, d = enc x) → ∃ js : List K, l = js.map enc
  | [], _ => ⟨[], rfl⟩
  | d :: l, h => by
    obtain ⟨x, rfl⟩ := h d List.mem_cons_self
    obtain ⟨js, rfl⟩ := lf_list fun e he => h e (List.mem_cons_of_mem _ he)
    exact ⟨x :: js, rfl⟩
theorem nodup_mapI {α β : Type} {f : α → β} (h : ∀ a b, f a = f b → a = b) {l : List α} (n : l.Nodup) : (l.map f).Nodup := List.pairwise_map.mpr (n.imp fun h1 e => h1 (h _ _ e))
def pSortSetK (enc : K → D) : List SV → Mem → VP → Prop := fun ss μ Q => match ss with
  | [s] => on (seqOf s μ) fun l => OkSetK enc l ∧ Q (.d (.lst (srtD (ddD l)))) μ
  | _ => False
theorem pcall_sortSetK {F : PySem.W.Frag} {w : World} (e : Lf K enc emb) : PCall F (fun vs H Q => rSetK F w emb vs H fun v H2 => rSortK w [v] H2 Q) (pSortSetK enc) := by
  intro ss μ A G H vs Qp Q h c rs k
  match ss, h, rs with
  | [s], h, .cons r .nil =>
    obtain ⟨l, e1, ok, q⟩ := on_of h
    obtain ⟨a, us, rfl, hs, hr⟩ := seqOf_rep e1 c r
    obtain ⟨ks, rfl⟩ := ok.ex
    obtain rfl := reps_lf e hr
    have few : ks.length ≤ 1000 := by have := ok.few; rwa [List.length_map] at this
    refine ⟨a, ks, rfl, hs, few, fun a2 M ha hlen hM hcov hnd => ?_⟩
    obtain ⟨c2, s2⟩ := c.laid (o := kSetO w a2 (M.map emb)) ha
    have mv : M.map emb = (M.map enc).map vOf := by
      rw [List.map_map]
      exact List.map_congr_left fun x _ => (e.v x).symm
    have inl : ∀ d ∈ M.map enc, d ∈ ks.map enc := fun d hd => by
      obtain ⟨x, hx, rfl⟩ := List.mem_map.mp hd
      exact List.mem_map.mpr ⟨x, hM x hx, rfl⟩
    refine ⟨a2, M.map enc, rfl, by rw [← mv]; exact upd_same, fun d hd => ?_, by rw [List.length_map]; omega, ?_, ?_, fun M' p pM hp => ?_⟩
    · obtain ⟨x, _, rfl⟩ := List.mem_map.mp hd
      exact e.lf x
    · intro d hd d' hd'
      obtain ⟨b, hb, rfl⟩ := List.mem_map.mp hd
      obtain ⟨b', hb', rfl⟩ := List.mem_map.mp hd'
      exact ok.sort.2.1 _ (List.mem_map.mpr ⟨_, inl b hb, rfl⟩) _ (List.mem_map.mpr ⟨_, inl b' hb', rfl⟩)
    · rcases ok.sort.2.2 with h | h
      · refine .inl fun d hd => ?_
        obtain ⟨b, hb, rfl⟩ := List.mem_map.mp hd
        exact h _ (List.mem_map.mpr ⟨_, inl b hb, rfl⟩)
      · refine .inr fun d hd => ?_
        obtain ⟨b, hb, rfl⟩ := List.mem_map.mp hd
        exact h _ (List.mem_map.mpr ⟨_, inl b hb, rfl⟩)
    · have pd : M'.Perm (ddD (ks.map enc)) := by
        refine pM.trans ((List.perm_ext_iff_of_nodup (nodup_mapI e.inj hnd) nodup_ddD).mpr fun d => ?_)
        rw [mem_ddD]
        refine ⟨inl d, fun hd => ?_⟩
        obtain ⟨x, hx, rfl⟩ := List.mem_map.mp hd
        exact List.mem_map.mpr ⟨x, hcov x hx, rfl⟩
      have ef : M'.mergeSort (W.dataLe false toPy) = srtD (ddD (ks.map enc)) := ok.perm _ pd
      obtain ⟨c3, s3⟩ := c2.laid (o := .lst ((M'.mergeSort (W.dataLe false toPy)).map vOf)) hp
      have all : ∃ js : List K, srtD (ddD (ks.map enc)) = js.map enc := by
        have hin : ∀ d ∈ srtD (ddD (ks.map enc)), ∃ x, d = enc x := fun d hd => by
          rw [← ef] at hd
          obtain ⟨x, _, rfl⟩ := List.mem_map.mp (pM.mem_iff.mp ((List.mergeSort_perm _ _).mem_iff.mp hd))
          exact ⟨x, rfl⟩
        exact lf_list hin
      obtain ⟨js, ej⟩ := all
      have rep : Reps F (upd G a2 (kSetO w a2 (M.map emb))) (srtD (ddD (ks.map enc))) ((M'.mergeSort (W.dataLe false toPy)).map vOf) := by
        rw [ef, ej, List.map_map, show js.map (vOf ∘ enc) = js.map emb from List.map_congr_left fun x _ => e.v x]
        exact lf_reps e
      exact k _ _ _ _ _ _ q c3 (s2.trans s3) (Rep.lst upd_same (rep.mono s3.le))
section
variable {X : Cx} {W : WX} {e : Expr} {tL : TXA} {p p2 q pos : Pos}
theorem px_sortSetK (lf : Lf K enc emb) (z : Sc X.prog X.w K emb) (hc : X.calm = true) (hu : X.A.units + 64 < cLine) (hg : Gl X "sorted") (hm : X.mg "sorted" = none) (hg2 : Gl X "set") (hm2 : X.mg "set" = none) (ha : PXA X W [e] tL) (he : starEach [e] X.env = (false, eval e X.env) :: starEach [] X.env := by rfl) :
    PX X W (.Call (.Name "sorted" p) [.Call (.Name "set" p2) [e] [] q] [] pos) (xCall (pSortSetK enc) tL) :=
  ⟨(pe_callB (cr_sortK hc hu) hg hm (by decide +kernel) (pa_cons (pe_callTy (cr_setK z hc hu) hg2 hm2 (by decide +kernel) ha.pa (by decide) (by decide) he rfl) pa_nil rfl) (by decide) (by decide) rfl rfl).imp fun σ H Q h => lift_call (pcall_sortSetK (w := X.w) lf) h⟩
end
end
end PL
namespace PL
open PySem PySem.Spec PyProof.Rows L2 RZ
noncomputable def sortSetKF {K : Type} (enc : K → D) : List SV → M SV := fun ss μ => match ss with
  | [s] => match seqOf s μ with
    | some l => grd (OkSetK enc l) (ret (.d (.lst (srtD (ddD l))))) μ
    | none => .no
  | _ => .no
noncomputable abbrev sortSetSF : List SV → M SV := sortSetKF D.str
section
variable {K : Type} {enc : K → D}
theorem ok_sortSetK : ∀ ss μ x Q, (sortSetKF enc ss μ).fin x Q → pSortSetK enc ss μ Q := by
  intro ss μ x Q h
  unfold sortSetKF at h
  unfold pSortSetK
  split at h
  · split at h
    · rename_i e
      have h2 := fin_grd h
      show on _ _
      rw [e]
      exact h2
    · exact h.elim
  · exact h.elim
variable {X : Cx} {W : WX} {e : Expr} {fl : FA} {n : Nat} {p p2 q pos : Pos}
theorem pf_sortSetS (hc : X.calm = true) (hu : X.A.units + 64 < cLine) (hg : Gl X "sorted") (hm : X.mg "sorted" = none) (hg2 : Gl X "set") (hm2 : X.mg "set" = none) (hl : PXA X W [e] (toA n fl)) (he : starEach [e] X.env = (false, eval e X.env) :: starEach [] X.env := by rfl) :
    PX X W (.Call (.Name "sorted" p) [.Call (.Name "set" p2) [e] [] q] [] pos) (toX n (fCall sortSetSF fl)) := pf_call (px_sortSetK lf_str (scStr X.prog X.w) hc hu hg hm hg2 hm2 hl he) ok_sortSetK
variable {μ : Mem} {l : List D} {k : Nat}
@[simp] theorem sortSetKF_l : sortSetKF enc [.d (.lst l)] μ = grd (OkSetK enc l) (ret (.d (.lst (srtD (ddD l))))) μ := rfl
@[simp] theorem sortSetKF_t : sortSetKF enc [.d (.tup l)] μ = grd (OkSetK enc l) (ret (.d (.lst (srtD (ddD l))))) μ := rfl
@[simp] theorem sortSetKF_n : sortSetKF enc [.d (.ntp l)] μ = grd (OkSetK enc l) (ret (.d (.lst (srtD (ddD l))))) μ := rfl
end
end PL
namespace PL
open PySem PySem.Spec PyProof.Rows L2
open PySem.W (Datum DatumOrd)
--.
--.
end PL
namespace PL
open PySem PySem.Spec PyProof.Rows L2
open PySem.W (Datum DatumOrd)
theorem lost_bk {ths : List Str} {cs : List Int} {p : Rule} (he : ths.length = cs.length) (hc : ∀ c ∈ cs, c = 0 ∨ c = 1) (o : okB ths p) : lost ths cs (bk p) = (hasS ths cs p.1 && hasS ths cs p.2) := by
  unfold lost bk
  rw [has_back he hc o.1, has_back he hc o.2.1, Bool.not_not, Bool.not_not]
theorem keep_bars {ths : List Str} {cs : List Int} {B : List Rule} (he : ths.length = cs.length) (hc : ∀ c ∈ cs, c = 0 ∨ c = 1) (o : ∀ p ∈ B, okB ths p) : keepB ths cs (ruleSet (B.map bk)) = true ↔ ∀ p ∈ B, (hasS ths cs p.1 && hasS ths cs p.2) = false := by
  unfold keepB
  rw [List.all_eq_true]
  constructor
  · intro h p hp
    have := h (bk p) (mem_ruleSet.mpr (List.mem_map.mpr ⟨p, hp, rfl⟩))
    rw [lost_bk he hc (o p hp)] at this
    exact (Bool.not_eq_true' _).mp this
  · intro h r hr
    obtain ⟨p, hp, rfl⟩ := List.mem_map.mp (mem_ruleSet.mp hr)
    rw [lost_bk he hc (o p hp), h p hp]
    rfl
end PL
namespace PL
open PySem PySem.Spec PyProof.Rows L2
open PySem.W (Datum DatumOrd)
abbrev IRow := PySem.W.Tup Int
theorem ll_trans : ∀ {a b c : List Int}, PySem.W.listLt a b = true → PySem.W.listLt b c = true → PySem.W.listLt a c = true
  | [], [], _, h, _ => by cases h
  | [], _ :: _, [], _, h => by cases h
  | [], _ :: _, _ :: _, _, _ => rfl
  | _ :: _, [], _, h, _ => by cases h
  | _ :: _, _ :: _, [], _, h => by cases h
  | x :: xs, y :: ys, z :: zs, h1, h2 => by
    simp only [PySem.W.listLt] at h1 h2 ⊢
    by_cases e1 : x = y
    · subst e1
      rw [if_pos rfl] at h1
      by_cases e2 : x = z
      · rw [if_pos e2] at h2 ⊢
        exact ll_trans h1 h2
      · rw [if_neg e2] at h2 ⊢
        exact h2
    · rw [if_neg e1] at h1
      by_cases e2 : y = z
      · subst e2
        rw [if_neg e1]
        exact h1
      · rw [if_neg e2] at h2
        have h3 := Enc.trans _ _ _ h1 h2
        rw [if_neg (dlt_ne h3)]
        exact h3
theorem ll_tri : ∀ {a b : List Int}, PySem.W.listLt a b = false → PySem.W.listLt b a = false → a = b
  | [], [], _, _ => rfl
  | [], _ :: _, h, _ => by cases h
  | _ :: _, [], _, h => by cases h
  | x :: xs, y :: ys, h1, h2 => by
    simp only [PySem.W.listLt] at h1 h2
    by_cases e1 : x = y
    · subst e1
      rw [if_pos rfl] at h1 h2
      rw [ll_tri h1 h2]
    · rw [if_neg e1] at h1
      rw [if_neg fun e => e1 e.symm] at h2
      exact absurd (Enc.tri _ _ h1 h2) e1
instance : Enc IRow where
  en t := rowD t.items
  okk _ := true
  dep := 1
  py t := by
    have h : ∀ l : List Int, toPys (l.map .int) = l.map Datum.toD := fun l => by
      induction l with
      | nil => rfl
      | cons a l ih => simp only [List.map_cons, toPys, ih, toPy]; rfl
    simp only [toPy, h]
    rfl
  fl t k _ hk := by
    cases k with
    | zero => omega
    | succ k =>
      show flat (k + 1) (.tup _) = true
      rw [flat]
      exact flats_of fun d hd => by
        obtain ⟨x, _, rfl⟩ := List.mem_map.mp hd
        cases k <;> rfl
  trans a b c h1 h2 := ll_trans h1 h2
  tri a b h1 h2 := by
    have := ll_tri h1 h2
    cases a; cases b
    exact congrArg PySem.W.Tup.mk this
end PL
namespace PL
open PySem PySem.Spec PyProof.Rows L2
open PySem.W (Datum DatumOrd)
theorem rise_at {ths : List Str} {i j : Nat} {x y : Str} (hrise : ths.Pairwise fun a b => DatumOrd.lt a b = true) (hx : ths[i]? = some x) (hy : ths[j]? = some y) (h : i < j) : DatumOrd.lt x y = true := by
  obtain ⟨l1, e1⟩ := List.getElem?_eq_some_iff.mp hx
  obtain ⟨l2, e2⟩ := List.getElem?_eq_some_iff.mp hy
  have := List.pairwise_iff_getElem.mp hrise i j l1 l2 h
  rw [e1, e2] at this
  exact this
end PL
namespace PL
open PySem PySem.Spec PyProof.Rows L2
open PySem.W (Datum DatumOrd)
--.
--.
--.
--.
--.
--.
--.
--.
--.
--.
--.
--.
--.
--.
--.
--.
--.
--.
--.
--.
--.
end PL
namespace PL
open PySem PySem.Spec PyProof.Rows L2
open PySem.W (Datum DatumOrd)
end PL
namespace PL
open PySem PySem.Spec PyProof.Rows L2
open PySem.W (Datum DatumOrd)
--.
--.
--.
--.
end PL
namespace PL
open PySem PySem.Spec PyProof.Rows L2
open PySem.W (Datum DatumOrd)
--.
--.
--.
--.
--.
--.
--.
--.
--.
--.
--.
end PL
namespace PL
open PySem PySem.Spec PyProof.Rows L2
open PySem.W (Datum DatumOrd)
--.
--.
end PL
namespace PL
open PySem PySem.Spec PyProof.Rows L2
open PySem.W (Datum DatumOrd)
end PL
namespace PL
open PySem PySem.Spec PyProof.Rows L2
open PySem.W (Datum DatumOrd)
theorem okSetK_str {gs : List Str} (h : ∀ x ∈ gs, PyData.strOk x = true) (few : gs.length ≤ 1000) : OkSetK D.str (gs.map .str) where
  ex := ⟨gs, rfl⟩
  few := by rw [List.length_map]; exact few
  sort := okSort_str h
  perm := fun m hm => by
    have e : gs.map D.str = gs.map (Enc.en (α := Str)) := rfl
    rw [e] at hm ⊢
    rw [ddD_en] at hm ⊢
    obtain ⟨m', h1, rfl⟩ := perm_back hm rfl
    rw [srtD_en, srtD_en, srt_uni h1 (h1.nodup_iff.mpr nodup_ddT)]
theorem sortSet_str {gs : List Str} {μ : Mem} (h : ∀ x ∈ gs, PyData.strOk x = true) (few : gs.length ≤ 1000) : sortSetKF D.str [.d (.lst (gs.map .str))] μ = .ok (.d (.lst ((srt (ddT gs)).map .str))) μ := by
  rw [sortSetKF_l, grd_pos (okSetK_str h few)]
  have e : srtD (ddD (gs.map D.str)) = (srt (ddT gs)).map D.str := sset_en (α := Str)
  rw [e]
  rfl
end PL
namespace PL
open PySem PySem.Spec PyProof.Rows L2
section
variable {X : Cx} {W : WX} {e : Expr} {es : List Expr} {ta : TX} {tL : TXA} {p pos p2 q : Pos}
def starD : SV → Option (List D)
  | .d (.tup l) => some l
  | .d (.ntp l) => some l
  | .d (.lst l) => some l
  | _ => none
def xStar (ta : TX) (tr : TXA) : TXA := fun x ρ μ Q => ta x ρ μ fun s μ1 => onD (starD s) fun ds => tr x ρ μ1 fun ss μ2 => Q (ds.map .d ++ ss) μ2
theorem star_rep {K : PySem.W.Frag} {A : List Addr} {μ : Mem} {G H : Hp} {s : SV} {v : V} {ds : List D} (e : starD s = some ds) (c : Cells K A μ G H) (r : RepS K A G s v) : ∃ a xs, v = .ref a ∧ (SqT K H a xs ∨ SqL K H a xs) ∧ Reps K G ds xs := by
  unfold starD at e
  split at e
  · cases e
    obtain ⟨a, vs, rfl, h, hs⟩ := Reps.sq r
    exact ⟨a, vs, rfl, .inl (c.le.sqT h), hs⟩
  · cases e
    obtain ⟨a, vs, rfl, h, hs⟩ := Reps.sqn r
    exact ⟨a, vs, rfl, .inl (c.le.sqT h), hs⟩
  · cases e
    obtain ⟨a, vs, rfl, h, hs⟩ := Reps.sql r
    exact ⟨a, vs, rfl, .inr (SqL.of (c.le _ _ h)), hs⟩
  · cases e
theorem repsS_app {K : PySem.W.Frag} {A : List Addr} {G : Hp} : ∀ {ds : List D} {xs : List V} {ss : List SV} {vs : List V}, Reps K G ds xs → RepsS K A G ss vs → RepsS K A G (ds.map .d ++ ss) (xs ++ vs)
  | _, _, _, _, .nil, h => h
  | _, _, _, _, .cons r t, h => .cons r (repsS_app t h)
theorem pxa_star (ha : PX X W e ta) (hr : PXA X W es tL) (hs : starEach (.Starred e p :: es) X.env = (true, eval e X.env) :: starEach es X.env := by rfl) : PXA X W (.Starred e p :: es) (xStar ta tL) := by
  refine ⟨(StX.pa_star ha.pe hr.pa hs).imp fun σ H Q h => ?_⟩
  obtain ⟨A, ρ, μ, G, Qp, xp, S, ht, hx, k⟩ := h
  refine ⟨A, ρ, μ, G, _, xp, S, ht, hx, fun r μ' A' G' H' v q c s rr => ?_⟩
  obtain ⟨ds, e1, q⟩ := onD_of q
  obtain ⟨a, xs, rfl, h1, rs⟩ := star_rep e1 c rr
  exact ⟨a, xs, rfl, h1, A', ρ, μ', G', _, xp, S.after s c, q, hx.after s, fun rs2 μ2 A2 G2 H2 vs q2 c2 s2 rr2 => k _ _ _ _ _ _ q2 c2 (s.trans s2) (repsS_app (rs.mono s2.le) rr2)⟩
def allI : List D → Option (List Int)
  | [] => some []
  | .int i :: r => (allI r).map (i :: ·)
  | _ :: _ => none
theorem allI_reps {K : PySem.W.Frag} {G : Hp} : ∀ {ds : List D} {ns : List Int} {vs : List V}, allI ds = some ns → Reps K G ds vs → vs = ns.map V.int
  | [], _, _, e, .nil => by simp [allI] at e; subst e; rfl
  | .int i :: r, ns, _, e, .cons h t => by
    simp only [allI, Option.map_eq_some_iff] at e
    obtain ⟨ms, e1, rfl⟩ := e
    cases h
    rw [allI_reps e1 t]; rfl
  | .non :: _, _, _, e, _ => by simp [allI] at e
  | .bl _ :: _, _, _, e, _ => by simp [allI] at e
  | .str _ :: _, _, _, e, _ => by simp [allI] at e
  | .fn _ :: _, _, _, e, _ => by simp [allI] at e
  | .ty _ :: _, _, _, e, _ => by simp [allI] at e
  | .scr _ :: _, _, _, e, _ => by simp [allI] at e
  | .tup _ :: _, _, _, e, _ => by simp [allI] at e
  | .ntp _ :: _, _, _, e, _ => by simp [allI] at e
  | .lst _ :: _, _, _, e, _ => by simp [allI] at e
  | .dic _ _ _ :: _, _, _, e, _ => by simp [allI] at e
  | .obj _ _ _ :: _, _, _, e, _ => by simp [allI] at e
def pSum : List SV → Mem → VP → Prop := fun ss μ Q => match ss with
  | [.d (.lst ds)] => match allI ds with
    | some ns => Q (.d (.int ns.sum)) μ
    | none => False
  | _ => False
theorem pcall_sum {K : PySem.W.Frag} : PCall K (rSum K) pSum := by
  intro ss μ A G H vs Qp Q h c rs k
  unfold pSum at h
  split at h
  · split at h
    · rename_i ns e
      match rs with
      | .cons r .nil =>
        obtain ⟨a, xs, rfl, h1, hs⟩ := Reps.sql r
        have hx := allI_reps e hs
        subst hx
        exact ⟨a, ns, rfl, SqL.of (c.le _ _ h1), k _ _ _ _ _ _ h c .refl (.int _)⟩
    · exact h.elim
  · exact h.elim
theorem px_sum (hc : X.calm = true) (hg : Gl X "sum") (hm : X.mg "sum" = none) (ha : PXA X W [e] tL) (he : starEach [e] X.env = (false, eval e X.env) :: starEach [] X.env := by rfl) : PX X W (.Call (.Name "sum" p) [e] [] pos) (xCall pSum tL) :=
  px_callB (cr_sum hc) pcall_sum hg hm (by decide +kernel) ha (by decide) (by decide) he rfl
def rgDs (a b : Int) : List D := (List.range (b - a).toNat).map fun i => D.int (a + (i : Nat))
end
end PL
namespace PL
open PySem PySem.Spec PyProof.Rows L2 RZ
def starF (s : SV) : M (List D) := fun μ => match starD s with
  | some ds => .ok ds μ
  | none => .no
def fStar (a : FX) (r : FA) : FA := fun ρ => bnd (a ρ) fun s => bnd (starF s) fun ds => bnd (r ρ) fun ss => ret (ds.map .d ++ ss)
def sumF : List SV → M SV := fun ss μ => match ss with
  | [.d (.lst ds)] => match allI ds with
    | some ns => .ok (.d (.int ns.sum)) μ
    | none => .no
  | _ => .no
theorem ok_sum : ∀ ss μ x Q, (sumF ss μ).fin x Q → pSum ss μ Q := by
  intro ss μ x Q h
  unfold sumF at h
  unfold pSum
  split at h
  · split at h
    · rename_i ns e
      try simp only [e]
      exact h
    · exact h.elim
  · exact h.elim
noncomputable def rgF (mk : List D → D) : List SV → M SV := fun ss μ => match ss with
  | [.d (.int n)] => grd (RgOk 0 n) (ret (.d (mk (rgDs 0 n)))) μ
  | [.d (.int i), .d (.int j)] => grd (RgOk i j) (ret (.d (mk (rgDs i j)))) μ
  | _ => .no
section
variable {n : Nat} {X : Cx} {W : WX} {e : Expr} {es : List Expr} {fa : FX} {fl : FA} {pos p p2 q : Pos}
theorem pfa_star (ha : PX X W e (toX n fa)) (hr : PXA X W es (toA n fl)) (hs : starEach (.Starred e p :: es) X.env = (true, eval e X.env) :: starEach es X.env := by rfl) : PXA X W (.Starred e p :: es) (toA n (fStar fa fl)) :=
  (pxa_star ha hr hs).to fun x ρ μ Q ⟨hn, h⟩ => ⟨hn, R.mono (fin_bnd.mp h) fun s μ1 h1 => by
    have h2 := fin_bnd.mp h1
    unfold starF at h2
    cases e : starD s with
    | none => rw [e] at h2; exact h2.elim
    | some ds =>
      rw [e] at h2
      exact ⟨hn, R.mono (fin_bnd.mp h2) fun ss μ2 h3 => h3⟩⟩
theorem pf_sum (hc : X.calm = true) (hg : Gl X "sum") (hm : X.mg "sum" = none) (hl : PXA X W [e] (toA n fl)) (he : starEach [e] X.env = (false, eval e X.env) :: starEach [] X.env := by rfl) : PX X W (.Call (.Name "sum" p) [e] [] pos) (toX n (fCall sumF fl)) := pf_call (px_sum hc hg hm hl he) ok_sum
end
@[simp ↓] theorem fStar_s {a : FX} {r : FA} {ρ : FEnv} {μ : Mem} : fStar a r ρ μ = bR (a ρ μ) fun s => bnd (starF s) fun ds => bnd (r ρ) fun ss => ret (ds.map .d ++ ss) := bnd_s
@[simp] theorem starF_t {l : List D} {μ : Mem} : starF (.d (.tup l)) μ = .ok l μ := rfl
@[simp] theorem starF_n {l : List D} {μ : Mem} : starF (.d (.ntp l)) μ = .ok l μ := rfl
@[simp] theorem starF_l {l : List D} {μ : Mem} : starF (.d (.lst l)) μ = .ok l μ := rfl
@[simp] theorem rgF_1 {mk : List D → D} {i : Int} {μ : Mem} : rgF mk [.d (.int i)] μ = grd (RgOk 0 i) (ret (.d (mk (rgDs 0 i)))) μ := rfl
@[simp] theorem rgF_2 {mk : List D → D} {i j : Int} {μ : Mem} : rgF mk [.d (.int i), .d (.int j)] μ = grd (RgOk i j) (ret (.d (mk (rgDs i j)))) μ := rfl
end PL
namespace PL
open PySem PySem.Spec PyProof.Rows L2
open PySem.W (Datum DatumOrd)
noncomputable def f_names_of_by : List SV → M SV := fDef 1 (fRet (fCall tupF (fCons (fCall sortSetSF (fCons (fLc2 finLF (itF (fV 0)) (gN 1) fYes (itF (fTup (fCons (fOp ixF (fV 1) (fC (.int 0))) (fCons (fOp ixF (fV 1) (fC (.int 1))) fNil)))) (gN 2) fYes (fV 2) [1, 2] [2]) fNil)) fNil)))
--.
noncomputable def f_rules_of_tie : List SV → M SV := fDef 1 (fSeq (fAsg (fV 0) (gT [(gN 1), (gN 2), (gN 3)]))
  (fRet (fTup (fCons (fTup (fCons (fTup (fCons (fV 1) (fCons (fC (.int 0)) fNil))) (fCons (fTup (fCons (fV 2) (fCons (fOp subF (fC (.int 1)) (fV 3)) fNil))) fNil))) (fCons (fTup (fCons (fTup (fCons (fV 1) (fCons (fC (.int 1)) fNil))) (fCons (fTup (fCons (fV 2) (fCons (fV 3) fNil))) fNil))) fNil)))))
--.
noncomputable def f__law_urn (c0 c1 c2 c3 c4 c5 c6 c7 c8 : Int) : List SV → M SV := fDef 2 (fSeq (fAsg (fIf (fT (fOp ltF (fV 1) (fCall lenF (fCons (fV 0) fNil)))) (fCall intF (fCons (fOp ixF (fV 0) (fV 1)) fNil)) (fOp addF (fOp addF (fOp mulF (fC (.int c6)) (fV 1)) (fC (.int c7))) (fOp modF (fCall intF (fCons (fCall sumF (fCons (fSl slF (fV 0) fNone (fSome (fC (.int 5)))) fNil)) fNil)) (fC (.int c8))))) (gN 2))
  (fSeq (fAsg (fOp addF (fC (.int c4)) (fOp mulF (fC (.int c5)) (fV 1))) (gN 3))
  (fSeq (fFor (itF (fOp addF (fSl slF (fV 0) fNone (fSome (fC (.int 11)))) (fLst (fCons (fV 2) fNil)))) (gN 4) (fAsg (fOp modF (fCall intF (fCons (fOp addF (fOp addF (fOp mulF (fV 3) (fC (.int c0))) (fOp modF (fCall intF (fCons (fV 4) fNil)) (fC (.int c1)))) (fC (.int c2))) fNil)) (fC (.int c3))) (gN 3)))
  (fRet (fLstC (fCons (fIf (fTOr (fT (fOp ltF (fV 2) (fC (.int 0)))) (fT (fOp geF (fV 2) (fOp powF (fC (.int 10)) (fC (.int 18)))))) (fCall absF (fCons (fV 2) fNil)) (fC (.int 0))) (fCons (fV 3) (fCons (fC (.int 0)) fNil))))))))
--.
noncomputable def f__law_nip (c0 c1 c2 c3 c4 c5 : Int) : List SV → M SV := fDef 2 (fSeq (fIfS (fT (fOp gtF (fOp ixF (fV 0) (fC (.int 0))) (fC (.int 0)))) (fSeq (fAsg (fCall divmodF (fCons (fOp ixF (fV 0) (fC (.int 0))) (fCons (fV 1) fNil))) (gT [(gSub (fV 0) (fC (.int 0))), (gN 2)]))
  (fRet (fV 2))) fSkip)
  (fSeq (fAsg (fOp addF (fOp ixF (fV 0) (fC (.int 2))) (fC (.int 1))) (gSub (fV 0) (fC (.int 2))))
  (fSeq (fAsg (fOp modF (fCall intF (fCons (fOp addF (fOp addF (fOp mulF (fOp ixF (fV 0) (fC (.int 1))) (fC (.int c3))) (fOp mulF (fOp ixF (fV 0) (fC (.int 2))) (fC (.int c4)))) (fC (.int 23))) fNil)) (fC (.int c5))) (gN 3))
  (fSeq (fAsg (fOp modF (fCall intF (fCons (fOp addF (fOp mulF (fV 3) (fOp addF (fOp mulF (fC (.int 2)) (fOp divF (fV 3) (fC (.int 37)))) (fC (.int c1)))) (fOp ixF (fV 0) (fC (.int 2)))) fNil)) (fC (.int c2))) (gSub (fV 0) (fC (.int 1))))
  (fRet (fOp modF (fCall intF (fCons (fOp divF (fOp ixF (fV 0) (fC (.int 1))) (fC (.int c0))) fNil)) (fV 1)))))))
--.
noncomputable def f__law_same_k54 : Nat → List SV → M SV
  | 0 => fun _ _ => .no
  | n + 1 => fDef 2 (fSeq (fIfS (fT (fCall (is2F .tuple .list) (fCons (fV 0) (fCons (fTup (fCons (fC (.ty "tuple")) (fCons (fC (.ty "list")) fNil))) fNil)))) (fSeq (fIfS (fTOr (fT (fOp neF (fUn (isiF .tuple) (fV 0)) (fUn (isiF .tuple) (fV 1)))) (fT (fOp neF (fUn (isiF .list) (fV 0)) (fUn (isiF .list) (fV 1))))) (fRet (fC (.bl false))) fSkip)
  (fRet (fAnd (fOp eqF (fCall lenF (fCons (fV 0) fNil)) (fCall lenF (fCons (fV 1) fNil))) (fOp niF (fC (.bl false)) (fLc finLF (zipF (fCons (fV 0) (fCons (fV 1) fNil))) (gT [(gN 2), (gN 3)]) fYes (fCall (callM (f__law_same_k54 n)) (fCons (fV 2) (fCons (fV 3) fNil))) [2, 3]))))) fSkip)
  (fSeq (fIfS (fTOr (fT (fCall (is2F .tuple .list) (fCons (fV 1) (fCons (fTup (fCons (fC (.ty "tuple")) (fCons (fC (.ty "list")) fNil))) fNil)))) (fT (fOp neF (fUn (isiF .bool) (fV 0)) (fUn (isiF .bool) (fV 1))))) (fRet (fC (.bl false))) fSkip)
  (fRet (fAnd (fOp eqF (fUn (isiF .str) (fV 0)) (fUn (isiF .str) (fV 1))) (fOp eqF (fV 0) (fV 1))))))
--.
noncomputable def f__law_keeps_k54 : List SV → M SV := fDef 2 (fSeq (fAsg (fCall dzipF (fCons (fOp ixF (fV 0) (fC (.int 0))) (fCons (fV 1) fNil))) (gN 2))
  (fRet (fOp niF (fC (.bl true)) (fLc finLF (itF (fOp ixF (fV 0) (fC (.int 1)))) (gT [(gN 3), (gN 4)]) fYes (fAnd (fOp neF (fOp dgetF (fV 2) (fOp ixF (fV 3) (fC (.int 0)))) (fOp ixF (fV 3) (fC (.int 1)))) (fOp neF (fOp dgetF (fV 2) (fOp ixF (fV 4) (fC (.int 0)))) (fOp ixF (fV 4) (fC (.int 1))))) [3, 4]))))
--.
noncomputable def f__law_names_of : List SV → M SV := fDef 1 (fRet (fCall tupF (fCons (fCall sortSetSF (fCons (fOp addF (fLc finLF (itF (fV 0)) (gN 1) fYes (fOp ixF (fV 1) (fC (.int 0))) [1]) (fLc finLF (itF (fV 0)) (gN 1) fYes (fOp ixF (fV 1) (fC (.int 1))) [1])) fNil)) fNil)))
--.
noncomputable def f__law_is_kept : List SV → M SV := fDef 3 (fSeq (fAsg (fCall dzipF (fCons (fV 0) (fCons (fV 2) fNil))) (gN 3))
  (fRet (fOp niF (fC (.bl false)) (fLc finLF (itF (fV 1)) (gT [(gN 4), (gN 5), (gN 6)]) fYes (fOp eqF (fOp neF (fOp dgetF (fV 3) (fV 4)) (fOp dgetF (fV 3) (fV 5))) (fOp eqF (fV 6) (fC (.int 1)))) [4, 5, 6]))))
--.
noncomputable def f__law_rules : List SV → M SV := fDef 1 (fSeq (fAsg (fV 0) (gT [(gN 1), (gN 2), (gN 3)]))
  (fRet (fLc finLF (itF (fTup (fCons (fC (.int 0)) (fCons (fC (.int 1)) fNil)))) (gN 4) fYes (fTup (fCons (fTup (fCons (fV 1) (fCons (fV 4) fNil))) (fCons (fTup (fCons (fV 2) (fCons (fIf (fT (fOp eqF (fV 3) (fC (.int 1)))) (fV 4) (fOp subF (fC (.int 1)) (fV 4))) fNil))) fNil))) [4])))
--.
noncomputable def f_book_of_ties_by : List SV → M SV := fDef 1 (fRet (fCall (callM f_with_rules) (fCons (fCall (callM f_names_of_by) (fCons (fV 0) fNil)) (fCons (fCall tupF (fCons (fLc2 finLF (itF (fV 0)) (gN 1) fYes (itF (fCall (callM f_rules_of_tie) (fCons (fV 1) fNil))) (gN 2) fYes (fV 2) [1, 2] [2]) fNil)) fNil))))
--.
noncomputable def f__law_any_things (BEL : List SV → M SV) : List SV → M SV := fDef 2 (fSeq (fPar 2 3 (fCons (fLstC (fCons (fC (.str "a")) (fCons (fC (.str "ale")) (fCons (fC (.str "b")) (fCons (fC (.str "bob")) (fCons (fC (.str "cat")) (fCons (fC (.str "eve")) (fCons (fC (.str "fig")) (fCons (fC (.str "hat")) (fCons (fC (.str "ink")) (fCons (fC (.str "not")) (fCons (fC (.str "oil")) (fCons (fC (.str "or")) (fCons (fC (.str "rye")) (fCons (fC (.str "zzzzzzzz")) fNil))))))))))))))) (fCons (fLstC fNil) fNil)))
  (fSeq (fFor (rng1F (fCons (fOp addF (fC (.int 1)) (fCall (callM BEL) (fCons (fV 0) (fCons (fV 1) fNil)))) fNil)) (gN 4) (fExpr (fMethL appendF (fV 3) (fCons (fMethL popAtF (fV 2) (fCons (fCall (callM BEL) (fCons (fV 0) (fCons (fCall lenF (fCons (fV 2) fNil)) fNil))) fNil)) fNil))))
  (fRet (fCall tupF (fCons (fCall sortedF (fCons (fV 3) fNil)) fNil)))))
--.
noncomputable def f_is_tie : List SV → M SV := fDef 1 (fSeq (fIfS (fTOr (fTNot (fT (fCall (callM f_is_tuple_of) (fCons (fV 0) (fCons (fC (.int 3)) fNil))))) (fTOr (fTNot (fT (fCall (callM f_is_name) (fCons (fOp ixF (fV 0) (fC (.int 0))) fNil)))) (fTNot (fT (fCall (callM f_is_name) (fCons (fOp ixF (fV 0) (fC (.int 1))) fNil)))))) (fRet (fC (.bl false))) fSkip)
  (fRet (fAnd (fOp ltF (fOp ixF (fV 0) (fC (.int 0))) (fOp ixF (fV 0) (fC (.int 1)))) (fCall (callM f_is_between) (fCons (fOp ixF (fV 0) (fC (.int 2))) (fCons (fC (.int 0)) (fCons (fC (.int 1)) fNil)))))))
--.
noncomputable def f__law_any_ties (BEL : List SV → M SV) : List SV → M SV := fDef 3 (fSeq (fPar 3 4 (fCons (fCall (callM (f__law_any_things BEL)) (fCons (fV 0) (fCons (fV 1) fNil))) (fCons (fLst fNil) fNil)))
  (fSeq (fAsg (fIf (fT (fOp gtF (fCall lenF (fCons (fV 3) fNil)) (fC (.int 1)))) (fV 3) (fTup (fCons (fC (.str "ann")) (fCons (fC (.str "bob")) fNil)))) (gN 3))
  (fSeq (fFor (rng1F (fCons (fOp addF (fC (.int 1)) (fCall (callM BEL) (fCons (fV 0) (fCons (fV 2) fNil)))) fNil)) (gN 5) (fSeq (fPar 6 7 (fCons (fCall (callM (f__law_one BEL)) (fCons (fV 0) (fCons (fV 3) fNil))) (fCons (fCall (callM (f__law_one BEL)) (fCons (fV 0) (fCons (fV 3) fNil))) fNil)))
  (fAsg (fOp addF (fV 4) (fIf (fT (fOp neF (fV 6) (fV 7))) (fLst (fCons (fTup (fCons (fCall minF (fCons (fV 6) (fCons (fV 7) fNil))) (fCons (fCall maxF (fCons (fV 6) (fCons (fV 7) fNil))) (fCons (fCall (callM BEL) (fCons (fV 0) (fCons (fC (.int 2)) fNil))) fNil)))) fNil)) (fLst fNil))) (gN 4))))
  (fRet (fIf (fT (fOp neF (fV 4) (fLst fNil))) (fSl slF (fCall tupF (fCons (fCall sortSetF (fCons (fV 4) fNil)) fNil)) fNone (fSome (fC (.int 60)))) (fTup (fCons (fTup (fCons (fOp ixF (fV 3) (fC (.int 0))) (fCons (fOp ixF (fV 3) (fC (.int 1))) (fCons (fC (.int 0)) fNil)))) fNil)))))))
--.
noncomputable def f__law_great_ties (BEL : List SV → M SV) : List SV → M SV := fDef 1 (fSeq (fPar 1 2 (fCons (fCall (callM (f__law_any_things BEL)) (fCons (fV 0) (fCons (fC (.int 14)) fNil))) (fCons (fLst fNil) fNil)))
  (fSeq (fFor (rng1F (fCons (fC (.int 20)) fNil)) (gN 3) (fAsg (fIf (fT (fOp gtF (fCall lenF (fCons (fV 1) fNil)) (fC (.int 9)))) (fV 1) (fCall (callM (f__law_any_things BEL)) (fCons (fV 0) (fCons (fC (.int 14)) fNil)))) (gN 1)))
  (fSeq (fFor (enumF (fCons (fV 1) fNil)) (gT [(gN 4), (gN 5)]) (fAsg (fOp addF (fV 2) (fLc finLF (itF (fSl slF (fV 1) (fSome (fOp addF (fV 4) (fC (.int 1)))) fNone)) (gN 6) fYes (fTup (fCons (fV 5) (fCons (fV 6) (fCons (fCall (callM BEL) (fCons (fV 0) (fCons (fC (.int 2)) fNil))) fNil)))) [6])) (gN 2)))
  (fRet (fIf (fT (fOp neF (fV 2) (fLst fNil))) (fCall tupF (fCons (fSl slF (fV 2) fNone (fSome (fC (.int 60)))) fNil)) (fTup (fCons (fTup (fCons (fC (.str "a")) (fCons (fC (.str "b")) (fCons (fC (.int 1)) fNil)))) fNil)))))))
--.
noncomputable def f_does_fit_behind : List SV → M SV := fDef 2 (fSeq (fIfS (fTOr (fTNot (fT (fCall (callM f_is_tie) (fCons (fV 1) fNil)))) (fTAnd (fT (fOp neF (fV 0) (fTup fNil))) (fT (fOp leF (fV 1) (fOp ixF (fV 0) (fUn negF (fC (.int 1)))))))) (fRet (fC (.bl false))) fSkip)
  (fRet (fOp leF (fCall lenF (fCons (fCall (callM f_names_of_by) (fCons (fTup (fStar (fV 0) (fCons (fV 1) fNil))) fNil)) fNil)) (fC (.int 14)))))
--.
noncomputable def f_wrong_in_ties : List SV → M SV := fDef 1 (fSeq (fIfS (fTOr (fTNot (fT (fUn (isiF .tuple) (fV 0)))) (fTNot (fT (fChain ileF ileF (fC (.int 1)) (fCall lenF (fCons (fV 0) fNil)) (fC (.int 60)))))) (fRet (fLst (fCons (fC .non) fNil))) fSkip)
  (fSeq (fFor (enumF (fCons (fV 0) fNil)) (gT [(gN 1), (gN 2)]) (fIfS (fTNot (fT (fCall (callM f_does_fit_behind) (fCons (fSl slF (fV 0) fNone (fSome (fV 1))) (fCons (fV 2) fNil))))) (fRet (fLst (fCons (fV 1) fNil))) fSkip))
  (fRet (fLst fNil))))
--.
noncomputable def f_check_ties : List SV → M SV := fDef 1 (fFor (itF (fCall (callM f_wrong_in_ties) (fCons (fV 0) fNil))) (gN 1) fNever)
--.
noncomputable def f_names_of : List SV → M SV := fDef 1 (fSeq (fExpr (fCall (callM f_check_ties) (fCons (fV 0) fNil)))
  (fRet (fCall (callM f_names_of_by) (fCons (fV 0) fNil))))
--.
noncomputable def f_book_of_ties : List SV → M SV := fDef 1 (fSeq (fExpr (fCall (callM f_check_ties) (fCons (fV 0) fNil)))
  (fRet (fCall (callM f_book_of_ties_by) (fCons (fV 0) fNil))))
--.
structure Tie where
  a : Str
  b : Str
  s : Int
  deriving DecidableEq
theorem Tie.ext' {t u : Tie} (h1 : t.a = u.a) (h2 : t.b = u.b) (h3 : t.s = u.s) : t = u := by
  cases t; cases u; simp only at h1 h2 h3; subst h1 h2 h3; rfl
instance : Datum Tie where
  toD t := .tuple [Datum.toD t.a, Datum.toD t.b, Datum.toD t.s]
  plain t := by simp only [PyData.plain, PyData.plainAll, Datum.plain, Bool.and_self]
  eqv t u := by
    simp only [PyData.eqv, PyData.eqvAll]
    rw [Datum.eqv, Datum.eqv, Datum.eqv, Bool.and_true, ← Bool.decide_and, ← Bool.decide_and]
    exact decide_eq_decide.mpr ⟨fun e => Tie.ext' e.1 e.2.1 e.2.2, fun e => by rw [e]; exact ⟨rfl, rfl, rfl⟩⟩
  depth := 1
  depth_le t := by
    simp only [PyData.depth, PyData.depthAll]
    have h1 := Datum.depth_le t.a
    have h2 := Datum.depth_le t.b
    have h3 := Datum.depth_le t.s
    have e1 : Datum.depth Str = 0 := rfl
    have e2 : Datum.depth Int = 0 := rfl
    omega
instance : DatumOrd Tie where
  lt t u := if t.a = u.a then (if t.b = u.b then DatumOrd.lt t.s u.s else DatumOrd.lt t.b u.b) else DatumOrd.lt t.a u.a
  alike t u := by
    show PySem.W.alike (.tuple [_, _, _]) (.tuple [_, _, _]) = true
    simp only [PySem.W.alike, PySem.W.alikeAll, DatumOrd.alike, Bool.and_self]
  notNone a := fun e => by cases e
  lt_eq t u := by
    refine (PySem.W.dataLt_tuple _ _).trans ?_
    by_cases h : t.a = u.a
    · rw [if_pos h, PySem.W.dataLt_all_yes (DatumOrd.alike t.a u.a) (by rw [Datum.eqv, decide_eq_true_eq]; exact h)]
      by_cases h2 : t.b = u.b
      · rw [if_pos h2, PySem.W.dataLt_all_yes (DatumOrd.alike t.b u.b) (by rw [Datum.eqv, decide_eq_true_eq]; exact h2)]
        by_cases h3 : t.s = u.s
        · rw [PySem.W.dataLt_all_yes (DatumOrd.alike t.s u.s) (by rw [Datum.eqv, decide_eq_true_eq]; exact h3), lex_irrefl, h3]
          exact (PySem.W.dataLt_self _).symm.trans (DatumOrd.lt_eq u.s u.s)
        · rw [PySem.W.dataLt_all_no (DatumOrd.alike t.s u.s) (by rw [Datum.eqv, decide_eq_false_iff_not]; exact h3)]
          exact DatumOrd.lt_eq t.s u.s
      · rw [if_neg h2, PySem.W.dataLt_all_no (DatumOrd.alike t.b u.b) (by rw [Datum.eqv, decide_eq_false_iff_not]; exact h2)]
        exact DatumOrd.lt_eq t.b u.b
    · rw [if_neg h, PySem.W.dataLt_all_no (DatumOrd.alike t.a u.a) (by rw [Datum.eqv, decide_eq_false_iff_not]; exact h)]
      exact DatumOrd.lt_eq t.a u.a
theorem dlt_tie {t u : Tie} : DatumOrd.lt t u = if t.a = u.a then (if t.b = u.b then DatumOrd.lt t.s u.s else DatumOrd.lt t.b u.b) else DatumOrd.lt t.a u.a := rfl
/-- as nested pairs -/
theorem dlt_tie2 {t u : Tie} : DatumOrd.lt t u = DatumOrd.lt (t.a, t.b, t.s) (u.a, u.b, u.s) := by
  rw [dlt_tie, dlt_pair]
  simp only
  rw [dlt_pair]
abbrev tiD (t : Tie) : D := .tup [.str t.a, .str t.b, .int t.s]
instance : Enc Tie where
  en := tiD
  okk t := PyData.strOk t.a && PyData.strOk t.b
  dep := 1
  py t := by simp only [toPy, toPys]; rfl
  fl t k h hk := by
    cases k with
    | zero => omega
    | succ k =>
      simp only [Bool.and_eq_true] at h
      have e1 : flat k (.str t.a) = true := by cases k <;> exact h.1
      have e2 : flat k (.str t.b) = true := by cases k <;> exact h.2
      have e3 : flat k (.int t.s) = true := by cases k <;> rfl
      show (flat k (.str t.a) && (flat k (.str t.b) && (flat k (.int t.s) && true))) = true
      rw [e1, e2, e3]
      rfl
  trans a b c h1 h2 := by
    rw [dlt_tie2] at h1 h2 ⊢
    exact Enc.trans _ _ _ h1 h2
  tri a b h1 h2 := by
    rw [dlt_tie2] at h1 h2
    have := Enc.tri _ _ h1 h2
    simp only [Prod.mk.injEq] at this
    exact Tie.ext' this.1 this.2.1 this.2.2
def okTie (t : Tie) : Prop := nmB t.a = true ∧ nmB t.b = true ∧ DatumOrd.lt t.a t.b = true ∧ (t.s = 0 ∨ t.s = 1)
theorem tie_is {t : Tie} (h : okTie t) : Is (tiD t) t := Is.en (α := Tie) (by
  show (PyData.strOk t.a && PyData.strOk t.b) = true
  rw [nmB_strOk h.1, nmB_strOk h.2.1]
  rfl)
theorem key_tie {t : Tie} : IsKeyD (tiD t) := ⟨.tup [.text t.a, .text t.b, .num t.s], by simp [toPy, toPys, kOf, kOfs], by simp [NestedKey.depth, NestedKey.depthAll]⟩
theorem plain_tie {t : Tie} (h : okTie t) : plain (tiD t) = true := by
  have : plains [.str t.a, .str t.b, .int t.s] = true := plains_iff.mpr fun d hd => by
    simp only [List.mem_cons, List.not_mem_nil, or_false] at hd
    rcases hd with rfl | rfl | rfl
    · exact plain_name (nmB_good h.1)
    · exact plain_name (nmB_good h.2.1)
    · rfl
  exact plain_tupD (l := [.str t.a, .str t.b, .int t.s]) rfl (by simp) this
/-- the names in ties, in order -/
def nmsT (T : List Tie) : List Str := T.flatMap fun t => [t.a, t.b]
def namesT (T : List Tie) : List Str := srt (ddT (nmsT T))
theorem mem_namesT {T : List Tie} {x : Str} : x ∈ namesT T ↔ ∃ t ∈ T, x = t.a ∨ x = t.b := by
  unfold namesT nmsT
  rw [mem_srt, mem_ddT, List.mem_flatMap]
  simp only [List.mem_cons, List.not_mem_nil, or_false]
theorem nmsT_len {T : List Tie} : (nmsT T).length = 2 * T.length := by
  unfold nmsT
  induction T with
  | nil => rfl
  | cons t T ih => rw [List.flatMap_cons, List.length_append, ih]; simp; omega
theorem nms_ok {T : List Tie} (ok : ∀ t ∈ T, okTie t) : ∀ x ∈ nmsT T, nmB x = true := fun x hx => by
  unfold nmsT at hx
  obtain ⟨t, ht, hx⟩ := List.mem_flatMap.mp hx
  simp only [List.mem_cons, List.not_mem_nil, or_false] at hx
  rcases hx with rfl | rfl
  · exact (ok t ht).1
  · exact (ok t ht).2.1
theorem names_nm {T : List Tie} (ok : ∀ t ∈ T, okTie t) : ∀ x ∈ namesT T, nmB x = true := fun x hx => by
  obtain ⟨t, ht, rfl | rfl⟩ := mem_namesT.mp hx
  · exact (ok t ht).1
  · exact (ok t ht).2.1
theorem sortedSet_of {l m : List Str} (h : ∀ x, x ∈ l ↔ x ∈ m) : srt (ddT l) = srt (ddT m) := rise_unique (srt_lt nodup_ddT) (srt_lt nodup_ddT) fun a => by
  rw [mem_srt, mem_srt, mem_ddT, mem_ddT, h]
theorem names_of_by_ok {T : List Tie} {w : D} {μ : Mem} (hw : tupD w = some (T.map tiD)) (ok : ∀ t ∈ T, okTie t) (few : T.length ≤ 100) : f_names_of_by [.d w] μ = .ok (.d (.ntp ((namesT T).map .str))) μ := by
  have id1 : ∀ (ρ : FEnv) (L : List D) μ, cLoop (cStep (gN 2) fYes (fV 2) [2] ρ) L μ = .ok L μ := fun ρ L μ => by
    have := cLoop_map (step := cStep (gN 2) fYes (fV 2) [2] ρ) (μ := μ) (ds := L) (f := fun d => d) fun d _ => by simp (disch := first | assumption | omega | (simp [sizeLine_eq]; done) | (simp [sizeLine_eq]; omega) | fail) [isK, isKB, tupD, sizeLine_eq, grd_pos, cStep]
    simpa using this
  have lp : ∀ (ρ : FEnv) μ, cLoop2 (cStep2 (gN 1) fYes (itF (fTup (fCons (fOp ixF (fV 1) (fC (.int 0))) (fCons (fOp ixF (fV 1) (fC (.int 1))) fNil)))) (gN 2) fYes (fV 2) [1, 2] [2] ρ) (T.map tiD) μ = .ok ((nmsT T).map .str) μ := fun ρ μ => by
    rw [cLoop2_mapT (f := fun t : Tie => [D.str t.a, D.str t.b]) fun t ht => ?_]
    · unfold nmsT
      rw [List.map_flatMap]
      rfl
    · simp (disch := first | assumption | omega | (simp [sizeLine_eq]; done) | (simp [sizeLine_eq]; omega) | fail) [isK, isKB, tupD, sizeLine_eq, grd_pos, cStep2, id1]
  have nl := nmsT_len (T := T)
  have hz : (nmsT T).length ≤ 16777216 := by omega
  have so := fun μ => sortSet_str (gs := nmsT T) (μ := μ) (fun x hx => nmB_strOk (nms_ok ok x hx)) (by omega)
  have so : ∀ μ, sortSetKF D.str [.d (.lst ((nmsT T).map .str))] μ = .ok (.d (.lst ((namesT T).map .str))) μ := so
  generalize nmsT T = N at *
  have main : ∀ w', (w' = .tup (T.map tiD) ∨ w' = .ntp (T.map tiD)) → f_names_of_by [.d w'] μ = .ok (.d (.ntp ((namesT T).map .str))) μ := by
    intro w' h
    rcases h with rfl | rfl <;> simp (disch := first | assumption | omega | (simp [sizeLine_eq]; done) | (simp [sizeLine_eq]; omega) | fail) [isK, isKB, tupD, sizeLine_eq, grd_pos, f_names_of_by, lp, finLF, hz, so, -List.map_map]
  exact main w (by cases w <;> simp [tupD] at hw <;> subst hw <;> simp)
theorem law_names_ok54 {T : List Tie} {w : D} {μ : Mem} (hw : tupD w = some (T.map tiD)) (ok : ∀ t ∈ T, okTie t) (few : T.length ≤ 100) : f__law_names_of [.d w] μ = .ok (.d (.ntp ((namesT T).map .str))) μ := by
  have lp0 : ∀ (ρ : FEnv) μ, cLoop (cStep (gN 1) fYes (fOp ixF (fV 1) (fC (.int 0))) [1] ρ) (T.map tiD) μ = .ok (T.map fun t => .str t.a) μ := fun ρ μ => cLoop_mapT (en := tiD) (f := fun t : Tie => .str t.a) fun t ht => by simp (disch := first | assumption | omega | (simp [sizeLine_eq]; done) | (simp [sizeLine_eq]; omega) | fail) [isK, isKB, tupD, sizeLine_eq, grd_pos, cStep]
  have lp1 : ∀ (ρ : FEnv) μ, cLoop (cStep (gN 1) fYes (fOp ixF (fV 1) (fC (.int 1))) [1] ρ) (T.map tiD) μ = .ok (T.map fun t => .str t.b) μ := fun ρ μ => cLoop_mapT (en := tiD) (f := fun t : Tie => .str t.b) fun t ht => by simp (disch := first | assumption | omega | (simp [sizeLine_eq]; done) | (simp [sizeLine_eq]; omega) | fail) [isK, isKB, tupD, sizeLine_eq, grd_pos, cStep]
  have so := fun μ => sortSet_str (gs := T.map Tie.a ++ T.map Tie.b) (μ := μ) (fun x hx => by
    rcases List.mem_append.mp hx with h | h
    · obtain ⟨t, ht, rfl⟩ := List.mem_map.mp h
      exact nmB_strOk (ok t ht).1
    · obtain ⟨t, ht, rfl⟩ := List.mem_map.mp h
      exact nmB_strOk (ok t ht).2.1) (by simp; omega)
  have e : srt (ddT (T.map Tie.a ++ T.map Tie.b)) = namesT T := sortedSet_of fun x => by
    unfold nmsT
    simp only [List.mem_append, List.mem_map, List.mem_flatMap, List.mem_cons, List.not_mem_nil, or_false]
    constructor
    · rintro (⟨t, ht, rfl⟩ | ⟨t, ht, rfl⟩)
      · exact ⟨t, ht, .inl rfl⟩
      · exact ⟨t, ht, .inr rfl⟩
    · rintro ⟨t, ht, rfl | rfl⟩
      · exact .inl ⟨t, ht, rfl⟩
      · exact .inr ⟨t, ht, rfl⟩
  rw [e] at so
  have em : (T.map Tie.a ++ T.map Tie.b).map D.str = (T.map fun t => D.str t.a) ++ T.map fun t => D.str t.b := by
    rw [List.map_append, List.map_map, List.map_map]
    rfl
  rw [em] at so
  have hz : T.length ≤ 16777216 := by omega
  have hz2 : T.length + T.length ≤ 16777216 := by omega
  have main : ∀ w', (w' = .tup (T.map tiD) ∨ w' = .ntp (T.map tiD)) → f__law_names_of [.d w'] μ = .ok (.d (.ntp ((namesT T).map .str))) μ := by
    intro w' h
    rcases h with rfl | rfl <;> simp (disch := first | assumption | omega | (simp [sizeLine_eq]; done) | (simp [sizeLine_eq]; omega) | fail) [isK, isKB, tupD, sizeLine_eq, grd_pos, f__law_names_of, lp0, lp1, finLF, hz, hz2, so, -List.map_map, -List.map_append]
  exact main w (by cases w <;> simp [tupD] at hw <;> subst hw <;> simp)
def barsT (t : Tie) : List Rule := [((t.a, 1), (t.b, t.s)), ((t.a, 0), (t.b, 1 - t.s))]
abbrev rulesT (T : List Tie) : List Rule := (T.flatMap barsT).map bk
theorem bars_bk {t : Tie} : ((barsT t).map bk).map rD = [rD ((t.a, 0), (t.b, 1 - t.s)), rD ((t.a, 1), (t.b, t.s))] := by
  have : (1 : Int) - (1 - t.s) = t.s := by omega
  simp [barsT, bk, sBack, this]
theorem rules_map {T : List Tie} : (rulesT T).map rD = T.flatMap fun t => [rD ((t.a, 0), (t.b, 1 - t.s)), rD ((t.a, 1), (t.b, t.s))] := by
  unfold rulesT
  rw [List.map_flatMap, List.map_flatMap]
  congr 1
  funext t
  exact bars_bk
theorem rulesT_len {T : List Tie} : (rulesT T).length = 2 * T.length := by
  unfold rulesT
  rw [List.length_map]
  induction T with
  | nil => rfl
  | cons t T ih => rw [List.flatMap_cons, List.length_append, ih]; simp [barsT]; omega
theorem barsT_ok {T : List Tie} (ok : ∀ t ∈ T, okTie t) : ∀ p ∈ T.flatMap barsT, okB (namesT T) p := fun p hp => by
  obtain ⟨t, ht, hp⟩ := List.mem_flatMap.mp hp
  obtain ⟨o1, o2, o3, o4⟩ := ok t ht
  have ma : t.a ∈ namesT T := mem_namesT.mpr ⟨t, ht, .inl rfl⟩
  have mb : t.b ∈ namesT T := mem_namesT.mpr ⟨t, ht, .inr rfl⟩
  simp only [barsT, List.mem_cons, List.not_mem_nil, or_false] at hp
  rcases hp with rfl | rfl
  · exact ⟨⟨ma, .inr rfl⟩, ⟨mb, o4⟩, o3⟩
  · exact ⟨⟨ma, .inl rfl⟩, ⟨mb, by simp only; omega⟩, o3⟩
theorem rulesT_ok {T : List Tie} (ok : ∀ t ∈ T, okTie t) : ∀ r ∈ rulesT T, okR (namesT T) r := fun r hr => by
  obtain ⟨p, hp, rfl⟩ := List.mem_map.mp hr
  exact okR_bk (barsT_ok ok p hp)
theorem rules_of_tie_ok {t : Tie} {μ : Mem} : f_rules_of_tie [.d (tiD t)] μ = .ok (.d (.tup [rD ((t.a, 0), (t.b, 1 - t.s)), rD ((t.a, 1), (t.b, t.s))])) μ := by
  simp (disch := first | assumption | omega | (simp [sizeLine_eq]; done) | (simp [sizeLine_eq]; omega) | fail) [isK, isKB, tupD, sizeLine_eq, grd_pos, f_rules_of_tie]
theorem law_rules_ok {t : Tie} {μ : Mem} (h : okTie t) : f__law_rules [.d (tiD t)] μ = .ok (.d (.lst [rD ((t.a, 0), (t.b, 1 - t.s)), rD ((t.a, 1), (t.b, t.s))])) μ := by
  have lp : ∀ (ρ : FEnv) μ, ρ 1 = .d (.str t.a) → ρ 2 = .d (.str t.b) → ρ 3 = .d (.int t.s) → cLoop (cStep (gN 4) fYes (fTup (fCons (fTup (fCons (fV 1) (fCons (fV 4) fNil))) (fCons (fTup (fCons (fV 2) (fCons (fIf (fT (fOp eqF (fV 3) (fC (.int 1)))) (fV 4) (fOp subF (fC (.int 1)) (fV 4))) fNil))) fNil))) [4] ρ) [.int 0, .int 1] μ
      = .ok [rD ((t.a, 0), (t.b, 1 - t.s)), rD ((t.a, 1), (t.b, t.s))] μ := fun ρ μ r1 r2 r3 => by
    rcases h.2.2.2 with e | e
    · rw [e] at r3 ⊢
      exact cLoop_mapT (l := [(0 : Int), 1]) (en := .int) (f := fun i => rD ((t.a, i), (t.b, 1 - i))) fun i _ => by simp (disch := first | assumption | omega | (simp [sizeLine_eq]; done) | (simp [sizeLine_eq]; omega) | fail) [isK, isKB, tupD, sizeLine_eq, grd_pos, cStep, r1, r2, r3]
    · rw [e] at r3 ⊢
      exact cLoop_mapT (l := [(0 : Int), 1]) (en := .int) (f := fun i => rD ((t.a, i), (t.b, i))) fun i _ => by simp (disch := first | assumption | omega | (simp [sizeLine_eq]; done) | (simp [sizeLine_eq]; omega) | fail) [isK, isKB, tupD, sizeLine_eq, grd_pos, cStep, r1, r2, r3]
  simp (disch := first | assumption | omega | (simp [sizeLine_eq]; done) | (simp [sizeLine_eq]; omega) | fail) [isK, isKB, tupD, sizeLine_eq, grd_pos, f__law_rules, lp, finLF]
theorem book_of_ties_by_ok {T : List Tie} {w : D} {μ : Mem} (hw : tupD w = some (T.map tiD)) (ok : ∀ t ∈ T, okTie t) (few : T.length ≤ 100) : f_book_of_ties_by [.d w] μ = .ok (.d (.tup [.ntp ((namesT T).map .str), .ntp ((ruleSet (rulesT T)).map rD)])) μ := by
  have id1 : ∀ (ρ : FEnv) (L : List D) μ, cLoop (cStep (gN 2) fYes (fV 2) [2] ρ) L μ = .ok L μ := fun ρ L μ => by
    have := cLoop_map (step := cStep (gN 2) fYes (fV 2) [2] ρ) (μ := μ) (ds := L) (f := fun d => d) fun d _ => by simp (disch := first | assumption | omega | (simp [sizeLine_eq]; done) | (simp [sizeLine_eq]; omega) | fail) [isK, isKB, tupD, sizeLine_eq, grd_pos, cStep]
    simpa using this
  have rt := fun t μ => rules_of_tie_ok (t := t) (μ := μ)
  have lp : ∀ (ρ : FEnv) μ, cLoop2 (cStep2 (gN 1) fYes (itF (fCall (callM f_rules_of_tie) (fCons (fV 1) fNil))) (gN 2) fYes (fV 2) [1, 2] [2] ρ) (T.map tiD) μ = .ok ((rulesT T).map rD) μ := fun ρ μ => by
    rw [rules_map, cLoop2_mapT (f := fun t : Tie => [rD ((t.a, 0), (t.b, 1 - t.s)), rD ((t.a, 1), (t.b, t.s))]) fun t ht => ?_]
    simp (disch := first | assumption | omega | (simp [sizeLine_eq]; done) | (simp [sizeLine_eq]; omega) | fail) [isK, isKB, tupD, sizeLine_eq, grd_pos, cStep2, rt, id1]
  have nl := rulesT_len (T := T)
  have hz : ((rulesT T).map rD).length ≤ 16777216 := by rw [List.length_map]; omega
  have nb := fun μ => names_of_by_ok (μ := μ) hw ok few
  have wr := fun μ => with_rules_ok (t := .ntp ((namesT T).map .str)) (w := .ntp ((rulesT T).map rD)) (μ := μ) (rulesT_ok ok) (names_nm ok) (by omega) rfl
  generalize (rulesT T).map rD = RD at *
  have main : ∀ w', w' = w → (w' = .tup (T.map tiD) ∨ w' = .ntp (T.map tiD)) → f_book_of_ties_by [.d w'] μ = .ok (.d (.tup [.ntp ((namesT T).map .str), .ntp ((ruleSet (rulesT T)).map rD)])) μ := by
    intro w' hww h
    subst hww
    rcases h with rfl | rfl <;> simp (disch := first | assumption | omega | (simp [sizeLine_eq]; done) | (simp [sizeLine_eq]; omega) | fail) [isK, isKB, tupD, sizeLine_eq, grd_pos, f_book_of_ties_by, nb, lp, finLF, hz, wr, -List.map_map]
  exact main w rfl (by cases w <;> simp [tupD] at hw <;> subst hw <;> simp)
theorem is_tie_ok {t : Tie} {μ : Mem} (h : okTie t) : f_is_tie [.d (tiD t)] μ = .ok (.d (.bl true)) μ := by
  have e1 := fun μ => is_tuple_of_ok (n := 3) (μ := μ) (plain_tie h)
  have e2 := fun μ => is_name_ok (μ := μ) (plain_name (nmB_good h.1))
  have e3 := fun μ => is_name_ok (μ := μ) (plain_name (nmB_good h.2.1))
  have bt := fun (x lo hi : Int) (h1 : lo ≤ x) (h2 : x ≤ hi) μ => (is_between_ok (v := .int x) (lo := lo) (hi := hi) (μ := μ) rfl).trans (by simp [betwB, h1, h2] : _ = R.ok (.d (.bl true)) μ)
  have e4 := bt t.s 0 1 (by have := h.2.2.2; omega) (by have := h.2.2.2; omega)
  have lt : t.a.cps.toList < t.b.cps.toList := of_decide_eq_true h.2.2.1
  have n1 : nmB t.a = true := h.1
  have n2 : nmB t.b = true := h.2.1
  simp (disch := first | assumption | omega | (simp [sizeLine_eq]; done) | (simp [sizeLine_eq]; omega) | fail) [isK, isKB, tupD, sizeLine_eq, grd_pos, f_is_tie, e1, e2, e3, e4, lt, n1, n2, nameB]
theorem allD_snoc {x : D} : ∀ {l : List D}, allD (l.map SV.d ++ [SV.d x]) = some (l ++ [x])
  | [] => rfl
  | d :: l => by
    show (allD (l.map SV.d ++ [SV.d x])).map (d :: ·) = _
    rw [allD_snoc]
    rfl
theorem ne_ties {w : D} {T : List Tie} {μ : Mem} (hw : tupD w = some (T.map tiD)) (ok : ∀ t ∈ T, okTie t) : neF (.d w) (.d (.tup [])) μ = .ok (.d (.bl (!decide (T = [])))) μ := by
  have fl : ∀ d ∈ T.map tiD, flat 59 d = true := fun d hd => by
    obtain ⟨t, ht, rfl⟩ := List.mem_map.mp hd
    exact flat_mono' _ _ _ (tie_is (ok t ht)).2 (by decide)
  have main : ∀ w', (w' = .tup (T.map tiD) ∨ w' = .ntp (T.map tiD)) → neF (.d w') (.d (.tup [])) μ = .ok (.d (.bl (!decide (T = [])))) μ := by
    intro w' h
    have e1 : okEq w' = true := by
      rcases h with rfl | rfl <;> (show flat (59 + 1) _ = true; rw [flat]; exact flats_of fl)
    rw [neF_d e1 (show okEq (.tup []) = true from rfl)]
    cases T with
    | nil => rcases h with rfl | rfl <;> rfl
    | cons a l => rcases h with rfl | rfl <;> simp [deq, toPy, toPys, PyData.eqv, PyData.eqvAll]
  exact main w (by cases w <;> simp [tupD] at hw <;> subst hw <;> simp)
theorem last_tie {w : D} {T : List Tie} {u : Tie} {μ : Mem} (hw : tupD w = some ((T ++ [u]).map tiD)) : ixF (.d w) (.d (.int (-1))) μ = .ok (.d (tiD u)) μ := by
  have e : atI ((T ++ [u]).map tiD) (-1) = some (tiD u) := by
    rw [atI_last (by simp)]
    simp
  simp only [List.map_append, List.map_cons, List.map_nil] at e
  cases w <;> simp [tupD] at hw <;> subst hw <;> simp [e]
theorem does_fit_ok {w : D} {T : List Tie} {t : Tie} {μ : Mem} (hw : tupD w = some (T.map tiD)) (ok : ∀ t ∈ T, okTie t) (ot : okTie t) (few : T.length ≤ 60) (up : ∀ u ∈ T, DatumOrd.lt u t = true) (h14 : (namesT (T ++ [t])).length ≤ 14) :
    f_does_fit_behind [.d w, .d (tiD t)] μ = .ok (.d (.bl true)) μ := by
  have e1 := fun μ => is_tie_ok (μ := μ) ot
  have e2 := fun μ => ne_ties (μ := μ) hw ok
  have ok2 : ∀ u ∈ T ++ [t], okTie u := fun u hu => by
    rcases List.mem_append.mp hu with h | h
    · exact ok u h
    · rw [List.mem_singleton.mp h]; exact ot
  have e3 := fun μ => names_of_by_ok (w := .tup (T.map tiD ++ [tiD t])) (T := T ++ [t]) (μ := μ) (by simp [tupD]) ok2 (by simp; omega)
  have st : ∀ μ, starF (.d w) μ = .ok (T.map tiD) μ := fun μ => by cases w <;> simp [tupD] at hw <;> subst hw <;> rfl
  have al : allD ((T.map tiD).map SV.d ++ [SV.d (tiD t)]) = some (T.map tiD ++ [tiD t]) := allD_snoc
  have hz : T.length + 1 ≤ 16777216 := by omega
  have h14 : ((namesT (T ++ [t])).length : Int) ≤ 14 := by omega
  rcases List.eq_nil_or_concat T with rfl | ⟨T', u, hT⟩
  · simp only [List.map_nil, List.nil_append] at e3 al h14 st
    generalize namesT [t] = N at *
    generalize tiD t = Dt at *
    simp (disch := first | assumption | omega | (simp [sizeLine_eq]; done) | (simp [sizeLine_eq]; omega) | fail) [isK, isKB, tupD, sizeLine_eq, grd_pos, f_does_fit_behind, e1, e2, e3, st, al, hz, h14, -List.map_map, -List.map_append]
  · have hT : T = T' ++ [u] := by rw [hT, List.concat_eq_append]
    have hne : T ≠ [] := by rw [hT]; simp
    have e2 : ∀ μ, neF (.d w) (.d (.tup [])) μ = .ok (.d (.bl true)) μ := fun μ => (e2 μ).trans (by rw [decide_eq_false hne]; rfl)
    have mu : u ∈ T := by rw [hT]; simp
    have la := fun μ => last_tie (T := T') (u := u) (w := w) (μ := μ) (by rw [hw, hT])
    have le : ∀ μ, leF (.d (tiD t)) (.d (tiD u)) μ = .ok (.d (.bl false)) μ := fun μ => ((tie_is ot).leF (tie_is (ok u mu)) rfl rfl).trans (by rw [up u mu]; rfl)
    generalize tiD u = Du at *
    have hz : (T.map tiD).length + 1 ≤ 16777216 := by rw [List.length_map]; omega
    generalize T.map tiD = TD at *
    generalize namesT (T ++ [t]) = N at *
    generalize tiD t = Dt at *
    simp (disch := first | assumption | omega | (simp [sizeLine_eq]; done) | (simp [sizeLine_eq]; omega) | fail) [isK, isKB, tupD, sizeLine_eq, grd_pos, f_does_fit_behind, e1, e2, e3, st, al, hz, h14, la, le, -List.map_map, -List.map_append]
structure IsTies (T : List Tie) : Prop where
  ok : ∀ t ∈ T, okTie t
  rise : T.Pairwise fun a b => DatumOrd.lt a b = true
  lo : 1 ≤ T.length
  hi : T.length ≤ 60
  names : (namesT T).length ≤ 14
theorem namesT_nd {T : List Tie} : (namesT T).Nodup := (srt_perm _).nodup_iff.mpr nodup_ddT
theorem namesT_le {T U : List Tie} (h : ∀ t ∈ T, t ∈ U) : (namesT T).length ≤ (namesT U).length := nodup_le namesT_nd fun x hx => by
  obtain ⟨t, ht, e⟩ := mem_namesT.mp hx
  exact mem_namesT.mpr ⟨t, h t ht, e⟩
theorem wrong_in_ties_ok {T : List Tie} {w : D} {μ : Mem} (hw : tupD w = some (T.map tiD)) (h : IsTies T) : f_wrong_in_ties [.d w] μ = .ok (.d (.lst [])) μ := by
  have ik : isK .tuple w = some true := by
    cases w <;> simp only [tupD, Option.some.injEq, reduceCtorEq] at hw <;> rfl
  have ln := fun μ => lenT (w := w) (μ := μ) hw
  have lo := h.lo
  have hi := h.hi
  have b1 : (1 : Int) ≤ T.length := by omega
  have b2 : (T.length : Int) ≤ 60 := by omega
  have b0 : 0 < T.length := by omega
  have it : itD w = some (T.map tiD) := by
    cases w <;> simp only [tupD, Option.some.injEq, reduceCtorEq] at hw <;> subst hw <;> rfl
  have en : ∀ μ, enK [.d w] μ = .ok (enumD (T.map tiD)) μ := fun μ => by
    cases w <;> simp only [tupD, Option.some.injEq, reduceCtorEq] at hw <;> subst hw <;> rfl
  have main : gives (f_wrong_in_ties [.d w] μ) fun s μ2 => s = .d (.lst []) ∧ μ2 = μ := by
    simp (disch := first | assumption | omega | (simp [sizeLine_eq]; done) | (simp [sizeLine_eq]; omega) | fail) [sizeLine_eq, grd_pos, f_wrong_in_ties, ik, ln, b0, b1, b2, it, lo, hi, en]
    generalize el : fLoop _ _ _ _ = z
    obtain ⟨ρ', μ', rfl, r0, rfl⟩ := loop_inv el (fun _ ρ μ2 => ρ 0 = .d w ∧ μ2 = μ) ⟨by simp, rfl⟩ (by
      rintro i d ρ μ2 hd ⟨r0, rfl⟩
      obtain ⟨d', g1, _, rfl⟩ := enumD_get hd
      rw [List.getElem?_map] at g1
      obtain ⟨t, ht, rfl⟩ := Option.map_eq_some_iff.mp g1
      have li := (List.getElem?_eq_some_iff.mp ht).1
      obtain ⟨w', hw', ew'⟩ := cutT (lo := none) (hi := some (i : Int)) hw
      rw [cutD_take (by omega), Int.toNat_natCast, ← List.map_take] at hw'
      have e1 := fun μ => does_fit_ok (w := w') (T := T.take i) (t := t) (μ := μ) hw' (fun u hu => h.ok u (List.mem_of_mem_take hu)) (h.ok t (List.mem_of_getElem? ht)) (by rw [List.length_take]; omega) (fun u hu => by
        obtain ⟨k, hk⟩ := List.getElem?_of_mem hu
        have lk := (List.getElem?_eq_some_iff.mp hk).1
        rw [List.length_take] at lk
        rw [List.getElem?_take, if_pos (by omega)] at hk
        obtain ⟨l1, e1⟩ := List.getElem?_eq_some_iff.mp hk
        obtain ⟨l2, e2⟩ := List.getElem?_eq_some_iff.mp ht
        rw [← e1, ← e2]
        exact List.pairwise_iff_getElem.mp h.rise k i l1 l2 (by omega)) (by
        refine Nat.le_trans (namesT_le (U := T) fun u hu => ?_) h.names
        rcases List.mem_append.mp hu with hu | hu
        · exact List.mem_of_mem_take hu
        · rw [List.mem_singleton.mp hu]; exact List.mem_of_getElem? ht)
      simp (disch := first | assumption | omega | (simp [sizeLine_eq]; done) | (simp [sizeLine_eq]; omega) | fail) [isK, isKB, tupD, sizeLine_eq, grd_pos, r0, ew', e1]
      exact ⟨by simp [r0], rfl⟩)
    simp (disch := first | assumption | omega | (simp [sizeLine_eq]; done) | (simp [sizeLine_eq]; omega) | fail) [isK, isKB, tupD, sizeLine_eq, grd_pos, ]
    exact gives_ok ⟨rfl, rfl⟩
  obtain ⟨_, _, e, rfl, rfl⟩ := main
  exact e
theorem check_ties_ok {T : List Tie} {w : D} {μ : Mem} (hw : tupD w = some (T.map tiD)) (h : IsTies T) : f_check_ties [.d w] μ = .ok (.d .non) μ := by
  have e := fun μ => wrong_in_ties_ok (μ := μ) hw h
  simp (disch := first | assumption | omega | (simp [sizeLine_eq]; done) | (simp [sizeLine_eq]; omega) | fail) [isK, isKB, tupD, sizeLine_eq, grd_pos, f_check_ties, e]
theorem names_of_ok {T : List Tie} {w : D} {μ : Mem} (hw : tupD w = some (T.map tiD)) (h : IsTies T) : f_names_of [.d w] μ = .ok (.d (.ntp ((namesT T).map .str))) μ := by
  have e := fun μ => check_ties_ok (μ := μ) hw h
  have e2 := fun μ => names_of_by_ok (μ := μ) hw h.ok (by have := h.hi; omega)
  simp (disch := first | assumption | omega | (simp [sizeLine_eq]; done) | (simp [sizeLine_eq]; omega) | fail) [isK, isKB, tupD, sizeLine_eq, grd_pos, f_names_of, e, e2]
theorem book_of_ties_ok {T : List Tie} {w : D} {μ : Mem} (hw : tupD w = some (T.map tiD)) (h : IsTies T) : f_book_of_ties [.d w] μ = .ok (.d (.tup [.ntp ((namesT T).map .str), .ntp ((ruleSet (rulesT T)).map rD)])) μ := by
  have e := fun μ => check_ties_ok (μ := μ) hw h
  have e2 := fun μ => book_of_ties_by_ok (μ := μ) hw h.ok (by have := h.hi; omega)
  simp (disch := first | assumption | omega | (simp [sizeLine_eq]; done) | (simp [sizeLine_eq]; omega) | fail) [isK, isKB, tupD, sizeLine_eq, grd_pos, f_book_of_ties, e, e2]

end PL
namespace PL
open PySem PySem.Spec PyProof.Rows L2
open PySem.W (Datum DatumOrd)
theorem inD_bl {b : Bool} : ∀ {l : List Bool}, inD (.bl b) (l.map D.bl) = decide (b ∈ l)
  | [] => by simp [inD]
  | c :: l => by
    have ih := inD_bl (b := b) (l := l)
    simp only [inD, List.map_cons, List.any_cons] at ih ⊢
    rw [ih]
    have e : deq (D.bl c) (D.bl b) = decide (b = c) := by
      cases b <;> cases c <;> rfl
    rw [e, Bool.eq_iff_iff]
    simp only [Bool.or_eq_true, decide_eq_true_eq, List.mem_cons]
theorem okEq_bls {l : List Bool} : okEq (.lst (l.map D.bl)) = true := by
  show flat (59 + 1) _ = true
  rw [flat]
  exact flats_of fun d hd => by
    obtain ⟨b, _, rfl⟩ := List.mem_map.mp hd
    rfl
theorem ni_bls {b : Bool} {l : List Bool} {μ : Mem} : niF (.d (.bl b)) (.d (.lst (l.map D.bl))) μ = .ok (.d (.bl (!decide (b ∈ l)))) μ := by
  refine ni_of_in ?_
  unfold inF inO
  simp only
  rw [grd_pos ⟨rfl, okEq_bls⟩, inD_bl]
  rfl
theorem keeps54_ok {ths : List Str} {rs : List Rule} {cs : List Int} {c : D} {μ : Mem} (hn : ths.Nodup) (hr : ∀ r ∈ rs, okR ths r) (few : rs.length ≤ 400) (hc : tupD c = some (cs.map .int)) (e : ths.length = cs.length) :
    f__law_keeps_k54 [.d (.tup [.ntp (ths.map .str), .ntp (rs.map rD)]), .d c] μ = .ok (.d (.bl (keepB ths cs rs))) μ := by
  have hk := fun μ => dzip_ok (μ := μ) (tupD_n (l := ths.map .str)) hc (keys_of hn e)
  have lp : ∀ (ρ : FEnv) μ, ρ 2 = .d (.dic false (ths.map .str) (cs.map .int)) → cLoop (cStep (gT [(gN 3), (gN 4)]) fYes (fAnd (fOp neF (fOp dgetF (fV 2) (fOp ixF (fV 3) (fC (.int 0)))) (fOp ixF (fV 3) (fC (.int 1)))) (fOp neF (fOp dgetF (fV 2) (fOp ixF (fV 4) (fC (.int 0)))) (fOp ixF (fV 4) (fC (.int 1))))) [3, 4] ρ) (rs.map rD) μ = .ok ((rs.map fun r => lost ths cs r).map D.bl) μ := fun ρ μ r2 => by
    rw [List.map_map]
    refine cLoop_mapT (f := fun r => D.bl (lost ths cs r)) fun r hr' => ?_
    obtain ⟨s, t⟩ := r
    obtain ⟨hs, ht, _⟩ := hr _ hr'
    have f1 := fun μ => has_ok (μ := μ) e hs.1
    have f2 := fun μ => has_ok (μ := μ) e ht.1
    simp only [lost, hasS]
    by_cases g1 : vl ths cs s.1 = s.2 <;> by_cases g2 : vl ths cs t.1 = t.2 <;> simp (disch := first | assumption | omega | (simp [sizeLine_eq]; done) | (simp [sizeLine_eq]; omega) | fail) [isK, isKB, tupD, sizeLine_eq, grd_pos, cStep, r2, f1, f2, g1, g2]
  have hz : (rs.map fun r => lost ths cs r).length ≤ 16777216 := by rw [List.length_map]; omega
  have hk2 : (!decide (true ∈ rs.map fun r => lost ths cs r)) = keepB ths cs rs := by
    unfold keepB
    rw [Bool.eq_iff_iff]
    simp only [Bool.not_eq_true', decide_eq_false_iff_not, List.mem_map, List.all_eq_true, not_exists, not_and, Bool.not_eq_true]
  have ni := fun μ => ni_bls (b := true) (l := rs.map fun r => lost ths cs r) (μ := μ)
  generalize (rs.map fun r => lost ths cs r) = L at *
  simp (disch := first | assumption | omega | (simp [sizeLine_eq]; done) | (simp [sizeLine_eq]; omega) | fail) [isK, isKB, tupD, sizeLine_eq, grd_pos, f__law_keeps_k54, hk, lp, finLF, hz, ni, hk2, -List.map_map]
/-- whether a choosing puts names as ties tell -/
def keptT (T : List Tie) (cs : List Int) : Bool := T.all fun t => decide (decide (vl (namesT T) cs t.a = vl (namesT T) cs t.b) = !decide (t.s = 1))
theorem is_kept_ok {T : List Tie} {cs : List Int} {c w : D} {μ : Mem} (hw : tupD w = some (T.map tiD)) (few : T.length ≤ 100) (hc : tupD c = some (cs.map .int)) (e : (namesT T).length = cs.length) :
    f__law_is_kept [.d (.ntp ((namesT T).map .str)), .d w, .d c] μ = .ok (.d (.bl (keptT T cs))) μ := by
  have hk := fun μ => dzip_ok (μ := μ) (tupD_n (l := (namesT T).map .str)) hc (keys_of namesT_nd e)
  have lp : ∀ (ρ : FEnv) μ, ρ 3 = .d (.dic false ((namesT T).map .str) (cs.map .int)) → cLoop (cStep (gT [(gN 4), (gN 5), (gN 6)]) fYes (fOp eqF (fOp neF (fOp dgetF (fV 3) (fV 4)) (fOp dgetF (fV 3) (fV 5))) (fOp eqF (fV 6) (fC (.int 1)))) [4, 5, 6] ρ) (T.map tiD) μ = .ok ((T.map fun t => decide (decide (vl (namesT T) cs t.a = vl (namesT T) cs t.b) = !decide (t.s = 1))).map D.bl) μ := fun ρ μ r3 => by
    rw [List.map_map]
    refine cLoop_mapT (en := tiD) (f := fun t : Tie => D.bl (decide (decide (vl (namesT T) cs t.a = vl (namesT T) cs t.b) = !decide (t.s = 1)))) fun t ht => ?_
    have f1 := fun μ => has_ok (s := (t.a, 0)) (μ := μ) e (mem_namesT.mpr ⟨t, ht, .inl rfl⟩)
    have f2 := fun μ => has_ok (s := (t.b, 0)) (μ := μ) e (mem_namesT.mpr ⟨t, ht, .inr rfl⟩)
    simp only at f1 f2
    generalize vl (namesT T) cs t.a = x at *
    generalize vl (namesT T) cs t.b = y at *
    by_cases g1 : x = y <;> by_cases g2 : t.s = 1 <;> simp (disch := first | assumption | omega | (simp [sizeLine_eq]; done) | (simp [sizeLine_eq]; omega) | fail) [isK, isKB, tupD, sizeLine_eq, grd_pos, cStep, r3, f1, f2, g1, g2]
  have hz : (T.map fun t => decide (decide (vl (namesT T) cs t.a = vl (namesT T) cs t.b) = !decide (t.s = 1))).length ≤ 16777216 := by rw [List.length_map]; omega
  have hk2 : (!decide (false ∈ T.map fun t => decide (decide (vl (namesT T) cs t.a = vl (namesT T) cs t.b) = !decide (t.s = 1)))) = keptT T cs := by
    unfold keptT
    rw [Bool.eq_iff_iff, Bool.not_eq_true', decide_eq_false_iff_not, List.all_eq_true, List.mem_map]
    constructor
    · intro h t ht
      cases g : decide (decide (vl (namesT T) cs t.a = vl (namesT T) cs t.b) = !decide (t.s = 1)) with
      | true => rfl
      | false => exact (h ⟨t, ht, g⟩).elim
    · rintro h ⟨t, ht, g⟩
      rw [h t ht] at g
      cases g
  have ni := fun μ => ni_bls (b := false) (l := T.map fun t => decide (decide (vl (namesT T) cs t.a = vl (namesT T) cs t.b) = !decide (t.s = 1))) (μ := μ)
  generalize (T.map fun t => decide (decide (vl (namesT T) cs t.a = vl (namesT T) cs t.b) = !decide (t.s = 1))) = L at *
  generalize (namesT T).map D.str = N at *
  have main : ∀ w', (w' = .tup (T.map tiD) ∨ w' = .ntp (T.map tiD)) → f__law_is_kept [.d (.ntp N), .d w', .d c] μ = .ok (.d (.bl (keptT T cs))) μ := by
    intro w' h
    rcases h with rfl | rfl <;> simp (disch := first | assumption | omega | (simp [sizeLine_eq]; done) | (simp [sizeLine_eq]; omega) | fail) [isK, isKB, tupD, sizeLine_eq, grd_pos, f__law_is_kept, hk, lp, finLF, hz, ni, hk2, -List.map_map]
  exact main w (by cases w <;> simp [tupD] at hw <;> subst hw <;> simp)
theorem kept_keep {T : List Tie} {cs : List Int} (ok : ∀ t ∈ T, okTie t) (e : (namesT T).length = cs.length) (hb : ∀ c ∈ cs, c = 0 ∨ c = 1) : keepB (namesT T) cs (ruleSet (rulesT T)) = keptT T cs := by
  rw [Bool.eq_iff_iff, keep_bars e hb (barsT_ok ok)]
  unfold keptT
  simp only [List.all_eq_true, decide_eq_true_eq, List.mem_flatMap]
  have hv : ∀ x, x ∈ namesT T → vl (namesT T) cs x = 0 ∨ vl (namesT T) cs x = 1 := fun x hx => vl_bit e hx hb
  constructor
  · intro h t ht
    have h1 := h ((t.a, 1), (t.b, t.s)) ⟨t, ht, by simp [barsT]⟩
    have h2 := h ((t.a, 0), (t.b, 1 - t.s)) ⟨t, ht, by simp [barsT]⟩
    have va := hv t.a (mem_namesT.mpr ⟨t, ht, .inl rfl⟩)
    have vb := hv t.b (mem_namesT.mpr ⟨t, ht, .inr rfl⟩)
    have hs := (ok t ht).2.2.2
    simp only [hasS] at h1 h2
    generalize vl (namesT T) cs t.a = x at *
    generalize vl (namesT T) cs t.b = y at *
    rcases hs with s | s <;> rcases va with rfl | rfl <;> rcases vb with rfl | rfl <;> simp [s] at h1 h2 ⊢
  · rintro h p ⟨t, ht, hp⟩
    have h0 := h t ht
    have va := hv t.a (mem_namesT.mpr ⟨t, ht, .inl rfl⟩)
    have vb := hv t.b (mem_namesT.mpr ⟨t, ht, .inr rfl⟩)
    have hs := (ok t ht).2.2.2
    simp only [barsT, List.mem_cons, List.not_mem_nil, or_false] at hp
    rcases hp with rfl | rfl
    · simp only [hasS]
      generalize vl (namesT T) cs t.a = x at *
      generalize vl (namesT T) cs t.b = y at *
      rcases hs with s | s <;> rcases va with rfl | rfl <;> rcases vb with rfl | rfl <;> simp [s] at h0 ⊢
    · simp only [hasS]
      generalize vl (namesT T) cs t.a = x at *
      generalize vl (namesT T) cs t.b = y at *
      rcases hs with s | s <;> rcases va with rfl | rfl <;> rcases vb with rfl | rfl <;> simp [s] at h0 ⊢
theorem same54_tup {l : List D} {v w : D} {n : Nat} {μ : Mem} (hv : tupD v = some l) (hw : tupD w = some l) (hz : l.length ≤ 1000000) (h : ∀ d ∈ l, ∀ μ, f__law_same_k54 n [.d d, .d d] μ = .ok (.d (.bl true)) μ) : f__law_same_k54 (n + 1) [.d v, .d w] μ = .ok (.d (.bl true)) μ := by
  have lp : ∀ ρ : FEnv, cLoop (cStep (gT [gN 2, gN 3]) fYes (fCall (callM (f__law_same_k54 n)) (fCons (fV 2) (fCons (fV 3) fNil))) [2, 3] ρ) (zipD l l) μ = .ok ((List.replicate l.length true).map D.bl) μ := fun ρ => by
    have e1 : zipD l l = l.map fun d => .tup [d, d] := by
      unfold zipD
      rw [List.zipWith_self]
    rw [e1, cLoop_mapT (f := fun _ => D.bl true) fun d hd => by
      have := h d hd
      simp (disch := first | assumption | omega | (simp [sizeLine_eq]; done) | (simp [sizeLine_eq]; omega) | fail) [isK, isKB, tupD, sizeLine_eq, grd_pos, cStep, this], List.map_replicate, List.map_const']
  have ni := fun μ => ni_bls (b := false) (l := List.replicate l.length true) (μ := μ)
  have hm : (!decide (false ∈ List.replicate l.length true)) = true := by
    rw [Bool.not_eq_true', decide_eq_false_iff_not]
    intro z
    have := List.eq_of_mem_replicate z
    cases this
  rw [hm] at ni
  have h2 : l.length ≤ 16777216 := by omega
  have h3 : (List.replicate l.length true).length ≤ 16777216 := by rw [List.length_replicate]; omega
  generalize List.replicate l.length true = B at *
  have hzl : (zipD l l).length ≤ 16777216 := by rw [zipD_length]; omega
  cases v <;> simp only [tupD, Option.some.injEq, reduceCtorEq] at hv <;> cases w <;> simp only [tupD, Option.some.injEq, reduceCtorEq] at hw <;> subst hv <;> try subst hw
  all_goals simp (disch := first | assumption | omega | (simp [sizeLine_eq]; done) | (simp [sizeLine_eq]; omega) | fail) [isK, isKB, tupD, sizeLine_eq, grd_pos, f__law_same_k54, lp, finLF, h2, h3, hzl, ni, -List.map_map]
theorem same54_int {a : Int} {n : Nat} {μ : Mem} : f__law_same_k54 (n + 1) [.d (.int a), .d (.int a)] μ = .ok (.d (.bl true)) μ := by simp [isK, isKB, tupD, sizeLine_eq, f__law_same_k54]
theorem same54_str {a : Str} {n : Nat} {μ : Mem} (h : PyData.strOk a = true) : f__law_same_k54 (n + 1) [.d (.str a), .d (.str a)] μ = .ok (.d (.bl true)) μ := by
  simp [isK, isKB, tupD, sizeLine_eq, f__law_same_k54, (Is.str h).eqF (Is.str h)]
theorem allI_map {cs : List Int} : allI (cs.map D.int) = some cs := by
  induction cs with
  | nil => rfl
  | cons c cs ih => simp [allI, ih]
theorem nip_bel {c0 c1 c2 c3 c4 c5 : Int} (h0 : 0 < c0 ∧ c0 < 1073741824) (h1 : 0 ≤ c1 ∧ c1 < 100000000) (h2 : 0 < c2) (h3 : 0 < c3 ∧ c3 < 1073741824) (h4 : 0 < c4 ∧ c4 < 1073741824) (h5 : 0 < c5 ∧ c5 < 4294967296) : Bel (f__law_nip c0 c1 c2 c3 c4 c5) where
  ok n p hn hn2 := by
    obtain ⟨a, b, c⟩ := p
    have g1 : CDiv a n := ⟨hn, hn2⟩
    have g2 : ∀ z, CDiv z c0 := fun z => ⟨h0.1, h0.2⟩
    have g6 : ∀ z, CDiv z 37 := fun z => ⟨by decide, by decide⟩
    have g3 : ∀ z, CMul z c3 := fun z => .inr ⟨by omega, by omega⟩
    have g4 : ∀ z, CMul z c4 := fun z => .inr ⟨by omega, by omega⟩
    have g5 : ∀ z, CMul 2 z := fun z => .inl ⟨by decide, by decide⟩
    have g7 : ∀ z y, CMul z (2 * (y % c5 / 37) + c1) := fun z y => .inr ⟨by have := Int.emod_nonneg y (show c5 ≠ 0 by omega); omega, by have := Int.emod_nonneg y (show c5 ≠ 0 by omega); have := Int.emod_lt_of_pos y h5.1; omega⟩
    by_cases ha : 0 < a
    · refine ⟨a % n, (a / n, b, c), Int.emod_nonneg _ (by omega), Int.emod_lt_of_pos _ hn, ?_⟩
      simp [isK, isKB, tupD, sizeLine_eq, f__law_nip, pc, ixOf_c, ixN30, ixN31, ixN32, ha, g1, hn]
    · exact ⟨_, (_, _, _), Int.emod_nonneg _ (show n ≠ 0 by omega), Int.emod_lt_of_pos _ hn, by
        simp [isK, isKB, tupD, sizeLine_eq, f__law_nip, pc, ixOf_c, ixN30, ixN31, ixN32, ha, g1, g2, g3, g4, g5, g6, g7, hn, h2, h5.1]
        exact ⟨rfl, rfl, rfl, rfl⟩⟩
theorem urn_ok {c0 c1 c2 c3 c4 c5 c6 c7 c8 : Int} {ns : List Int} {lap : Nat} (hlap : lap < 100) (h0 : 0 < c0 ∧ c0 < 1073741824) (h1 : 0 < c1) (h3 : 0 < c3) (h5 : 0 < c5 ∧ c5 < 1073741824) (h6 : 0 < c6 ∧ c6 < 1073741824) (h8 : 0 < c8) :
    ∃ p, f__law_urn c0 c1 c2 c3 c4 c5 c6 c7 c8 [.d (.scr ns), .d (.int lap)] [] = .ok (.c 0) [pc p] := by
  have key : gives (f__law_urn c0 c1 c2 c3 c4 c5 c6 c7 c8 [.d (.scr ns), .d (.int lap)] []) fun s μ => ∃ p, s = .c 0 ∧ μ = [pc p] := by
    have g0 : ∀ z, CMul z c0 := fun z => .inr ⟨by omega, by omega⟩
    have g5 : CMul c5 lap := .inl ⟨by omega, by omega⟩
    have g6 : CMul c6 lap := .inl ⟨by omega, by omega⟩
    have gp : CPow 10 18 := ⟨by decide, by decide, by decide⟩
    have hcell : ∃ z : Int, ∀ ρ, ρ 0 = .d (.scr ns) → ρ 1 = .d (.int lap) → (fIf (fT (fOp ltF (fV 1) (fCall lenF (fCons (fV 0) fNil)))) (fCall intF (fCons (fOp ixF (fV 0) (fV 1)) fNil)) (fOp addF (fOp addF (fOp mulF (fC (.int c6)) (fV 1)) (fC (.int c7))) (fOp modF (fCall intF (fCons (fCall sumF (fCons (fSl slF (fV 0) fNone (fSome (fC (.int 5)))) fNil)) fNil)) (fC (.int c8))))) ρ [] = .ok (.d (.int z)) [] := by
      by_cases hl : (lap : Int) < ns.length
      · have hl2 : lap < ns.length := by omega
        exact ⟨ns[lap], fun ρ r0 r1 => by simp [r0, r1, hl, hl2]⟩
      · have su : ∀ μ, sumF [.d (.lst (cutD (ns.map D.int) none (some 5)))] μ = .ok (.d (.int (ns.take 5).sum)) μ := fun μ => by
          rw [cutD_take (by omega), ← List.map_take]
          show (match allI ((ns.take (5 : Int).toNat).map D.int) with
            | some ns => R.ok (SV.d (D.int ns.sum)) μ
            | none => .no) = _
          rw [allI_map]
          rfl
        exact ⟨c6 * lap + c7 + (ns.take 5).sum % c8, fun ρ r0 r1 => by simp [r0, r1, hl, g6, su, h8]⟩
    obtain ⟨z, hz⟩ := hcell
    have hz := hz (fstart [.d (.scr ns), .d (.int lap)]) rfl rfl
    simp only [f__law_urn, fDef_s, fSeq_s, fAsg_s, hz, List.length_cons, List.length_nil, bR_ok, bnd_s, gN_s, ret_s, sK_nx]
    have hz8 : ((ns.map D.int).take 11).length ≤ 11 := by rw [List.length_take]; omega
    simp (disch := first | assumption | omega | (simp [sizeLine_eq]; done) | (simp [sizeLine_eq]; omega) | fail) [isK, isKB, tupD, sizeLine_eq, grd_pos, g5, cutD_take]
    generalize el : fLoop _ _ _ _ = w
    obtain ⟨ρ', μ', rfl, r2, ⟨s, r3⟩, rfl⟩ := loop_inv el (fun _ ρ μ => ρ 2 = .d (.int z) ∧ (∃ s : Int, ρ 3 = .d (.int s)) ∧ μ = []) ⟨by simp, ⟨_, by simp; rfl⟩, rfl⟩ (by
      rintro i d ρ μ hd ⟨r2, ⟨s, r3⟩, rfl⟩
      obtain ⟨x, rfl⟩ : ∃ x : Int, d = .int x := by
        rcases List.mem_append.mp (List.mem_of_getElem? hd) with h | h
        · obtain ⟨x, _, rfl⟩ := List.mem_map.mp (List.mem_of_mem_take h)
          exact ⟨x, rfl⟩
        · simp at h
          exact ⟨z, h⟩
      simp (disch := first | assumption | omega | (simp [sizeLine_eq]; done) | (simp [sizeLine_eq]; omega) | fail) [isK, isKB, tupD, sizeLine_eq, grd_pos, r3, g0, h1, h3]
      exact ⟨by simp [r2], ⟨_, by simp; rfl⟩, rfl⟩)
    by_cases hn : z < 0
    · simp (disch := first | assumption | omega | (simp [sizeLine_eq]; done) | (simp [sizeLine_eq]; omega) | fail) [isK, isKB, tupD, sizeLine_eq, grd_pos, r2, r3, hn]
      exact gives_ok ⟨(_, _, _), rfl, rfl⟩
    · by_cases hn2 : (1000000000000000000 : Int) ≤ z
      · simp (disch := first | assumption | omega | (simp [sizeLine_eq]; done) | (simp [sizeLine_eq]; omega) | fail) [isK, isKB, tupD, sizeLine_eq, grd_pos, r2, r3, hn, hn2, gp]
        exact gives_ok ⟨(_, _, _), rfl, rfl⟩
      · simp (disch := first | assumption | omega | (simp [sizeLine_eq]; done) | (simp [sizeLine_eq]; omega) | fail) [isK, isKB, tupD, sizeLine_eq, grd_pos, r2, r3, hn, hn2, gp]
        exact gives_ok ⟨(_, _, _), rfl, rfl⟩
  obtain ⟨_, _, e, p, rfl, rfl⟩ := key
  exact ⟨p, e⟩

end PL
namespace PL
open PySem PySem.Spec PyProof.Rows L2
open PySem.W (Datum DatumOrd)
def TWORDS : List Str := ["a", "ale", "b", "bob", "cat", "eve", "fig", "hat", "ink", "not", "oil", "or", "rye", "zzzzzzzz"]
theorem twords_nm {x : Str} (h : x ∈ TWORDS) : nmB x = true := by
  have : TWORDS.all nmB = true := by decide +kernel
  exact List.all_eq_true.mp this x h
theorem twords_nodup : TWORDS.Nodup := by decide +kernel
theorem tw_eq : ([.str "a", .str "ale", .str "b", .str "bob", .str "cat", .str "eve", .str "fig", .str "hat", .str "ink", .str "not", .str "oil", .str "or", .str "rye", .str "zzzzzzzz"] : List D) = TWORDS.map D.str := rfl
theorem tw_len : TWORDS.length = 14 := rfl
theorem things54_ok {B : List SV → M SV} (b : Bel B) {n : Nat} {p : Pool} (h0 : 1 ≤ n) (h1 : n ≤ 14) : ∃ ths p' R', f__law_any_things B [.c 0, .d (.int n)] [pc p] = .ok (.d (.ntp (ths.map .str))) (pc p' :: R') ∧ Ths (.ntp (ths.map .str)) ths := by
  obtain ⟨x, p0, x0, x1, ex⟩ := b.ok n p (by omega) (by omega)
  have key : gives (f__law_any_things B [.c 0, .d (.int n)] [pc p]) fun s μ => ∃ ths p' R', s = .d (.ntp (ths.map .str)) ∧ μ = pc p' :: R' ∧ Ths (.ntp (ths.map .str)) ths := by
    have z1 : 1 + x < 4611686018427387904 := by omega
    have z2 : -4611686018427387904 ≤ 1 + x := by omega
    have ex2 : ∀ μ, callR (pc p :: μ) [0] (B [.c 0, .d (.int n)] [pc p]) = .ok (.d (.int x)) (pc p0 :: μ) := fun μ => by rw [ex]; rfl
    simp (disch := first | assumption | omega | (simp [sizeLine_eq]; done) | (simp [sizeLine_eq]; omega) | fail) [isK, isKB, tupD, sizeLine_eq, grd_pos, f__law_any_things, z1, z2, ex, ex2]
    rw [tw_eq]
    generalize el : fLoop _ _ _ _ = z
    obtain ⟨ρ', μ', rfl, r0, r2, r3, Lx, F, q, hp, hl, rfl⟩ := loop_inv el (fun i ρ μ => ρ 0 = .c 0 ∧ ρ 2 = .c 1 ∧ ρ 3 = .c 2 ∧ ∃ (Lx F : List Str) (p : Pool), (F ++ Lx).Perm TWORDS ∧ F.length = i ∧ μ = [pc p, .lst (Lx.map .str), .lst (F.map .str)])
      ⟨by simp, by simp, by simp, TWORDS, [], p0, by simp, by simp, rfl⟩ (by
      rintro i d ρ μ hd ⟨r0, r2, r3, Lx, F, p, hp, hl, rfl⟩
      have hi := (List.getElem?_eq_some_iff.mp hd).1
      simp only [rngD_len] at hi
      have hlen := hp.length_eq
      rw [List.length_append] at hlen
      have h20 := tw_len
      have hpos : 0 < Lx.length := by omega
      obtain ⟨r, p2, q0, q1, e⟩ := b.ok Lx.length p (by omega) (by omega)
      obtain ⟨k, rfl⟩ := Int.eq_ofNat_of_zero_le q0
      have hk : k < Lx.length := by omega
      have hzF : (F.map D.str).length < sizeLine := by have := sizeLine_le (n := 1000) (by decide); rw [List.length_map]; omega
      have hkd : (Lx.map D.str)[k]? = some (.str Lx[k]) := by rw [List.getElem?_map, List.getElem?_eq_getElem hk]; rfl
      have pa := popAtF_c (k := 1) (i := k) (μ := [pc p2, .lst (Lx.map .str), .lst (F.map .str)]) rfl hkd (by omega)
      have ap := fun y => appendF_c (k := 2) (y := y) (μ := [pc p2, .lst ((Lx.map .str).eraseIdx k), .lst (F.map .str)]) rfl hzF
      have lo : ∀ q, lstOf (.c 1) [pc q, .lst (Lx.map .str), .lst (F.map .str)] = some (Lx.map .str) := fun _ => rfl
      have lo2 : ∀ q, lstOf (.c 2) [pc q, .lst (Lx.map .str), .lst (F.map .str)] = some (F.map .str) := fun _ => rfl
      have ln : ∀ q, lenF [.c 1] [pc q, .lst (Lx.map .str), .lst (F.map .str)] = .ok (.d (.int Lx.length)) [pc q, .lst (Lx.map .str), .lst (F.map .str)] := fun q => by
        simp [lenOf_c]
      simp (disch := first | assumption | omega | (simp [sizeLine_eq]; done) | (simp [sizeLine_eq]; omega) | fail) [isK, isKB, tupD, sizeLine_eq, grd_pos, r0, r2, r3, ln, e, lo, lo2, pa, ap]
      refine ⟨by simp [r0], by simp [r2], by simp [r3], Lx.eraseIdx k, F ++ [Lx[k]], p2, ?_, by simp [hl], ?_⟩
      · refine List.Perm.trans ?_ hp
        rw [List.append_assoc]
        refine List.Perm.append_left F ?_
        rw [List.eraseIdx_eq_take_drop_succ]
        have e1 : (Lx[k] :: (Lx.take k ++ Lx.drop (k + 1))).Perm (Lx.take k ++ Lx[k] :: Lx.drop (k + 1)) := List.perm_middle.symm
        rw [← List.drop_eq_getElem_cons hk, List.take_append_drop] at e1
        exact e1
      · have : (Lx.map D.str).eraseIdx k = (Lx.eraseIdx k).map D.str := by
          rw [List.eraseIdx_eq_take_drop_succ, List.eraseIdx_eq_take_drop_succ, List.map_append, List.map_take, List.map_drop]
        rw [this]; simp)
    simp only [rngD_len] at hl
    have hn : F.Nodup := (List.nodup_append.mp (hp.nodup_iff.mpr twords_nodup)).1
    have hf : ∀ x ∈ F, nmB x = true := fun x hx => twords_nm (hp.mem_iff.mp (by simp [hx]))
    have hs := okSort_str fun a ha => nmB_strOk (hf a ha)
    simp (disch := first | assumption | omega | (simp [sizeLine_eq]; done) | (simp [sizeLine_eq]; omega) | fail) [isK, isKB, tupD, sizeLine_eq, grd_pos, r3, sortedF_c (k := 2) (μ := [pc q, .lst (Lx.map .str), .lst (F.map .str)]) (l := F.map .str) rfl, hs]
    refine gives_ok ⟨srt F, q, _, ?_, rfl, pairwise_names hn hf (by omega) (by omega)⟩
    rw [show srtD (F.map .str) = (srt F).map .str from srtD_en F]
  obtain ⟨_, _, e, ths, p', R', rfl, rfl, h⟩ := key
  exact ⟨ths, p', R', e, h⟩
theorem okSet_ties {L : List Tie} (ok : ∀ t ∈ L, okTie t) (few : L.length ≤ 400) : OkSet (L.map tiD) :=
  okSet_en (α := Tie) few (fun t _ => ⟨key_tie, _, .inl rfl⟩) (okSort_en (l := L) (fun t ht => by
    show (PyData.strOk t.a && PyData.strOk t.b) = true
    rw [nmB_strOk (ok t ht).1, nmB_strOk (ok t ht).2.1]
    rfl) fun t _ => .inl ⟨_, _, rfl⟩)
theorem sortSet_ties {L : List Tie} {μ : Mem} (ok : ∀ t ∈ L, okTie t) (few : L.length ≤ 400) : sortSetF [.d (.lst (L.map tiD))] μ = .ok (.d (.lst ((srt (ddT L)).map tiD))) μ := by
  rw [sortSetF_l, grd_pos (okSet_ties ok few)]
  have e : srtD (ddD (L.map tiD)) = (srt (ddT L)).map tiD := sset_en (α := Tie)
  rw [e]
  rfl
theorem ne_tiesL {T : List Tie} {μ : Mem} (ok : ∀ t ∈ T, okTie t) : neF (.d (.lst (T.map tiD))) (.d (.lst [])) μ = .ok (.d (.bl (!decide (T = [])))) μ := by
  have e1 : okEq (.lst (T.map tiD)) = true := by
    show flat (59 + 1) _ = true
    rw [flat]
    exact flats_of fun d hd => by
      obtain ⟨t, ht, rfl⟩ := List.mem_map.mp hd
      exact flat_mono' _ _ _ (tie_is (ok t ht)).2 (by decide)
  rw [neF_d e1 (show okEq (.lst []) = true from rfl)]
  cases T with
  | nil => rfl
  | cons a l => simp [deq, toPy, toPys, PyData.eqv, PyData.eqvAll]
/-- of names of a few -/
def Of (ths : List Str) (t : Tie) : Prop := okTie t ∧ t.a ∈ ths ∧ t.b ∈ ths
theorem isTies_of {ths : List Str} {T : List Tie} (h : ∀ t ∈ T, Of ths t) (hr : T.Pairwise fun a b => DatumOrd.lt a b = true) (lo : 1 ≤ T.length) (hi : T.length ≤ 60) (h14 : ths.length ≤ 14) : IsTies T where
  ok t ht := (h t ht).1
  rise := hr
  lo := lo
  hi := hi
  names := Nat.le_trans (nodup_le namesT_nd fun x hx => by
    obtain ⟨t, ht, rfl | rfl⟩ := mem_namesT.mp hx
    · exact (h t ht).2.1
    · exact (h t ht).2.2) h14
theorem tie_of {ths : List Str} {x y : Str} {s : Int} (hnm : ∀ x ∈ ths, nmB x = true) (hx : x ∈ ths) (hy : y ∈ ths) (ne : x ≠ y) (hs : s = 0 ∨ s = 1) : Of ths ⟨if DatumOrd.lt y x then y else x, if DatumOrd.lt x y then y else x, s⟩ := by
  have hxy : DatumOrd.lt x y = true ∨ DatumOrd.lt y x = true := by
    cases h1 : DatumOrd.lt x y with
    | true => exact .inl rfl
    | false =>
      cases h2 : DatumOrd.lt y x with
      | true => exact .inr rfl
      | false => exact (ne (Enc.tri _ _ h1 h2)).elim
  rcases hxy with h | h
  · have h2 := dlt_asymm h
    simp only [h, h2]
    exact ⟨⟨hnm x hx, hnm y hy, h, hs⟩, hx, hy⟩
  · have h2 := dlt_asymm h
    simp only [h, h2]
    exact ⟨⟨hnm y hy, hnm x hx, h, hs⟩, hy, hx⟩
theorem min_str {x y : Str} {μ : Mem} (hx : PyData.strOk x = true) (hy : PyData.strOk y = true) : minF [.d (.str x), .d (.str y)] μ = .ok (.d (.str (if DatumOrd.lt y x then y else x))) μ := by
  have iu := Is.str hx
  have iv := Is.str hy
  show grd _ _ μ = _
  rw [grd_pos ⟨iu.okEq, iv.okEq⟩, iv.ltD iu]
  cases DatumOrd.lt y x <;> rfl
theorem max_str {x y : Str} {μ : Mem} (hx : PyData.strOk x = true) (hy : PyData.strOk y = true) : maxF [.d (.str x), .d (.str y)] μ = .ok (.d (.str (if DatumOrd.lt x y then y else x))) μ := by
  have iu := Is.str hx
  have iv := Is.str hy
  show grd _ _ μ = _
  rw [grd_pos ⟨iu.okEq, iv.okEq⟩, iu.ltD iv]
  cases DatumOrd.lt x y <;> rfl
theorem any_ties_ok {B : List SV → M SV} (b : Bel B) {n m : Nat} {p : Pool} (h0 : 1 ≤ n) (h1 : n ≤ 14) (m0 : 1 ≤ m) (m1 : m ≤ 60) : ∃ T w p' R', f__law_any_ties B [.c 0, .d (.int n), .d (.int m)] [pc p] = .ok (.d w) (pc p' :: R') ∧ tupD w = some (T.map tiD) ∧ IsTies T := by
  obtain ⟨ths0, p1, R1, e1, t0⟩ := things54_ok b (p := p) h0 h1
  obtain ⟨ths, v, hv, h2, h14, hnm, lt01, ev⟩ : ∃ (ths : List Str) (v : D), tupD v = some (ths.map .str) ∧ 2 ≤ ths.length ∧ ths.length ≤ 14 ∧ (∀ x ∈ ths, nmB x = true) ∧ (∀ x y, ths[0]? = some x → ths[1]? = some y → DatumOrd.lt x y = true) ∧ ∀ (ρ : FEnv) μ, ρ 3 = .d (.ntp (ths0.map .str)) → (fIf (fT (fOp gtF (fCall lenF (fCons (fV 3) fNil)) (fC (.int 1)))) (fV 3) (fTup (fCons (fC (.str "ann")) (fCons (fC (.str "bob")) fNil)))) ρ μ = .ok (.d v) μ := by
    by_cases h : 1 < ths0.length
    · refine ⟨ths0, .ntp (ths0.map .str), rfl, by omega, t0.hi, fun x hx => (t0.name x hx).1, fun x y hx hy => rise_at t0.rise hx hy (by omega), fun ρ μ r3 => ?_⟩
      have : (1 : Int) < ths0.length := by omega
      simp (disch := first | assumption | omega | (simp [sizeLine_eq]; done) | (simp [sizeLine_eq]; omega) | fail) [isK, isKB, tupD, sizeLine_eq, grd_pos, r3, this]
    · refine ⟨["ann", "bob"], .tup [.str "ann", .str "bob"], rfl, by decide, by decide, by decide +kernel, fun x y hx hy => by cases hx; cases hy; decide +kernel, fun ρ μ r3 => ?_⟩
      have : ¬ (1 : Int) < ths0.length := by omega
      simp (disch := first | assumption | omega | (simp [sizeLine_eq]; done) | (simp [sizeLine_eq]; omega) | fail) [isK, isKB, tupD, sizeLine_eq, grd_pos, r3, this]
  obtain ⟨x, p2, x0, x1, e2⟩ := b.ok m p1 (by omega) (by omega)
  have z1 : 1 + x < 4611686018427387904 := by omega
  have z2 : -4611686018427387904 ≤ 1 + x := by omega
  have key : gives (f__law_any_ties B [.c 0, .d (.int n), .d (.int m)] [pc p]) fun s μ => ∃ T w p' R', s = .d w ∧ μ = pc p' :: R' ∧ tupD w = some (T.map tiD) ∧ IsTies T := by
    simp (disch := first | assumption | omega | (simp [sizeLine_eq]; done) | (simp [sizeLine_eq]; omega) | fail) [isK, isKB, tupD, sizeLine_eq, grd_pos, f__law_any_ties, ↓ev, -fIf_s, e1, z1, z2, e2]
    generalize el : fLoop _ _ _ _ = z
    obtain ⟨ρ', μ', rfl, r0, r3, L, p5, r4, hL, ll, rfl⟩ := loop_inv el (fun i ρ μ => ρ 0 = .c 0 ∧ ρ 3 = .d v ∧ ∃ (L : List Tie) (p : Pool), ρ 4 = .d (.lst (L.map tiD)) ∧ (∀ t ∈ L, Of ths t) ∧ L.length ≤ i ∧ μ = [pc p])
      ⟨by simp, by simp, [], p2, by simp, by simp, by simp, rfl⟩ (by
      rintro i d ρ μ hd ⟨r0, r3, L, p, r4, hL, ll, rfl⟩
      have hi := (List.getElem?_eq_some_iff.mp hd).1
      simp only [rngD_len] at hi
      obtain ⟨y1, q1, hy1, ea⟩ := one_ok b (p := p) (v := v) (l := ths.map .str) (.inl hv) (by simp; omega) (by simp; omega)
      obtain ⟨y2, q2, hy2, eb⟩ := one_ok b (p := q1) (v := v) (l := ths.map .str) (.inl hv) (by simp; omega) (by simp; omega)
      obtain ⟨x, hx, rfl⟩ := List.mem_map.mp hy1
      obtain ⟨y, hy, rfl⟩ := List.mem_map.mp hy2
      have nx := nmB_strOk (hnm x hx)
      have ny := nmB_strOk (hnm y hy)
      have ne := fun μ => (Is.str nx).neF (Is.str ny) (μ := μ)
      by_cases g : x = y
      · have ne : ∀ μ, neF (.d (.str x)) (.d (.str y)) μ = .ok (.d (.bl false)) μ := fun μ => (ne μ).trans (by rw [decide_eq_true g]; rfl)
        have zz : L.length ≤ 16777216 := by omega
        simp (disch := first | assumption | omega | (simp [sizeLine_eq]; done) | (simp [sizeLine_eq]; omega) | fail) [isK, isKB, tupD, sizeLine_eq, grd_pos, r0, r3, r4, ea, eb, ne, zz]
        exact ⟨by simp [r0], by simp [r3], L, q2, by simp, hL, by omega, rfl⟩
      · have ne : ∀ μ, neF (.d (.str x)) (.d (.str y)) μ = .ok (.d (.bl true)) μ := fun μ => (ne μ).trans (by rw [decide_eq_false g]; rfl)
        obtain ⟨s, q3, s0, s1, ec⟩ := b.ok 2 q2 (by omega) (by omega)
        have mi := fun μ => min_str (μ := μ) nx ny
        have ma := fun μ => max_str (μ := μ) nx ny
        have ot := tie_of hnm hx hy g (show s = 0 ∨ s = 1 by omega)
        generalize (if DatumOrd.lt y x then y else x) = lo at mi ot
        generalize (if DatumOrd.lt x y then y else x) = hi2 at ma ot
        have zz : L.length + 1 ≤ 16777216 := by omega
        simp (disch := first | assumption | omega | (simp [sizeLine_eq]; done) | (simp [sizeLine_eq]; omega) | fail) [isK, isKB, tupD, sizeLine_eq, grd_pos, r0, r3, r4, ea, eb, ec, ne, mi, ma, zz]
        refine ⟨by simp [r0], by simp [r3], L ++ [⟨lo, hi2, s⟩], q3, by simp, fun t ht => ?_, by simp; omega, rfl⟩
        rcases List.mem_append.mp ht with h | h
        · exact hL t h
        · rw [List.mem_singleton.mp h]; exact ot)
    rw [rngD_len] at ll
    have okL : ∀ t ∈ L, okTie t := fun t ht => (hL t ht).1
    have ne := fun μ => ne_tiesL (μ := μ) okL
    by_cases hE : L = []
    · have ne : ∀ μ, neF (.d (.lst (L.map tiD))) (.d (.lst [])) μ = .ok (.d (.bl false)) μ := fun μ => (ne μ).trans (by rw [decide_eq_true hE]; rfl)
      obtain ⟨x, hx⟩ := at_of (l := ths) (i := 0) (by omega)
      obtain ⟨y, hy⟩ := at_of (l := ths) (i := 1) (by omega)
      have i0 := fun μ => ixT (w := v) (i := 0) (μ := μ) hv (d := .str x) (by rw [List.getElem?_map, hx]; rfl)
      have i1 := fun μ => ixT (w := v) (i := 1) (μ := μ) hv (d := .str y) (by rw [List.getElem?_map, hy]; rfl)
      have i0 : ∀ μ, ixF (.d v) (.d (.int 0)) μ = .ok (.d (.str x)) μ := i0
      have i1 : ∀ μ, ixF (.d v) (.d (.int 1)) μ = .ok (.d (.str y)) μ := i1
      simp (disch := first | assumption | omega | (simp [sizeLine_eq]; done) | (simp [sizeLine_eq]; omega) | fail) [isK, isKB, tupD, sizeLine_eq, grd_pos, r0, r3, r4, ne, i0, i1]
      refine gives_ok ⟨[⟨x, y, 0⟩], _, p5, _, rfl, rfl, rfl, ?_⟩
      have mx := List.mem_of_getElem? hx
      have my := List.mem_of_getElem? hy
      exact isTies_of (ths := ths) (fun t ht => by
        rw [List.mem_singleton.mp ht]
        exact ⟨⟨hnm x mx, hnm y my, lt01 x y hx hy, .inl rfl⟩, mx, my⟩) (List.pairwise_singleton _ _) (by simp) (by simp) h14
    · have ne : ∀ μ, neF (.d (.lst (L.map tiD))) (.d (.lst [])) μ = .ok (.d (.bl true)) μ := fun μ => (ne μ).trans (by rw [decide_eq_false hE]; rfl)
      have so := fun μ => sortSet_ties (μ := μ) okL (by omega)
      obtain ⟨w, hw, ew⟩ := cutT (w := .ntp ((srt (ddT L)).map tiD)) (lo := none) (hi := some 60) rfl
      rw [cutD_take (by omega), ← List.map_take] at hw
      simp (disch := first | assumption | omega | (simp [sizeLine_eq]; done) | (simp [sizeLine_eq]; omega) | fail) [isK, isKB, tupD, sizeLine_eq, grd_pos, r0, r3, r4, ne, so, ew]
      refine gives_ok ⟨(srt (ddT L)).take 60, w, p5, _, rfl, rfl, hw, ?_⟩
      have sub : ∀ t ∈ (srt (ddT L)).take 60, Of ths t := fun t ht => hL t (mem_ddT.mp (mem_srt.mp (List.mem_of_mem_take ht)))
      refine isTies_of sub ((srt_lt nodup_ddT).sublist (List.take_sublist _ _)) ?_ (by rw [List.length_take]; omega) h14
      rw [List.length_take]
      obtain ⟨t, ht⟩ := List.exists_mem_of_ne_nil L hE
      have : t ∈ srt (ddT L) := mem_srt.mpr (mem_ddT.mpr ht)
      have := List.length_pos_of_mem this
      omega
  obtain ⟨_, _, e, T, w, p', R', rfl, rfl, hw, h⟩ := key
  exact ⟨T, w, p', R', e, hw, h⟩

end PL
namespace PL
open PySem PySem.Spec PyProof.Rows L2
open PySem.W (Datum DatumOrd)
noncomputable def f__law_is_told_k54 (BEL : List SV → M SV) : List SV → M SV := fDef 2 (fSeq (fAsg (fCall (callM f__law_names_of) (fCons (fV 1) fNil)) (gN 2))
  (fSeq (fAsg (fLst fNil) (gN 3))
  (fSeq (fFor (itF (fV 1)) (gN 4) (fAsg (fOp addF (fV 3) (fCall (callM f__law_rules) (fCons (fV 4) fNil))) (gN 3)))
  (fSeq (fAsg (fOp eqF (fCall (callM BEL) (fCons (fV 0) (fCons (fC (.int 2)) fNil))) (fC (.int 0))) (gN 5))
  (fSeq (fPar 6 7 (fCons (fIf (fT (fV 5)) (permM [0] (callM f_names_of) 0 1 fNil (fCons (fV 1) fNil)) (fCall (callM f_names_of) (fCons (fV 1) fNil))) (fCons (fIf (fT (fV 5)) (permM [0] (callM f_book_of_ties) 0 1 fNil (fCons (fV 1) fNil)) (fCall (callM f_book_of_ties) (fCons (fV 1) fNil))) fNil)))
  (fSeq (fIfS (fTOr (fTNot (fT (fCall (callM (f__law_same_k54 12)) (fCons (fV 6) (fCons (fV 2) fNil))))) (fTNot (fT (fCall (callM (f__law_same_k54 12)) (fCons (fV 7) (fCons (fTup (fCons (fV 2) (fCons (fCall tupF (fCons (fCall sortSetF (fCons (fV 3) fNil)) fNil)) fNil))) fNil)))))) (fRet (fC (.bl false))) fSkip)
  (fSeq (fAsg (fIf (fT (fOp ltF (fCall lenF (fCons (fV 2) fNil)) (fC (.int 7)))) (fCall (callM f__law_all) (fCons (fCall lenF (fCons (fV 2) fNil)) fNil)) (fLc finLF (rng1F (fCons (fC (.int 20)) fNil)) (gN 9) fYes (fCall tupF (fCons (fLc finLF (itF (fV 2)) (gN 10) fYes (fCall (callM BEL) (fCons (fV 0) (fCons (fC (.int 2)) fNil))) [10]) fNil)) [9])) (gN 8))
  (fRet (fOp niF (fC (.bl false)) (fLc finLF (itF (fV 8)) (gN 11) fYes (fOp eqF (fCall (callM f__law_keeps_k54) (fCons (fV 7) (fCons (fV 11) fNil))) (fCall (callM f__law_is_kept) (fCons (fV 2) (fCons (fV 1) (fCons (fV 11) fNil))))) [11]))))))))))
--.
noncomputable def f__law_right_k54 (BEL : List SV → M SV) : List SV → M SV := fDef 1 (fSeq (fFor (rng1F (fCons (fC (.int 6)) fNil)) (gN 1) (fIfS (fTNot (fT (fCall (callM (f__law_is_told_k54 BEL)) (fCons (fV 0) (fCons (fCall (callM (f__law_any_ties BEL)) (fCons (fV 0) (fCons (fC (.int 7)) (fCons (fC (.int 9)) fNil)))) fNil))))) (fRet (fC (.bl false))) fSkip))
  (fSeq (fAsg (fTup (fCons (fTup (fCons (fC (.str "ann")) (fCons (fC (.str "bob")) (fCons (fC (.int 0)) fNil)))) (fCons (fTup (fCons (fC (.str "ann")) (fCons (fC (.str "bob")) (fCons (fC (.int 1)) fNil)))) (fCons (fTup (fCons (fC (.str "bob")) (fCons (fC (.str "eve")) (fCons (fC (.int 0)) fNil)))) fNil)))) (gN 2))
  (fRet (fAnd (fCall (callM (f__law_is_told_k54 BEL)) (fCons (fV 0) (fCons (fCall (callM (f__law_great_ties BEL)) (fCons (fV 0) fNil)) fNil))) (fAnd (fCall (callM (f__law_is_told_k54 BEL)) (fCons (fV 0) (fCons (fCall (callM (f__law_any_ties BEL)) (fCons (fV 0) (fCons (fC (.int 14)) (fCons (fC (.int 59)) fNil)))) fNil))) (fCall (callM (f__law_is_told_k54 BEL)) (fCons (fV 0) (fCons (fV 2) fNil))))))))
--.
noncomputable def f_law_k54 : List SV → M SV := fDef 1 (fRet (fCall allF (fCons (fLc finLF (rng1F (fCons (fC (.int 3)) fNil)) (gN 1) fYes (fCall (callM (f__law_right_k54 (f__law_nip 103 20011 2147483423 41299 50951 2147483423))) (fCons (fCall (callM (f__law_urn 43591 2147483423 43 2147483423 99991 4099 8963 439 999769)) (fCons (fV 0) (fCons (fV 1) fNil))) fNil)) [1]) fNil)))
--.
theorem many_things {B : List SV → M SV} (b : Bel B) {ths : List Str} {ρ : FEnv} {p : Pool} {z : PL.R Out} (t : Ths (.ntp (ths.map .str)) ths) (t0 : ρ 0 = .c 0) (t1 : ρ 1 = .d (.ntp (ths.map .str))) (t2 : ρ 2 = .d (.lst []))
    (el : fLoop (bF (gN 3) (fAsg (fIf (fT (fOp gtF (fCall lenF (fCons (fV 1) fNil)) (fC (.int 9)))) (fV 1) (fCall (callM (f__law_any_things B)) (fCons (fV 0) (fCons (fC (.int 14)) fNil)))) (gN 1))) (rngD 0 20) ρ [pc p] = z) :
    ∃ ρ' ths' p', z = .ok (.nx ρ') [pc p'] ∧ Ths (.ntp (ths'.map .str)) ths' ∧ ρ' 0 = .c 0 ∧ ρ' 1 = .d (.ntp (ths'.map .str)) ∧ ρ' 2 = .d (.lst []) := by
  obtain ⟨ρ', μ', rfl, r0, r2, ths', p', r1, h, rfl⟩ := loop_inv el (fun _ ρ μ => ρ 0 = .c 0 ∧ ρ 2 = .d (.lst []) ∧ ∃ (ths : List Str) (p : Pool), ρ 1 = .d (.ntp (ths.map .str)) ∧ Ths (.ntp (ths.map .str)) ths ∧ μ = [pc p]) ⟨t0, t2, ths, p, t1, t, rfl⟩ (by
    rintro i d ρ μ hd ⟨r0, r2, ths, p, r1, h, rfl⟩
    by_cases g : (9 : Int) < ths.length
    · simp (disch := first | assumption | omega | (simp [sizeLine_eq]; done) | (simp [sizeLine_eq]; omega) | fail) [isK, isKB, tupD, sizeLine_eq, grd_pos, r0, r1, r2, g]
      exact ⟨by simp [r0], by simp [r2], ths, p, by simp, h, rfl⟩
    · obtain ⟨ths2, p2, R2, e, t2⟩ := things54_ok b (n := 14) (p := p) (by omega) (by omega)
      have e : f__law_any_things B [.c 0, .d (.int 14)] [pc p] = .ok (.d (.ntp (ths2.map .str))) (pc p2 :: R2) := e
      simp (disch := first | assumption | omega | (simp [sizeLine_eq]; done) | (simp [sizeLine_eq]; omega) | fail) [isK, isKB, tupD, sizeLine_eq, grd_pos, r0, r1, r2, g, e]
      exact ⟨by simp [r0], by simp [r2], ths2, p2, by simp, t2, rfl⟩)
  exact ⟨ρ', ths', p', rfl, h, r0, r1, r2⟩
theorem great_ties_ok {B : List SV → M SV} (b : Bel B) {p : Pool} : ∃ T w p' R', f__law_great_ties B [.c 0] [pc p] = .ok (.d w) (pc p' :: R') ∧ tupD w = some (T.map tiD) ∧ IsTies T := by
  obtain ⟨ths0, p1, R1, e1, t0⟩ := things54_ok b (n := 14) (p := p) (by omega) (by omega)
  have e1 : f__law_any_things B [.c 0, .d (.int 14)] [pc p] = .ok (.d (.ntp (ths0.map .str))) (pc p1 :: R1) := e1
  have key : gives (f__law_great_ties B [.c 0] [pc p]) fun s μ => ∃ T w p' R', s = .d w ∧ μ = pc p' :: R' ∧ tupD w = some (T.map tiD) ∧ IsTies T := by
    simp (disch := first | assumption | omega | (simp [sizeLine_eq]; done) | (simp [sizeLine_eq]; omega) | fail) [isK, isKB, tupD, sizeLine_eq, grd_pos, f__law_great_ties, e1]
    generalize el : fLoop _ _ _ _ = z
    obtain ⟨ρ1, ths, p2, rfl, t, r0, r1, r2⟩ := many_things b t0 (by simp) (by simp) (by simp) el
    have h14 := t.hi
    have hnm : ∀ x ∈ ths, nmB x = true := fun x hx => (t.name x hx).1
    simp (disch := first | assumption | omega | (simp [sizeLine_eq]; done) | (simp [sizeLine_eq]; omega) | fail) [isK, isKB, tupD, sizeLine_eq, grd_pos, r0, r1, r2]
    generalize el2 : fLoop _ _ _ _ = z2
    obtain ⟨ρ', μ', rfl, r0, r1, L, p5, r4, hL, hr, hb, ll, rfl⟩ := loop_inv el2 (fun i ρ μ => ρ 0 = .c 0 ∧ ρ 1 = .d (.ntp (ths.map .str)) ∧ ∃ (L : List Tie) (p : Pool), ρ 2 = .d (.lst (L.map tiD)) ∧ (∀ t ∈ L, Of ths t) ∧ (L.Pairwise fun a b => DatumOrd.lt a b = true) ∧ (∀ t ∈ L, ∃ j, j < i ∧ ths[j]? = some t.a) ∧ L.length ≤ 14 * i ∧ μ = [pc p])
      ⟨r0, r1, [], p2, r2, by simp, by simp, by simp, by simp, rfl⟩ (by
      rintro i d ρ μ hd ⟨r0, r1, L, p, r2, hL, hr, hb, ll, rfl⟩
      obtain ⟨d', g1, _, rfl⟩ := enumD_get hd
      rw [List.getElem?_map] at g1
      obtain ⟨x, hx, rfl⟩ := Option.map_eq_some_iff.mp g1
      have li := (List.getElem?_eq_some_iff.mp hx).1
      obtain ⟨w, hw, ew⟩ := cutT (w := .ntp (ths.map .str)) (lo := some ((i : Int) + 1)) (hi := none) rfl
      rw [cutD_drop (by omega), show ((i : Int) + 1).toNat = i + 1 by omega, ← List.map_drop] at hw
      have itw : itD w = some ((ths.drop (i + 1)).map .str) := by
        cases w <;> simp only [tupD, Option.some.injEq, reduceCtorEq] at hw <;> subst hw <;> rfl
      have hdl : (ths.drop (i + 1)).length ≤ 14 := by rw [List.length_drop]; omega
      have zz0 : (ths.drop (i + 1)).length ≤ 16777216 := by omega
      have dl : ((ths.drop (i + 1)).map D.str).length ≤ 16777216 := by rw [List.length_map]; omega
      simp (disch := first | assumption | omega | (simp [sizeLine_eq]; done) | (simp [sizeLine_eq]; omega) | fail) [isK, isKB, tupD, sizeLine_eq, grd_pos, r0, r1, r2, ew, itw, dl, zz0, -List.map_drop, -List.length_drop]
      generalize el3 : cLoop _ _ _ = z3
      obtain ⟨ts, μ3, rfl, tl, tg, p3, rfl⟩ := loop_drawT (en := D.str) (en2 := tiD) (l := ths.drop (i + 1)) (fun μ => ∃ p, μ = [pc p]) (fun (y : Str) (t : Tie) => t.a = x ∧ t.b = y ∧ (t.s = 0 ∨ t.s = 1)) el3 ⟨p, rfl⟩ (by
        rintro y hy μ ⟨p, rfl⟩
        obtain ⟨s, q, s0, s1, e⟩ := b.ok 2 p (by omega) (by omega)
        refine ⟨⟨x, y, s⟩, [pc q], ?_, ⟨rfl, rfl, by simp only; omega⟩, q, rfl⟩
        simp (disch := first | assumption | omega | (simp [sizeLine_eq]; done) | (simp [sizeLine_eq]; omega) | fail) [isK, isKB, tupD, sizeLine_eq, grd_pos, cStep, r0, e])
      have tat : ∀ (k : Nat) (u : Tie), ts[k]? = some u → u.a = x ∧ ths[i + 1 + k]? = some u.b ∧ (u.s = 0 ∨ u.s = 1) := fun k u hk => by
        have lk := (List.getElem?_eq_some_iff.mp hk).1
        obtain ⟨y, hy⟩ := at_of (l := ths.drop (i + 1)) (i := k) (by omega)
        obtain ⟨a1, a2, a3⟩ := tg k y u hy hk
        rw [List.getElem?_drop] at hy
        exact ⟨a1, by rw [hy, a2], a3⟩
      have zz : L.length + ts.length ≤ 16777216 := by omega
      have zz2 : ts.length ≤ 16777216 := by omega
      simp (disch := first | assumption | omega | (simp [sizeLine_eq]; done) | (simp [sizeLine_eq]; omega) | fail) [isK, isKB, tupD, sizeLine_eq, grd_pos, finLF, zz, zz2, -List.map_append]
      refine ⟨by simp [r0], by simp [r1], L ++ ts, p3, by simp, fun u hu => ?_, ?_, fun u hu => ?_, by simp; omega, rfl⟩
      · rcases List.mem_append.mp hu with h | h
        · exact hL u h
        · obtain ⟨k, hk⟩ := List.getElem?_of_mem h
          obtain ⟨a1, a2, a3⟩ := tat k u hk
          have mx := List.mem_of_getElem? hx
          have my := List.mem_of_getElem? a2
          exact ⟨⟨by rw [a1]; exact hnm x mx, hnm _ my, by rw [a1]; exact rise_at t.rise hx a2 (by omega), a3⟩, by rw [a1]; exact mx, my⟩
      · refine List.pairwise_append.mpr ⟨hr, List.pairwise_iff_getElem.mpr fun k l hk hl hkl => ?_, fun u hu v hv => ?_⟩
        · obtain ⟨a1, a2, a3⟩ := tat k _ (List.getElem?_eq_getElem hk)
          obtain ⟨b1, b2, b3⟩ := tat l _ (List.getElem?_eq_getElem hl)
          have lt := rise_at t.rise a2 b2 (by omega)
          rw [dlt_tie, if_pos (a1.trans b1.symm), if_neg (dlt_ne lt)]
          exact lt
        · obtain ⟨j, hj, hja⟩ := hb u hu
          obtain ⟨k, hk⟩ := List.getElem?_of_mem hv
          obtain ⟨b1, b2, b3⟩ := tat k v hk
          have lt : DatumOrd.lt u.a v.a = true := by rw [b1]; exact rise_at t.rise hja hx hj
          rw [dlt_tie, if_neg (dlt_ne lt)]
          exact lt
      · rcases List.mem_append.mp hu with h | h
        · obtain ⟨j, hj, hja⟩ := hb u h
          exact ⟨j, by omega, hja⟩
        · obtain ⟨k, hk⟩ := List.getElem?_of_mem h
          obtain ⟨a1, a2, a3⟩ := tat k u hk
          exact ⟨i, by omega, by rw [a1]; exact hx⟩)
    have okL : ∀ t ∈ L, okTie t := fun t ht => (hL t ht).1
    have ne := fun μ => ne_tiesL (μ := μ) okL
    by_cases hE : L = []
    · have ne : ∀ μ, neF (.d (.lst (L.map tiD))) (.d (.lst [])) μ = .ok (.d (.bl false)) μ := fun μ => (ne μ).trans (by rw [decide_eq_true hE]; rfl)
      simp (disch := first | assumption | omega | (simp [sizeLine_eq]; done) | (simp [sizeLine_eq]; omega) | fail) [isK, isKB, tupD, sizeLine_eq, grd_pos, r0, r1, r4, ne]
      refine gives_ok ⟨[⟨"a", "b", 1⟩], _, p5, _, rfl, rfl, rfl, ?_⟩
      exact isTies_of (ths := ["a", "b"]) (fun t ht => by
        rw [List.mem_singleton.mp ht]
        exact ⟨⟨by decide +kernel, by decide +kernel, by decide +kernel, .inr rfl⟩, by simp, by simp⟩) (List.pairwise_singleton _ _) (by simp) (by simp) (by simp)
    · have ne : ∀ μ, neF (.d (.lst (L.map tiD))) (.d (.lst [])) μ = .ok (.d (.bl true)) μ := fun μ => (ne μ).trans (by rw [decide_eq_false hE]; rfl)
      have sl : ∀ μ, slF (.d (.lst (L.map tiD))) none (some (60 : Int)) μ = .ok (.d (.lst ((L.take 60).map tiD))) μ := fun μ => by
        show R.ok (SV.d (.lst (cutD (L.map tiD) none (some 60)))) μ = _
        rw [cutD_take (by omega), ← List.map_take]
        rfl
      simp (disch := first | assumption | omega | (simp [sizeLine_eq]; done) | (simp [sizeLine_eq]; omega) | fail) [isK, isKB, tupD, sizeLine_eq, grd_pos, r0, r1, r4, ne, sl, -List.map_take]
      refine gives_ok ⟨L.take 60, _, p5, _, rfl, rfl, rfl, ?_⟩
      have := List.length_pos_iff.mpr hE
      exact isTies_of (fun u hu => hL u (List.mem_of_mem_take hu)) (hr.sublist (List.take_sublist _ _)) (by rw [List.length_take]; omega) (by rw [List.length_take]; omega) h14
  obtain ⟨_, _, e, T, w, p', R', rfl, rfl, hw, h⟩ := key
  exact ⟨T, w, p', R', e, hw, h⟩
theorem same54_side {s : Side} {n : Nat} {μ : Mem} (h : PyData.strOk s.1 = true) : f__law_same_k54 (n + 2) [.d (sD s), .d (sD s)] μ = .ok (.d (.bl true)) μ :=
  same54_tup (l := [.str s.1, .int s.2]) rfl rfl (by simp) fun d hd μ => by
    simp only [List.mem_cons, List.not_mem_nil, or_false] at hd
    rcases hd with rfl | rfl
    · exact same54_str h
    · exact same54_int
theorem same54_rule {r : Rule} {n : Nat} {μ : Mem} (h1 : PyData.strOk r.1.1 = true) (h2 : PyData.strOk r.2.1 = true) : f__law_same_k54 (n + 3) [.d (rD r), .d (rD r)] μ = .ok (.d (.bl true)) μ :=
  same54_tup (l := [sD r.1, sD r.2]) rfl rfl (by simp) fun d hd μ => by
    simp only [List.mem_cons, List.not_mem_nil, or_false] at hd
    rcases hd with rfl | rfl
    · exact same54_side h1
    · exact same54_side h2
theorem same54_names {ths : List Str} {n : Nat} {μ : Mem} (h : ∀ x ∈ ths, PyData.strOk x = true) (hz : ths.length ≤ 1000) : f__law_same_k54 (n + 2) [.d (.ntp (ths.map .str)), .d (.ntp (ths.map .str))] μ = .ok (.d (.bl true)) μ :=
  same54_tup (l := ths.map .str) rfl rfl (by rw [List.length_map]; omega) fun d hd μ => by
    obtain ⟨x, hx, rfl⟩ := List.mem_map.mp hd
    exact same54_str (h x hx)
theorem same54_book {ths : List Str} {rs : List Rule} {n : Nat} {μ : Mem} (h : ∀ x ∈ ths, PyData.strOk x = true) (hz : ths.length ≤ 1000) (hr : ∀ r ∈ rs, okR ths r) (hz2 : rs.length ≤ 1000) : f__law_same_k54 (n + 5) [.d (.tup [.ntp (ths.map .str), .ntp (rs.map rD)]), .d (.tup [.ntp (ths.map .str), .ntp (rs.map rD)])] μ = .ok (.d (.bl true)) μ :=
  same54_tup (l := [.ntp (ths.map .str), .ntp (rs.map rD)]) rfl rfl (by simp) fun d hd μ => by
    simp only [List.mem_cons, List.not_mem_nil, or_false] at hd
    rcases hd with rfl | rfl
    · exact same54_names h hz
    · exact same54_tup (l := rs.map rD) rfl rfl (by rw [List.length_map]; omega) fun d hd μ => by
        obtain ⟨r, hr', rfl⟩ := List.mem_map.mp hd
        obtain ⟨o1, o2, -⟩ := hr r hr'
        exact same54_rule (h _ o1.1) (h _ o2.1)
/-- a choosing of the names -/
def chT (n : Nat) (d : D) : Prop := ∃ cs : List Int, tupD d = some (cs.map .int) ∧ cs.length = n ∧ ∀ c ∈ cs, c = 0 ∨ c = 1
theorem twenty_ok {B : List SV → M SV} (b : Bel B) {ths : List Str} {ρ : FEnv} {p : Pool} {z : PL.R (List D)} (h14 : ths.length ≤ 14) (r0 : ρ 0 = .c 0) (r2 : ρ 2 = .d (.ntp (ths.map .str)))
    (el : cLoop (cStep (gN 9) fYes (fCall tupF (fCons (fLc finLF (itF (fV 2)) (gN 10) fYes (fCall (callM B) (fCons (fV 0) (fCons (fC (.int 2)) fNil))) [10]) fNil)) [9] ρ) (rngD 0 20) [pc p] = z) : ∃ ys p', z = .ok ys [pc p'] ∧ ys.length = 20 ∧ ∀ y ∈ ys, chT ths.length y := by
  obtain ⟨ys, μ', rfl, yl, hg, p', rfl⟩ := loop_draw el (fun μ => ∃ p, μ = [pc p]) (fun y => chT ths.length y) ⟨p, rfl⟩ (by
    rintro d hd μ ⟨p, rfl⟩
    have zz : ths.length ≤ 16777216 := by omega
    simp (disch := first | assumption | omega | (simp [sizeLine_eq]; done) | (simp [sizeLine_eq]; omega) | fail) [isK, isKB, tupD, sizeLine_eq, grd_pos, cStep, r0, r2, zz]
    generalize el2 : cLoop _ _ _ = z2
    obtain ⟨cs, μ3, rfl, cl, cg, p3, rfl⟩ := loop_drawT (en := D.str) (en2 := D.int) (l := ths) (fun μ => ∃ p, μ = [pc p]) (fun (_ : Str) (c : Int) => c = 0 ∨ c = 1) el2 ⟨p, rfl⟩ (by
      rintro y hy μ ⟨p, rfl⟩
      obtain ⟨s, q, s0, s1, e⟩ := b.ok 2 p (by omega) (by omega)
      refine ⟨s, [pc q], ?_, by omega, q, rfl⟩
      simp (disch := first | assumption | omega | (simp [sizeLine_eq]; done) | (simp [sizeLine_eq]; omega) | fail) [isK, isKB, tupD, sizeLine_eq, grd_pos, cStep, r0, e])
    have zz : cs.length ≤ 16777216 := by omega
    refine ⟨.ntp (cs.map .int), [pc p3], ?_, ⟨cs, rfl, cl, fun c hc => ?_⟩, p3.1, p3.2.1, p3.2.2, rfl⟩
    · simp (disch := first | assumption | omega | (simp [sizeLine_eq]; done) | (simp [sizeLine_eq]; omega) | fail) [isK, isKB, tupD, sizeLine_eq, grd_pos, finLF, zz]
    · obtain ⟨i, hi⟩ := List.getElem?_of_mem hc
      have li := (List.getElem?_eq_some_iff.mp hi).1
      obtain ⟨y, hy⟩ := at_of (l := ths) (i := i) (by omega)
      exact cg i y c hy hi)
  exact ⟨ys, p', rfl, by rw [yl, rngD_len], hg⟩
theorem told54_ok {B : List SV → M SV} (b : Bel B) {T : List Tie} {w : D} {p : Pool} (hw : tupD w = some (T.map tiD)) (h : IsTies T) : ∃ p' R', f__law_is_told_k54 B [.c 0, .d w] [pc p] = .ok (.d (.bl true)) (pc p' :: R') := by
  have hi := h.hi
  have ok := h.ok
  have e1 := fun μ => law_names_ok54 (μ := μ) hw ok (by omega)
  have e2 := fun μ => names_of_ok (μ := μ) hw h
  have e3 := fun μ => book_of_ties_ok (μ := μ) hw h
  have rok := rulesT_ok ok
  have nnm := names_nm ok
  have nst : ∀ x ∈ namesT T, PyData.strOk x = true := fun x hx => nmB_strOk (nnm x hx)
  have rl := rulesT_len (T := T)
  have hn14 := h.names
  have rsl : (ruleSet (rulesT T)).length ≤ 120 := Nat.le_trans ruleSet_len (by omega)
  have rsok : ∀ r ∈ ruleSet (rulesT T), okR (namesT T) r := fun r hr => rok r (mem_ruleSet.mp hr)
  have s1 := fun μ => same54_names (n := 10) (μ := μ) nst (by omega)
  have s2 := fun μ => same54_book (n := 7) (μ := μ) nst (by omega) rsok (by omega)
  have so : ∀ μ, sortSetF [.d (.lst ((rulesT T).map rD))] μ = .ok (.d (.lst ((ruleSet (rulesT T)).map rD))) μ := fun μ => by
    rw [sortSetF_l, grd_pos (okSet_rules rok nnm (by omega)), sset_rules]
    rfl
  have ek : ∀ cs d, tupD d = some (cs.map D.int) → cs.length = (namesT T).length → (∀ c ∈ cs, c = 0 ∨ c = 1) → ∀ μ, f__law_keeps_k54 [.d (.tup [.ntp ((namesT T).map .str), .ntp ((ruleSet (rulesT T)).map rD)]), .d d] μ = .ok (.d (.bl (keptT T cs))) μ := fun cs d hd hl hb μ => by
    rw [keeps54_ok namesT_nd rsok (by omega) hd hl.symm, kept_keep ok hl.symm hb]
  have ei : ∀ (cs : List Int) d, tupD d = some (cs.map D.int) → cs.length = (namesT T).length → ∀ μ, f__law_is_kept [.d (.ntp ((namesT T).map .str)), .d w, .d d] μ = .ok (.d (.bl (keptT T cs))) μ := fun cs d hd hl μ => is_kept_ok hw (by omega) hd hl.symm
  have fin : ∀ (Ds : List D), (∀ d ∈ Ds, chT (namesT T).length d) → ∀ (ρ : FEnv) μ, ρ 1 = .d w → ρ 2 = .d (.ntp ((namesT T).map .str)) → ρ 7 = .d (.tup [.ntp ((namesT T).map .str), .ntp ((ruleSet (rulesT T)).map rD)]) →
      cLoop (cStep (gN 11) fYes (fOp eqF (fCall (callM f__law_keeps_k54) (fCons (fV 7) (fCons (fV 11) fNil))) (fCall (callM f__law_is_kept) (fCons (fV 2) (fCons (fV 1) (fCons (fV 11) fNil))))) [11] ρ) Ds μ = .ok ((List.replicate Ds.length true).map D.bl) μ := fun Ds hD ρ μ r1 r2 r7 => by
    have e : (List.replicate Ds.length true).map D.bl = Ds.map fun _ => D.bl true := by rw [List.map_replicate, List.map_const']
    rw [e]
    refine cLoop_map (fun _ => D.bl true) fun d hd => ?_
    obtain ⟨cs, h1, h2, h3⟩ := hD d hd
    have k1 := ek cs d h1 h2 h3
    have k2 := ei cs d h1 h2
    generalize (namesT T).map D.str = N at *
    simp (disch := first | assumption | omega | (simp [sizeLine_eq]; done) | (simp [sizeLine_eq]; omega) | fail) [isK, isKB, tupD, sizeLine_eq, grd_pos, cStep, r1, r2, r7, k1, k2]
  have itw : itD w = some (T.map tiD) := by
    cases w <;> simp only [tupD, Option.some.injEq, reduceCtorEq] at hw <;> subst hw <;> rfl
  have niT : ∀ (n : Nat) μ, niF (.d (.bl false)) (.d (.lst ((List.replicate n true).map D.bl))) μ = .ok (.d (.bl true)) μ := fun n μ => by
    rw [ni_bls]
    have : ¬ false ∈ List.replicate n true := fun z => by
      have := List.eq_of_mem_replicate z
      cases this
    rw [decide_eq_false this]
    rfl
  obtain ⟨css, c1, c2, c3, ea⟩ := all_okA (n := (namesT T).length) (μ := []) hn14
  have cch : ∀ d ∈ css.map rowD, chT (namesT T).length d := fun d hd => by
    obtain ⟨cs, hcs, rfl⟩ := List.mem_map.mp hd
    exact ⟨cs, rfl, (c2 cs hcs).1, (c2 cs hcs).2⟩
  have clz : css.length ≤ 16384 := by rw [c1]; exact Nat.le_trans (Nat.pow_le_pow_right (by omega) hn14) (by decide)
  obtain ⟨x, p1, x0, x1, en⟩ := b.ok 2 p (by omega) (by omega)
  have key : gives (f__law_is_told_k54 B [.c 0, .d w] [pc p]) fun s μ => ∃ p' R', s = .d (.bl true) ∧ μ = pc p' :: R' := by
    simp (disch := first | assumption | omega | (simp [sizeLine_eq]; done) | (simp [sizeLine_eq]; omega) | fail) [isK, isKB, tupD, sizeLine_eq, grd_pos, f__law_is_told_k54, e1, itw]
    generalize el : fLoop _ _ _ _ = z
    obtain ⟨ρ', μ', rfl, r0, r1, r2, r3, rfl⟩ := loop_invT (en := tiD) el (fun done ρ μ => ρ 0 = .c 0 ∧ ρ 1 = .d w ∧ ρ 2 = .d (.ntp ((namesT T).map .str)) ∧ ρ 3 = .d (.lst ((rulesT done).map rD)) ∧ μ = [pc p])
      ⟨by simp, by simp, by simp, by simp, rfl⟩ (by
      rintro pre t post ρ μ hd ⟨r0, r1, r2, r3, rfl⟩
      have ot : okTie t := ok t (by rw [hd]; simp)
      have lr := fun μ => law_rules_ok (μ := μ) ot
      have hpl : pre.length + 1 ≤ T.length := by rw [hd]; simp
      have rl2 := rulesT_len (T := pre)
      have em : (rulesT (pre ++ [t])).map rD = (rulesT pre).map rD ++ [rD ((t.a, 0), (t.b, 1 - t.s)), rD ((t.a, 1), (t.b, t.s))] := by
        rw [rules_map, rules_map, List.flatMap_append]
        simp
      have zz : ((rulesT pre).map rD).length + 2 ≤ 16777216 := by rw [List.length_map]; omega
      rw [em]
      generalize (rulesT pre).map rD = RP at *
      generalize rD ((t.a, 0), (t.b, 1 - t.s)) = D1 at *
      generalize rD ((t.a, 1), (t.b, t.s)) = D2 at *
      simp (disch := first | assumption | omega | (simp [sizeLine_eq]; done) | (simp [sizeLine_eq]; omega) | fail) [isK, isKB, tupD, sizeLine_eq, grd_pos, r0, r1, r2, r3, lr, zz]
      exact ⟨by simp [r0], by simp [r1], by simp [r2], by simp, rfl⟩)
    have nl : ∀ μ, lenF [.d (.ntp ((namesT T).map .str))] μ = .ok (.d (.int (namesT T).length)) μ := fun μ => (lenT (w := .ntp ((namesT T).map .str)) (μ := μ) rfl).trans (by rw [List.length_map])
    have twenty := fun (ρ : FEnv) (p : Pool) (z : PL.R (List D)) => twenty_ok b (ths := namesT T) (ρ := ρ) (p := p) (z := z) hn14
    have hx : (x = 0) = True ∨ (x = 0) = False := by
      by_cases g : x = 0
      · exact .inl (eq_true g)
      · exact .inr (eq_false g)
    generalize (namesT T).map D.str = N at *
    generalize (ruleSet (rulesT T)).map rD = RR at *
    generalize (rulesT T).map rD = RT at *
    by_cases g7 : ((namesT T).length : Int) < 7
    · have f2 := fin _ cch
      have n2 := niT (css.map rowD).length
      have zl : (css.map rowD).length ≤ 16777216 := by rw [List.length_map]; omega
      have zl2 : ((List.replicate (css.map rowD).length true).map D.bl).length ≤ 16777216 := by rw [List.length_map, List.length_replicate]; exact zl
      generalize css.map rowD = CR at *
      generalize (List.replicate CR.length true).map D.bl = CB at *
      rcases hx with hx | hx
      · simp (disch := first | assumption | omega | (simp [sizeLine_eq]; done) | (simp [sizeLine_eq]; omega) | fail) [isK, isKB, tupD, sizeLine_eq, grd_pos, r0, r1, r2, r3, en, hx, e2, e3, s1, so, s2, nl, g7, ea, f2, finLF, zl, zl2, n2]
        exact gives_ok ⟨p1, _, rfl, rfl⟩
      · simp (disch := first | assumption | omega | (simp [sizeLine_eq]; done) | (simp [sizeLine_eq]; omega) | fail) [isK, isKB, tupD, sizeLine_eq, grd_pos, r0, r1, r2, r3, en, hx, e2, e3, s1, so, s2, nl, g7, ea, f2, finLF, zl, zl2, n2]
        exact gives_ok ⟨p1, _, rfl, rfl⟩
    · rcases hx with hx | hx
      · simp (disch := first | assumption | omega | (simp [sizeLine_eq]; done) | (simp [sizeLine_eq]; omega) | fail) [isK, isKB, tupD, sizeLine_eq, grd_pos, r0, r1, r2, r3, en, hx, e2, e3, s1, so, s2, nl, g7]
        generalize el2 : cLoop _ _ _ = z2
        obtain ⟨ys, p2, rfl, yl, hys⟩ := twenty _ _ _ (by simp [r0]) (by simp [r2]) el2
        have f2 := fin ys hys
        have n2 := niT ys.length
        have zl : ys.length ≤ 16777216 := by omega
        have zl2 : ((List.replicate ys.length true).map D.bl).length ≤ 16777216 := by rw [List.length_map, List.length_replicate]; exact zl
        generalize (List.replicate ys.length true).map D.bl = CB at *
        simp (disch := first | assumption | omega | (simp [sizeLine_eq]; done) | (simp [sizeLine_eq]; omega) | fail) [isK, isKB, tupD, sizeLine_eq, grd_pos, finLF, zl, f2, zl2, n2, r1, r2]
        exact gives_ok ⟨p2, _, rfl, rfl⟩
      · simp (disch := first | assumption | omega | (simp [sizeLine_eq]; done) | (simp [sizeLine_eq]; omega) | fail) [isK, isKB, tupD, sizeLine_eq, grd_pos, r0, r1, r2, r3, en, hx, e2, e3, s1, so, s2, nl, g7]
        generalize el2 : cLoop _ _ _ = z2
        obtain ⟨ys, p2, rfl, yl, hys⟩ := twenty _ _ _ (by simp [r0]) (by simp [r2]) el2
        have f2 := fin ys hys
        have n2 := niT ys.length
        have zl : ys.length ≤ 16777216 := by omega
        have zl2 : ((List.replicate ys.length true).map D.bl).length ≤ 16777216 := by rw [List.length_map, List.length_replicate]; exact zl
        generalize (List.replicate ys.length true).map D.bl = CB at *
        simp (disch := first | assumption | omega | (simp [sizeLine_eq]; done) | (simp [sizeLine_eq]; omega) | fail) [isK, isKB, tupD, sizeLine_eq, grd_pos, finLF, zl, f2, zl2, n2, r1, r2]
        exact gives_ok ⟨p2, _, rfl, rfl⟩
  obtain ⟨_, _, e, p', R', rfl, rfl⟩ := key
  exact ⟨p', R', e⟩
def T3 : List Tie := [⟨"ann", "bob", 0⟩, ⟨"ann", "bob", 1⟩, ⟨"bob", "eve", 0⟩]
theorem T3_ok : IsTies T3 := isTies_of (ths := ["ann", "bob", "eve"]) (fun t ht => by
  simp only [T3, List.mem_cons, List.not_mem_nil, or_false] at ht
  rcases ht with rfl | rfl | rfl
  · exact ⟨⟨by decide +kernel, by decide +kernel, by decide +kernel, .inl rfl⟩, by simp, by simp⟩
  · exact ⟨⟨by decide +kernel, by decide +kernel, by decide +kernel, .inr rfl⟩, by simp, by simp⟩
  · exact ⟨⟨by decide +kernel, by decide +kernel, by decide +kernel, .inl rfl⟩, by simp, by simp⟩) (by decide +kernel) (by decide) (by decide) (by simp)
theorem right_ok_k54 {B : List SV → M SV} (b : Bel B) {p : Pool} : ∃ p', f__law_right_k54 B [.c 0] [pc p] = .ok (.d (.bl true)) [pc p'] := by
  have key : gives (f__law_right_k54 B [.c 0] [pc p]) fun s μ => ∃ p', s = .d (.bl true) ∧ μ = [pc p'] := by
    simp (disch := first | assumption | omega | (simp [sizeLine_eq]; done) | (simp [sizeLine_eq]; omega) | fail) [isK, isKB, tupD, sizeLine_eq, grd_pos, f__law_right_k54]
    generalize el : fLoop _ _ _ _ = z
    obtain ⟨ρ', μ', rfl, r0, p1, rfl⟩ := loop_inv el (fun _ ρ μ => ρ 0 = .c 0 ∧ ∃ p, μ = [pc p]) ⟨rfl, p, rfl⟩ (by
      rintro i d ρ μ hd ⟨r0, p, rfl⟩
      obtain ⟨T, w, p2, R2, e2, hw, hT⟩ := any_ties_ok b (n := 7) (m := 9) (p := p) (by omega) (by omega) (by omega) (by omega)
      have e2 : f__law_any_ties B [.c 0, .d (.int 7), .d (.int 9)] [pc p] = .ok (.d w) (pc p2 :: R2) := e2
      obtain ⟨p3, R3, e3⟩ := told54_ok b (p := p2) hw hT
      simp (disch := first | assumption | omega | (simp [sizeLine_eq]; done) | (simp [sizeLine_eq]; omega) | fail) [isK, isKB, tupD, sizeLine_eq, grd_pos, r0, e2, e3]
      exact ⟨by simp [r0], p3, rfl⟩)
    obtain ⟨T, w, p2, R2, e2, hw, hT⟩ := great_ties_ok b (p := p1)
    obtain ⟨p3, R3, e3⟩ := told54_ok b (p := p2) hw hT
    obtain ⟨T4, w4, p4, R4, e4, hw4, hT4⟩ := any_ties_ok b (n := 14) (m := 59) (p := p3) (by omega) (by omega) (by omega) (by omega)
    have e4 : f__law_any_ties B [.c 0, .d (.int 14), .d (.int 59)] [pc p3] = .ok (.d w4) (pc p4 :: R4) := e4
    obtain ⟨p5, R5, e5⟩ := told54_ok b (p := p4) hw4 hT4
    obtain ⟨p6, R6, e6⟩ := told54_ok b (T := T3) (w := .tup [.tup [.str "ann", .str "bob", .int 0], .tup [.str "ann", .str "bob", .int 1], .tup [.str "bob", .str "eve", .int 0]]) (p := p5) rfl T3_ok
    simp (disch := first | assumption | omega | (simp [sizeLine_eq]; done) | (simp [sizeLine_eq]; omega) | fail) [isK, isKB, tupD, sizeLine_eq, grd_pos, r0, e2, e3, e4, e5, e6]
    exact gives_ok ⟨p6, rfl, rfl⟩
  obtain ⟨_, _, e, p', rfl, rfl⟩ := key
  exact ⟨p', e⟩
theorem law_ok_k54 (ns : List Int) (hl : ns.length ≤ 63) : ∃ μ, f_law_k54 [.d (.scr ns)] [] = .ok (.d (.bl true)) μ := by
  have bel : Bel (f__law_nip 103 20011 2147483423 41299 50951 2147483423) := nip_bel (by decide) (by decide) (by decide) (by decide) (by decide) (by decide)
  have key : gives (f_law_k54 [.d (.scr ns)] []) fun s μ => s = .d (.bl true) := by
    simp (disch := first | assumption | omega | (simp [sizeLine_eq]; done) | (simp [sizeLine_eq]; omega) | fail) [isK, isKB, tupD, sizeLine_eq, grd_pos, f_law_k54]
    generalize el : cLoop _ _ _ = z
    obtain ⟨ys, μ', rfl, hl, hg, -⟩ := loop_draw el (fun _ => True) (fun y => y = .bl true) trivial (by
      rintro d hd μ -
      obtain ⟨x, hx, rfl⟩ := List.mem_map.mp hd
      have hx := List.mem_range.mp hx
      obtain ⟨q, e1⟩ := urn_ok (c0 := 43591) (c1 := 2147483423) (c2 := 43) (c3 := 2147483423) (c4 := 99991) (c5 := 4099) (c6 := 8963) (c7 := 439) (c8 := 999769) (ns := ns) (lap := x) (by omega) (by decide) (by decide) (by decide) (by decide) (by decide) (by decide)
      obtain ⟨q2, e2⟩ := right_ok_k54 bel (p := q)
      refine ⟨.bl true, (μ ++ [pc q]).set μ.length (pc q2), ?_, rfl, trivial⟩
      simp (disch := first | assumption | omega | (simp [sizeLine_eq]; done) | (simp [sizeLine_eq]; omega) | fail) [isK, isKB, tupD, sizeLine_eq, grd_pos, cStep, e1, e2])
    obtain ⟨bs, hb1, hb2⟩ := trues hg
    have hyl : ys.length ≤ 16777216 := by rw [hl, rngD_len]; omega
    simp (disch := first | assumption | omega | (simp [sizeLine_eq]; done) | (simp [sizeLine_eq]; omega) | fail) [isK, isKB, tupD, sizeLine_eq, grd_pos, finLF, hb1, hb2, hyl]
    exact gives_ok rfl
  obtain ⟨_, μ, e, rfl⟩ := key
  exact ⟨μ, e⟩

end PL
namespace Lk54
open PySem PySem.Spec PyProof.Rows L2 PL
theorem sc_is_whole : FnScope N_is_whole ["value"] (defScope s_is_whole) := ⟨rfl, rfl, rfl, by decide +kernel, rfl, by decide +kernel, by decide +kernel⟩
theorem sc_is_name : FnScope N_is_name ["value"] (defScope s_is_name) := ⟨rfl, rfl, rfl, by decide +kernel, rfl, by decide +kernel, by decide +kernel⟩
theorem sc_is_tuple_of : FnScope N_is_tuple_of ["value", "many"] (defScope s_is_tuple_of) := ⟨rfl, rfl, rfl, by decide +kernel, rfl, by decide +kernel, by decide +kernel⟩
theorem sc_with_rules : FnScope N_with_rules ["things", "rules"] (defScope s_with_rules) := ⟨rfl, rfl, rfl, by decide +kernel, rfl, by decide +kernel, by decide +kernel⟩
theorem sc_names_of_by : FnScope N_names_of_by ["ties"] (defScope s_names_of_by) := ⟨rfl, rfl, rfl, by decide +kernel, rfl, by decide +kernel, by decide +kernel⟩
theorem sc_rules_of_tie : FnScope N_rules_of_tie ["tie"] (defScope s_rules_of_tie) := ⟨rfl, rfl, rfl, by decide +kernel, rfl, by decide +kernel, by decide +kernel⟩
theorem sc__law_urn : FnScope N__law_urn ["script", "lap"] (defScope s__law_urn) := ⟨rfl, rfl, rfl, by decide +kernel, rfl, by decide +kernel, by decide +kernel⟩
theorem sc__law_nip : FnScope N__law_nip ["urn", "many"] (defScope s__law_nip) := ⟨rfl, rfl, rfl, by decide +kernel, rfl, by decide +kernel, by decide +kernel⟩
theorem sc__law_same : FnScope N__law_same ["one", "two"] (defScope s__law_same) := ⟨rfl, rfl, rfl, by decide +kernel, rfl, by decide +kernel, by decide +kernel⟩
theorem sc__law_keeps : FnScope N__law_keeps ["book", "choosing"] (defScope s__law_keeps) := ⟨rfl, rfl, rfl, by decide +kernel, rfl, by decide +kernel, by decide +kernel⟩
theorem sc__law_all_choosings : FnScope N__law_all_choosings ["many"] (defScope s__law_all_choosings) := ⟨rfl, rfl, rfl, by decide +kernel, rfl, by decide +kernel, by decide +kernel⟩
theorem sc__law_names_of : FnScope N__law_names_of ["ties"] (defScope s__law_names_of) := ⟨rfl, rfl, rfl, by decide +kernel, rfl, by decide +kernel, by decide +kernel⟩
theorem sc__law_is_kept : FnScope N__law_is_kept ["names", "ties", "choosing"] (defScope s__law_is_kept) := ⟨rfl, rfl, rfl, by decide +kernel, rfl, by decide +kernel, by decide +kernel⟩
theorem sc__law_rules : FnScope N__law_rules ["tie"] (defScope s__law_rules) := ⟨rfl, rfl, rfl, by decide +kernel, rfl, by decide +kernel, by decide +kernel⟩
theorem sc_is_between : FnScope N_is_between ["value", "low", "high"] (defScope s_is_between) := ⟨rfl, rfl, rfl, by decide +kernel, rfl, by decide +kernel, by decide +kernel⟩
theorem sc_book_of_ties_by : FnScope N_book_of_ties_by ["ties"] (defScope s_book_of_ties_by) := ⟨rfl, rfl, rfl, by decide +kernel, rfl, by decide +kernel, by decide +kernel⟩
theorem sc__law_any_of : FnScope N__law_any_of ["urn", "some"] (defScope s__law_any_of) := ⟨rfl, rfl, rfl, by decide +kernel, rfl, by decide +kernel, by decide +kernel⟩
theorem sc__law_any_things : FnScope N__law_any_things ["urn", "most"] (defScope s__law_any_things) := ⟨rfl, rfl, rfl, by decide +kernel, rfl, by decide +kernel, by decide +kernel⟩
theorem sc_is_tie : FnScope N_is_tie ["value"] (defScope s_is_tie) := ⟨rfl, rfl, rfl, by decide +kernel, rfl, by decide +kernel, by decide +kernel⟩
theorem sc__law_any_ties : FnScope N__law_any_ties ["urn", "most", "many"] (defScope s__law_any_ties) := ⟨rfl, rfl, rfl, by decide +kernel, rfl, by decide +kernel, by decide +kernel⟩
theorem sc__law_great_ties : FnScope N__law_great_ties ["urn"] (defScope s__law_great_ties) := ⟨rfl, rfl, rfl, by decide +kernel, rfl, by decide +kernel, by decide +kernel⟩
theorem sc_does_fit_behind : FnScope N_does_fit_behind ["ties", "value"] (defScope s_does_fit_behind) := ⟨rfl, rfl, rfl, by decide +kernel, rfl, by decide +kernel, by decide +kernel⟩
theorem sc_wrong_in_ties : FnScope N_wrong_in_ties ["value"] (defScope s_wrong_in_ties) := ⟨rfl, rfl, rfl, by decide +kernel, rfl, by decide +kernel, by decide +kernel⟩
theorem sc_check_ties : FnScope N_check_ties ["value"] (defScope s_check_ties) := ⟨rfl, rfl, rfl, by decide +kernel, rfl, by decide +kernel, by decide +kernel⟩
theorem sc_names_of : FnScope N_names_of ["ties"] (defScope s_names_of) := ⟨rfl, rfl, rfl, by decide +kernel, rfl, by decide +kernel, by decide +kernel⟩
theorem sc_book_of_ties : FnScope N_book_of_ties ["ties"] (defScope s_book_of_ties) := ⟨rfl, rfl, rfl, by decide +kernel, rfl, by decide +kernel, by decide +kernel⟩
theorem sc__law_is_told : FnScope N__law_is_told ["urn", "ties"] (defScope s__law_is_told) := ⟨rfl, rfl, rfl, by decide +kernel, rfl, by decide +kernel, by decide +kernel⟩
theorem sc__law_right : FnScope N__law_right ["urn"] (defScope s__law_right) := ⟨rfl, rfl, rfl, by decide +kernel, rfl, by decide +kernel, by decide +kernel⟩
theorem sc_law : FnScope N_law ["script"] (defScope s_law) := ⟨rfl, rfl, rfl, by decide +kernel, rfl, by decide +kernel, by decide +kernel⟩
structure C (K : PySem.W.Frag) (mg : Str → Option Value) : Prop where
  d_is_whole : Def K mg "is_whole" s_is_whole
  d_is_name : Def K mg "is_name" s_is_name
  d_is_tuple_of : Def K mg "is_tuple_of" s_is_tuple_of
  d_with_rules : Def K mg "with_rules" s_with_rules
  d_names_of_by : Def K mg "names_of_by" s_names_of_by
  d_rules_of_tie : Def K mg "rules_of_tie" s_rules_of_tie
  d__law_urn : Def K mg "_law_urn" s__law_urn
  d__law_nip : Def K mg "_law_nip" s__law_nip
  d__law_same : Def K mg "_law_same" s__law_same
  d__law_keeps : Def K mg "_law_keeps" s__law_keeps
  d__law_all_choosings : Def K mg "_law_all_choosings" s__law_all_choosings
  d__law_names_of : Def K mg "_law_names_of" s__law_names_of
  d__law_is_kept : Def K mg "_law_is_kept" s__law_is_kept
  d__law_rules : Def K mg "_law_rules" s__law_rules
  d_is_between : Def K mg "is_between" s_is_between
  d_book_of_ties_by : Def K mg "book_of_ties_by" s_book_of_ties_by
  d__law_any_of : Def K mg "_law_any_of" s__law_any_of
  d__law_any_things : Def K mg "_law_any_things" s__law_any_things
  d_is_tie : Def K mg "is_tie" s_is_tie
  d__law_any_ties : Def K mg "_law_any_ties" s__law_any_ties
  d__law_great_ties : Def K mg "_law_great_ties" s__law_great_ties
  d_does_fit_behind : Def K mg "does_fit_behind" s_does_fit_behind
  d_wrong_in_ties : Def K mg "wrong_in_ties" s_wrong_in_ties
  d_check_ties : Def K mg "check_ties" s_check_ties
  d_names_of : Def K mg "names_of" s_names_of
  d_book_of_ties : Def K mg "book_of_ties" s_book_of_ties
  d__law_is_told : Def K mg "_law_is_told" s__law_is_told
  d__law_right : Def K mg "_law_right" s__law_right
  d_law : Def K mg "law" s_law
  n_abs : mg "abs" = none
  n_all : mg "all" = none
  n_bool : mg "bool" = none
  n_dict : mg "dict" = none
  n_divmod : mg "divmod" = none
  n_enumerate : mg "enumerate" = none
  n_int : mg "int" = none
  n_isinstance : mg "isinstance" = none
  n_len : mg "len" = none
  n_list : mg "list" = none
  n_max : mg "max" = none
  n_min : mg "min" = none
  n_range : mg "range" = none
  n_set : mg "set" = none
  n_sorted : mg "sorted" = none
  n_str : mg "str" = none
  n_sum : mg "sum" = none
  n_tuple : mg "tuple" = none
  n_zip : mg "zip" = none
  m_LETTERS : ∃ t, mg "LETTERS" = some (.str "abcdefghijklmnopqrstuvwxyz" t)
  m_MOST_LETTERS : ∃ t, mg "MOST_LETTERS" = some (.int 8 t)
  m_MOST_THINGS : ∃ t, mg "MOST_THINGS" = some (.int 14 t)
  m_MOST_TIES : ∃ t, mg "MOST_TIES" = some (.int 60 t)
  m_NAME : ∃ t, mg "NAME" = some (.int 0 t)
  m_OTHER : ∃ t, mg "OTHER" = some (.int 1 t)
  m_SIGN : ∃ t, mg "SIGN" = some (.int 2 t)
section
variable {P : Program} {w : World} {K : PySem.W.Frag} {mg : Str → Option Value} {base : Heap}
theorem h_is_whole (c : C K mg) : Has P w K mg base 1 "is_whole" ["value"] (pF f_is_whole) := by
  exact has_f (k := 0) c.d_is_whole sc_is_whole (fun _ _ _ _ _ _ us hl => match us, hl with | [_], _ => rfl) rfl rfl (by decide) (fun f cdv A outer s H E hr => (pfss_one (pfs_ret (pf_and (pf_isiK .int rfl c.n_isinstance rfl c.n_int (by decide +kernel) (pf_name 0)) (pf_one (pf_not (pf_isiK .bool rfl c.n_isinstance rfl c.n_bool (by decide +kernel) (pf_name 0))))))))
theorem h_is_name (c : C K mg) : Has P w K mg base 1 "is_name" ["value"] (pF f_is_name) := by
  exact has_f (k := 0) c.d_is_name sc_is_name (fun _ _ _ _ _ _ us hl => match us, hl with | [_], _ => rfl) rfl rfl (by decide) (fun f cdv A outer s H E hr => (pfss_cons (pfs_if (PXW.pt (pfw_or (pft_not (pft_val (pf_isiK .str rfl c.n_isinstance rfl c.n_str (by decide +kernel) (pf_name 0)))) (pfw_or1 (pft_not (pft_lele (pf_c px_int) (pf_len rfl c.n_len (pfa_cons (pf_name 0) pfa_nil)) (pf_c (px_gintC rfl c.m_MOST_LETTERS))))))) (pfss_one (pfs_ret (pf_c px_bl))) pfss_nil)
  (pfss_one (pfs_ret (pf_all rfl rfl c.n_all (pfa_cons (pf_lc (own := [("letter", 1)]) rfl sc_is_name.nd (pfi_U (pf_name 0)) (by exact (show BlkOk N_is_name (defScope s_is_name) _ _ from ⟨rfl, by decide +kernel, by decide +kernel, by decide +kernel, by decide +kernel⟩)) (fun _ _ _ _ _ => (pfg_name (own := [1]) (by decide) sc_is_name.nd (i := 1) rfl (by first | exact Or.inl rfl | exact Or.inr rfl))) (fun _ _ _ _ _ => pfts_nil) (fun _ _ _ _ _ => (pf_in (pf_name 1) (pf_c (px_gstrC rfl c.m_LETTERS)) (hu_of hr)))) pfa_nil))))))
theorem h_is_tuple_of (c : C K mg) : Has P w K mg base 1 "is_tuple_of" ["value", "many"] (pF f_is_tuple_of) := by
  exact has_f (k := 0) c.d_is_tuple_of sc_is_tuple_of (fun _ _ _ _ _ _ us hl => match us, hl with | [_, _], _ => rfl) rfl rfl (by decide) (fun f cdv A outer s H E hr => (pfss_one (pfs_ret (pf_and (pf_isiK .tuple rfl c.n_isinstance rfl c.n_tuple (by decide +kernel) (pf_name 0)) (pf_one (pf_eq (pf_len rfl c.n_len (pfa_cons (pf_name 0) pfa_nil)) (pf_name 1) (hu_of hr)))))))
theorem h_with_rules (c : C K mg) : Has P w K mg base 1 "with_rules" ["things", "rules"] (pF f_with_rules) := by
  exact has_f (k := 0) c.d_with_rules sc_with_rules (fun _ _ _ _ _ _ us hl => match us, hl with | [_, _], _ => rfl) rfl rfl (by decide) (fun f cdv A outer s H E hr => (pfss_one (pfs_ret (pf_tup (pfa_cons (pf_name 0) (pfa_cons (pf_tuple rfl c.n_tuple (pfa_cons (pf_sortSet rfl (hu_of hr) rfl c.n_sorted rfl c.n_set (pfa_cons (pf_name 1) pfa_nil)) pfa_nil)) pfa_nil))))))
theorem h_names_of_by (c : C K mg) : Has P w K mg base 1 "names_of_by" ["ties"] (pF f_names_of_by) := by
  exact has_f (k := 0) c.d_names_of_by sc_names_of_by (fun _ _ _ _ _ _ us hl => match us, hl with | [_], _ => rfl) rfl rfl (by decide) (fun f cdv A outer s H E hr => (pfss_one (pfs_ret (pf_tuple rfl c.n_tuple (pfa_cons (pf_sortSetS rfl (hu_of hr) rfl c.n_sorted rfl c.n_set (pfa_cons (pf_lc2 (own := [("tie", 1), ("name", 2)]) [2] rfl sc_names_of_by.nd (pfi_U (pf_name 0)) (by exact (show BlkOk N_names_of_by (defScope s_names_of_by) _ _ from ⟨rfl, by decide +kernel, by decide +kernel, by decide +kernel, by decide +kernel⟩)) (by decide) (fun _ _ _ _ _ => (pfg_name (own := [1, 2]) (by decide) sc_names_of_by.nd (i := 1) rfl (by first | exact Or.inl rfl | exact Or.inr rfl))) (fun _ _ _ _ _ => pfts_nil) (fun _ _ _ _ _ => (pfi_U (pf_tup (pfa_cons (pf_ix (pf_name 1) (pf_c (px_gintC rfl c.m_NAME))) (pfa_cons (pf_ix (pf_name 1) (pf_c (px_gintC rfl c.m_OTHER))) pfa_nil))))) (fun _ _ _ _ _ => (pfg_name (own := [2]) (by decide) sc_names_of_by.nd (i := 2) rfl (by first | exact Or.inl rfl | exact Or.inr rfl))) (fun _ _ _ _ _ => pfts_nil) (fun _ _ _ _ _ => (pf_name 2))) pfa_nil)) pfa_nil)))))
theorem h_rules_of_tie (c : C K mg) : Has P w K mg base 1 "rules_of_tie" ["tie"] (pF f_rules_of_tie) := by
  exact has_f (k := 0) c.d_rules_of_tie sc_rules_of_tie (fun _ _ _ _ _ _ us hl => match us, hl with | [_], _ => rfl) rfl rfl (by decide) (fun f cdv A outer s H E hr => (pfss_cons (pfs_asg (pf_name 0) (pfg_tup (own := [1, 2, 3]) rfl (pfgs_cons (pfg_name (own := [1, 2, 3]) (by decide) sc_rules_of_tie.nd (i := 1) rfl (by first | exact Or.inl rfl | exact Or.inr rfl)) (pfgs_cons (pfg_name (own := [1, 2, 3]) (by decide) sc_rules_of_tie.nd (i := 2) rfl (by first | exact Or.inl rfl | exact Or.inr rfl)) (pfgs_cons (pfg_name (own := [1, 2, 3]) (by decide) sc_rules_of_tie.nd (i := 3) rfl (by first | exact Or.inl rfl | exact Or.inr rfl)) pfgs_nil)))))
  (pfss_one (pfs_ret (pf_tup (pfa_cons (pf_tup (pfa_cons (pf_tup (pfa_cons (pf_name 1) (pfa_cons (pf_c px_int) pfa_nil))) (pfa_cons (pf_tup (pfa_cons (pf_name 2) (pfa_cons (pf_sub (pf_c px_int) (pf_name 3)) pfa_nil))) pfa_nil))) (pfa_cons (pf_tup (pfa_cons (pf_tup (pfa_cons (pf_name 1) (pfa_cons (pf_c px_int) pfa_nil))) (pfa_cons (pf_tup (pfa_cons (pf_name 2) (pfa_cons (pf_name 3) pfa_nil))) pfa_nil))) pfa_nil)))))))
theorem h__law_urn (c : C K mg) : Has P w K mg base 1 "_law_urn" ["script", "lap"] (pF (f__law_urn 43591 2147483423 43 2147483423 99991 4099 8963 439 999769)) := by
  exact has_f (k := 0) c.d__law_urn sc__law_urn (fun _ _ _ _ _ _ us hl => match us, hl with | [_, _], _ => rfl) rfl rfl (by decide) (fun f cdv A outer s H E hr => (pfss_cons (pfs_set (i := 2) sc__law_urn.nd rfl (by first | exact Or.inl rfl | exact Or.inr rfl) (pf_if (pft_lt (pf_name 1) (pf_len rfl c.n_len (pfa_cons (pf_name 0) pfa_nil)) (hu_of hr)) (pf_intc rfl c.n_int (pfa_cons (pf_ix (pf_name 0) (pf_name 1)) pfa_nil)) (pf_add (pf_add (pf_mul (pf_c px_int) (pf_name 1)) (pf_c px_int)) (pf_mod (pf_intc rfl c.n_int (pfa_cons (pf_sum rfl rfl c.n_sum (pfa_cons (pf_sl (pf_name 0) pfo_none (pfo_some (pf_c px_int))) pfa_nil)) pfa_nil)) (pf_c px_int)))))
  (pfss_cons (pfs_set (i := 3) sc__law_urn.nd rfl (by first | exact Or.inl rfl | exact Or.inr rfl) (pf_add (pf_c px_int) (pf_mul (pf_c px_int) (pf_name 1))))
  (pfss_cons (pfs_for hp_of rfl (pfi_U (pf_add (pf_sl (pf_name 0) pfo_none (pfo_some (pf_c px_int))) (pf_lst (pfa_cons (pf_name 2) pfa_nil)))) (pfg_name (own := [4]) (by decide) sc__law_urn.nd (i := 4) rfl (by first | exact Or.inl rfl | exact Or.inr rfl)) (pfss_one (pfs_set (i := 3) sc__law_urn.nd rfl (by first | exact Or.inl rfl | exact Or.inr rfl) (pf_mod (pf_intc rfl c.n_int (pfa_cons (pf_add (pf_add (pf_mul (pf_name 3) (pf_c px_int)) (pf_mod (pf_intc rfl c.n_int (pfa_cons (pf_name 4) pfa_nil)) (pf_c px_int))) (pf_c px_int)) pfa_nil)) (pf_c px_int)))))
  (pfss_one (pfs_ret (pf_lstC (pfa_cons (pf_if (PXW.pt (pfw_or (pft_lt (pf_name 2) (pf_c px_int) (hu_of hr)) (pfw_or1 (pft_ge (pf_name 2) (pf_pow (pf_c px_int) (pf_c px_int)) (hu_of hr))))) (pf_abs rfl c.n_abs (pfa_cons (pf_name 2) pfa_nil)) (pf_c px_int)) (pfa_cons (pf_name 3) (pfa_cons (pf_c px_int) pfa_nil))))))))))
theorem h__law_nip (c : C K mg) : Has P w K mg base 1 "_law_nip" ["urn", "many"] (pF (f__law_nip 103 20011 2147483423 41299 50951 2147483423)) := by
  exact has_f (k := 0) c.d__law_nip sc__law_nip (fun _ _ _ _ _ _ us hl => match us, hl with | [_, _], _ => rfl) rfl rfl (by decide) (fun f cdv A outer s H E hr => (pfss_cons (pfs_if (pft_gt (pf_ix (pf_name 0) (pf_c px_int)) (pf_c px_int) (hu_of hr)) (pfss_cons (pfs_asg (pf_divmod rfl c.n_divmod (pfa_cons (pf_ix (pf_name 0) (pf_c px_int)) (pfa_cons (pf_name 1) pfa_nil))) (pfg_tup (own := [2]) rfl (pfgs_cons (pfg_sub (own := [2]) (pf_name 0) (pf_c px_int)) (pfgs_cons (pfg_name (own := [2]) (by decide) sc__law_nip.nd (i := 2) rfl (by first | exact Or.inl rfl | exact Or.inr rfl)) pfgs_nil))))
  (pfss_one (pfs_ret (pf_name 2)))) pfss_nil)
  (pfss_cons (pfs_asg (pf_add (pf_ix (pf_name 0) (pf_c px_int)) (pf_c px_int)) (pfg_sub (own := []) (pf_name 0) (pf_c px_int)))
  (pfss_cons (pfs_set (i := 3) sc__law_nip.nd rfl (by first | exact Or.inl rfl | exact Or.inr rfl) (pf_mod (pf_intc rfl c.n_int (pfa_cons (pf_add (pf_add (pf_mul (pf_ix (pf_name 0) (pf_c px_int)) (pf_c px_int)) (pf_mul (pf_ix (pf_name 0) (pf_c px_int)) (pf_c px_int))) (pf_c px_int)) pfa_nil)) (pf_c px_int)))
  (pfss_cons (pfs_asg (pf_mod (pf_intc rfl c.n_int (pfa_cons (pf_add (pf_mul (pf_name 3) (pf_add (pf_mul (pf_c px_int) (pf_div (pf_name 3) (pf_c px_int))) (pf_c px_int))) (pf_ix (pf_name 0) (pf_c px_int))) pfa_nil)) (pf_c px_int)) (pfg_sub (own := []) (pf_name 0) (pf_c px_int)))
  (pfss_one (pfs_ret (pf_mod (pf_intc rfl c.n_int (pfa_cons (pf_div (pf_ix (pf_name 0) (pf_c px_int)) (pf_c px_int)) pfa_nil)) (pf_name 1)))))))))
theorem h__law_same (c : C K mg) : ∀ n : Nat, Has P w K mg base (1 + n) "_law_same" ["one", "two"] (pF (f__law_same_k54 n))
 | 0 => has_no c.d__law_same (fun _ _ _ _ _ _ us hl => match us, hl with | [_, _], _ => rfl)
 | n + 1 => by
  have ih := h__law_same c n
  exact has_f (k := 1 + n) c.d__law_same sc__law_same (fun _ _ _ _ _ _ us hl => match us, hl with | [_, _], _ => rfl) rfl rfl (by decide) (fun f cdv A outer s H E hr => (pfss_cons (pfs_if (pft_val (pf_is2 .tuple .list rfl c.n_isinstance (pfa_cons (pf_name 0) (pfa_cons (pf_tup (pfa_cons (pf_bty rfl c.n_tuple (T := "tuple") (by decide +kernel)) (pfa_cons (pf_bty rfl c.n_list (T := "list") (by decide +kernel)) pfa_nil))) pfa_nil)))) (pfss_cons (pfs_if (PXW.pt (pfw_or (pft_ne (pf_isiK .tuple rfl c.n_isinstance rfl c.n_tuple (by decide +kernel) (pf_name 0)) (pf_isiK .tuple rfl c.n_isinstance rfl c.n_tuple (by decide +kernel) (pf_name 1)) (hu_of hr)) (pfw_or1 (pft_ne (pf_isiK .list rfl c.n_isinstance rfl c.n_list (by decide +kernel) (pf_name 0)) (pf_isiK .list rfl c.n_isinstance rfl c.n_list (by decide +kernel) (pf_name 1)) (hu_of hr))))) (pfss_one (pfs_ret (pf_c px_bl))) pfss_nil)
  (pfss_one (pfs_ret (pf_and (pf_eq (pf_len rfl c.n_len (pfa_cons (pf_name 0) pfa_nil)) (pf_len rfl c.n_len (pfa_cons (pf_name 1) pfa_nil)) (hu_of hr)) (pf_one (pf_notin (pf_c px_bl) (pf_lc (own := [("a", 2), ("b", 3)]) rfl sc__law_same.nd (pfi_zip rfl c.n_zip (pfa_cons (pf_name 0) (pfa_cons (pf_name 1) pfa_nil))) (by exact (show BlkOk N__law_same (defScope s__law_same) _ _ from ⟨rfl, by decide +kernel, by decide +kernel, by decide +kernel, by decide +kernel⟩)) (fun _ _ _ _ _ => (pfg_tup (own := [2, 3]) rfl (pfgs_cons (pfg_name (own := [2, 3]) (by decide) sc__law_same.nd (i := 2) rfl (by first | exact Or.inl rfl | exact Or.inr rfl)) (pfgs_cons (pfg_name (own := [2, 3]) (by decide) sc__law_same.nd (i := 3) rfl (by first | exact Or.inl rfl | exact Or.inr rfl)) pfgs_nil)))) (fun _ _ _ _ _ => pfts_nil) (fun _ _ _ _ _ => (pf_user (ih) takes0 hr (by omega) rfl (pfa_cons (pf_name 2) (pfa_cons (pf_name 3) pfa_nil))))) (hu_of hr))))))) pfss_nil)
  (pfss_cons (pfs_if (PXW.pt (pfw_or (pft_val (pf_is2 .tuple .list rfl c.n_isinstance (pfa_cons (pf_name 1) (pfa_cons (pf_tup (pfa_cons (pf_bty rfl c.n_tuple (T := "tuple") (by decide +kernel)) (pfa_cons (pf_bty rfl c.n_list (T := "list") (by decide +kernel)) pfa_nil))) pfa_nil)))) (pfw_or1 (pft_ne (pf_isiK .bool rfl c.n_isinstance rfl c.n_bool (by decide +kernel) (pf_name 0)) (pf_isiK .bool rfl c.n_isinstance rfl c.n_bool (by decide +kernel) (pf_name 1)) (hu_of hr))))) (pfss_one (pfs_ret (pf_c px_bl))) pfss_nil)
  (pfss_one (pfs_ret (pf_and (pf_eq (pf_isiK .str rfl c.n_isinstance rfl c.n_str (by decide +kernel) (pf_name 0)) (pf_isiK .str rfl c.n_isinstance rfl c.n_str (by decide +kernel) (pf_name 1)) (hu_of hr)) (pf_one (pf_eq (pf_name 0) (pf_name 1) (hu_of hr)))))))))
theorem h__law_keeps (c : C K mg) : Has P w K mg base 1 "_law_keeps" ["book", "choosing"] (pF f__law_keeps_k54) := by
  exact has_f (k := 0) c.d__law_keeps sc__law_keeps (fun _ _ _ _ _ _ us hl => match us, hl with | [_, _], _ => rfl) rfl rfl (by decide) (fun f cdv A outer s H E hr => (pfss_cons (pfs_set (i := 2) sc__law_keeps.nd rfl (by first | exact Or.inl rfl | exact Or.inr rfl) (pf_dzip rfl rfl c.n_dict rfl c.n_zip (pfa_cons (pf_ix (pf_name 0) (pf_c px_int)) (pfa_cons (pf_name 1) pfa_nil))))
  (pfss_one (pfs_ret (pf_notin (pf_c px_bl) (pf_lc (own := [("one", 3), ("two", 4)]) rfl sc__law_keeps.nd (pfi_U (pf_ix (pf_name 0) (pf_c px_int))) (by exact (show BlkOk N__law_keeps (defScope s__law_keeps) _ _ from ⟨rfl, by decide +kernel, by decide +kernel, by decide +kernel, by decide +kernel⟩)) (fun _ _ _ _ _ => (pfg_tup (own := [3, 4]) rfl (pfgs_cons (pfg_name (own := [3, 4]) (by decide) sc__law_keeps.nd (i := 3) rfl (by first | exact Or.inl rfl | exact Or.inr rfl)) (pfgs_cons (pfg_name (own := [3, 4]) (by decide) sc__law_keeps.nd (i := 4) rfl (by first | exact Or.inl rfl | exact Or.inr rfl)) pfgs_nil)))) (fun _ _ _ _ _ => pfts_nil) (fun _ _ _ _ _ => (pf_and (pf_ne (pf_dget (pf_name 2) (pf_ix (pf_name 3) (pf_c px_int)) (hu1_of hr)) (pf_ix (pf_name 3) (pf_c px_int)) (hu_of hr)) (pf_one (pf_ne (pf_dget (pf_name 2) (pf_ix (pf_name 4) (pf_c px_int)) (hu1_of hr)) (pf_ix (pf_name 4) (pf_c px_int)) (hu_of hr)))))) (hu_of hr))))))
theorem h__law_all_choosings (c : C K mg) : Has P w K mg base 1 "_law_all_choosings" ["many"] (pF f__law_all) := by
  exact has_f (k := 0) c.d__law_all_choosings sc__law_all_choosings (fun _ _ _ _ _ _ us hl => match us, hl with | [_], _ => rfl) rfl rfl (by decide) (fun f cdv A outer s H E hr => (pfss_cons (pfs_set (i := 1) sc__law_all_choosings.nd rfl (by first | exact Or.inl rfl | exact Or.inr rfl) (pf_lst (pfa_cons (pf_tup pfa_nil) pfa_nil)))
  (pfss_cons (pfs_for hp_of rfl (pfi_range1 rfl c.n_range (pfa_cons (pf_name 0) pfa_nil)) (pfg_name (own := [2]) (by decide) sc__law_all_choosings.nd (i := 2) rfl (by first | exact Or.inl rfl | exact Or.inr rfl)) (pfss_one (pfs_set (i := 1) sc__law_all_choosings.nd rfl (by first | exact Or.inl rfl | exact Or.inr rfl) (pf_add (pf_lc (own := [("row", 3)]) rfl sc__law_all_choosings.nd (pfi_U (pf_name 1)) (by exact (show BlkOk N__law_all_choosings (defScope s__law_all_choosings) _ _ from ⟨rfl, by decide +kernel, by decide +kernel, by decide +kernel, by decide +kernel⟩)) (fun _ _ _ _ _ => (pfg_name (own := [3]) (by decide) sc__law_all_choosings.nd (i := 3) rfl (by first | exact Or.inl rfl | exact Or.inr rfl))) (fun _ _ _ _ _ => pfts_nil) (fun _ _ _ _ _ => (pf_add (pf_name 3) (pf_tup (pfa_cons (pf_c px_int) pfa_nil))))) (pf_lc (own := [("row", 3)]) rfl sc__law_all_choosings.nd (pfi_U (pf_name 1)) (by exact (show BlkOk N__law_all_choosings (defScope s__law_all_choosings) _ _ from ⟨rfl, by decide +kernel, by decide +kernel, by decide +kernel, by decide +kernel⟩)) (fun _ _ _ _ _ => (pfg_name (own := [3]) (by decide) sc__law_all_choosings.nd (i := 3) rfl (by first | exact Or.inl rfl | exact Or.inr rfl))) (fun _ _ _ _ _ => pfts_nil) (fun _ _ _ _ _ => (pf_add (pf_name 3) (pf_tup (pfa_cons (pf_c px_int) pfa_nil)))))))))
  (pfss_one (pfs_ret (pf_name 1))))))
theorem h__law_names_of (c : C K mg) : Has P w K mg base 1 "_law_names_of" ["ties"] (pF f__law_names_of) := by
  exact has_f (k := 0) c.d__law_names_of sc__law_names_of (fun _ _ _ _ _ _ us hl => match us, hl with | [_], _ => rfl) rfl rfl (by decide) (fun f cdv A outer s H E hr => (pfss_one (pfs_ret (pf_tuple rfl c.n_tuple (pfa_cons (pf_sortSetS rfl (hu_of hr) rfl c.n_sorted rfl c.n_set (pfa_cons (pf_add (pf_lc (own := [("tie", 1)]) rfl sc__law_names_of.nd (pfi_U (pf_name 0)) (by exact (show BlkOk N__law_names_of (defScope s__law_names_of) _ _ from ⟨rfl, by decide +kernel, by decide +kernel, by decide +kernel, by decide +kernel⟩)) (fun _ _ _ _ _ => (pfg_name (own := [1]) (by decide) sc__law_names_of.nd (i := 1) rfl (by first | exact Or.inl rfl | exact Or.inr rfl))) (fun _ _ _ _ _ => pfts_nil) (fun _ _ _ _ _ => (pf_ix (pf_name 1) (pf_c px_int)))) (pf_lc (own := [("tie", 1)]) rfl sc__law_names_of.nd (pfi_U (pf_name 0)) (by exact (show BlkOk N__law_names_of (defScope s__law_names_of) _ _ from ⟨rfl, by decide +kernel, by decide +kernel, by decide +kernel, by decide +kernel⟩)) (fun _ _ _ _ _ => (pfg_name (own := [1]) (by decide) sc__law_names_of.nd (i := 1) rfl (by first | exact Or.inl rfl | exact Or.inr rfl))) (fun _ _ _ _ _ => pfts_nil) (fun _ _ _ _ _ => (pf_ix (pf_name 1) (pf_c px_int))))) pfa_nil)) pfa_nil)))))
theorem h__law_is_kept (c : C K mg) : Has P w K mg base 1 "_law_is_kept" ["names", "ties", "choosing"] (pF f__law_is_kept) := by
  exact has_f (k := 0) c.d__law_is_kept sc__law_is_kept (fun _ _ _ _ _ _ us hl => match us, hl with | [_, _, _], _ => rfl) rfl rfl (by decide) (fun f cdv A outer s H E hr => (pfss_cons (pfs_set (i := 3) sc__law_is_kept.nd rfl (by first | exact Or.inl rfl | exact Or.inr rfl) (pf_dzip rfl rfl c.n_dict rfl c.n_zip (pfa_cons (pf_name 0) (pfa_cons (pf_name 2) pfa_nil))))
  (pfss_one (pfs_ret (pf_notin (pf_c px_bl) (pf_lc (own := [("one", 4), ("two", 5), ("sign", 6)]) rfl sc__law_is_kept.nd (pfi_U (pf_name 1)) (by exact (show BlkOk N__law_is_kept (defScope s__law_is_kept) _ _ from ⟨rfl, by decide +kernel, by decide +kernel, by decide +kernel, by decide +kernel⟩)) (fun _ _ _ _ _ => (pfg_tup (own := [4, 5, 6]) rfl (pfgs_cons (pfg_name (own := [4, 5, 6]) (by decide) sc__law_is_kept.nd (i := 4) rfl (by first | exact Or.inl rfl | exact Or.inr rfl)) (pfgs_cons (pfg_name (own := [4, 5, 6]) (by decide) sc__law_is_kept.nd (i := 5) rfl (by first | exact Or.inl rfl | exact Or.inr rfl)) (pfgs_cons (pfg_name (own := [4, 5, 6]) (by decide) sc__law_is_kept.nd (i := 6) rfl (by first | exact Or.inl rfl | exact Or.inr rfl)) pfgs_nil))))) (fun _ _ _ _ _ => pfts_nil) (fun _ _ _ _ _ => (pf_eq (pf_ne (pf_dget (pf_name 3) (pf_name 4) (hu1_of hr)) (pf_dget (pf_name 3) (pf_name 5) (hu1_of hr)) (hu_of hr)) (pf_eq (pf_name 6) (pf_c px_int) (hu_of hr)) (hu_of hr)))) (hu_of hr))))))
theorem h__law_rules (c : C K mg) : Has P w K mg base 1 "_law_rules" ["tie"] (pF f__law_rules) := by
  exact has_f (k := 0) c.d__law_rules sc__law_rules (fun _ _ _ _ _ _ us hl => match us, hl with | [_], _ => rfl) rfl rfl (by decide) (fun f cdv A outer s H E hr => (pfss_cons (pfs_asg (pf_name 0) (pfg_tup (own := [1, 2, 3]) rfl (pfgs_cons (pfg_name (own := [1, 2, 3]) (by decide) sc__law_rules.nd (i := 1) rfl (by first | exact Or.inl rfl | exact Or.inr rfl)) (pfgs_cons (pfg_name (own := [1, 2, 3]) (by decide) sc__law_rules.nd (i := 2) rfl (by first | exact Or.inl rfl | exact Or.inr rfl)) (pfgs_cons (pfg_name (own := [1, 2, 3]) (by decide) sc__law_rules.nd (i := 3) rfl (by first | exact Or.inl rfl | exact Or.inr rfl)) pfgs_nil)))))
  (pfss_one (pfs_ret (pf_lc (own := [("number", 4)]) rfl sc__law_rules.nd (pfi_U (pf_tup (pfa_cons (pf_c px_int) (pfa_cons (pf_c px_int) pfa_nil)))) (by exact (show BlkOk N__law_rules (defScope s__law_rules) _ _ from ⟨rfl, by decide +kernel, by decide +kernel, by decide +kernel, by decide +kernel⟩)) (fun _ _ _ _ _ => (pfg_name (own := [4]) (by decide) sc__law_rules.nd (i := 4) rfl (by first | exact Or.inl rfl | exact Or.inr rfl))) (fun _ _ _ _ _ => pfts_nil) (fun _ _ _ _ _ => (pf_tup (pfa_cons (pf_tup (pfa_cons (pf_name 1) (pfa_cons (pf_name 4) pfa_nil))) (pfa_cons (pf_tup (pfa_cons (pf_name 2) (pfa_cons (pf_if (pft_eq (pf_name 3) (pf_c px_int) (hu_of hr)) (pf_name 4) (pf_sub (pf_c px_int) (pf_name 4))) pfa_nil))) pfa_nil)))))))))
theorem h_is_between (c : C K mg) : Has P w K mg base 2 "is_between" ["value", "low", "high"] (pF f_is_between) := by
  exact has_f (k := 1) c.d_is_between sc_is_between (fun _ _ _ _ _ _ us hl => match us, hl with | [_, _, _], _ => rfl) rfl rfl (by decide) (fun f cdv A outer s H E hr => (pfss_one (pfs_ret (pf_and (pf_user (h_is_whole c) tk_of hr (by omega) rfl (pfa_cons (pf_name 0) pfa_nil)) (pf_one (pf_lele (pf_name 1) (pf_name 0) (pf_name 2)))))))
theorem h_book_of_ties_by (c : C K mg) : Has P w K mg base 2 "book_of_ties_by" ["ties"] (pF f_book_of_ties_by) := by
  exact has_f (k := 1) c.d_book_of_ties_by sc_book_of_ties_by (fun _ _ _ _ _ _ us hl => match us, hl with | [_], _ => rfl) rfl rfl (by decide) (fun f cdv A outer s H E hr => (pfss_one (pfs_ret (pf_user (h_with_rules c) tk_of hr (by omega) rfl (pfa_cons (pf_user (h_names_of_by c) tk_of hr (by omega) rfl (pfa_cons (pf_name 0) pfa_nil)) (pfa_cons (pf_tuple rfl c.n_tuple (pfa_cons (pf_lc2 (own := [("tie", 1), ("rule", 2)]) [2] rfl sc_book_of_ties_by.nd (pfi_U (pf_name 0)) (by exact (show BlkOk N_book_of_ties_by (defScope s_book_of_ties_by) _ _ from ⟨rfl, by decide +kernel, by decide +kernel, by decide +kernel, by decide +kernel⟩)) (by decide) (fun _ _ _ _ _ => (pfg_name (own := [1, 2]) (by decide) sc_book_of_ties_by.nd (i := 1) rfl (by first | exact Or.inl rfl | exact Or.inr rfl))) (fun _ _ _ _ _ => pfts_nil) (fun _ _ _ _ _ => (pfi_U (pf_user (h_rules_of_tie c) takes0 hr (by omega) rfl (pfa_cons (pf_name 1) pfa_nil)))) (fun _ _ _ _ _ => (pfg_name (own := [2]) (by decide) sc_book_of_ties_by.nd (i := 2) rfl (by first | exact Or.inl rfl | exact Or.inr rfl))) (fun _ _ _ _ _ => pfts_nil) (fun _ _ _ _ _ => (pf_name 2))) pfa_nil)) pfa_nil))))))
theorem h__law_any_of (c : C K mg) : Has P w K mg base 2 "_law_any_of" ["urn", "some"] (pF (f__law_one (f__law_nip 103 20011 2147483423 41299 50951 2147483423))) := by
  exact has_f (k := 1) c.d__law_any_of sc__law_any_of (fun _ _ _ _ _ _ us hl => match us, hl with | [_, _], _ => rfl) rfl rfl (by decide) (fun f cdv A outer s H E hr => (pfss_one (pfs_ret (pf_ix (pf_name 1) (pf_user (h__law_nip c) tk_of hr (by omega) rfl (pfa_cons (pf_name 0) (pfa_cons (pf_len rfl c.n_len (pfa_cons (pf_name 1) pfa_nil)) pfa_nil)))))))
theorem h__law_any_things (c : C K mg) : Has P w K mg base 2 "_law_any_things" ["urn", "most"] (pF (f__law_any_things (f__law_nip 103 20011 2147483423 41299 50951 2147483423))) := by
  exact has_f (k := 1) c.d__law_any_things sc__law_any_things (fun _ _ _ _ _ _ us hl => match us, hl with | [_, _], _ => rfl) rfl rfl (by decide) (fun f cdv A outer s H E hr => (pfss_cons (pfs_par (i := 2) (j := 3) rfl sc__law_any_things.nd rfl rfl (by decide) rfl rfl (pfa_cons (pf_lstC (pfa_cons (pf_c px_str) (pfa_cons (pf_c px_str) (pfa_cons (pf_c px_str) (pfa_cons (pf_c px_str) (pfa_cons (pf_c px_str) (pfa_cons (pf_c px_str) (pfa_cons (pf_c px_str) (pfa_cons (pf_c px_str) (pfa_cons (pf_c px_str) (pfa_cons (pf_c px_str) (pfa_cons (pf_c px_str) (pfa_cons (pf_c px_str) (pfa_cons (pf_c px_str) (pfa_cons (pf_c px_str) pfa_nil))))))))))))))) (pfa_cons (pf_lstC pfa_nil) pfa_nil)) (by rfl))
  (pfss_cons (pfs_for hp_of rfl (pfi_range1 rfl c.n_range (pfa_cons (pf_add (pf_c px_int) (pf_user (h__law_nip c) tk_of hr (by omega) rfl (pfa_cons (pf_name 0) (pfa_cons (pf_name 1) pfa_nil)))) pfa_nil)) (pfg_name (own := [4]) (by decide) sc__law_any_things.nd (i := 4) rfl (by first | exact Or.inl rfl | exact Or.inr rfl)) (pfss_one (pfs_expr (pf_append (pf_name 3) (pfa_cons (pf_popAt (pf_name 2) (pfa_cons (pf_user (h__law_nip c) tk_of hr (by omega) rfl (pfa_cons (pf_name 0) (pfa_cons (pf_len rfl c.n_len (pfa_cons (pf_name 2) pfa_nil)) pfa_nil))) pfa_nil)) pfa_nil)))))
  (pfss_one (pfs_ret (pf_tuple rfl c.n_tuple (pfa_cons (pf_sorted (hu_of hr) rfl c.n_sorted (pfa_cons (pf_name 3) pfa_nil)) pfa_nil)))))))
theorem h_is_tie (c : C K mg) : Has P w K mg base 3 "is_tie" ["value"] (pF f_is_tie) := by
  exact has_f (k := 2) c.d_is_tie sc_is_tie (fun _ _ _ _ _ _ us hl => match us, hl with | [_], _ => rfl) rfl rfl (by decide) (fun f cdv A outer s H E hr => (pfss_cons (pfs_if (PXW.pt (pfw_or (pft_not (pft_val (pf_user (h_is_tuple_of c) tk_of hr (by omega) rfl (pfa_cons (pf_name 0) (pfa_cons (pf_c px_int) pfa_nil))))) (pfw_or (pft_not (pft_val (pf_user (h_is_name c) tk_of hr (by omega) rfl (pfa_cons (pf_ix (pf_name 0) (pf_c (px_gintC rfl c.m_NAME))) pfa_nil)))) (pfw_or1 (pft_not (pft_val (pf_user (h_is_name c) tk_of hr (by omega) rfl (pfa_cons (pf_ix (pf_name 0) (pf_c (px_gintC rfl c.m_OTHER))) pfa_nil)))))))) (pfss_one (pfs_ret (pf_c px_bl))) pfss_nil)
  (pfss_one (pfs_ret (pf_and (pf_lt (pf_ix (pf_name 0) (pf_c (px_gintC rfl c.m_NAME))) (pf_ix (pf_name 0) (pf_c (px_gintC rfl c.m_OTHER))) (hu_of hr)) (pf_one (pf_user (h_is_between c) tk_of hr (by omega) rfl (pfa_cons (pf_ix (pf_name 0) (pf_c (px_gintC rfl c.m_SIGN))) (pfa_cons (pf_c px_int) (pfa_cons (pf_c px_int) pfa_nil))))))))))
theorem h__law_any_ties (c : C K mg) : Has P w K mg base 3 "_law_any_ties" ["urn", "most", "many"] (pF (f__law_any_ties (f__law_nip 103 20011 2147483423 41299 50951 2147483423))) := by
  exact has_f (k := 2) c.d__law_any_ties sc__law_any_ties (fun _ _ _ _ _ _ us hl => match us, hl with | [_, _, _], _ => rfl) rfl rfl (by decide) (fun f cdv A outer s H E hr => (pfss_cons (pfs_par (i := 3) (j := 4) rfl sc__law_any_ties.nd rfl rfl (by decide) rfl rfl (pfa_cons (pf_user (h__law_any_things c) tk_of hr (by omega) rfl (pfa_cons (pf_name 0) (pfa_cons (pf_name 1) pfa_nil))) (pfa_cons (pf_lst pfa_nil) pfa_nil)) (by rfl))
  (pfss_cons (pfs_set (i := 3) sc__law_any_ties.nd rfl (by first | exact Or.inl rfl | exact Or.inr rfl) (pf_if (pft_gt (pf_len rfl c.n_len (pfa_cons (pf_name 3) pfa_nil)) (pf_c px_int) (hu_of hr)) (pf_name 3) (pf_tup (pfa_cons (pf_c px_str) (pfa_cons (pf_c px_str) pfa_nil)))))
  (pfss_cons (pfs_for hp_of rfl (pfi_range1 rfl c.n_range (pfa_cons (pf_add (pf_c px_int) (pf_user (h__law_nip c) tk_of hr (by omega) rfl (pfa_cons (pf_name 0) (pfa_cons (pf_name 2) pfa_nil)))) pfa_nil)) (pfg_name (own := [5]) (by decide) sc__law_any_ties.nd (i := 5) rfl (by first | exact Or.inl rfl | exact Or.inr rfl)) (pfss_cons (pfs_par (i := 6) (j := 7) rfl sc__law_any_ties.nd rfl rfl (by decide) rfl rfl (pfa_cons (pf_user (h__law_any_of c) tk_of hr (by omega) rfl (pfa_cons (pf_name 0) (pfa_cons (pf_name 3) pfa_nil))) (pfa_cons (pf_user (h__law_any_of c) tk_of hr (by omega) rfl (pfa_cons (pf_name 0) (pfa_cons (pf_name 3) pfa_nil))) pfa_nil)) (by rfl))
  (pfss_one (pfs_set (i := 4) sc__law_any_ties.nd rfl (by first | exact Or.inl rfl | exact Or.inr rfl) (pf_add (pf_name 4) (pf_if (pft_ne (pf_name 6) (pf_name 7) (hu_of hr)) (pf_lst (pfa_cons (pf_tup (pfa_cons (pf_min (hu_of hr) rfl rfl c.n_min (pfa_cons (pf_name 6) (pfa_cons (pf_name 7) pfa_nil))) (pfa_cons (pf_max (hu_of hr) rfl rfl c.n_max (pfa_cons (pf_name 6) (pfa_cons (pf_name 7) pfa_nil))) (pfa_cons (pf_user (h__law_nip c) tk_of hr (by omega) rfl (pfa_cons (pf_name 0) (pfa_cons (pf_c px_int) pfa_nil))) pfa_nil)))) pfa_nil)) (pf_lst pfa_nil)))))))
  (pfss_one (pfs_ret (pf_if (pft_ne (pf_name 4) (pf_lst pfa_nil) (hu_of hr)) (pf_sl (pf_tuple rfl c.n_tuple (pfa_cons (pf_sortSet rfl (hu_of hr) rfl c.n_sorted rfl c.n_set (pfa_cons (pf_name 4) pfa_nil)) pfa_nil)) pfo_none (pfo_some (pf_c px_int))) (pf_tup (pfa_cons (pf_tup (pfa_cons (pf_ix (pf_name 3) (pf_c px_int)) (pfa_cons (pf_ix (pf_name 3) (pf_c px_int)) (pfa_cons (pf_c px_int) pfa_nil)))) pfa_nil)))))))))
theorem h__law_great_ties (c : C K mg) : Has P w K mg base 3 "_law_great_ties" ["urn"] (pF (f__law_great_ties (f__law_nip 103 20011 2147483423 41299 50951 2147483423))) := by
  exact has_f (k := 2) c.d__law_great_ties sc__law_great_ties (fun _ _ _ _ _ _ us hl => match us, hl with | [_], _ => rfl) rfl rfl (by decide) (fun f cdv A outer s H E hr => (pfss_cons (pfs_par (i := 1) (j := 2) rfl sc__law_great_ties.nd rfl rfl (by decide) rfl rfl (pfa_cons (pf_user (h__law_any_things c) tk_of hr (by omega) rfl (pfa_cons (pf_name 0) (pfa_cons (pf_c px_int) pfa_nil))) (pfa_cons (pf_lst pfa_nil) pfa_nil)) (by rfl))
  (pfss_cons (pfs_for hp_of rfl (pfi_range1 rfl c.n_range (pfa_cons (pf_c px_int) pfa_nil)) (pfg_name (own := [3]) (by decide) sc__law_great_ties.nd (i := 3) rfl (by first | exact Or.inl rfl | exact Or.inr rfl)) (pfss_one (pfs_set (i := 1) sc__law_great_ties.nd rfl (by first | exact Or.inl rfl | exact Or.inr rfl) (pf_if (pft_gt (pf_len rfl c.n_len (pfa_cons (pf_name 1) pfa_nil)) (pf_c px_int) (hu_of hr)) (pf_name 1) (pf_user (h__law_any_things c) tk_of hr (by omega) rfl (pfa_cons (pf_name 0) (pfa_cons (pf_c px_int) pfa_nil)))))))
  (pfss_cons (pfs_for hp_of rfl (pfi_enum rfl c.n_enumerate (pfa_cons (pf_name 1) pfa_nil)) (pfg_tup (own := [4, 5]) rfl (pfgs_cons (pfg_name (own := [4, 5]) (by decide) sc__law_great_ties.nd (i := 4) rfl (by first | exact Or.inl rfl | exact Or.inr rfl)) (pfgs_cons (pfg_name (own := [4, 5]) (by decide) sc__law_great_ties.nd (i := 5) rfl (by first | exact Or.inl rfl | exact Or.inr rfl)) pfgs_nil))) (pfss_one (pfs_set (i := 2) sc__law_great_ties.nd rfl (by first | exact Or.inl rfl | exact Or.inr rfl) (pf_add (pf_name 2) (pf_lc (own := [("two", 6)]) rfl sc__law_great_ties.nd (pfi_U (pf_sl (pf_name 1) (pfo_some (pf_add (pf_name 4) (pf_c px_int))) pfo_none)) (by exact (show BlkOk N__law_great_ties (defScope s__law_great_ties) _ _ from ⟨rfl, by decide +kernel, by decide +kernel, by decide +kernel, by decide +kernel⟩)) (fun _ _ _ _ _ => (pfg_name (own := [6]) (by decide) sc__law_great_ties.nd (i := 6) rfl (by first | exact Or.inl rfl | exact Or.inr rfl))) (fun _ _ _ _ _ => pfts_nil) (fun _ _ _ _ _ => (pf_tup (pfa_cons (pf_name 5) (pfa_cons (pf_name 6) (pfa_cons (pf_user (h__law_nip c) takes0 hr (by omega) rfl (pfa_cons (pf_name 0) (pfa_cons (pf_c px_int) pfa_nil))) pfa_nil))))))))))
  (pfss_one (pfs_ret (pf_if (pft_ne (pf_name 2) (pf_lst pfa_nil) (hu_of hr)) (pf_tuple rfl c.n_tuple (pfa_cons (pf_sl (pf_name 2) pfo_none (pfo_some (pf_c px_int))) pfa_nil)) (pf_tup (pfa_cons (pf_tup (pfa_cons (pf_c px_str) (pfa_cons (pf_c px_str) (pfa_cons (pf_c px_int) pfa_nil)))) pfa_nil)))))))))
theorem h_does_fit_behind (c : C K mg) : Has P w K mg base 4 "does_fit_behind" ["ties", "value"] (pF f_does_fit_behind) := by
  exact has_f (k := 3) c.d_does_fit_behind sc_does_fit_behind (fun _ _ _ _ _ _ us hl => match us, hl with | [_, _], _ => rfl) rfl rfl (by decide) (fun f cdv A outer s H E hr => (pfss_cons (pfs_if (PXW.pt (pfw_or (pft_not (pft_val (pf_user (h_is_tie c) tk_of hr (by omega) rfl (pfa_cons (pf_name 1) pfa_nil)))) (pfw_or1 (PXW.pt (pfw_and (pft_ne (pf_name 0) (pf_tup pfa_nil) (hu_of hr)) (pfw_and1 (pft_le (pf_name 1) (pf_ix (pf_name 0) (pf_neg (pf_c px_int))) (hu_of hr)))))))) (pfss_one (pfs_ret (pf_c px_bl))) pfss_nil)
  (pfss_one (pfs_ret (pf_le (pf_len rfl c.n_len (pfa_cons (pf_user (h_names_of_by c) tk_of hr (by omega) rfl (pfa_cons (pf_tup (pfa_star (pf_name 0) (pfa_cons (pf_name 1) pfa_nil))) pfa_nil)) pfa_nil)) (pf_c (px_gintC rfl c.m_MOST_THINGS)) (hu_of hr))))))
theorem h_wrong_in_ties (c : C K mg) : Has P w K mg base 5 "wrong_in_ties" ["value"] (pF f_wrong_in_ties) := by
  exact has_f (k := 4) c.d_wrong_in_ties sc_wrong_in_ties (fun _ _ _ _ _ _ us hl => match us, hl with | [_], _ => rfl) rfl rfl (by decide) (fun f cdv A outer s H E hr => (pfss_cons (pfs_if (PXW.pt (pfw_or (pft_not (pft_val (pf_isiK .tuple rfl c.n_isinstance rfl c.n_tuple (by decide +kernel) (pf_name 0)))) (pfw_or1 (pft_not (pft_lele (pf_c px_int) (pf_len rfl c.n_len (pfa_cons (pf_name 0) pfa_nil)) (pf_c (px_gintC rfl c.m_MOST_TIES))))))) (pfss_one (pfs_ret (pf_lst (pfa_cons (pf_c px_non) pfa_nil)))) pfss_nil)
  (pfss_cons (pfs_for hp_of rfl (pfi_enum rfl c.n_enumerate (pfa_cons (pf_name 0) pfa_nil)) (pfg_tup (own := [1, 2]) rfl (pfgs_cons (pfg_name (own := [1, 2]) (by decide) sc_wrong_in_ties.nd (i := 1) rfl (by first | exact Or.inl rfl | exact Or.inr rfl)) (pfgs_cons (pfg_name (own := [1, 2]) (by decide) sc_wrong_in_ties.nd (i := 2) rfl (by first | exact Or.inl rfl | exact Or.inr rfl)) pfgs_nil))) (pfss_one (pfs_if (pft_not (pft_val (pf_user (h_does_fit_behind c) tk_of hr (by omega) rfl (pfa_cons (pf_sl (pf_name 0) pfo_none (pfo_some (pf_name 1))) (pfa_cons (pf_name 2) pfa_nil))))) (pfss_one (pfs_ret (pf_lst (pfa_cons (pf_name 1) pfa_nil)))) pfss_nil)))
  (pfss_one (pfs_ret (pf_lst pfa_nil))))))
theorem h_check_ties (c : C K mg) : Has P w K mg base 6 "check_ties" ["value"] (pF f_check_ties) := by
  exact has_f (k := 5) c.d_check_ties sc_check_ties (fun _ _ _ _ _ _ us hl => match us, hl with | [_], _ => rfl) rfl rfl (by decide) (fun f cdv A outer s H E hr => (pfss_one (pfs_for hp_of rfl (pfi_U (pf_user (h_wrong_in_ties c) tk_of hr (by omega) rfl (pfa_cons (pf_name 0) pfa_nil))) (pfg_name (own := [1]) (by decide) sc_check_ties.nd (i := 1) rfl (by first | exact Or.inl rfl | exact Or.inr rfl)) (pfss_one pfs_never))))
theorem h_names_of (c : C K mg) : Has P w K mg base 7 "names_of" ["ties"] (pF f_names_of) := by
  exact has_f (k := 6) c.d_names_of sc_names_of (fun _ _ _ _ _ _ us hl => match us, hl with | [_], _ => rfl) rfl rfl (by decide) (fun f cdv A outer s H E hr => (pfss_cons (pfs_expr (pf_user (h_check_ties c) tk_of hr (by omega) rfl (pfa_cons (pf_name 0) pfa_nil)))
  (pfss_one (pfs_ret (pf_user (h_names_of_by c) tk_of hr (by omega) rfl (pfa_cons (pf_name 0) pfa_nil))))))
theorem h_book_of_ties (c : C K mg) : Has P w K mg base 7 "book_of_ties" ["ties"] (pF f_book_of_ties) := by
  exact has_f (k := 6) c.d_book_of_ties sc_book_of_ties (fun _ _ _ _ _ _ us hl => match us, hl with | [_], _ => rfl) rfl rfl (by decide) (fun f cdv A outer s H E hr => (pfss_cons (pfs_expr (pf_user (h_check_ties c) tk_of hr (by omega) rfl (pfa_cons (pf_name 0) pfa_nil)))
  (pfss_one (pfs_ret (pf_user (h_book_of_ties_by c) tk_of hr (by omega) rfl (pfa_cons (pf_name 0) pfa_nil))))))
theorem h__law_is_told (c : C K mg) : Has P w K mg base 14 "_law_is_told" ["urn", "ties"] (pF (f__law_is_told_k54 (f__law_nip 103 20011 2147483423 41299 50951 2147483423))) := by
  exact has_f (k := 13) c.d__law_is_told sc__law_is_told (fun _ _ _ _ _ _ us hl => match us, hl with | [_, _], _ => rfl) rfl rfl (by decide) (fun f cdv A outer s H E hr => (pfss_cons (pfs_set (i := 2) sc__law_is_told.nd rfl (by first | exact Or.inl rfl | exact Or.inr rfl) (pf_user (h__law_names_of c) tk_of hr (by omega) rfl (pfa_cons (pf_name 1) pfa_nil)))
  (pfss_cons (pfs_set (i := 3) sc__law_is_told.nd rfl (by first | exact Or.inl rfl | exact Or.inr rfl) (pf_lst pfa_nil))
  (pfss_cons (pfs_for hp_of rfl (pfi_U (pf_name 1)) (pfg_name (own := [4]) (by decide) sc__law_is_told.nd (i := 4) rfl (by first | exact Or.inl rfl | exact Or.inr rfl)) (pfss_one (pfs_set (i := 3) sc__law_is_told.nd rfl (by first | exact Or.inl rfl | exact Or.inr rfl) (pf_add (pf_name 3) (pf_user (h__law_rules c) tk_of hr (by omega) rfl (pfa_cons (pf_name 4) pfa_nil))))))
  (pfss_cons (pfs_set (i := 5) sc__law_is_told.nd rfl (by first | exact Or.inl rfl | exact Or.inr rfl) (pf_eq (pf_user (h__law_nip c) tk_of hr (by omega) rfl (pfa_cons (pf_name 0) (pfa_cons (pf_c px_int) pfa_nil))) (pf_c px_int) (hu_of hr)))
  (pfss_cons (pfs_par2 (i := 6) (j := 7) rfl sc__law_is_told.nd rfl rfl (by first | exact Or.inl rfl | exact Or.inr rfl) (by first | exact Or.inl rfl | exact Or.inr rfl) (pfa_cons (pf_if (pft_val (pf_name 5)) (pf_userK0 (ks := ["ties"]) (perm := [0]) (Has.withK (h_names_of c) c.d_names_of) tk_of hr (by omega) rfl (fun _ _ _ _ _ _ us ws h1 h2 => match us, ws, h1, h2 with | [], [_], _, _ => rfl) (pfk_cons (pf_name 1) pfk_nil)) (pf_user (h_names_of c) tk_of hr (by omega) rfl (pfa_cons (pf_name 1) pfa_nil))) (pfa_cons (pf_if (pft_val (pf_name 5)) (pf_userK0 (ks := ["ties"]) (perm := [0]) (Has.withK (h_book_of_ties c) c.d_book_of_ties) tk_of hr (by omega) rfl (fun _ _ _ _ _ _ us ws h1 h2 => match us, ws, h1, h2 with | [], [_], _, _ => rfl) (pfk_cons (pf_name 1) pfk_nil)) (pf_user (h_book_of_ties c) tk_of hr (by omega) rfl (pfa_cons (pf_name 1) pfa_nil))) pfa_nil)) (by first | exact Or.inl rfl | exact Or.inr rfl) (by first | exact Or.inl rfl | exact Or.inr rfl))
  (pfss_cons (pfs_if (PXW.pt (pfw_or (pft_not (pft_val (pf_user (h__law_same c 12) tk_of hr (by omega) rfl (pfa_cons (pf_name 6) (pfa_cons (pf_name 2) pfa_nil))))) (pfw_or1 (pft_not (pft_val (pf_user (h__law_same c 12) tk_of hr (by omega) rfl (pfa_cons (pf_name 7) (pfa_cons (pf_tup (pfa_cons (pf_name 2) (pfa_cons (pf_tuple rfl c.n_tuple (pfa_cons (pf_sortSet rfl (hu_of hr) rfl c.n_sorted rfl c.n_set (pfa_cons (pf_name 3) pfa_nil)) pfa_nil)) pfa_nil))) pfa_nil)))))))) (pfss_one (pfs_ret (pf_c px_bl))) pfss_nil)
  (pfss_cons (pfs_set (i := 8) sc__law_is_told.nd rfl (by first | exact Or.inl rfl | exact Or.inr rfl) (pf_if (pft_lt (pf_len rfl c.n_len (pfa_cons (pf_name 2) pfa_nil)) (pf_c px_int) (hu_of hr)) (pf_user (h__law_all_choosings c) tk_of hr (by omega) rfl (pfa_cons (pf_len rfl c.n_len (pfa_cons (pf_name 2) pfa_nil)) pfa_nil)) (pf_lc (own := [("k", 9)]) rfl sc__law_is_told.nd (pfi_range1 rfl c.n_range (pfa_cons (pf_c px_int) pfa_nil)) (by exact (show BlkOk N__law_is_told (defScope s__law_is_told) _ _ from ⟨rfl, by decide +kernel, by decide +kernel, by decide +kernel, by decide +kernel⟩)) (fun _ _ _ _ _ => (pfg_name (own := [9]) (by decide) sc__law_is_told.nd (i := 9) rfl (by first | exact Or.inl rfl | exact Or.inr rfl))) (fun _ _ _ _ _ => pfts_nil) (fun _ _ _ _ _ => (pf_tuple rfl c.n_tuple (pfa_cons (pf_lc (own := [("name", 10)]) rfl sc__law_is_told.nd (pfi_U (pf_name 2)) (by exact (show BlkOk N__law_is_told (relS _ (defScope s__law_is_told)) _ _ from ⟨rfl, by decide +kernel, by decide +kernel, by decide +kernel, by decide +kernel⟩)) (fun _ _ _ _ _ => (pfg_name (own := [10]) (by decide) sc__law_is_told.nd (i := 10) rfl (by first | exact Or.inl rfl | exact Or.inr rfl))) (fun _ _ _ _ _ => pfts_nil) (fun _ _ _ _ _ => (pf_user (h__law_nip c) takes0 hr (by omega) rfl (pfa_cons (pf_name 0) (pfa_cons (pf_c px_int) pfa_nil))))) pfa_nil))))))
  (pfss_one (pfs_ret (pf_notin (pf_c px_bl) (pf_lc (own := [("choosing", 11)]) rfl sc__law_is_told.nd (pfi_U (pf_name 8)) (by exact (show BlkOk N__law_is_told (defScope s__law_is_told) _ _ from ⟨rfl, by decide +kernel, by decide +kernel, by decide +kernel, by decide +kernel⟩)) (fun _ _ _ _ _ => (pfg_name (own := [11]) (by decide) sc__law_is_told.nd (i := 11) rfl (by first | exact Or.inl rfl | exact Or.inr rfl))) (fun _ _ _ _ _ => pfts_nil) (fun _ _ _ _ _ => (pf_eq (pf_user (h__law_keeps c) takes0 hr (by omega) rfl (pfa_cons (pf_name 7) (pfa_cons (pf_name 11) pfa_nil))) (pf_user (h__law_is_kept c) takes0 hr (by omega) rfl (pfa_cons (pf_name 2) (pfa_cons (pf_name 1) (pfa_cons (pf_name 11) pfa_nil)))) (hu_of hr)))) (hu_of hr))))))))))))
theorem h__law_right (c : C K mg) : Has P w K mg base 15 "_law_right" ["urn"] (pF (f__law_right_k54 (f__law_nip 103 20011 2147483423 41299 50951 2147483423))) := by
  exact has_f (k := 14) c.d__law_right sc__law_right (fun _ _ _ _ _ _ us hl => match us, hl with | [_], _ => rfl) rfl rfl (by decide) (fun f cdv A outer s H E hr => (pfss_cons (pfs_for hp_of rfl (pfi_range1 rfl c.n_range (pfa_cons (pf_c px_int) pfa_nil)) (pfg_name (own := [1]) (by decide) sc__law_right.nd (i := 1) rfl (by first | exact Or.inl rfl | exact Or.inr rfl)) (pfss_one (pfs_if (pft_not (pft_val (pf_user (h__law_is_told c) tk_of hr (by omega) rfl (pfa_cons (pf_name 0) (pfa_cons (pf_user (h__law_any_ties c) tk_of hr (by omega) rfl (pfa_cons (pf_name 0) (pfa_cons (pf_c px_int) (pfa_cons (pf_c px_int) pfa_nil)))) pfa_nil))))) (pfss_one (pfs_ret (pf_c px_bl))) pfss_nil)))
  (pfss_cons (pfs_set (i := 2) sc__law_right.nd rfl (by first | exact Or.inl rfl | exact Or.inr rfl) (pf_tup (pfa_cons (pf_tup (pfa_cons (pf_c px_str) (pfa_cons (pf_c px_str) (pfa_cons (pf_c px_int) pfa_nil)))) (pfa_cons (pf_tup (pfa_cons (pf_c px_str) (pfa_cons (pf_c px_str) (pfa_cons (pf_c px_int) pfa_nil)))) (pfa_cons (pf_tup (pfa_cons (pf_c px_str) (pfa_cons (pf_c px_str) (pfa_cons (pf_c px_int) pfa_nil)))) pfa_nil)))))
  (pfss_one (pfs_ret (pf_and (pf_user (h__law_is_told c) tk_of hr (by omega) rfl (pfa_cons (pf_name 0) (pfa_cons (pf_user (h__law_great_ties c) tk_of hr (by omega) rfl (pfa_cons (pf_name 0) pfa_nil)) pfa_nil))) (pf_and (pf_user (h__law_is_told c) tk_of hr (by omega) rfl (pfa_cons (pf_name 0) (pfa_cons (pf_user (h__law_any_ties c) tk_of hr (by omega) rfl (pfa_cons (pf_name 0) (pfa_cons (pf_c px_int) (pfa_cons (pf_c px_int) pfa_nil)))) pfa_nil))) (pf_one (pf_user (h__law_is_told c) tk_of hr (by omega) rfl (pfa_cons (pf_name 0) (pfa_cons (pf_name 2) pfa_nil)))))))))))
theorem h_law (c : C K mg) : Has P w K mg base 16 "law" ["script"] (pF f_law_k54) := by
  exact has_f (k := 15) c.d_law sc_law (fun _ _ _ _ _ _ us hl => match us, hl with | [_], _ => rfl) rfl rfl (by decide) (fun f cdv A outer s H E hr => (pfss_one (pfs_ret (pf_all rfl rfl c.n_all (pfa_cons (pf_lc (own := [("lap", 1)]) rfl sc_law.nd (pfi_range1 rfl c.n_range (pfa_cons (pf_c px_int) pfa_nil)) (by exact (show BlkOk N_law (defScope s_law) _ _ from ⟨rfl, by decide +kernel, by decide +kernel, by decide +kernel, by decide +kernel⟩)) (fun _ _ _ _ _ => (pfg_name (own := [1]) (by decide) sc_law.nd (i := 1) rfl (by first | exact Or.inl rfl | exact Or.inr rfl))) (fun _ _ _ _ _ => pfts_nil) (fun _ _ _ _ _ => (pf_user (h__law_right c) takes0 hr (by omega) rfl (pfa_cons (pf_user (h__law_urn c) takes0 hr (by omega) rfl (pfa_cons (pf_name 0) (pfa_cons (pf_name 1) pfa_nil))) pfa_nil)))) pfa_nil)))))
end
theorem hdC {K : PySem.W.Frag} {h : Heap} {mg : Str → Option Value} (X : K.In h) (G : h.Ns mainGlobals mg) (c : He.SaysD hdFa hdFn K) : C K mg where
  d_is_whole := by
    obtain ⟨fd, F⟩ := c.def_ 0 (d := hd_is_whole) rfl
    exact ⟨fd, F, He.glo_ok X G (c.fact 0 (f := .glo "is_whole") rfl)⟩
  d_is_name := by
    obtain ⟨fd, F⟩ := c.def_ 1 (d := hd_is_name) rfl
    exact ⟨fd, F, He.glo_ok X G (c.fact 1 (f := .glo "is_name") rfl)⟩
  d_is_tuple_of := by
    obtain ⟨fd, F⟩ := c.def_ 2 (d := hd_is_tuple_of) rfl
    exact ⟨fd, F, He.glo_ok X G (c.fact 2 (f := .glo "is_tuple_of") rfl)⟩
  d_with_rules := by
    obtain ⟨fd, F⟩ := c.def_ 3 (d := hd_with_rules) rfl
    exact ⟨fd, F, He.glo_ok X G (c.fact 3 (f := .glo "with_rules") rfl)⟩
  d_names_of_by := by
    obtain ⟨fd, F⟩ := c.def_ 4 (d := hd_names_of_by) rfl
    exact ⟨fd, F, He.glo_ok X G (c.fact 4 (f := .glo "names_of_by") rfl)⟩
  d_rules_of_tie := by
    obtain ⟨fd, F⟩ := c.def_ 5 (d := hd_rules_of_tie) rfl
    exact ⟨fd, F, He.glo_ok X G (c.fact 5 (f := .glo "rules_of_tie") rfl)⟩
  d__law_urn := by
    obtain ⟨fd, F⟩ := c.def_ 6 (d := hd__law_urn) rfl
    exact ⟨fd, F, He.glo_ok X G (c.fact 6 (f := .glo "_law_urn") rfl)⟩
  d__law_nip := by
    obtain ⟨fd, F⟩ := c.def_ 7 (d := hd__law_nip) rfl
    exact ⟨fd, F, He.glo_ok X G (c.fact 7 (f := .glo "_law_nip") rfl)⟩
  d__law_same := by
    obtain ⟨fd, F⟩ := c.def_ 8 (d := hd__law_same) rfl
    exact ⟨fd, F, He.glo_ok X G (c.fact 8 (f := .glo "_law_same") rfl)⟩
  d__law_keeps := by
    obtain ⟨fd, F⟩ := c.def_ 9 (d := hd__law_keeps) rfl
    exact ⟨fd, F, He.glo_ok X G (c.fact 9 (f := .glo "_law_keeps") rfl)⟩
  d__law_all_choosings := by
    obtain ⟨fd, F⟩ := c.def_ 10 (d := hd__law_all_choosings) rfl
    exact ⟨fd, F, He.glo_ok X G (c.fact 10 (f := .glo "_law_all_choosings") rfl)⟩
  d__law_names_of := by
    obtain ⟨fd, F⟩ := c.def_ 11 (d := hd__law_names_of) rfl
    exact ⟨fd, F, He.glo_ok X G (c.fact 11 (f := .glo "_law_names_of") rfl)⟩
  d__law_is_kept := by
    obtain ⟨fd, F⟩ := c.def_ 12 (d := hd__law_is_kept) rfl
    exact ⟨fd, F, He.glo_ok X G (c.fact 12 (f := .glo "_law_is_kept") rfl)⟩
  d__law_rules := by
    obtain ⟨fd, F⟩ := c.def_ 13 (d := hd__law_rules) rfl
    exact ⟨fd, F, He.glo_ok X G (c.fact 13 (f := .glo "_law_rules") rfl)⟩
  d_is_between := by
    obtain ⟨fd, F⟩ := c.def_ 14 (d := hd_is_between) rfl
    exact ⟨fd, F, He.glo_ok X G (c.fact 14 (f := .glo "is_between") rfl)⟩
  d_book_of_ties_by := by
    obtain ⟨fd, F⟩ := c.def_ 15 (d := hd_book_of_ties_by) rfl
    exact ⟨fd, F, He.glo_ok X G (c.fact 15 (f := .glo "book_of_ties_by") rfl)⟩
  d__law_any_of := by
    obtain ⟨fd, F⟩ := c.def_ 16 (d := hd__law_any_of) rfl
    exact ⟨fd, F, He.glo_ok X G (c.fact 16 (f := .glo "_law_any_of") rfl)⟩
  d__law_any_things := by
    obtain ⟨fd, F⟩ := c.def_ 17 (d := hd__law_any_things) rfl
    exact ⟨fd, F, He.glo_ok X G (c.fact 17 (f := .glo "_law_any_things") rfl)⟩
  d_is_tie := by
    obtain ⟨fd, F⟩ := c.def_ 18 (d := hd_is_tie) rfl
    exact ⟨fd, F, He.glo_ok X G (c.fact 18 (f := .glo "is_tie") rfl)⟩
  d__law_any_ties := by
    obtain ⟨fd, F⟩ := c.def_ 19 (d := hd__law_any_ties) rfl
    exact ⟨fd, F, He.glo_ok X G (c.fact 19 (f := .glo "_law_any_ties") rfl)⟩
  d__law_great_ties := by
    obtain ⟨fd, F⟩ := c.def_ 20 (d := hd__law_great_ties) rfl
    exact ⟨fd, F, He.glo_ok X G (c.fact 20 (f := .glo "_law_great_ties") rfl)⟩
  d_does_fit_behind := by
    obtain ⟨fd, F⟩ := c.def_ 21 (d := hd_does_fit_behind) rfl
    exact ⟨fd, F, He.glo_ok X G (c.fact 21 (f := .glo "does_fit_behind") rfl)⟩
  d_wrong_in_ties := by
    obtain ⟨fd, F⟩ := c.def_ 22 (d := hd_wrong_in_ties) rfl
    exact ⟨fd, F, He.glo_ok X G (c.fact 22 (f := .glo "wrong_in_ties") rfl)⟩
  d_check_ties := by
    obtain ⟨fd, F⟩ := c.def_ 23 (d := hd_check_ties) rfl
    exact ⟨fd, F, He.glo_ok X G (c.fact 23 (f := .glo "check_ties") rfl)⟩
  d_names_of := by
    obtain ⟨fd, F⟩ := c.def_ 24 (d := hd_names_of) rfl
    exact ⟨fd, F, He.glo_ok X G (c.fact 24 (f := .glo "names_of") rfl)⟩
  d_book_of_ties := by
    obtain ⟨fd, F⟩ := c.def_ 25 (d := hd_book_of_ties) rfl
    exact ⟨fd, F, He.glo_ok X G (c.fact 25 (f := .glo "book_of_ties") rfl)⟩
  d__law_is_told := by
    obtain ⟨fd, F⟩ := c.def_ 26 (d := hd__law_is_told) rfl
    exact ⟨fd, F, He.glo_ok X G (c.fact 26 (f := .glo "_law_is_told") rfl)⟩
  d__law_right := by
    obtain ⟨fd, F⟩ := c.def_ 27 (d := hd__law_right) rfl
    exact ⟨fd, F, He.glo_ok X G (c.fact 27 (f := .glo "_law_right") rfl)⟩
  d_law := by
    obtain ⟨fd, F⟩ := c.def_ 28 (d := hd_law) rfl
    exact ⟨fd, F, He.glo_ok X G (c.fact 28 (f := .glo "law") rfl)⟩
  n_abs := He.free_ok X G (c.fact 29 (f := .free "abs") rfl)
  n_all := He.free_ok X G (c.fact 30 (f := .free "all") rfl)
  n_bool := He.free_ok X G (c.fact 31 (f := .free "bool") rfl)
  n_dict := He.free_ok X G (c.fact 32 (f := .free "dict") rfl)
  n_divmod := He.free_ok X G (c.fact 33 (f := .free "divmod") rfl)
  n_enumerate := He.free_ok X G (c.fact 34 (f := .free "enumerate") rfl)
  n_int := He.free_ok X G (c.fact 35 (f := .free "int") rfl)
  n_isinstance := He.free_ok X G (c.fact 36 (f := .free "isinstance") rfl)
  n_len := He.free_ok X G (c.fact 37 (f := .free "len") rfl)
  n_list := He.free_ok X G (c.fact 38 (f := .free "list") rfl)
  n_max := He.free_ok X G (c.fact 39 (f := .free "max") rfl)
  n_min := He.free_ok X G (c.fact 40 (f := .free "min") rfl)
  n_range := He.free_ok X G (c.fact 41 (f := .free "range") rfl)
  n_set := He.free_ok X G (c.fact 42 (f := .free "set") rfl)
  n_sorted := He.free_ok X G (c.fact 43 (f := .free "sorted") rfl)
  n_str := He.free_ok X G (c.fact 44 (f := .free "str") rfl)
  n_sum := He.free_ok X G (c.fact 45 (f := .free "sum") rfl)
  n_tuple := He.free_ok X G (c.fact 46 (f := .free "tuple") rfl)
  n_zip := He.free_ok X G (c.fact 47 (f := .free "zip") rfl)
  m_LETTERS := He.str_ok X G (c.fact 48 (f := .str "LETTERS" "abcdefghijklmnopqrstuvwxyz") rfl)
  m_MOST_LETTERS := He.int_ok X G (c.fact 49 (f := .int "MOST_LETTERS" 8) rfl)
  m_MOST_THINGS := He.int_ok X G (c.fact 50 (f := .int "MOST_THINGS" 14) rfl)
  m_MOST_TIES := He.int_ok X G (c.fact 51 (f := .int "MOST_TIES" 60) rfl)
  m_NAME := He.int_ok X G (c.fact 52 (f := .int "NAME" 0) rfl)
  m_OTHER := He.int_ok X G (c.fact 53 (f := .int "OTHER" 1) rfl)
  m_SIGN := He.int_ok X G (c.fact 54 (f := .int "SIGN" 2) rfl)
theorem hdLaw {P : Program} {w : World} {K : PySem.W.Frag} {h : Heap} {mg : Str → Option Value} {f : Addr} (X : K.In h) (G : h.Ns mainGlobals mg) (hfa : mg ("law" : Str) = some (.ref f)) (c : He.SaysD hdFa hdFn K) :
    ∃ fd : FuncData, (∀ (s : Shared) (v : Value), BindsTo s fd ⟨[v], []⟩ [("script", v)]) ∧ ∀ base : Heap, K.In base → base.Ns mainGlobals mg → FnOk P w K mg base (L2.CX P w) 16 f fd ["script"] (low K (pF f_law_k54)) := by
  obtain ⟨fd, F⟩ := c.def_ 28 (d := hd_law) rfl
  have e := hfa.symm.trans (He.glo_ok X G (c.fact 28 (f := .glo "law") rfl))
  cases e
  have b := FunD.bindsA (ps := ["script"]) F fun _ _ _ _ _ _ us hl => match us, hl with | [_], _ => rfl
  refine ⟨fd, fun s v => b s [v] rfl, fun base _ _ => ?_⟩
  obtain ⟨fd2, Fk, hm, _, _, _, st, F2⟩ := (h_law (P := P) (w := w) (base := base) (hdC X G c)).ex
  have e3 : fd2 = fd := by
    obtain ⟨_, _, _, _, _, _, _, _, _, _, _, l1, _⟩ := F2.ex
    obtain ⟨_, _, _, _, _, _, _, _, _, _, _, l2, _⟩ := F.ex
    rw [show (He.fAd K hd_law.at_) = He.ga K "law" from rfl] at l2
    rw [l1] at l2
    cases l2
    rfl
  rw [← e3]
  exact Fk
theorem hdSp {K : PySem.W.Frag} {H : Hp} {a : Addr} {ns : List Int} (hl : ns.length ≤ 63) (hS : SqL K H a (ns.map V.int)) : low K (pF f_law_k54) [.ref a] H (fun v _ => v = .bl true) (fun _ _ _ => False) := by
  obtain ⟨μ', e⟩ := law_ok_k54 ns hl
  refine ⟨[], [.d (.scr ns)], [], H, fun r _ => r = .d (.bl true), fun _ _ _ => False, ⟨Le.refl H, rfl, List.nodup_nil, fun a ha => by simp at ha, fun k a c h => by simp at h⟩, .cons (.scr hS) .nil, ?_, fun _ _ _ _ _ _ _ z => z.elim, fun r μ' A' G' H' v q _ _ rr => ?_⟩
  · show (f_law_k54 [.d (.scr ns)] []).fin _ _
    rw [e]; rfl
  · subst q
    cases rr
    rfl
end Lk54
open PySem PySem.W PySem.Calls PyProof.Rows
theorem PySem.Challenge.cw_takenorleft_k54_whole_names_and_books_of_holds : PySem.Challenge.rw_takenorleft_k54_whole_names_and_books_of.Holds := by
  w_on; o_law
  refine HandSHeadRun.head_any (r := OpenLaw.row PySem.Challenge.rw_takenorleft_k54_whole_names_and_books_of) (q := view (OpenLaw.row PySem.Challenge.rw_takenorleft_k54_whole_names_and_books_of).prog [43]) (H := Lk54.hdK) (ob := Lk54.hdOb) (M := 6000) (loose := Lk54.hdLoose) (d := HandSHeadRun.topDef (OpenLaw.row PySem.Challenge.rw_takenorleft_k54_whole_names_and_books_of).prog 43) (kwd := []) Lk54.hdOb_eq
    (by kernel_rfl) (fun s => by kernel_rfl) Lk54.hdRun (by kernel_rfl) (by kernel_rfl) (by kernel_rfl) (by rfl) (by first | assumption | decide +kernel) (by decide +kernel) ⟨rfl, rfl, rfl, rfl, rfl, by decide +kernel⟩ ?hw ?hc
  case hw => w_witness2
  case hc =>
    refine L2.walk_ofE (l := PySem.Challenge.rw_takenorleft_k54_whole_names_and_books_of) (n := 63) (k := 16) (x := "script") (CX := L2.CX0) rfl (by decide) (by kernel_rfl) ⟨rfl, by decide, by decide⟩ ?F (fun _ _ _ _ z => z)
    intro w mg fa h Y G hmg0
    obtain ⟨K, KX, c⟩ := Y
    have hmg : mg ("law" : PySem.Str) = some (.ref fa) := by
      have e : (HandSHeadRun.topDef (OpenLaw.row PySem.Challenge.rw_takenorleft_k54_whole_names_and_books_of).prog 43).name = ("law" : PySem.Str) := by kernel_rfl
      rw [← e]
      exact hmg0
    obtain ⟨fd, hb, hF⟩ := Lk54.hdLaw (P := (PySem.Challenge.rw_takenorleft_k54_whole_names_and_books_of).prog) (w := w) KX G hmg c
    exact ⟨K, fd, fun vs H Q _ => PL.low K (PL.pF PL.f_law_k54) vs H Q fun _ _ _ => False, KX, hb, fun H a ns hl _ hS => Lk54.hdSp hl hS, fun base kb gb => (hF base kb gb).ground⟩
