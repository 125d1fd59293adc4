import PyProof.Rows.All
import Wide.All
import OpenK.AllK
import Wide.FinOn
import HandS.ForMost
import HandS.Walk
import HandS.Exc
import HandS.WordsExc
import HandS.ExcInit
import HandS.HeadHook1
import HandS.IsInst
import HandS.TupAny
import KE.GoesMore
import KE.GoesEnum
import HandS.Zip
import HandS.Iter
import HandS.Defaults
import HandS.MakeKwOnly
import HandS.CallLocal
import HandS.Dict
import HandS.HeadHook2
import HandS.Deep
import HandS.Text
import KE.DataCmp
import KE.SortData
import KE.DataMinMax
import HandS.Style
import HandS.Strs
import HandS.TupMul
import PyProof.StrBlock2
import KE.KDictZip
import HandS.Zip0
import KE.KDictPairs
import HandS.DictComp
import KE.KStateDown
import HandS.Ends
import HandS.More
import HandS.Head0
import HandS.Head1
import HandS.Head2
import HandS.HeadEnd
import PySem.Challenge.RW_takenorleft_k03_whole_backs_and_rules_of
import KE.DatumOrd
set_option Elab.async false
set_option linter.all false
set_option maxRecDepth 100000
set_option maxHeartbeats 0
/-! The P-layer, core: data without addresses, what stands for them, states. -/
namespace PL
open PySem PySem.Spec PyProof.Rows L2

/-- data, without the heap -/
inductive D where
  | non | bl (b : Bool) | int (i : Int) | str (x : Str) | fn (x : Str) | ty (n : String)
  | scr (l : List Int) | tup (l : List D) | ntp (l : List D) | lst (l : List D) | dic (t : Bool) (ks vs : List D) | obj (C : Str) (ns : List Str) (vs : List D)

def keyD : Key → D
  | .inl i => .int i
  | .inr x => .str x

mutual
/-- v stands for d, by what is frozen in G -/
inductive Rep (K : PySem.W.Frag) (G : Hp) : D → V → Prop
  | non : Rep K G .non .non
  | bl (b : Bool) : Rep K G (.bl b) (.bl b)
  | int (i : Int) : Rep K G (.int i) (.int i)
  | str (x : Str) : Rep K G (.str x) (.str x)
  | fn (x : Str) : Rep K G (.fn x) (.ref (He.ga K x))
  | ty (n : String) : Rep K G (.ty n) (.ty n)
  | tup {a : Addr} {l : List D} {vs : List V} : G a = some (.tup vs) → Reps K G l vs → Rep K G (.tup l) (.ref a)
  | ntp {a : Addr} {o : Obj} {l : List D} {vs : List V} : G a = some (.frz o (.tup vs)) → o.dict = none → Reps K G l vs → Rep K G (.ntp l) (.ref a)
  | scr {a : Addr} {l : List Int} : SqL K G a (l.map V.int) → Rep K G (.scr l) (.ref a)
  | lst {a : Addr} {l : List D} {vs : List V} : G a = some (.lst vs) → Reps K G l vs → Rep K G (.lst l) (.ref a)
  | dicK {a : Addr} {kvs : List (Key × V)} {ks vs : List D} : Rd G a (.dK kvs) → ks = kvs.map (fun p => keyD p.1) → Reps K G vs (kvs.map Prod.snd) → Rep K G (.dic false ks vs) (.ref a)
  | dicT {a : Addr} {kvs : List (List Key × V)} {ks vs : List D} : Rd G a (.dT kvs) → ks = kvs.map (fun p => .tup (p.1.map keyD)) → Reps K G vs (kvs.map Prod.snd) → Rep K G (.dic true ks vs) (.ref a)
  | obj {a dx : Addr} {C : Str} {fs : List (Str × V)} {ns : List Str} {vs : List D} : G a = some (.ins (He.ga K C) dx fs) → ns = fs.map Prod.fst → Reps K G vs (fs.map Prod.snd) → Rep K G (.obj C ns vs) (.ref a)
inductive Reps (K : PySem.W.Frag) (G : Hp) : List D → List V → Prop
  | nil : Reps K G [] []
  | cons {d : D} {v : V} {ds : List D} {vs : List V} : Rep K G d v → Reps K G ds vs → Reps K G (d :: ds) (v :: vs)
end

/-- all of G is in H -/
def Le (G H : Hp) : Prop := ∀ a o, G a = some o → H a = some o
theorem Le.refl (G : Hp) : Le G G := fun _ _ h => h
theorem Le.trans {G H J : Hp} (a : Le G H) (b : Le H J) : Le G J := fun x o h => b x o (a x o h)
theorem Le.rd {G H : Hp} {a : Addr} {u : HO} (e : Le G H) (h : Rd G a u) : Rd H a u := by
  rcases h with h | ⟨o, h⟩
  · exact .inl (e _ _ h)
  · exact .inr ⟨o, e _ _ h⟩
theorem Le.sqL {K : PySem.W.Frag} {G H : Hp} {a : Addr} {xs : List V} (e : Le G H) (h : SqL K G a xs) : SqL K H a xs := Same.seq e h
theorem Le.sqT {K : PySem.W.Frag} {G H : Hp} {a : Addr} {xs : List V} (e : Le G H) (h : SqT K G a xs) : SqT K H a xs := by
  rcases h with (h | ⟨o, h⟩) | h
  · exact .inl (.inl (e _ _ h))
  · exact .inl (.inr ⟨o, e _ _ h⟩)
  · exact .inr h
def isDic : HO → Bool
  | .dK _ => true
  | .dT _ => true
  | _ => false
/-- all of G is in H, but that dicts may have been locked -/
def LeZ (G H : Hp) : Prop := ∀ a o, G a = some o → H a = some o ∨ (isDic o = true ∧ ∃ ob, H a = some (.frz ob o))
theorem Le.z {G H : Hp} (e : Le G H) : LeZ G H := fun a o h => .inl (e a o h)
theorem LeZ.refl (G : Hp) : LeZ G G := fun _ _ h => .inl h
theorem LeZ.trans {G H J : Hp} (a : LeZ G H) (b : LeZ H J) : LeZ G J := fun x o h => by
  rcases a x o h with q | ⟨z, ob, q⟩
  · exact b x o q
  · rcases b x _ q with q | ⟨z2, _⟩
    · exact .inr ⟨z, ob, q⟩
    · cases z2
theorem LeZ.same {G H : Hp} {a : Addr} {o : HO} (e : LeZ G H) (h : G a = some o) (n : isDic o = false) : H a = some o := by
  rcases e a o h with q | ⟨z, _⟩
  · exact q
  · rw [n] at z; cases z
theorem LeZ.rd {G H : Hp} {a : Addr} {u : HO} (e : LeZ G H) (h : Rd G a u) : Rd H a u := by
  rcases h with h | ⟨o, h⟩
  · rcases e a u h with q | ⟨_, ob, q⟩
    · exact .inl q
    · exact .inr ⟨ob, q⟩
  · exact .inr ⟨o, e.same h rfl⟩
theorem LeZ.sqL {K : PySem.W.Frag} {G H : Hp} {a : Addr} {xs : List V} (e : LeZ G H) (h : SqL K G a xs) : SqL K H a xs := by
  rcases h with h | h
  · exact .inl (e.rd h)
  · exact .inr h
theorem LeZ.sqT {K : PySem.W.Frag} {G H : Hp} {a : Addr} {xs : List V} (e : LeZ G H) (h : SqT K G a xs) : SqT K H a xs := by
  rcases h with h | h
  · exact .inl (e.rd h)
  · exact .inr h
mutual
theorem Rep.mono {K : PySem.W.Frag} {G H : Hp} (e : LeZ G H) : ∀ {d : D} {v : V}, Rep K G d v → Rep K H d v
  | _, _, .non => .non
  | _, _, .bl b => .bl b
  | _, _, .int i => .int i
  | _, _, .str x => .str x
  | _, _, .fn a => .fn a
  | _, _, .ty a => .ty a
  | _, _, .tup h hs => .tup (e.same h rfl) (Reps.mono e hs)
  | _, _, .ntp h n hs => .ntp (e.same h rfl) n (Reps.mono e hs)
  | _, _, .scr h => .scr (e.sqL h)
  | _, _, .lst h hs => .lst (e.same h rfl) (Reps.mono e hs)
  | _, _, .dicK h k hs => .dicK (e.rd h) k (Reps.mono e hs)
  | _, _, .dicT h k hs => .dicT (e.rd h) k (Reps.mono e hs)
  | _, _, .obj h k hs => .obj (e.same h rfl) k (Reps.mono e hs)
theorem Reps.mono {K : PySem.W.Frag} {G H : Hp} (e : LeZ G H) : ∀ {ds : List D} {vs : List V}, Reps K G ds vs → Reps K H ds vs
  | _, _, .nil => .nil
  | _, _, .cons h hs => .cons (Rep.mono e h) (Reps.mono e hs)
end
section
variable {K : PySem.W.Frag} {G : Hp}
theorem Reps.length : ∀ {ds : List D} {vs : List V}, Reps K G ds vs → ds.length = vs.length
  | _, _, .nil => rfl
  | _, _, .cons _ hs => congrArg (· + 1) (Reps.length hs)
theorem Reps.get : ∀ {ds : List D} {vs : List V} {i : Nat} {v : V}, Reps K G ds vs → vs[i]? = some v → ∃ d, ds[i]? = some d ∧ Rep K G d v
  | _, _, _, _, .nil, e => by simp at e
  | _, _, 0, _, .cons r _, e => by simp at e; subst e; exact ⟨_, rfl, r⟩
  | _, _, i + 1, v, .cons _ t, e => by
    obtain ⟨u, h1, h2⟩ := Reps.get (i := i) (v := v) t (by simpa using e)
    exact ⟨u, by simpa using h1, h2⟩
theorem Reps.at : ∀ {ds : List D} {vs : List V} {i : Nat} {d : D}, Reps K G ds vs → ds[i]? = some d → ∃ v, vs[i]? = some v ∧ Rep K G d v
  | _, _, _, _, .nil, e => by simp at e
  | _, _, 0, _, .cons r _, e => by simp at e; subst e; exact ⟨_, rfl, r⟩
  | _, _, i + 1, d, .cons _ t, e => by
    obtain ⟨u, h1, h2⟩ := Reps.at (i := i) (d := d) t (by simpa using e)
    exact ⟨u, by simpa using h1, h2⟩
theorem Reps.app : ∀ {ds es : List D} {vs us : List V}, Reps K G ds vs → Reps K G es us → Reps K G (ds ++ es) (vs ++ us)
  | _, _, _, _, .nil, t => t
  | _, _, _, _, .cons r s, t => .cons r (Reps.app s t)
theorem Reps.set {d : D} {v : V} (r : Rep K G d v) : ∀ {ds : List D} {vs : List V} (i : Nat), Reps K G ds vs → Reps K G (ds.set i d) (vs.set i v)
  | _, _, _, .nil => .nil
  | _, _, 0, .cons _ t => .cons r t
  | _, _, i + 1, .cons q t => .cons q (Reps.set r i t)
theorem Reps.take : ∀ {ds : List D} {vs : List V} (n : Nat), Reps K G ds vs → Reps K G (ds.take n) (vs.take n)
  | _, _, 0, _ => .nil
  | _, _, _ + 1, .nil => .nil
  | _, _, n + 1, .cons r t => .cons r (Reps.take n t)
theorem Reps.drop : ∀ {ds : List D} {vs : List V} (n : Nat), Reps K G ds vs → Reps K G (ds.drop n) (vs.drop n)
  | _, _, 0, r => r
  | _, _, _ + 1, .nil => .nil
  | _, _, n + 1, .cons _ t => Reps.drop n t
theorem Reps.rev : ∀ {ds : List D} {vs : List V}, Reps K G ds vs → Reps K G ds.reverse vs.reverse
  | _, _, .nil => .nil
  | _, _, .cons r t => by
    rw [List.reverse_cons, List.reverse_cons]
    exact (Reps.rev t).app (.cons r .nil)
end

/-! ### cells: what a def may change -/
/-- a value at the level of slots -/
inductive SV where
  | d (x : D)
  | c (k : Nat)
  | un
/-- a value at a slot, by the cells' addresses -/
def RepS (K : PySem.W.Frag) (A : List Addr) (G : Hp) : SV → V → Prop
  | .d x, v => Rep K G x v
  | .c k, v => ∃ a, A[k]? = some a ∧ v = .ref a
  | .un, _ => True
inductive RepsS (K : PySem.W.Frag) (A : List Addr) (G : Hp) : List SV → List V → Prop
  | nil : RepsS K A G [] []
  | cons {d : SV} {v : V} {ds : List SV} {vs : List V} : RepS K A G d v → RepsS K A G ds vs → RepsS K A G (d :: ds) (v :: vs)
theorem RepsS.length {K : PySem.W.Frag} {A : List Addr} {G : Hp} : ∀ {ds : List SV} {vs : List V}, RepsS K A G ds vs → ds.length = vs.length
  | _, _, .nil => rfl
  | _, _, .cons _ hs => congrArg (· + 1) (RepsS.length hs)

inductive Cell where
  | lst (l : List D)
  | dK (ks vs : List D)
  | dT (ks vs : List D)
  | ins (C : Str) (ns : List Str) (vs : List D)
  /-- a dict, its keys tuples, its values cells -/
  | dC (ks : List D) (vs : List SV)
  /-- an instance whose attributes may be cells -/
  | inC (C : Str) (ns : List Str) (vs : List SV)
abbrev Mem := List Cell
structure Env' where
  n : Nat
  f : Nat → SV
def Env'.set (ρ : Env') (i : Nat) (s : SV) : Env' := ⟨ρ.n, fun j => if j = i then s else ρ.f j⟩

theorem RepS.mono {K : PySem.W.Frag} {A A' : List Addr} {G G' : Hp} (p : A <+: A') (g : LeZ G G') {s : SV} {v : V} (h : RepS K A G s v) : RepS K A' G' s v := by
  cases s with
  | d x => exact Rep.mono g h
  | c k =>
    obtain ⟨a, e, r⟩ := h
    obtain ⟨B, rfl⟩ := p
    refine ⟨a, ?_, r⟩
    rw [List.getElem?_append_left (List.getElem?_eq_some_iff.mp e).1]; exact e
  | un => trivial
theorem RepsS.mono {K : PySem.W.Frag} {A A' : List Addr} {G G' : Hp} (p : A <+: A') (g : LeZ G G') : ∀ {ss : List SV} {vs : List V}, RepsS K A G ss vs → RepsS K A' G' ss vs
  | _, _, .nil => .nil
  | _, _, .cons h t => .cons (h.mono p g) (RepsS.mono p g t)
def CellOk (K : PySem.W.Frag) (A : List Addr) (G H : Hp) (a : Addr) : Cell → Prop
  | .lst l => ∃ vs, H a = some (.lst vs) ∧ Reps K G l vs
  | .dK ks vs => ∃ kvs : List (Key × V), H a = some (.dK kvs) ∧ ks = kvs.map (fun p => keyD p.1) ∧ Reps K G vs (kvs.map Prod.snd)
  | .dT ks vs => ∃ kvs : List (List Key × V), H a = some (.dT kvs) ∧ ks = kvs.map (fun p => .tup (p.1.map keyD)) ∧ Reps K G vs (kvs.map Prod.snd)
  | .ins C ns vs => ∃ dx fs, H a = some (.ins (He.ga K C) dx fs) ∧ ns = fs.map Prod.fst ∧ Reps K G vs (fs.map Prod.snd)
  | .dC ks vs => ∃ kvs : List (List Key × V), H a = some (.dT kvs) ∧ ks = kvs.map (fun p => .tup (p.1.map keyD)) ∧ RepsS K A G vs (kvs.map Prod.snd)
  | .inC C ns vs => ∃ dx fs, H a = some (.ins (He.ga K C) dx fs) ∧ ns = fs.map Prod.fst ∧ RepsS K A G vs (fs.map Prod.snd)
theorem CellOk.some {K : PySem.W.Frag} {A : List Addr} {G H : Hp} {a : Addr} {c : Cell} (h : CellOk K A G H a c) : ∃ o, H a = some o := by
  cases c with
  | lst l => obtain ⟨_, e, _⟩ := h; exact ⟨_, e⟩
  | dK k v => obtain ⟨_, e, _⟩ := h; exact ⟨_, e⟩
  | dT k v => obtain ⟨_, e, _⟩ := h; exact ⟨_, e⟩
  | ins C n v => obtain ⟨_, _, e, _⟩ := h; exact ⟨_, e⟩
  | dC k v => obtain ⟨_, e, _⟩ := h; exact ⟨_, e⟩
  | inC C n v => obtain ⟨_, _, e, _⟩ := h; exact ⟨_, e⟩
theorem CellOk.mono {K : PySem.W.Frag} {A A' : List Addr} {G H G' H' : Hp} {a : Addr} {c : Cell} (p : A <+: A') (g : LeZ G G') (e : H' a = H a) (h : CellOk K A G H a c) : CellOk K A' G' H' a c := by
  cases c with
  | lst l => obtain ⟨vs, q, r⟩ := h; exact ⟨vs, e.trans q, r.mono g⟩
  | dK k v => obtain ⟨kvs, q, z, r⟩ := h; exact ⟨kvs, e.trans q, z, r.mono g⟩
  | dT k v => obtain ⟨kvs, q, z, r⟩ := h; exact ⟨kvs, e.trans q, z, r.mono g⟩
  | ins C n v => obtain ⟨dx, fs, q, z, r⟩ := h; exact ⟨dx, fs, e.trans q, z, r.mono g⟩
  | dC k v => obtain ⟨kvs, q, z, r⟩ := h; exact ⟨kvs, e.trans q, z, r.mono p g⟩
  | inC C n v => obtain ⟨dx, fs, q, z, r⟩ := h; exact ⟨dx, fs, e.trans q, z, r.mono p g⟩
theorem CellOk.notup {K : PySem.W.Frag} {A : List Addr} {G H : Hp} {a : Addr} {c : Cell} (h : CellOk K A G H a c) {xs : List V} : H a ≠ Option.some (HO.tup xs) := by
  intro z
  cases c with
  | lst l => obtain ⟨_, e, _⟩ := h; rw [e] at z; cases z
  | dK k v => obtain ⟨_, e, _⟩ := h; rw [e] at z; cases z
  | dT k v => obtain ⟨_, e, _⟩ := h; rw [e] at z; cases z
  | ins C n v => obtain ⟨_, _, e, _⟩ := h; rw [e] at z; cases z
  | dC k v => obtain ⟨_, e, _⟩ := h; rw [e] at z; cases z
  | inC C n v => obtain ⟨_, _, e, _⟩ := h; rw [e] at z; cases z
/-- its values are no cells -/
def flat1 : Cell → Bool
  | .dC _ _ => false
  | .inC _ _ _ => false
  | _ => true
theorem CellOk.flat {K : PySem.W.Frag} {A A' : List Addr} {G H : Hp} {a : Addr} {c : Cell} (f : flat1 c = true) (h : CellOk K A G H a c) : CellOk K A' G H a c := by
  cases c <;> first | exact h | cases f
/-- the cells stand -/
structure Cells (K : PySem.W.Frag) (A : List Addr) (μ : Mem) (G H : Hp) : Prop where
  le : Le G H
  len : A.length = μ.length
  nd : A.Nodup
  free : ∀ a ∈ A, G a = none
  ok : ∀ (k : Nat) (a : Addr) (c : Cell), A[k]? = some a → μ[k]? = some c → CellOk K A G H a c
/-- a slot -/
def SlotOk (K : PySem.W.Frag) (A : List Addr) (G : Hp) (s : SV) (o : Option V) : Prop :=
  match s with
  | .un => True
  | s => ∃ v, o = some v ∧ RepS K A G s v
structure Sim (K : PySem.W.Frag) (A : List Addr) (σ : L2.St) (ρ : Env') (μ : Mem) (G H : Hp) : Prop extends Cells K A μ G H where
  sl : ρ.n = σ.length
  at_ : ∀ (i : Nat), i < ρ.n → ∃ o, σ[i]? = some o ∧ SlotOk K A G (ρ.f i) o
/-- a step: what is no cell stays, cells stay, new things are new -/
structure Step (A : List Addr) (G H : Hp) (A' : List Addr) (G' H' : Hp) : Prop where
  pre : A <+: A'
  le : LeZ G G'
  keep : ∀ a o, H a = some o → a ∉ A → H' a = some o ∨ (G a = some o ∧ isDic o = true ∧ ∃ ob, H' a = some (.frz ob o))
  new : ∀ a, G' a ≠ none → G a ≠ none ∨ H a = none ∨ ∃ xs, H a = some (.tup xs)
  tups : ∀ a xs, H' a = some (.tup xs) → H a = none ∨ H a = some (.tup xs)
  cells : ∀ a ∈ A', a ∈ A ∨ H a = none
  there : ∀ a, H a ≠ none → H' a ≠ none
theorem Step.refl {A : List Addr} {G H : Hp} : Step A G H A G H :=
  ⟨List.prefix_refl _, LeZ.refl _, fun _ _ h _ => .inl h, fun _ h => .inl h, fun _ _ h => .inr h, fun _ h => .inl h, fun _ h => h⟩
theorem Step.trans {A A1 A2 : List Addr} {G G1 G2 H H1 H2 : Hp} (x : Step A G H A1 G1 H1) (y : Step A1 G1 H1 A2 G2 H2) : Step A G H A2 G2 H2 where
  pre := x.pre.trans y.pre
  le := x.le.trans y.le
  keep := fun a o h n => by
    have n1 : a ∉ A1 := fun z => (x.cells a z).elim n fun q => by rw [h] at q; cases q
    rcases x.keep a o h n with q | ⟨g, z, ob, q⟩
    · rcases y.keep a o q n1 with r | ⟨g1, z, ob, r⟩
      · exact .inl r
      · refine .inr ⟨?_, z, ob, r⟩
        rcases x.new a (by rw [g1]; simp) with w | w
        · cases e : G a with
          | none => exact absurd e w
          | some u =>
            rcases x.le a u e with e2 | ⟨_, _, e2⟩
            · rw [g1] at e2; exact e2.symm ▸ rfl
            · rw [g1] at e2
              have e3 : o = _ := Option.some.inj e2
              rw [e3] at z; cases z
        · rw [h] at w
          rcases w with w | ⟨xs, w⟩
          · cases w
          · cases w; cases z
    · rcases y.keep a _ q n1 with r | ⟨_, z2, _⟩
      · exact .inr ⟨g, z, ob, r⟩
      · cases z2
  new := fun a h => by
    rcases y.new a h with q | q | ⟨xs, q⟩
    · exact x.new a q
    · exact .inr (.inl (Classical.byContradiction fun z => x.there a z q))
    · rcases x.tups a xs q with w | w
      · exact .inr (.inl w)
      · exact .inr (.inr ⟨xs, w⟩)
  tups := fun a xs h => by
    rcases y.tups a xs h with q | q
    · exact .inl (Classical.byContradiction fun z => x.there a z q)
    · exact x.tups a xs q
  cells := fun a h => by
    rcases y.cells a h with q | q
    · exact x.cells a q
    · exact .inr (Classical.byContradiction fun z => x.there a z q)
  there := fun a h => y.there a (x.there a h)
theorem SlotOk.mono {K : PySem.W.Frag} {A A' : List Addr} {G G' : Hp} (p : A <+: A') (g : LeZ G G') {s : SV} {o : Option V} (h : SlotOk K A G s o) : SlotOk K A' G' s o := by
  cases s with
  | un => trivial
  | d x => obtain ⟨v, e, r⟩ := h; exact ⟨v, e, RepS.mono p g (s := .d x) r⟩
  | c k => obtain ⟨v, e, r⟩ := h; exact ⟨v, e, RepS.mono p g (s := .c k) r⟩
/-- the cells of a later state, the slots as they were -/
theorem Sim.after {K : PySem.W.Frag} {A A' : List Addr} {σ : L2.St} {ρ : Env'} {μ μ' : Mem} {G G' H H' : Hp} (S : Sim K A σ ρ μ G H) (st : Step A G H A' G' H') (c : Cells K A' μ' G' H') : Sim K A' σ ρ μ' G' H' where
  toCells := c
  sl := S.sl
  at_ := fun i h => let ⟨o, e, q⟩ := S.at_ i h; ⟨o, e, q.mono st.pre st.le⟩

/-! ### readings without the heap -/
/-- what is wanted of an exception: its class, its one attribute -/
abbrev XP := Str → List (Str × D) → Mem → Prop
abbrev VP := SV → Mem → Prop
abbrev TX := XP → Env' → Mem → VP → Prop
abbrev TXT := XP → Env' → Mem → (Bool → Mem → Prop) → Prop
abbrev TXA := XP → Env' → Mem → (List SV → Mem → Prop) → Prop
abbrev TXI := XP → Env' → Mem → (List D → Mem → Prop) → Prop
structure EndsP where
  nx : Env' → Mem → Prop
  rt : VP
  ex : XP
  bk : Env' → Mem → Prop := fun _ _ => False
  ct : Env' → Mem → Prop := fun _ _ => False
abbrev TXS := EndsP → Env' → Mem → Prop

/-- an exception in the heap: its class at C, its attributes -/
def ExOk (K : PySem.W.Frag) (G H : Hp) (fs : List (Str × D)) (d : Option Addr) : Prop :=
  (fs = [] ∧ d = none) ∨ ∃ (p : Addr) (ws : List (Str × V)), d = some p ∧ H p = some (.xd ws) ∧ fs.map Prod.fst = ws.map Prod.fst ∧ Reps K G (fs.map Prod.snd) (ws.map Prod.snd)
/-- the outer wish W takes what x wants -/
def ExTo (K : PySem.W.Frag) (W : WX) (A : List Addr) (G H : Hp) (x : XP) : Prop :=
  ∀ (C : Str) (fs : List (Str × D)) (μ' : Mem) (A' : List Addr) (G' H' : Hp) (d : Option Addr) (σ : L2.St), x C fs μ' → Cells K A' μ' G' H' → Step A G H A' G' H' → ExOk K G' H' fs d → W (.ref (He.ga K C)) d σ H'
theorem ExTo.after {K : PySem.W.Frag} {W : WX} {A A' : List Addr} {G G' H H' : Hp} {x : XP} (h : ExTo K W A G H x) (st : Step A G H A' G' H') : ExTo K W A' G' H' x :=
  fun C fs μ' A2 G2 H2 d σ q c s2 e => h C fs μ' A2 G2 H2 d σ q c (st.trans s2) e

def lift (K : PySem.W.Frag) (W : WX) (t : TX) : TE := fun σ H Q => ∃ A ρ μ G Qp x, Sim K A σ ρ μ G H ∧ t x ρ μ Qp ∧ ExTo K W A G H x ∧
  ∀ r μ' A' G' H' v, Qp r μ' → Cells K A' μ' G' H' → Step A G H A' G' H' → RepS K A' G' r v → Q v H'
def liftT (K : PySem.W.Frag) (W : WX) (t : TXT) : TT := fun σ H Q => ∃ A ρ μ G Qp x, Sim K A σ ρ μ G H ∧ t x ρ μ Qp ∧ ExTo K W A G H x ∧
  ∀ b μ' A' G' H', Qp b μ' → Cells K A' μ' G' H' → Step A G H A' G' H' → Q b H'
def liftA (K : PySem.W.Frag) (W : WX) (t : TXA) : TA := fun σ H Q => ∃ A ρ μ G Qp x, Sim K A σ ρ μ G H ∧ t x ρ μ Qp ∧ ExTo K W A G H x ∧
  ∀ rs μ' A' G' H' vs, Qp rs μ' → Cells K A' μ' G' H' → Step A G H A' G' H' → RepsS K A' G' rs vs → Q vs H'
/-- a statement's ends -/
structure EndsOk (K : PySem.W.Frag) (W : WX) (A : List Addr) (G H : Hp) (E : EndsP) (D : Ends) : Prop where
  nx : ∀ ρ' μ' A' σ' G' H', E.nx ρ' μ' → Sim K A' σ' ρ' μ' G' H' → Step A G H A' G' H' → D.nx σ' H'
  bk : ∀ ρ' μ' A' σ' G' H', E.bk ρ' μ' → Sim K A' σ' ρ' μ' G' H' → Step A G H A' G' H' → D.bk σ' H'
  ct : ∀ ρ' μ' A' σ' G' H', E.ct ρ' μ' → Sim K A' σ' ρ' μ' G' H' → Step A G H A' G' H' → D.ct σ' H'
  rt : ∀ r μ' A' G' H' v, E.rt r μ' → Cells K A' μ' G' H' → Step A G H A' G' H' → RepS K A' G' r v → D.rt v H'
  ex : ExTo K W A G H E.ex
theorem EndsOk.after {K : PySem.W.Frag} {W : WX} {A A' : List Addr} {G G' H H' : Hp} {E : EndsP} {D : Ends} (e : EndsOk K W A G H E D) (st : Step A G H A' G' H') : EndsOk K W A' G' H' E D :=
  ⟨fun ρ' μ' A2 σ' G2 H2 q s s2 => e.nx ρ' μ' A2 σ' G2 H2 q s (st.trans s2), fun ρ' μ' A2 σ' G2 H2 q s s2 => e.bk ρ' μ' A2 σ' G2 H2 q s (st.trans s2),
    fun ρ' μ' A2 σ' G2 H2 q s s2 => e.ct ρ' μ' A2 σ' G2 H2 q s (st.trans s2), fun r μ' A2 G2 H2 v q s s2 => e.rt r μ' A2 G2 H2 v q s (st.trans s2), e.ex.after st⟩
def liftS (K : PySem.W.Frag) (W : WX) (t : TXS) : TS := fun D σ H => ∃ A ρ μ G E, Sim K A σ ρ μ G H ∧ t E ρ μ ∧ EndsOk K W A G H E D

/-! ### judgements -/
structure PX (X : Cx) (W : WX) (e : Expr) (t : TX) : Prop where
  pe : PE X e (lift X.K W t)
structure PXT (X : Cx) (W : WX) (e : Expr) (t : TXT) : Prop where
  pt : PT X e (liftT X.K W t)
structure PXA (X : Cx) (W : WX) (es : List Expr) (t : TXA) : Prop where
  pa : PA X es (liftA X.K W t)
structure PXS (X : Cx) (W : WX) (st : Stmt) (t : TXS) : Prop where
  ps : PS X st (liftS X.K W t)
structure PXSs (X : Cx) (W : WX) (st : List Stmt) (t : TXS) : Prop where
  ps : PSs X st (liftS X.K W t)
theorem _root_.L2.PE.imp {X : Cx} {e : Expr} {t t' : TE} (h : PE X e t) (i : ∀ σ H Q, t' σ H Q → t σ H Q) : PE X e t' := ⟨fun pins s σ H Q I q => h.run pins s σ H Q I (i _ _ _ q)⟩
theorem _root_.L2.PT.imp {X : Cx} {e : Expr} {t t' : TT} (h : PT X e t) (i : ∀ σ H Q, t' σ H Q → t σ H Q) : PT X e t' := ⟨fun pins s σ H Q I q => h.run pins s σ H Q I (i _ _ _ q)⟩
theorem _root_.L2.PA.imp {X : Cx} {e : List Expr} {t t' : TA} (h : PA X e t) (i : ∀ σ H Q, t' σ H Q → t σ H Q) : PA X e t' := ⟨fun pos pins s σ H Q I q => h.run pos pins s σ H Q I (i _ _ _ q)⟩
theorem _root_.L2.PS.imp {X : Cx} {e : Stmt} {t t' : TS} (h : PS X e t) (i : ∀ D σ H, t' D σ H → t D σ H) : PS X e t' := ⟨fun pins s σ H D I q => h.run pins s σ H D I (i _ _ _ q)⟩
theorem _root_.L2.PSs.imp {X : Cx} {e : List Stmt} {t t' : TS} (h : PSs X e t) (i : ∀ D σ H, t' D σ H → t D σ H) : PSs X e t' := ⟨fun pins s σ H D I q => h.run pins s σ H D I (i _ _ _ q)⟩

/-! ### the usual steps -/
section
variable {K : PySem.W.Frag} {A : List Addr} {μ : Mem} {G H : Hp}
theorem Cells.ne_of_lt (c : Cells K A μ G H) {a p : Addr} (ha : a ∈ A) (hp : H p = none) : a ≠ p := fun z => by
  subst z
  obtain ⟨k, hk⟩ := List.mem_iff_getElem?.mp ha
  have h1 : k < μ.length := by rw [← c.len]; exact (List.getElem?_eq_some_iff.mp hk).1
  obtain ⟨o, e⟩ := (c.ok k a _ hk (List.getElem?_eq_getElem h1)).some
  rw [hp] at e; cases e
theorem Cells.gnone (c : Cells K A μ G H) {p : Addr} (hp : H p = none) : G p = none := by
  cases e : G p with
  | none => rfl
  | some o => rw [c.le p o e] at hp; cases hp
/-- a new frozen thing at p -/
theorem Cells.laid (c : Cells K A μ G H) {p : Addr} {o : HO} (hp : H p = none) : Cells K A μ (upd G p o) (upd H p o) ∧ Step A G H A (upd G p o) (upd H p o) := by
  have gp := c.gnone hp
  have lg : Le G (upd G p o) := fun a u e => by rw [upd_ne (ne_of_none e gp)]; exact e
  refine ⟨⟨fun a u e => ?_, c.len, c.nd, fun a ha => ?_, fun k a cl h1 h2 => ?_⟩, ⟨List.prefix_refl _, lg.z, fun a u e _ => .inl ?_, fun a e => ?_, fun a xs e => ?_, fun a ha => .inl ha, fun a e => ?_⟩⟩
  · by_cases z : a = p
    · subst z; rw [upd_same] at e ⊢; exact e
    · rw [upd_ne z] at e ⊢; exact c.le a u e
  · rw [upd_ne (c.ne_of_lt ha hp)]; exact c.free a ha
  · exact (c.ok k a cl h1 h2).mono (List.prefix_refl _) lg.z (upd_ne (c.ne_of_lt (List.mem_of_getElem? h1) hp))
  · rw [upd_ne (ne_of_none e hp)]; exact e
  · by_cases z : a = p
    · subst z; exact .inr (.inl hp)
    · rw [upd_ne z] at e; exact .inl e
  · by_cases z : a = p
    · subst z; exact .inl hp
    · rw [upd_ne z] at e; exact .inr e
  · by_cases z : a = p
    · subst z; rw [upd_same]; simp
    · rw [upd_ne z]; exact e
theorem getElem?_append_one {α : Type} {l : List α} {x y : α} {k : Nat} (h : (l ++ [x])[k]? = some y) : (l[k]? = some y) ∨ (k = l.length ∧ y = x) := by
  by_cases hk : k < l.length
  · rw [List.getElem?_append_left hk] at h; exact .inl h
  · rw [List.getElem?_append_right (by omega)] at h
    have : k - l.length = 0 := by
      cases e : k - l.length with
      | zero => rfl
      | succ n => rw [e] at h; simp at h
    rw [this] at h
    simp at h
    exact .inr ⟨by omega, h.symm⟩
/-- a new cell at p -/
theorem Cells.cell (c : Cells K A μ G H) {p : Addr} {o : HO} {cl : Cell} (hp : H p = none) (ok : CellOk K (A ++ [p]) G (upd H p o) p cl) : Cells K (A ++ [p]) (μ ++ [cl]) G (upd H p o) ∧ Step A G H (A ++ [p]) G (upd H p o) := by
  have gp := c.gnone hp
  have np : p ∉ A := fun z => c.ne_of_lt z hp rfl
  refine ⟨⟨fun a u e => ?_, by simp [c.len], ?_, fun a ha => ?_, fun k a cl' h1 h2 => ?_⟩, ⟨List.prefix_append _ _, LeZ.refl _, fun a u e _ => .inl ?_, fun a e => .inl e, fun a xs e => ?_, fun a ha => ?_, fun a e => ?_⟩⟩
  · rw [upd_ne (ne_of_none e gp)]; exact c.le a u e
  · refine List.nodup_append.mpr ⟨c.nd, by simp, fun a ha b hb => ?_⟩
    simp at hb; subst hb
    exact c.ne_of_lt ha hp
  · rcases List.mem_append.mp ha with h | h
    · exact c.free a h
    · simp at h; subst h; exact gp
  · rcases getElem?_append_one h1 with h1 | ⟨e1, e2⟩
    · have hk : k < μ.length := by rw [← c.len]; exact (List.getElem?_eq_some_iff.mp h1).1
      rw [List.getElem?_append_left hk] at h2
      exact (c.ok k a cl' h1 h2).mono (List.prefix_append _ _) (LeZ.refl _) (upd_ne (c.ne_of_lt (List.mem_of_getElem? h1) hp))
    · subst e2
      rw [e1, c.len, List.getElem?_append_right (Nat.le_refl _)] at h2
      simp at h2; subst h2; exact ok
  · rw [upd_ne (ne_of_none e hp)]; exact e
  · by_cases z : a = p
    · subst z; exact .inl hp
    · rw [upd_ne z] at e; exact .inr e
  · rcases List.mem_append.mp ha with h | h
    · exact .inl h
    · simp at h; subst h; exact .inr hp
  · by_cases z : a = p
    · subst z; rw [upd_same]; simp
    · rw [upd_ne z]; exact e
/-- a cell is changed -/
theorem Cells.write (c : Cells K A μ G H) {k : Nat} {p : Addr} {o : HO} {cl : Cell} (hk : A[k]? = some p) (ok : CellOk K A G (upd H p o) p cl) : Cells K A (μ.set k cl) G (upd H p o) ∧ Step A G H A G (upd H p o) := by
  have hm : p ∈ A := List.mem_of_getElem? hk
  have gp := c.free p hm
  have hkl : k < A.length := (List.getElem?_eq_some_iff.mp hk).1
  refine ⟨⟨fun a u e => ?_, by simp [c.len], c.nd, c.free, fun j a cl' h1 h2 => ?_⟩, ⟨List.prefix_refl _, LeZ.refl _, fun a u e n => .inl ?_, fun a e => .inl e, fun a xs e => ?_, fun a ha => .inl ha, fun a e => ?_⟩⟩
  · rw [upd_ne (ne_of_none e gp)]; exact c.le a u e
  · by_cases z : j = k
    · subst z
      rw [hk] at h1; cases h1
      rw [List.getElem?_set_self (by rw [← c.len]; exact hkl)] at h2
      cases h2; exact ok
    · rw [List.getElem?_set_ne (Ne.symm z)] at h2
      refine (c.ok j a cl' h1 h2).mono (List.prefix_refl _) (LeZ.refl _) (upd_ne fun q => z ?_)
      subst q
      obtain ⟨l1, e1⟩ := List.getElem?_eq_some_iff.mp h1
      obtain ⟨l2, e2⟩ := List.getElem?_eq_some_iff.mp hk
      exact (List.getElem_inj c.nd).mp (e1.trans e2.symm)
  · rw [upd_ne (fun z : a = p => n (by rw [z]; exact hm))]; exact e
  · by_cases z : a = p
    · subst z; exact absurd e ok.notup
    · rw [upd_ne z] at e; exact .inr e
  · by_cases z : a = p
    · subst z; rw [upd_same]; simp
    · rw [upd_ne z]; exact e
end
end PL
/-! The P-layer: expressions. -/
namespace PL
open PySem PySem.Spec PyProof.Rows L2
theorem Reps.sq {K : PySem.W.Frag} {G : Hp} {l : List D} {v : V} (h : Rep K G (.tup l) v) : ∃ a vs, v = .ref a ∧ SqT K G a vs ∧ Reps K G l vs := by
  cases h with
  | tup h hs => exact ⟨_, _, rfl, SqT.of h, hs⟩
theorem Reps.sqn {K : PySem.W.Frag} {G : Hp} {l : List D} {v : V} (h : Rep K G (.ntp l) v) : ∃ a vs, v = .ref a ∧ SqT K G a vs ∧ Reps K G l vs := by
  cases h with
  | ntp h _ hs => exact ⟨_, _, rfl, .inl (.inr ⟨_, h⟩), hs⟩
theorem Reps.sql {K : PySem.W.Frag} {G : Hp} {l : List D} {v : V} (h : Rep K G (.lst l) v) : ∃ a vs, v = .ref a ∧ G a = some (.lst vs) ∧ Reps K G l vs := by
  cases h with
  | lst h hs => exact ⟨_, _, rfl, h, hs⟩
section
variable {X : Cx} {W : WX} {a b c e : Expr} {es : List Expr} {ta tb tc : TX} {pos : Pos}

/-- the one or the other, by a truth -/
def Br (b : Bool) (A B : Prop) : Prop := match b with
  | true => A
  | false => B
/-! ### names, constants -/
def xVar (i : Nat) : TX := fun _ ρ μ Q => i < ρ.n ∧ match ρ.f i with
  | .d a => Q (.d a) μ
  | .c k => Q (.c k) μ
  | .un => False
theorem px_name (i : Nat) {x : Str} {pos : Pos} (hN : X.N[i]? = some x := by rfl) (hv : Vis X.env.scope x := by first | exact Or.inl rfl | exact Or.inr (Or.inl rfl) | exact Or.inr (Or.inr rfl)) (hd : (x == ("__debug__" : Str)) = false := by decide)
    (hcd : (x == ("__classdict__" : Str)) = false := by decide) : PX X W (.Name x pos) (xVar i) := by
  refine ⟨(pe_var hN hv hd hcd).imp fun σ H Q h => ?_⟩
  obtain ⟨A, ρ, μ, G, Qp, xp, S, ht, _, k⟩ := h
  obtain ⟨hn, ht⟩ := ht
  obtain ⟨o, e1, so⟩ := S.at_ i hn
  split at ht
  · rename_i a e
    rw [e] at so
    obtain ⟨v, rfl, r⟩ := so
    exact ⟨v, e1, k _ _ A G H v ht S.toCells .refl r⟩
  · rename_i a e
    rw [e] at so
    obtain ⟨v, rfl, r⟩ := so
    exact ⟨v, e1, k _ _ A G H v ht S.toCells .refl r⟩
  · exact ht.elim
def xC (d : D) : TX := fun _ _ μ Q => Q (.d d) μ
theorem px_const {v : V} {d : D} (h : PE X e (tC v)) (r : ∀ G, Rep X.K G d v) : PX X W e (xC d) := by
  refine ⟨h.imp fun σ H Q h => ?_⟩
  obtain ⟨A, ρ, μ, G, Qp, xp, S, ht, _, k⟩ := h
  exact k _ _ A G H v ht S.toCells .refl (r G)
theorem px_int {i : Int} {j pos} : PX X W (.Constant (.int i) j pos) (xC (.int i)) := px_const pe_int fun _ => .int i
theorem px_bl {b : Bool} {j pos} : PX X W (.Constant (.bool b) j pos) (xC (.bl b)) := px_const pe_bl fun _ => .bl b
theorem px_non {j pos} : PX X W (.Constant .none j pos) (xC .non) := px_const pe_non fun _ => .non
theorem px_str {x : Str} {j pos} : PX X W (.Constant (.str x) j pos) (xC (.str x)) := px_const pe_str fun _ => .str x
/-- a constant of the module: an int -/
theorem px_gint {x : Str} {i : Int} {t : Tok} {pos : Pos} (hg : Gl X x) (hm : X.mg x = some (.int i t)) (hd : (x == ("__debug__" : Str)) = false := by decide) : PX X W (.Name x pos) (xC (.int i)) :=
  px_const (pe_glob hg hm (v := .int i) ⟨t, rfl⟩ hd) fun _ => .int i
theorem px_gstr {x : Str} {i : Str} {t : Tok} {pos : Pos} (hg : Gl X x) (hm : X.mg x = some (.str i t)) (hd : (x == ("__debug__" : Str)) = false := by decide) : PX X W (.Name x pos) (xC (.str i)) :=
  px_const (pe_glob hg hm (v := .str i) ⟨t, rfl⟩ hd) fun _ => .str i
theorem px_gref {x : Str} {pos : Pos} (hg : Gl X x) (hm : X.mg x = some (.ref (He.ga X.K x))) (hd : (x == ("__debug__" : Str)) = false := by decide) : PX X W (.Name x pos) (xC (.fn x)) :=
  px_const (pe_glob hg hm (v := .ref (He.ga X.K x)) rfl hd) fun _ => .fn x
theorem px_bty {x : Str} {T : String} {pos : Pos} (hg : Gl X x) (hm : X.mg x = none) (hv : bootBuiltins x = some (.type T)) (hn : x ≠ "__name__" := by decide) (hd : (x == ("__debug__" : Str)) = false := by decide) : PX X W (.Name x pos) (xC (.ty T)) :=
  px_const (pe_bltn hg hm hv (v := .ty T) rfl hn hd) fun _ => .ty T

/-! ### operations on two values -/
/-- how an operation on the heap does what P says -/
def POp (K : PySem.W.Frag) (r : R2) (P : SV → SV → Mem → VP → Prop) : Prop := ∀ (sa sb : SV) (μ : Mem) (A : List Addr) (G H : Hp) (va vb : V) (Qp : VP) (Q : VK), P sa sb μ Qp → Cells K A μ G H → RepS K A G sa va → RepS K A G sb vb →
  (∀ r μ' A' G' H' v, Qp r μ' → Cells K A' μ' G' H' → Step A G H A' G' H' → RepS K A' G' r v → Q v H') → r va vb H Q
def xOp (P : SV → SV → Mem → VP → Prop) (ta tb : TX) : TX := fun x ρ μ Q => ta x ρ μ fun sa μ1 => tb x ρ μ1 fun sb μ2 => P sa sb μ2 Q
theorem lift_op {K : PySem.W.Frag} {r : R2} {P : SV → SV → Mem → VP → Prop} (hp : POp K r P) {σ : L2.St} {H : Hp} {Q : VK} (h : lift K W (xOp P ta tb) σ H Q) : tOp r (lift K W ta) (lift K W tb) σ H Q := by
  obtain ⟨A, ρ, μ, G, Qp, xp, S, ht, hx, k⟩ := h
  refine ⟨A, ρ, μ, G, _, xp, S, ht, hx, fun sa μ1 A1 G1 H1 va q c1 s1 r1 => ?_⟩
  refine ⟨A1, ρ, μ1, G1, _, xp, S.after s1 c1, q, hx.after s1, fun sb μ2 A2 G2 H2 vb q2 c2 s2 r2 => ?_⟩
  exact hp sa sb μ2 A2 G2 H2 va vb Qp Q q2 c2 (r1.mono s2.pre s2.le) r2 fun r μ' A' G' H' v q3 c3 s3 r3 => k r μ' A' G' H' v q3 c3 ((s1.trans s2).trans s3) r3
theorem px_op {op : Operator} {r : R2} {P : SV → SV → Mem → VP → Prop} (ho : OpR X (binaryOp op) r) (hp : POp X.K r P) (ha : PX X W a ta) (hb : PX X W b tb) : PX X W (.BinOp a op b pos) (xOp P ta tb) :=
  ⟨(pe_op ho ha.pe hb.pe).imp fun _ _ _ h => lift_op hp h⟩
theorem px_cmp {op : CmpOp} {r : R2} {P : SV → SV → Mem → VP → Prop} (ho : OpR X (compareOp op) r) (hp : POp X.K r P) (ha : PX X W a ta) (hb : PX X W b tb) (hm : behindInMarks op b = false := by first | exact nomark _ | rfl) : PX X W (.Compare a [op] [b] pos) (xOp P ta tb) :=
  ⟨(pe_cmpR ho ha.pe hb.pe hm).imp fun _ _ _ h => lift_op hp h⟩
/-- a reading as a test: a bool comes -/
def xTest (t : TX) : TXT := fun x ρ μ Q => t x ρ μ fun s μ1 => match s with
  | .d (.bl k) => Q k μ1
  | _ => False
theorem lift_test {K : PySem.W.Frag} {t : TX} {t0 : TE} (h0 : ∀ σ H Q, lift K W t σ H Q → t0 σ H Q) {σ : L2.St} {H : Hp} {Q : Bool → Hp → Prop} (h : liftT K W (xTest t) σ H Q) : tTest t0 σ H Q := by
  obtain ⟨A, ρ, μ, G, Qp, xp, S, ht, hx, k⟩ := h
  refine h0 _ _ _ ⟨A, ρ, μ, G, _, xp, S, ht, hx, fun r μ' A' G' H' v q c s rr => ?_⟩
  match r, q, rr with
  | .d (.bl b), q, rr => cases rr; exact ⟨b, rfl, k _ _ _ _ _ q c s⟩
theorem pxt_cmp {op : CmpOp} {r : R2} {P : SV → SV → Mem → VP → Prop} (ho : OpR X (compareOp op) r) (hp : POp X.K r P) (ha : PX X W a ta) (hb : PX X W b tb) (hm : behindInMarks op b = false := by first | exact nomark _ | rfl) : PXT X W (.Compare a [op] [b] pos) (xTest (xOp P ta tb)) :=
  ⟨(pt_cmpR ho ha.pe hb.pe hm).imp fun _ _ _ h => lift_test (fun _ _ _ z => lift_op hp z) h⟩
/-- an expression that gives True or False, as a test -/
theorem pxt_val {t : TX} (h : PX X W e t) (he : ∀ whole, isTrue e X.env whole = (do let v ← whole; standAt e.pos; holding [v] (truthy v)) := by intro _; rfl) : PXT X W e (xTest t) :=
  ⟨(pt_val h.pe he).imp fun _ _ _ h => by
    obtain ⟨A, ρ, μ, G, Qp, xp, S, ht, hx, k⟩ := h
    refine ⟨A, ρ, μ, G, _, xp, S, ht, hx, fun r μ' A' G' H' v q c s rr => ?_⟩
    match r, q, rr with
    | .d (.bl b), q, rr => cases rr; exact ⟨b, rfl, k _ _ _ _ _ q c s⟩⟩
/-- a < b < c -/
def xChain (P P' : SV → SV → Mem → VP → Prop) (ta tb tc : TX) : TX := fun x ρ μ Q => ta x ρ μ fun sa μ1 => tb x ρ μ1 fun sb μ2 => P sa sb μ2 fun z μ3 => match z with
  | .d (.bl b) => Br b (tc x ρ μ3 fun sc μ4 => P' sb sc μ4 Q) (Q (.d (.bl false)) μ3)
  | _ => False
theorem lift_chain {K : PySem.W.Frag} {r r' : R2} {P P' : SV → SV → Mem → VP → Prop} (hp : POp K r P) (hp' : POp K r' P') {σ : L2.St} {H : Hp} {Q : VK} (h : lift K W (xChain P P' ta tb tc) σ H Q) : tChain r r' (lift K W ta) (lift K W tb) (lift K W tc) σ H Q := by
  obtain ⟨A, ρ, μ, G, Qp, xp, S, ht, hx, k⟩ := h
  refine ⟨A, ρ, μ, G, _, xp, S, ht, hx, fun sa μ1 A1 G1 H1 va q c1 s1 r1 => ?_⟩
  refine ⟨A1, ρ, μ1, G1, _, xp, S.after s1 c1, q, hx.after s1, fun sb μ2 A2 G2 H2 vb q2 c2 s2 r2 => ?_⟩
  refine hp sa sb μ2 A2 G2 H2 va vb _ _ q2 c2 (r1.mono s2.pre s2.le) r2 fun z μ3 A3 G3 H3 v3 q3 c3 s3 r3 => ?_
  have s13 := (s1.trans s2).trans s3
  match z, q3, r3 with
  | .d (.bl true), q3, r3 =>
    cases r3
    refine ⟨true, rfl, ite_tt ?_⟩
    refine ⟨A3, ρ, μ3, G3, _, xp, S.after s13 c3, q3, hx.after s13, fun sc μ4 A4 G4 H4 vc q4 c4 s4 r4 => ?_⟩
    have s24 := s3.trans s4
    exact hp' sb sc μ4 A4 G4 H4 vb vc Qp Q q4 c4 (r2.mono s24.pre s24.le) r4 fun r μ' A' G' H' v q5 c5 s5 r5 => k r μ' A' G' H' v q5 c5 ((s13.trans s4).trans s5) r5
  | .d (.bl false), q3, r3 =>
    cases r3
    exact ⟨false, rfl, ite_ff (k _ _ _ _ _ _ q3 c3 s13 (.bl false))⟩
theorem px_chain {op op' : CmpOp} {r r' : R2} {P P' : SV → SV → Mem → VP → Prop} (ho : OpR X (compareOp op) r) (hp : POp X.K r P) (ho' : OpR X (compareOp op') r') (hp' : POp X.K r' P') (ha : PX X W a ta) (hb : PX X W b tb) (hc : PX X W c tc)
    (hm : lastMarks [op, op'] [b, c] = false := by with_unfolding_all rfl) : PX X W (.Compare a [op, op'] [b, c] pos) (xChain P P' ta tb tc) := ⟨(pe_chain ho ho' ha.pe hb.pe hc.pe hm).imp fun _ _ _ h => lift_chain hp hp' h⟩
theorem pxt_chain {op op' : CmpOp} {r r' : R2} {P P' : SV → SV → Mem → VP → Prop} (ho : OpR X (compareOp op) r) (hp : POp X.K r P) (ho' : OpR X (compareOp op') r') (hp' : POp X.K r' P') (ha : PX X W a ta) (hb : PX X W b tb) (hc : PX X W c tc)
    (hm : lastMarks [op, op'] [b, c] = false := by with_unfolding_all rfl) : PXT X W (.Compare a [op, op'] [b, c] pos) (xTest (xChain P P' ta tb tc)) := ⟨(pt_chain ho ho' ha.pe hb.pe hc.pe hm).imp fun _ _ _ h => lift_test (fun _ _ _ z => lift_chain hp hp' z) h⟩

/-! ### ints -/
def pI0 (f : Int → Int → D) : SV → SV → Mem → VP → Prop := fun sa sb μ Q => match sa, sb with
  | .d (.int i), .d (.int j) => Q (.d (f i j)) μ
  | _, _ => False
def pII (f : Int → Int → D) (C : Int → Int → Prop) : SV → SV → Mem → VP → Prop := fun sa sb μ Q => match sa, sb with
  | .d (.int i), .d (.int j) => C i j ∧ Q (.d (f i j)) μ
  | _, _ => False
abbrev cTrue : Int → Int → Prop := fun _ _ => True
theorem pop_I {K : PySem.W.Frag} {f : Int → Int → D} {g : Int → Int → V} {C : Int → Int → Prop} (hf : ∀ G i j, Rep K G (f i j) (g i j)) : POp K (rI C g) (pII f C) := by
  intro sa sb μ A G H va vb Qp Q h c ra rb k
  match sa, sb, h, ra, rb with
  | .d (.int i), .d (.int j), ⟨hc, h⟩, ra, rb =>
    cases ra; cases rb
    exact ⟨i, j, rfl, rfl, hc, k _ _ _ _ _ _ h c .refl (hf _ _ _)⟩
theorem pop_I0 {K : PySem.W.Frag} {f : Int → Int → D} {g : Int → Int → V} (hf : ∀ G i j, Rep K G (f i j) (g i j)) : POp K (rI0 g) (pI0 f) := by
  intro sa sb μ A G H va vb Qp Q h c ra rb k
  match sa, sb, h, ra, rb with
  | .d (.int i), .d (.int j), h, ra, rb =>
    cases ra; cases rb
    exact ⟨i, j, rfl, rfl, k _ _ _ _ _ _ h c .refl (hf _ _ _)⟩
abbrev pAdd := pI0 (fun i j => .int (i + j))
abbrev pSub := pI0 (fun i j => .int (i - j))
abbrev pMul := pII (fun i j => .int (i * j)) CMul
abbrev pMod := pII (fun i j => .int (i % j)) (fun _ j => 0 < j)
abbrev pDiv := pII (fun i j => .int (i / j)) CDiv
abbrev pPow := pII (fun i j => .int (i ^ j.toNat)) CPow
abbrev pLt := pI0 (fun i j => .bl (decide (i < j)))
abbrev pLe := pI0 (fun i j => .bl (decide (i ≤ j)))
abbrev pGt := pI0 (fun i j => .bl (decide (j < i)))
abbrev pGe := pI0 (fun i j => .bl (decide (j ≤ i)))
theorem px_addI (ha : PX X W a ta) (hb : PX X W b tb) : PX X W (.BinOp a .Add b pos) (xOp pAdd ta tb) := px_op op_add (pop_I0 fun _ _ _ => .int _) ha hb
theorem px_subI (ha : PX X W a ta) (hb : PX X W b tb) : PX X W (.BinOp a .Sub b pos) (xOp pSub ta tb) := px_op op_sub (pop_I0 fun _ _ _ => .int _) ha hb
theorem px_mulI (ha : PX X W a ta) (hb : PX X W b tb) : PX X W (.BinOp a .Mult b pos) (xOp pMul ta tb) := px_op op_mul (pop_I fun _ _ _ => .int _) ha hb
theorem px_modI (ha : PX X W a ta) (hb : PX X W b tb) : PX X W (.BinOp a .Mod b pos) (xOp pMod ta tb) := px_op op_mod (pop_I fun _ _ _ => .int _) ha hb
theorem px_divI (ha : PX X W a ta) (hb : PX X W b tb) : PX X W (.BinOp a .FloorDiv b pos) (xOp pDiv ta tb) := px_op op_fdiv (pop_I fun _ _ _ => .int _) ha hb
theorem px_powI (ha : PX X W a ta) (hb : PX X W b tb) : PX X W (.BinOp a .Pow b pos) (xOp pPow ta tb) := px_op op_pow (pop_I fun _ _ _ => .int _) ha hb
theorem px_ltI (ha : PX X W a ta) (hb : PX X W b tb) : PX X W (.Compare a [.Lt] [b] pos) (xOp pLt ta tb) := px_cmp op_lt (pop_I0 fun _ _ _ => .bl _) ha hb
theorem px_leI (ha : PX X W a ta) (hb : PX X W b tb) : PX X W (.Compare a [.LtE] [b] pos) (xOp pLe ta tb) := px_cmp op_le (pop_I0 fun _ _ _ => .bl _) ha hb
theorem px_gtI (ha : PX X W a ta) (hb : PX X W b tb) : PX X W (.Compare a [.Gt] [b] pos) (xOp pGt ta tb) := px_cmp op_gt (pop_I0 fun _ _ _ => .bl _) ha hb
theorem px_geI (ha : PX X W a ta) (hb : PX X W b tb) : PX X W (.Compare a [.GtE] [b] pos) (xOp pGe ta tb) := px_cmp op_ge (pop_I0 fun _ _ _ => .bl _) ha hb
theorem pxt_ltI (ha : PX X W a ta) (hb : PX X W b tb) : PXT X W (.Compare a [.Lt] [b] pos) (xTest (xOp pLt ta tb)) := pxt_cmp op_lt (pop_I0 fun _ _ _ => .bl _) ha hb
theorem pxt_leI (ha : PX X W a ta) (hb : PX X W b tb) : PXT X W (.Compare a [.LtE] [b] pos) (xTest (xOp pLe ta tb)) := pxt_cmp op_le (pop_I0 fun _ _ _ => .bl _) ha hb
theorem pxt_gtI (ha : PX X W a ta) (hb : PX X W b tb) : PXT X W (.Compare a [.Gt] [b] pos) (xTest (xOp pGt ta tb)) := pxt_cmp op_gt (pop_I0 fun _ _ _ => .bl _) ha hb
theorem pxt_geI (ha : PX X W a ta) (hb : PX X W b tb) : PXT X W (.Compare a [.GtE] [b] pos) (xTest (xOp pGe ta tb)) := pxt_cmp op_ge (pop_I0 fun _ _ _ => .bl _) ha hb
theorem px_leleI (ha : PX X W a ta) (hb : PX X W b tb) (hc : PX X W c tc) (hm : lastMarks [.LtE, .LtE] [b, c] = false := by with_unfolding_all rfl) : PX X W (.Compare a [.LtE, .LtE] [b, c] pos) (xChain pLe pLe ta tb tc) := px_chain op_le (pop_I0 fun _ _ _ => .bl _) op_le (pop_I0 fun _ _ _ => .bl _) ha hb hc hm
theorem pxt_leleI (ha : PX X W a ta) (hb : PX X W b tb) (hc : PX X W c tc) (hm : lastMarks [.LtE, .LtE] [b, c] = false := by with_unfolding_all rfl) : PXT X W (.Compare a [.LtE, .LtE] [b, c] pos) (xTest (xChain pLe pLe ta tb tc)) := pxt_chain op_le (pop_I0 fun _ _ _ => .bl _) op_le (pop_I0 fun _ _ _ => .bl _) ha hb hc hm

/-! ### == of data at any depth -/
mutual
def toPy : D → PyData
  | .non => .none
  | .bl b => .bool b
  | .int i => .int i
  | .str x => .str x
  | .tup l => .tuple (toPys l)
  | .ntp l => .tuple (toPys l)
  | .lst l => .list (toPys l)
  | _ => .none
def toPys : List D → List PyData
  | [] => []
  | d :: ds => toPy d :: toPys ds
end
mutual
/-- data that == may look at: no dict, no object; nested less than n deep -/
def flat (n : Nat) : D → Bool
  | .non => true
  | .bl _ => true
  | .int _ => true
  | .str x => PyData.strOk x
  | .tup l => match n with | 0 => false | n + 1 => flats n l
  | .ntp l => match n with | 0 => false | n + 1 => flats n l
  | .lst l => match n with | 0 => false | n + 1 => flats n l
  | _ => false
def flats (n : Nat) : List D → Bool
  | [] => true
  | d :: ds => flat n d && flats n ds
end

theorem flat_lay (n : Nat) : ∀ d : D, flat n d = true → (toPy d).canLay0 = true ∧ (toPy d).depth ≤ n := by
  intro d
  refine D.rec (motive_1 := fun d => ∀ n, flat n d = true → (toPy d).canLay0 = true ∧ (toPy d).depth ≤ n) (motive_2 := fun ds => ∀ n, flats n ds = true → PyData.canLayAll0 (toPys ds) = true ∧ PyData.depthAll (toPys ds) ≤ n) ?_ ?_ ?_ ?_ ?_ ?_ ?_ ?_ ?_ ?_ ?_ ?_ ?_ ?_ d n
  · intro n _; simp [toPy, PyData.canLay0, PyData.depth]
  · intro b n _; simp [toPy, PyData.canLay0, PyData.depth]
  · intro i n _; simp [toPy, PyData.canLay0, PyData.depth]
  · intro x n h; simp only [flat] at h; simp [toPy, PyData.canLay0, PyData.depth, h]
  · intro a n h; simp [flat] at h
  · intro a n h; simp [flat] at h
  · intro a n h; simp [flat] at h
  · intro l ih n h
    cases n with
    | zero => simp [flat] at h
    | succ n =>
      simp only [flat] at h
      obtain ⟨h1, h2⟩ := ih n h
      simp only [toPy, PyData.canLay0, PyData.depth]
      exact ⟨h1, by omega⟩
  · intro l ih n h
    cases n with
    | zero => simp [flat] at h
    | succ n =>
      simp only [flat] at h
      obtain ⟨h1, h2⟩ := ih n h
      simp only [toPy, PyData.canLay0, PyData.depth]
      exact ⟨h1, by omega⟩
  · intro l ih n h
    cases n with
    | zero => simp [flat] at h
    | succ n =>
      simp only [flat] at h
      obtain ⟨h1, h2⟩ := ih n h
      simp only [toPy, PyData.canLay0, PyData.depth]
      exact ⟨h1, by omega⟩
  · intro t k v _ _ n h; simp [flat] at h
  · intro C k v _ n h; simp [flat] at h
  · intro n _; simp [toPys, PyData.canLayAll0, PyData.depthAll]
  · intro d ds i1 i2 n h
    simp only [flats, Bool.and_eq_true] at h
    obtain ⟨h1, h2⟩ := i1 n h.1
    obtain ⟨h3, h4⟩ := i2 n h.2
    simp only [toPys, PyData.canLayAll0, PyData.depthAll, Bool.and_eq_true]
    exact ⟨⟨h1, h3⟩, by omega⟩
/-- data for == -/
def okEq (d : D) : Bool := flat 60 d
theorem okEq_shaped {d : D} (h : okEq d = true) : SeqAt.shaped (toPy d) = true := by
  obtain ⟨h1, h2⟩ := flat_lay 60 d h
  show ((toPy d).canLay0 && decide ((toPy d).depth ≤ 64)) = true
  rw [h1, Bool.true_and]
  exact decide_eq_true (by omega)
mutual
theorem rep_dp {K : PySem.W.Frag} {G H : Hp} (le : Le G H) (n : Nat) : ∀ (d : D) (v : V), flat n d = true → Rep K G d v → Dp K H v (toPy d)
  | .non, _, _, h => by cases h; simp only [toPy]; exact .non
  | .bl b, _, _, h => by cases h; simp only [toPy]; exact .bl b
  | .int b, _, _, h => by cases h; simp only [toPy]; exact .int b
  | .str b, _, _, h => by cases h; simp only [toPy]; exact .str b
  | .fn _, _, f, _ => by simp [flat] at f
  | .ty _, _, f, _ => by simp [flat] at f
  | .dic _ _ _, _, f, _ => by simp [flat] at f
  | .scr _, _, f, _ => by simp [flat] at f
  | .obj _ _ _, _, f, _ => by simp [flat] at f
  | .tup l, _, f, h => by
    cases n with
    | zero => simp [flat] at f
    | succ n =>
      simp only [flat] at f
      cases h with
      | tup h hs => simp only [toPy]; exact .tup (SqT.of (le _ _ h)) (reps_dp le n l _ f hs)
  | .ntp l, _, f, h => by
    cases n with
    | zero => simp [flat] at f
    | succ n =>
      simp only [flat] at f
      cases h with
      | ntp h _ hs => simp only [toPy]; exact .tup (.inl (.inr ⟨_, le _ _ h⟩)) (reps_dp le n l _ f hs)
  | .lst l, _, f, h => by
    cases n with
    | zero => simp [flat] at f
    | succ n =>
      simp only [flat] at f
      cases h with
      | lst h hs => simp only [toPy]; exact .lst (SqL.of (le _ _ h)) (reps_dp le n l _ f hs)
theorem reps_dp {K : PySem.W.Frag} {G H : Hp} (le : Le G H) (n : Nat) : ∀ (ds : List D) (vs : List V), flats n ds = true → Reps K G ds vs → DpAll K H vs (toPys ds)
  | [], _, _, h => by cases h; simp only [toPys]; exact .nil
  | d :: ds, _, f, h => by
    simp only [flats, Bool.and_eq_true] at f
    cases h with
    | cons h hs => simp only [toPys]; exact .cons (rep_dp le n d _ f.1 h) (reps_dp le n ds _ f.2 hs)
end
def deq (x y : D) : Bool := PyData.eqv (toPy x) (toPy y)
def pEq : SV → SV → Mem → VP → Prop := fun sa sb μ Q => match sa, sb with
  | .d x, .d y => (okEq x = true ∧ okEq y = true) ∧ Q (.d (.bl (deq x y))) μ
  | _, _ => False
def pNe : SV → SV → Mem → VP → Prop := fun sa sb μ Q => match sa, sb with
  | .d x, .d y => (okEq x = true ∧ okEq y = true) ∧ Q (.d (.bl (!deq x y))) μ
  | _, _ => False
theorem pop_eq {K : PySem.W.Frag} : POp K (rEqD K) pEq := by
  intro sa sb μ A G H va vb Qp Q h c ra rb k
  match sa, sb, h, ra, rb with
  | .d x, .d y, ⟨⟨h1, h2⟩, h⟩, ra, rb => exact ⟨toPy x, toPy y, rep_dp c.le 60 x _ h1 ra, rep_dp c.le 60 y _ h2 rb, okEq_shaped h1, okEq_shaped h2, k _ _ _ _ _ _ h c .refl (.bl _)⟩
theorem pop_ne {K : PySem.W.Frag} : POp K (rNeD K) pNe := by
  intro sa sb μ A G H va vb Qp Q h c ra rb k
  match sa, sb, h, ra, rb with
  | .d x, .d y, ⟨⟨h1, h2⟩, h⟩, ra, rb => exact ⟨toPy x, toPy y, rep_dp c.le 60 x _ h1 ra, rep_dp c.le 60 y _ h2 rb, okEq_shaped h1, okEq_shaped h2, k _ _ _ _ _ _ h c .refl (.bl _)⟩
theorem px_eq (hu : X.A.units + 64 < cLine) (ha : PX X W a ta) (hb : PX X W b tb) : PX X W (.Compare a [.Eq] [b] pos) (xOp pEq ta tb) := px_cmp (op_eqD hu) pop_eq ha hb
theorem px_ne (hu : X.A.units + 64 < cLine) (ha : PX X W a ta) (hb : PX X W b tb) : PX X W (.Compare a [.NotEq] [b] pos) (xOp pNe ta tb) := px_cmp (op_neD hu) pop_ne ha hb
theorem pxt_eq (hu : X.A.units + 64 < cLine) (ha : PX X W a ta) (hb : PX X W b tb) : PXT X W (.Compare a [.Eq] [b] pos) (xTest (xOp pEq ta tb)) := pxt_cmp (op_eqD hu) pop_eq ha hb
theorem pxt_ne (hu : X.A.units + 64 < cLine) (ha : PX X W a ta) (hb : PX X W b tb) : PXT X W (.Compare a [.NotEq] [b] pos) (xTest (xOp pNe ta tb)) := pxt_cmp (op_neD hu) pop_ne ha hb

/-! ### is None -/
def xIsN (ta : TX) : TX := fun x ρ μ Q => ta x ρ μ fun s μ1 => match s with
  | .d .non => Q (.d (.bl true)) μ1
  | .d _ => Q (.d (.bl false)) μ1
  | .c _ => Q (.d (.bl false)) μ1
  | .un => False
def xNotN (ta : TX) : TX := fun x ρ μ Q => ta x ρ μ fun s μ1 => match s with
  | .d .non => Q (.d (.bl false)) μ1
  | .d _ => Q (.d (.bl true)) μ1
  | .c _ => Q (.d (.bl true)) μ1
  | .un => False
theorem isN_of {K : PySem.W.Frag} {A : List Addr} {G : Hp} {s : SV} {v : V} (r : RepS K A G s v) : (s = .d .non ∧ v = .non) ∨ (s = .un) ∨ (s ≠ .d .non ∧ s ≠ .un ∧ decide (v = V.non) = false) := by
  match s, r with
  | .un, _ => exact .inr (.inl rfl)
  | .c k, r => obtain ⟨a, _, rfl⟩ := r; exact .inr (.inr ⟨by simp, by simp, by simp⟩)
  | .d d, r => cases r <;> first | exact .inl ⟨rfl, rfl⟩ | exact .inr (.inr ⟨by simp, by simp, by simp⟩)
theorem px_isN {j pos'} (ha : PX X W a ta) : PX X W (.Compare a [.Is] [.Constant .none j pos'] pos) (xIsN ta) := by
  refine ⟨(pe_cmp (pc_isN ha.pe)).imp fun σ H Q h => ?_⟩
  obtain ⟨A, ρ, μ, G, Qp, xp, S, ht, hx, k⟩ := h
  refine ⟨A, ρ, μ, G, _, xp, S, ht, hx, fun r μ' A' G' H' v q c s rr => ?_⟩
  rcases isN_of rr with ⟨rfl, rfl⟩ | rfl | ⟨h1, h2, h3⟩
  · exact k _ _ _ _ _ _ q c s (.bl _)
  · exact q.elim
  · rw [h3]
    match r, h1, h2, q with
    | .c _, _, _, q => exact k _ _ _ _ _ _ q c s (.bl _)
    | .d d, h1, _, q => cases d <;> first | exact absurd rfl h1 | exact k _ _ _ _ _ _ q c s (.bl _)
theorem px_notN {j pos'} (ha : PX X W a ta) : PX X W (.Compare a [.IsNot] [.Constant .none j pos'] pos) (xNotN ta) := by
  refine ⟨(pe_cmp (pc_notN ha.pe)).imp fun σ H Q h => ?_⟩
  obtain ⟨A, ρ, μ, G, Qp, xp, S, ht, hx, k⟩ := h
  refine ⟨A, ρ, μ, G, _, xp, S, ht, hx, fun r μ' A' G' H' v q c s rr => ?_⟩
  rcases isN_of rr with ⟨rfl, rfl⟩ | rfl | ⟨h1, h2, h3⟩
  · exact k _ _ _ _ _ _ q c s (.bl _)
  · exact q.elim
  · rw [h3]
    match r, h1, h2, q with
    | .c _, _, _, q => exact k _ _ _ _ _ _ q c s (.bl _)
    | .d d, h1, _, q => cases d <;> first | exact absurd rfl h1 | exact k _ _ _ _ _ _ q c s (.bl _)

/-! ### and, or, not, if -/
variable {tA tB : TXT} {rest : List Expr}
def xAnd (t u : TXT) : TXT := fun x ρ μ Q => t x ρ μ fun b μ1 => Br b (u x ρ μ1 Q) (Q false μ1)
def xOr (t u : TXT) : TXT := fun x ρ μ Q => t x ρ μ fun b μ1 => Br b (Q true μ1) (u x ρ μ1 Q)
def xNot (t : TXT) : TXT := fun x ρ μ Q => t x ρ μ fun b μ1 => Q (!b) μ1
/-- a test whatever its whole is -/
structure PXW (X : Cx) (W : WX) (e : Expr) (t : TXT) : Prop where
  pw : PW X e (liftT X.K W t)
theorem _root_.L2.PW.imp {X : Cx} {e : Expr} {t t' : TT} (h : PW X e t) (i : ∀ σ H Q, t' σ H Q → t σ H Q) : PW X e t' := ⟨fun wh pins s σ H Q I q => h.run wh pins s σ H Q I (i _ _ _ q)⟩
theorem PXW.pt {t : TXT} (h : PXW X W e t) : PXT X W e t := ⟨h.pw.pt⟩
theorem pxw_and1 (ha : PXT X W a tA) : PXW X W (.BoolOp .And [a] pos) tA := ⟨pw_and1 ha.pt⟩
theorem pxw_or1 (ha : PXT X W a tA) : PXW X W (.BoolOp .Or [a] pos) tA := ⟨pw_or1 ha.pt⟩
theorem pxw_and (ha : PXT X W a tA) (hb : PXW X W (.BoolOp .And (b :: rest) pos) tB) : PXW X W (.BoolOp .And (a :: b :: rest) pos) (xAnd tA tB) := by
  refine ⟨(pw_and ha.pt hb.pw).imp fun σ H Q h => ?_⟩
  obtain ⟨A, ρ, μ, G, Qp, xp, S, ht, hx, k⟩ := h
  refine ⟨A, ρ, μ, G, _, xp, S, ht, hx, fun r μ' A' G' H' q c s => ?_⟩
  cases r with
  | true => exact ite_tt ⟨A', ρ, μ', G', Qp, xp, S.after s c, q, hx.after s, fun b μ2 A2 G2 H2 q2 c2 s2 => k _ _ _ _ _ q2 c2 (s.trans s2)⟩
  | false => exact ite_ff (k _ _ _ _ _ q c s)
theorem pxw_or (ha : PXT X W a tA) (hb : PXW X W (.BoolOp .Or (b :: rest) pos) tB) : PXW X W (.BoolOp .Or (a :: b :: rest) pos) (xOr tA tB) := by
  refine ⟨(pw_or ha.pt hb.pw).imp fun σ H Q h => ?_⟩
  obtain ⟨A, ρ, μ, G, Qp, xp, S, ht, hx, k⟩ := h
  refine ⟨A, ρ, μ, G, _, xp, S, ht, hx, fun r μ' A' G' H' q c s => ?_⟩
  cases r with
  | true => exact ite_tt (k _ _ _ _ _ q c s)
  | false => exact ite_ff ⟨A', ρ, μ', G', Qp, xp, S.after s c, q, hx.after s, fun b μ2 A2 G2 H2 q2 c2 s2 => k _ _ _ _ _ q2 c2 (s.trans s2)⟩
theorem pxt_not (ha : PXT X W a tA) : PXT X W (.UnaryOp .Not a pos) (xNot tA) := by
  refine ⟨(pt_not ha.pt).imp fun σ H Q h => ?_⟩
  obtain ⟨A, ρ, μ, G, Qp, xp, S, ht, hx, k⟩ := h
  exact ⟨A, ρ, μ, G, _, xp, S, ht, hx, fun r μ' A' G' H' q c s => k _ _ _ _ _ q c s⟩
/-- .. as values: all but the last are bools -/
def xAndV (ta tb : TX) : TX := fun x ρ μ Q => ta x ρ μ fun s μ1 => match s with
  | .d (.bl b) => Br b (tb x ρ μ1 Q) (Q (.d (.bl false)) μ1)
  | _ => False
def xOrV (ta tb : TX) : TX := fun x ρ μ Q => ta x ρ μ fun s μ1 => match s with
  | .d (.bl b) => Br b (Q (.d (.bl true)) μ1) (tb x ρ μ1 Q)
  | _ => False
def xNotV (ta : TX) : TX := fun x ρ μ Q => ta x ρ μ fun s μ1 => match s with
  | .d (.bl b) => Q (.d (.bl (!b))) μ1
  | _ => False
theorem px_one {op} {t : TX} (h : PX X W a t) : PX X W (.BoolOp op [a] pos) t := ⟨pe_one h.pe⟩
theorem px_and (ha : PX X W a ta) (hb : PX X W (.BoolOp .And (b :: rest) pos) tb) : PX X W (.BoolOp .And (a :: b :: rest) pos) (xAndV ta tb) := by
  refine ⟨(pe_and ha.pe hb.pe).imp fun σ H Q h => ?_⟩
  obtain ⟨A, ρ, μ, G, Qp, xp, S, ht, hx, k⟩ := h
  refine ⟨A, ρ, μ, G, _, xp, S, ht, hx, fun r μ' A' G' H' v q c s rr => ?_⟩
  match r, q, rr with
  | .d (.bl true), q, rr => cases rr; exact ⟨true, rfl, ite_tt ⟨A', ρ, μ', G', Qp, xp, S.after s c, q, hx.after s, fun r2 μ2 A2 G2 H2 v2 q2 c2 s2 rr2 => k _ _ _ _ _ _ q2 c2 (s.trans s2) rr2⟩⟩
  | .d (.bl false), q, rr => cases rr; exact ⟨false, rfl, ite_ff (k _ _ _ _ _ _ q c s (.bl _))⟩
theorem px_or (ha : PX X W a ta) (hb : PX X W (.BoolOp .Or (b :: rest) pos) tb) : PX X W (.BoolOp .Or (a :: b :: rest) pos) (xOrV ta tb) := by
  refine ⟨(pe_or ha.pe hb.pe).imp fun σ H Q h => ?_⟩
  obtain ⟨A, ρ, μ, G, Qp, xp, S, ht, hx, k⟩ := h
  refine ⟨A, ρ, μ, G, _, xp, S, ht, hx, fun r μ' A' G' H' v q c s rr => ?_⟩
  match r, q, rr with
  | .d (.bl true), q, rr => cases rr; exact ⟨true, rfl, ite_tt (k _ _ _ _ _ _ q c s (.bl _))⟩
  | .d (.bl false), q, rr => cases rr; exact ⟨false, rfl, ite_ff ⟨A', ρ, μ', G', Qp, xp, S.after s c, q, hx.after s, fun r2 μ2 A2 G2 H2 v2 q2 c2 s2 rr2 => k _ _ _ _ _ _ q2 c2 (s.trans s2) rr2⟩⟩
theorem px_not (ha : PX X W a ta) : PX X W (.UnaryOp .Not a pos) (xNotV ta) := by
  refine ⟨(pe_not ha.pe).imp fun σ H Q h => ?_⟩
  obtain ⟨A, ρ, μ, G, Qp, xp, S, ht, hx, k⟩ := h
  refine ⟨A, ρ, μ, G, _, xp, S, ht, hx, fun r μ' A' G' H' v q c s rr => ?_⟩
  match r, q, rr with
  | .d (.bl b), q, rr => cases rr; exact ⟨b, rfl, k _ _ _ _ _ _ q c s (.bl _)⟩
/-- a if t else b -/
def xIf (t : TXT) (ta tb : TX) : TX := fun x ρ μ Q => t x ρ μ fun k μ1 => Br k (ta x ρ μ1 Q) (tb x ρ μ1 Q)
theorem px_if (hc : PXT X W c tA) (ha : PX X W a ta) (hb : PX X W b tb) : PX X W (.IfExp c a b pos) (xIf tA ta tb) := by
  refine ⟨(pe_ifExp hc.pt ha.pe hb.pe).imp fun σ H Q h => ?_⟩
  obtain ⟨A, ρ, μ, G, Qp, xp, S, ht, hx, k⟩ := h
  refine ⟨A, ρ, μ, G, _, xp, S, ht, hx, fun r μ' A' G' H' q c s => ?_⟩
  cases r with
  | true => exact ite_tt ⟨A', ρ, μ', G', Qp, xp, S.after s c, q, hx.after s, fun r2 μ2 A2 G2 H2 v2 q2 c2 s2 rr2 => k _ _ _ _ _ _ q2 c2 (s.trans s2) rr2⟩
  | false => exact ite_ff ⟨A', ρ, μ', G', Qp, xp, S.after s c, q, hx.after s, fun r2 μ2 A2 G2 H2 v2 q2 c2 s2 rr2 => k _ _ _ _ _ _ q2 c2 (s.trans s2) rr2⟩

/-! ### arguments, displays -/
def xNil : TXA := fun _ _ μ Q => Q [] μ
def xCons (ta : TX) (tr : TXA) : TXA := fun x ρ μ Q => ta x ρ μ fun s μ1 => tr x ρ μ1 fun ss μ2 => Q (s :: ss) μ2
variable {tL : TXA}
theorem pxa_nil : PXA X W [] xNil := by
  refine ⟨pa_nil.imp fun σ H Q h => ?_⟩
  obtain ⟨A, ρ, μ, G, Qp, xp, S, ht, hx, k⟩ := h
  exact k _ _ _ _ _ _ ht S.toCells .refl .nil
theorem pxa_cons (ha : PX X W e ta) (hr : PXA X W es tL) (hs : starEach (e :: es) X.env = (false, eval e X.env) :: starEach es X.env := by rfl) : PXA X W (e :: es) (xCons ta tL) := by
  refine ⟨(pa_cons ha.pe hr.pa hs).imp fun σ H Q h => ?_⟩
  obtain ⟨A, ρ, μ, G, Qp, xp, S, ht, hx, k⟩ := h
  refine ⟨A, ρ, μ, G, _, xp, S, ht, hx, fun r μ' A' G' H' v q c s rr => ?_⟩
  exact ⟨A', ρ, μ', G', _, xp, S.after s c, q, hx.after s, fun rs μ2 A2 G2 H2 vs q2 c2 s2 rr2 => k _ _ _ _ _ _ q2 c2 (s.trans s2) (.cons (rr.mono s2.pre s2.le) rr2)⟩
/-- all of them data -/
def allD : List SV → Option (List D)
  | [] => some []
  | .d x :: r => (allD r).map (x :: ·)
  | _ :: _ => none
theorem allD_reps {K : PySem.W.Frag} {A : List Addr} {G : Hp} : ∀ {ss : List SV} {ds : List D} {vs : List V}, allD ss = some ds → RepsS K A G ss vs → Reps K G ds vs
  | [], _, _, e, .nil => by simp [allD] at e; subst e; exact .nil
  | .d x :: r, ds, _, e, .cons h t => by
    simp only [allD, Option.map_eq_some_iff] at e
    obtain ⟨es, e1, rfl⟩ := e
    exact .cons h (allD_reps e1 t)
  | .c _ :: _, _, _, e, _ => by simp [allD] at e
  | .un :: _, _, _, e, _ => by simp [allD] at e
def onD (o : Option (List D)) (q : List D → Prop) : Prop := match o with
  | some ds => q ds
  | none => False
def xTup (t : TXA) : TX := fun x ρ μ Q => t x ρ μ fun ss μ1 => onD (allD ss) fun ds => ds.length ≤ sizeLine ∧ Q (.d (.tup ds)) μ1
def xLst (t : TXA) : TX := fun x ρ μ Q => t x ρ μ fun ss μ1 => onD (allD ss) fun ds => ds.length ≤ sizeLine ∧ Q (.d (.lst ds)) μ1
/-- a list of one's own -/
def xLstC (t : TXA) : TX := fun x ρ μ Q => t x ρ μ fun ss μ1 => onD (allD ss) fun ds => ds.length ≤ sizeLine ∧ Q (.c μ1.length) (μ1 ++ [.lst ds])
theorem onD_of {o : Option (List D)} {q : List D → Prop} (h : onD o q) : ∃ ds, o = some ds ∧ q ds := by
  cases o with
  | none => exact h.elim
  | some ds => exact ⟨ds, rfl, h⟩
theorem px_tup {x1} (h : PXA X W es tL) : PX X W (.Tuple es x1 pos) (xTup tL) := by
  refine ⟨(pe_tup h.pa).imp fun σ H Q h => ?_⟩
  obtain ⟨A, ρ, μ, G, Qp, xp, S, ht, hx, k⟩ := h
  refine ⟨A, ρ, μ, G, _, xp, S, ht, hx, fun rs μ' A' G' H' vs q c s rr => ?_⟩
  obtain ⟨ds, e, hz, q⟩ := onD_of q
  have r := allD_reps e rr
  refine ⟨by rw [← r.length]; exact hz, fun p hp => ?_⟩
  obtain ⟨c2, s2⟩ := c.laid (o := .tup vs) hp
  exact k _ _ _ _ _ _ q c2 (s.trans s2) (Rep.tup upd_same (r.mono s2.le))
theorem px_lst (h : PXA X W es tL) : PX X W (.List es pos) (xLst tL) := by
  refine ⟨(pe_lst h.pa).imp fun σ H Q h => ?_⟩
  obtain ⟨A, ρ, μ, G, Qp, xp, S, ht, hx, k⟩ := h
  refine ⟨A, ρ, μ, G, _, xp, S, ht, hx, fun rs μ' A' G' H' vs q c s rr => ?_⟩
  obtain ⟨ds, e, hz, q⟩ := onD_of q
  have r := allD_reps e rr
  refine ⟨by rw [← r.length]; exact hz, fun p hp => ?_⟩
  obtain ⟨c2, s2⟩ := c.laid (o := .lst vs) hp
  exact k _ _ _ _ _ _ q c2 (s.trans s2) (Rep.lst upd_same (r.mono s2.le))
theorem px_lstC (h : PXA X W es tL) : PX X W (.List es pos) (xLstC tL) := by
  refine ⟨(pe_lst h.pa).imp fun σ H Q h => ?_⟩
  obtain ⟨A, ρ, μ, G, Qp, xp, S, ht, hx, k⟩ := h
  refine ⟨A, ρ, μ, G, _, xp, S, ht, hx, fun rs μ' A' G' H' vs q c s rr => ?_⟩
  obtain ⟨ds, e, hz, q⟩ := onD_of q
  have r := allD_reps e rr
  refine ⟨by rw [← r.length]; exact hz, fun p hp => ?_⟩
  obtain ⟨c2, s2⟩ := c.cell (o := .lst vs) (cl := .lst ds) hp ⟨vs, upd_same, r⟩
  exact k _ _ _ _ _ _ q c2 (s.trans s2) ⟨p, by rw [← c.len]; simp, rfl⟩
end
end PL
/-! The P-layer: calls of built-ins, subscripts, slices, methods. -/
namespace PL
open PySem PySem.Spec PyProof.Rows L2
/-- there is such a thing, and q holds of it -/
def on {α : Type} (o : Option α) (q : α → Prop) : Prop := match o with
  | some a => q a
  | none => False
theorem on_of {α : Type} {o : Option α} {q : α → Prop} (h : on o q) : ∃ a, o = some a ∧ q a := by
  cases o with
  | none => exact h.elim
  | some a => exact ⟨a, rfl, h⟩
def lstOf (s : SV) (μ : Mem) : Option (List D) := match s with
  | .d (.lst l) => some l
  | .c k => match μ[k]? with
    | some (.lst l) => some l
    | _ => none
  | _ => none
def tupOf (s : SV) : Option (List D) := match s with
  | .d (.tup l) => some l
  | .d (.ntp l) => some l
  | _ => none
section
variable {K : PySem.W.Frag} {A : List Addr} {μ : Mem} {G H : Hp} {s : SV} {v : V} {l : List D}
theorem lstOf_rep (e : lstOf s μ = some l) (c : Cells K A μ G H) (r : RepS K A G s v) : ∃ a vs, v = .ref a ∧ H a = some (.lst vs) ∧ Reps K G l vs := by
  unfold lstOf at e
  split at e
  · cases e
    obtain ⟨a, vs, rfl, h, hs⟩ := Reps.sql r
    exact ⟨a, vs, rfl, c.le _ _ h, hs⟩
  · rename_i k
    split at e
    · rename_i l' hk
      cases e
      obtain ⟨a, ha, rfl⟩ := r
      obtain ⟨vs, h, hs⟩ := c.ok _ _ _ ha hk
      exact ⟨a, vs, rfl, h, hs⟩
    · cases e
  · cases e
theorem tupOf_rep (e : tupOf s = some l) (c : Cells K A μ G H) (r : RepS K A G s v) : ∃ a vs, v = .ref a ∧ SqT K H a vs ∧ Reps K G l vs := by
  unfold tupOf at e
  split at e
  · cases e
    obtain ⟨a, vs, rfl, h, hs⟩ := Reps.sq r
    exact ⟨a, vs, rfl, c.le.sqT h, hs⟩
  · cases e
    obtain ⟨a, vs, rfl, h, hs⟩ := Reps.sqn r
    exact ⟨a, vs, rfl, c.le.sqT h, hs⟩
  · cases e
end

/-! ### calls of built-ins -/
def PCall (K : PySem.W.Frag) (r : List V → Hp → VK → Prop) (P : List SV → Mem → VP → Prop) : Prop := ∀ (ss : List SV) (μ : Mem) (A : List Addr) (G H : Hp) (vs : List V) (Qp : VP) (Q : VK), P ss μ Qp → Cells K A μ G H → RepsS K A G ss vs →
  (∀ r μ' A' G' H' v, Qp r μ' → Cells K A' μ' G' H' → Step A G H A' G' H' → RepS K A' G' r v → Q v H') → r vs H Q
def xCall (P : List SV → Mem → VP → Prop) (t : TXA) : TX := fun x ρ μ Q => t x ρ μ fun ss μ1 => P ss μ1 Q
section
variable {X : Cx} {W : WX} {a b c e : Expr} {es : List Expr} {ta tb tc : TX} {tL : TXA} {x : Str} {p pos apos cpos : Pos}
theorem lift_call {r : List V → Hp → VK → Prop} {P : List SV → Mem → VP → Prop} (hp : PCall X.K r P) {σ : L2.St} {H : Hp} {Q : VK} (h : lift X.K W (xCall P tL) σ H Q) : tCB r (liftA X.K W tL) σ H Q := by
  obtain ⟨A, ρ, μ, G, Qp, xp, S, ht, hx, k⟩ := h
  refine ⟨A, ρ, μ, G, _, xp, S, ht, hx, fun ss μ1 A1 G1 H1 vs q c1 s1 r1 => ?_⟩
  exact hp ss μ1 A1 G1 H1 vs Qp Q q c1 r1 fun r μ' A' G' H' v q3 c3 s3 r3 => k r μ' A' G' H' v q3 c3 (s1.trans s3) r3
theorem px_callB {id : String} {r : List V → Hp → VK → Prop} {P : List SV → Mem → VP → Prop} (hc : CallR X (.builtin id) r) (hp : PCall X.K r P) (hg : Gl X x) (hm : X.mg x = none) (hv : bootBuiltins x = some (.builtin id)) (ha : PXA X W (e :: es) tL)
    (hn : x ≠ "__name__" := by decide) (hdb : (x == ("__debug__" : Str)) = false := by decide)
    (he : starEach (e :: es) X.env = (false, eval e X.env) :: starEach es X.env := by rfl) (hpl : (backTo pos (starEach es X.env)).any (·.1) = false := by rfl) : PX X W (.Call (.Name x p) (e :: es) [] pos) (xCall P tL) :=
  ⟨(pe_callB hc hg hm hv ha.pa hn hdb he hpl).imp fun _ _ _ h => lift_call hp h⟩
theorem px_callTy {T : String} {r : List V → Hp → VK → Prop} {P : List SV → Mem → VP → Prop} (hc : CallR X (.type T) r) (hp : PCall X.K r P) (hg : Gl X x) (hm : X.mg x = none) (hv : bootBuiltins x = some (.type T)) (ha : PXA X W (e :: es) tL)
    (hn : x ≠ "__name__" := by decide) (hdb : (x == ("__debug__" : Str)) = false := by decide)
    (he : starEach (e :: es) X.env = (false, eval e X.env) :: starEach es X.env := by rfl) (hpl : (backTo pos (starEach es X.env)).any (·.1) = false := by rfl) : PX X W (.Call (.Name x p) (e :: es) [] pos) (xCall P tL) :=
  ⟨(pe_callTy hc hg hm hv ha.pa hn hdb he hpl).imp fun _ _ _ h => lift_call hp h⟩
theorem CallR.or {f : Value} {r r' : List V → Hp → VK → Prop} (h : CallR X f r) (h' : CallR X f r') : CallR X f (fun xs H Q => r xs H Q ∨ r' xs H Q) := by
  intro pins s σ H xs us Q I rx q
  rcases q with q | q
  · exact h pins s σ H xs us Q I rx q
  · exact h' pins s σ H xs us Q I rx q

/-! #### len -/
def lenOf (s : SV) (μ : Mem) : Option Nat := match s with
  | .d (.tup l) => some l.length
  | .d (.ntp l) => some l.length
  | .d (.lst l) => some l.length
  | .d (.scr l) => some l.length
  | .d (.str x) => if x.length ≤ sizeLine then some x.length else none
  | .c k => match μ[k]? with
    | some (.lst l) => some l.length
    | _ => none
  | _ => none
def pLen : List SV → Mem → VP → Prop := fun ss μ Q => match ss with
  | [s] => on (lenOf s μ) fun n => Q (.d (.int (n : Nat))) μ
  | _ => False
theorem pcall_len : PCall X.K (fun xs H Q => ∃ x n, xs = [x] ∧ LenV X.K x H n ∧ Q (.int n) H) pLen := by
  intro ss μ A G H vs Qp Q h c rs k
  match ss, h, rs with
  | [s], h, .cons r .nil =>
    obtain ⟨n, e, q⟩ := on_of h
    refine ⟨_, n, rfl, ?_, k _ _ _ _ _ _ q c .refl (.int _)⟩
    unfold lenOf at e
    split at e
    · cases e
      obtain ⟨a, us, rfl, h1, h2⟩ := Reps.sq r
      exact .inr ⟨us, c.le.sqT h1, h2.length⟩
    · cases e
      obtain ⟨a, us, rfl, h1, h2⟩ := Reps.sqn r
      exact .inr ⟨us, c.le.sqT h1, h2.length⟩
    · cases e
      obtain ⟨a, us, rfl, h1, h2⟩ := Reps.sql r
      exact .inl ⟨us, SqL.of (c.le _ _ h1), h2.length⟩
    · cases e
      cases r with
      | scr h1 => exact .inl ⟨_, c.le.sqL h1, by rw [List.length_map]⟩
    · split at e
      · rename_i hz
        cases e
        cases r
        exact ⟨hz, rfl⟩
      · cases e
    · rename_i k
      split at e
      · rename_i l hk
        cases e
        obtain ⟨a, ha, rfl⟩ := r
        obtain ⟨us, h1, h2⟩ := c.ok _ _ _ ha hk
        exact .inl ⟨us, SqL.of h1, h2.length⟩
      · cases e
    · cases e
theorem px_len (hg : Gl X "len") (hm : X.mg "len" = none) (ha : PXA X W [e] tL) (he : starEach [e] X.env = (false, eval e X.env) :: starEach [] X.env := by rfl) : PX X W (.Call (.Name "len" p) [e] [] pos) (xCall pLen tL) :=
  px_callB call_len pcall_len hg hm (by decide +kernel) ha (by decide) (by decide) he rfl

/-! #### isinstance(x, T), T a built-in class -/
def tyOf (s : SV) (μ : Mem) : Option String := match s with
  | .d .non => some "NoneType"
  | .d (.bl _) => some "bool"
  | .d (.int _) => some "int"
  | .d (.str _) => some "str"
  | .d (.tup _) => some "tuple"
  | .d (.ntp _) => some "tuple"
  | .d (.lst _) => some "list"
  | .d (.scr _) => some "list"
  | .d (.dic _ _ _) => some "dict"
  | .c k => match μ[k]? with
    | some (.lst _) => some "list"
    | some (.dK _ _) => some "dict"
    | some (.dT _ _) => some "dict"
    | _ => none
  | _ => none
def tyD : D → Option String
  | .non => some "NoneType"
  | .bl _ => some "bool"
  | .int _ => some "int"
  | .str _ => some "str"
  | .tup _ => some "tuple"
  | .ntp _ => some "tuple"
  | .lst _ => some "list"
  | .scr _ => some "list"
  | .dic _ _ _ => some "dict"
  | _ => none
theorem tyOf_d (d : D) (μ : Mem) : tyOf (.d d) μ = tyD d := by cases d <;> rfl
/-- as TyX, and a locked dict with tuple keys -/
def TyY (K : PySem.W.Frag) (H : Hp) (v : V) (t : Value) : Prop := TyX K H v t ∨ ∃ (a : Addr) (o : Obj) (kvs : List (List Key × V)), H a = some (.frz o (.dT kvs)) ∧ v = .ref a ∧ t = .type "dict"
theorem kit_ofY {X : Cx} {pins : List (Addr × Obj)} {σ : L2.St} {H : Hp} {s : Shared} {x : V} {u t : Value} (I : Inv X pins σ H s) (rx : RelV x u) (ty : TyY X.K H x t) : ∃ P : Heap → Prop, PySem.W.KitX X.K u t P ∧ P s.heap ∧ u ≠ .builtin "__main__.__loader__#opaque" := by
  rcases ty with ty | ⟨a, ob, kvs, ea, rfl, rfl⟩
  · exact kit_of I rx ty
  · cases (show u = Value.ref a from rx)
    obtain ⟨_, _, _, xs, _, o, es, ep, h1, h2, _⟩ := (show ObjOk X.prog X.w H s.heap a (.frz ob (.dT kvs)) from I.hok a _ ea)
    exact ⟨_, PySem.W.kitx_dict, ⟨o, h1, h2.1⟩, fun z => nomatch z⟩
def rIsiY (K : PySem.W.Frag) : List V → Hp → VK → Prop := fun xs H Q => ∃ (x c : V) (t u : Value) (b : Bool), xs = [x, c] ∧ ClsV c u ∧ TyY K H x t ∧ PySem.W.kitOne K t u = some b ∧ Q (.bl b) H
theorem call_isiY {X : Cx} : CallR X (.builtin "isinstance") (rIsiY X.K) := by
  intro pins s σ H xs us Q I r h
  obtain ⟨x, c, t, u, b, rfl, k, ty, e, q⟩ := h
  obtain ⟨u1, u2, rfl, r1, r2⟩ := vals2 r
  have e2 := k.eq r2
  subst e2
  obtain ⟨P, Z, p, hx⟩ := kit_ofY I r1 ty
  exact PySem.W.kia_one Z I.kIn p e hx fun tk => ⟨.bl b, H, I.tok tk, rfl, q⟩
theorem tyOf_rep {K : PySem.W.Frag} {A : List Addr} {μ : Mem} {G H : Hp} {s : SV} {v : V} {T : String} (e : tyOf s μ = some T) (c : Cells K A μ G H) (r : RepS K A G s v) : TyY K H v (.type T) := by
  unfold tyOf at e
  split at e
  · cases e; cases r; exact .inl (.base .non)
  · cases e; cases r; exact .inl (.base (.bl _))
  · cases e; cases r; exact .inl (.base (.int _))
  · cases e; cases r; exact .inl (.base (.str _))
  · cases e
    obtain ⟨a, us, rfl, h1, _⟩ := Reps.sq r
    rcases c.le.sqT h1 with (h | ⟨o, h⟩) | ⟨o, _, _, h, hc, _⟩
    · exact .inl (.base (.tup h))
    · exact .inl (.fTuple h)
    · exact .inl (.kTuple h hc)
  · cases e
    obtain ⟨a, us, rfl, h1, _⟩ := Reps.sqn r
    rcases c.le.sqT h1 with (h | ⟨o, h⟩) | ⟨o, _, _, h, hc, _⟩
    · exact .inl (.base (.tup h))
    · exact .inl (.fTuple h)
    · exact .inl (.kTuple h hc)
  · cases e
    obtain ⟨a, us, rfl, h1, _⟩ := Reps.sql r
    exact .inl (.base (.lst (c.le _ _ h1)))
  · cases e
    cases r with
    | scr h1 =>
      rcases c.le.sqL h1 with (h | ⟨o, h⟩) | ⟨o, _, _, h, hc, _⟩
      · exact .inl (.base (.lst h))
      · exact .inl (.base (.frz h))
      · exact .inl (.kList h hc)
  · cases e
    cases r with
    | dicK h _ _ =>
      rcases c.le.rd h with h | ⟨o, h⟩
      · exact .inl (.base (.dK h))
      · exact .inl (.fDict h)
    | dicT h _ _ =>
      rcases c.le.rd h with h | ⟨o, h⟩
      · exact .inl (.base (.dT h))
      · exact .inr ⟨_, _, _, h, rfl, rfl⟩
  · rename_i k
    obtain ⟨a, ha, rfl⟩ := r
    split at e
    · rename_i hk
      cases e
      obtain ⟨us, h1, _⟩ := c.ok _ _ _ ha hk
      exact .inl (.base (.lst h1))
    · rename_i hk
      cases e
      obtain ⟨us, h1, _⟩ := c.ok _ _ _ ha hk
      exact .inl (.base (.dK h1))
    · rename_i hk
      cases e
      obtain ⟨us, h1, _⟩ := c.ok _ _ _ ha hk
      exact .inl (.base (.dT h1))
    · cases e
  · cases e
/-- is the built-in class T that or above it -/
def isTy (T U : String) : Bool := T == U || (T == "bool" && U == "int")
def tyNames : List String := ["NoneType", "bool", "int", "str", "tuple", "list", "dict"]
theorem isTy_ok : (tyNames.all fun T => tyNames.all fun U => decide (kitB T U = some (isTy T U))) = true := by decide +kernel
def pIsi : List SV → Mem → VP → Prop := fun ss μ Q => match ss with
  | [s, .d (.ty U)] => on (tyOf s μ) fun T => (U ∈ tyNames) ∧ Q (.d (.bl (isTy T U))) μ
  | _ => False
theorem tyOf_mem {s : SV} {μ : Mem} {T : String} (e : tyOf s μ = some T) : T ∈ tyNames := by
  unfold tyOf at e
  split at e <;> first
    | (cases e; decide)
    | (split at e <;> first | (cases e; decide) | cases e)
    | cases e
theorem pcall_isi : PCall X.K (rIsiY X.K) pIsi := by
  intro ss μ A G H vs Qp Q h c rs k
  match ss, h, rs with
  | [s, .d (.ty U)], h, .cons r (.cons r2 .nil) =>
    obtain ⟨T, e, hU, q⟩ := on_of h
    cases r2
    have h1 := List.all_eq_true.mp (List.all_eq_true.mp isTy_ok T (tyOf_mem e)) U hU
    exact ⟨_, _, .type T, .type U, isTy T U, rfl, .ty U, tyOf_rep e c r, kit_ty (of_decide_eq_true h1), k _ _ _ _ _ _ q c .refl (.bl _)⟩
theorem px_isi (hg : Gl X "isinstance") (hm : X.mg "isinstance" = none) (ha : PXA X W [a, b] tL) (he : starEach [a, b] X.env = (false, eval a X.env) :: starEach [b] X.env := by rfl) (hpl : (backTo pos (starEach [b] X.env)).any (·.1) = false := by rfl) : PX X W (.Call (.Name "isinstance" p) [a, b] [] pos) (xCall pIsi tL) :=
  px_callB call_isiY pcall_isi hg hm (by decide +kernel) ha (by decide) (by decide) he hpl

/-! #### all, any of a list of bools -/
def bools : List D → Option (List Bool)
  | [] => some []
  | .bl b :: r => (bools r).map (b :: ·)
  | _ :: _ => none
theorem bools_reps {K : PySem.W.Frag} {G : Hp} : ∀ {l : List D} {bs : List Bool} {vs : List V}, bools l = some bs → Reps K G l vs → vs = bs.map V.bl
  | [], _, _, e, .nil => by simp [bools] at e; subst e; rfl
  | .bl b :: r, bs, _, e, .cons h t => by
    simp only [bools, Option.map_eq_some_iff] at e
    obtain ⟨es, e1, rfl⟩ := e
    cases h
    rw [bools_reps e1 t]; rfl
  | .non :: _, _, _, e, _ | .int _ :: _, _, _, e, _ | .str _ :: _, _, _, e, _ | .fn _ :: _, _, _, e, _ | .ty _ :: _, _, _, e, _ | .scr _ :: _, _, _, e, _ | .tup _ :: _, _, _, e, _ | .ntp _ :: _, _, _, e, _ | .lst _ :: _, _, _, e, _ | .dic _ _ _ :: _, _, _, e, _ | .obj _ _ _ :: _, _, _, e, _ => by simp [bools] at e
def pAll : List SV → Mem → VP → Prop := fun ss μ Q => match ss with
  | [s] => on ((lstOf s μ).bind bools) fun bs => Q (.d (.bl (bs.all id))) μ
  | _ => False
def pAny : List SV → Mem → VP → Prop := fun ss μ Q => match ss with
  | [s] => on ((lstOf s μ).bind bools) fun bs => Q (.d (.bl (bs.any id))) μ
  | _ => False
theorem pcall_all : PCall X.K (rAll X.K) pAll := by
  intro ss μ A G H vs Qp Q h c rs k
  match ss, h, rs with
  | [s], h, .cons r .nil =>
    obtain ⟨bs, e, q⟩ := on_of h
    obtain ⟨l, e1, e2⟩ := Option.bind_eq_some_iff.mp e
    obtain ⟨a, us, rfl, h1, h2⟩ := lstOf_rep e1 c r
    have := bools_reps e2 h2
    subst this
    exact ⟨a, bs, rfl, SqL.of h1, k _ _ _ _ _ _ q c .refl (.bl _)⟩
theorem pcall_any : PCall X.K (rAny X.K) pAny := by
  intro ss μ A G H vs Qp Q h c rs k
  match ss, h, rs with
  | [s], h, .cons r .nil =>
    obtain ⟨bs, e, q⟩ := on_of h
    obtain ⟨l, e1, e2⟩ := Option.bind_eq_some_iff.mp e
    obtain ⟨a, us, rfl, h1, h2⟩ := lstOf_rep e1 c r
    have := bools_reps e2 h2
    subst this
    exact ⟨a, bs, rfl, SqL.of h1, k _ _ _ _ _ _ q c .refl (.bl _)⟩
theorem px_all (hc : X.calm = true) (hg : Gl X "all") (hm : X.mg "all" = none) (ha : PXA X W [e] tL) (he : starEach [e] X.env = (false, eval e X.env) :: starEach [] X.env := by rfl) : PX X W (.Call (.Name "all" p) [e] [] pos) (xCall pAll tL) :=
  px_callB (cr_all hc) pcall_all hg hm (by decide +kernel) ha (by decide) (by decide) he rfl
theorem px_any (hc : X.calm = true) (hg : Gl X "any") (hm : X.mg "any" = none) (ha : PXA X W [e] tL) (he : starEach [e] X.env = (false, eval e X.env) :: starEach [] X.env := by rfl) : PX X W (.Call (.Name "any" p) [e] [] pos) (xCall pAny tL) :=
  px_callB (cr_any hc) pcall_any hg hm (by decide +kernel) ha (by decide) (by decide) he rfl

/-! #### tuple(x), list(x) -/
def pTupOf : List SV → Mem → VP → Prop := fun ss μ Q => match ss with
  | [s] => match lstOf s μ with
    | some l => Q (.d (.tup l)) μ
    | none => (tupOf s).isSome = true ∧ Q s μ
  | _ => False
theorem pcall_tup : PCall X.K (fun xs H Q => ∃ p ys, xs = [.ref p] ∧ ((SqL X.K H p ys ∧ ∀ l, H l = none → Q (.ref l) (upd H l (.tup ys))) ∨ (SqT X.K H p ys ∧ Q (.ref p) H))) pTupOf := by
  intro ss μ A G H vs Qp Q h c rs k
  match ss, h, rs with
  | [s], h, .cons r .nil =>
    simp only [pTupOf] at h
    cases e1 : lstOf s μ with
    | some l' =>
      rw [e1] at h
      obtain ⟨a, us, rfl, h1, h2⟩ := lstOf_rep e1 c r
      refine ⟨a, us, rfl, .inl ⟨SqL.of h1, fun p hp => ?_⟩⟩
      obtain ⟨c2, s2⟩ := c.laid (o := .tup us) hp
      exact k _ _ _ _ _ _ h c2 s2 (Rep.tup upd_same (h2.mono s2.le))
    | none =>
      rw [e1] at h
      obtain ⟨h0, q⟩ := h
      obtain ⟨l, e2⟩ := Option.isSome_iff_exists.mp h0
      obtain ⟨a, us, rfl, h1, h2⟩ := tupOf_rep e2 c r
      exact ⟨a, us, rfl, .inr ⟨h1, k _ _ _ _ _ _ q c .refl r⟩⟩
theorem px_tuple (hg : Gl X "tuple") (hm : X.mg "tuple" = none) (ha : PXA X W [e] tL) (he : starEach [e] X.env = (false, eval e X.env) :: starEach [] X.env := by rfl) : PX X W (.Call (.Name "tuple" p) [e] [] pos) (xCall pTupOf tL) :=
  px_callTy call_tuple_of pcall_tup hg hm (by decide +kernel) ha (by decide) (by decide) he rfl

/-! #### int, abs, divmod, max, min of ints -/
def pInt : List SV → Mem → VP → Prop := fun ss μ Q => match ss with
  | [.d (.int i)] => Q (.d (.int i)) μ
  | [.d (.bl b)] => Q (.d (.int (if b then 1 else 0))) μ
  | _ => False
theorem pcall_int : PCall X.K (fun xs H Q => (∃ i, xs = [.int i] ∧ Q (.int i) H) ∨ ∃ k, xs = [.bl k] ∧ Q (.int (if k then 1 else 0)) H) pInt := by
  intro ss μ A G H vs Qp Q h c rs k
  match ss, h, rs with
  | [.d (.int i)], h, .cons r .nil => cases r; exact .inl ⟨i, rfl, k _ _ _ _ _ _ h c .refl (.int _)⟩
  | [.d (.bl b)], h, .cons r .nil => cases r; exact .inr ⟨b, rfl, k _ _ _ _ _ _ h c .refl (.int _)⟩
theorem px_intc (hg : Gl X "int") (hm : X.mg "int" = none) (ha : PXA X W [e] tL) (he : starEach [e] X.env = (false, eval e X.env) :: starEach [] X.env := by rfl) : PX X W (.Call (.Name "int" p) [e] [] pos) (xCall pInt tL) :=
  px_callTy call_int1 pcall_int hg hm (by decide +kernel) ha (by decide) (by decide) he rfl
def pAbs : List SV → Mem → VP → Prop := fun ss μ Q => match ss with
  | [.d (.int i)] => Q (.d (.int (if i < 0 then -i else i))) μ
  | _ => False
theorem pcall_abs : PCall X.K (fun xs H Q => ∃ i, xs = [.int i] ∧ Q (.int (if i < 0 then -i else i)) H) pAbs := by
  intro ss μ A G H vs Qp Q h c rs k
  match ss, h, rs with
  | [.d (.int i)], h, .cons r .nil => cases r; exact ⟨i, rfl, k _ _ _ _ _ _ h c .refl (.int _)⟩
theorem px_abs (hg : Gl X "abs") (hm : X.mg "abs" = none) (ha : PXA X W [e] tL) (he : starEach [e] X.env = (false, eval e X.env) :: starEach [] X.env := by rfl) : PX X W (.Call (.Name "abs" p) [e] [] pos) (xCall pAbs tL) :=
  px_callB call_abs pcall_abs hg hm (by decide +kernel) ha (by decide) (by decide) he rfl
def pMax : List SV → Mem → VP → Prop := fun ss μ Q => match ss with
  | [.d (.int i), .d (.int j)] => Q (.d (.int (if j > i then j else i))) μ
  | _ => False
def pMin : List SV → Mem → VP → Prop := fun ss μ Q => match ss with
  | [.d (.int i), .d (.int j)] => Q (.d (.int (if j < i then j else i))) μ
  | _ => False
theorem pcall_max : PCall X.K (fun xs H Q => ∃ i j, xs = [.int i, .int j] ∧ Q (.int (if j > i then j else i)) H) pMax := by
  intro ss μ A G H vs Qp Q h c rs k
  match ss, h, rs with
  | [.d (.int i), .d (.int j)], h, .cons r (.cons r2 .nil) => cases r; cases r2; exact ⟨i, j, rfl, k _ _ _ _ _ _ h c .refl (.int _)⟩
theorem pcall_min : PCall X.K (fun xs H Q => ∃ i j, xs = [.int i, .int j] ∧ Q (.int (if j < i then j else i)) H) pMin := by
  intro ss μ A G H vs Qp Q h c rs k
  match ss, h, rs with
  | [.d (.int i), .d (.int j)], h, .cons r (.cons r2 .nil) => cases r; cases r2; exact ⟨i, j, rfl, k _ _ _ _ _ _ h c .refl (.int _)⟩
theorem px_maxI (hc : X.calm = true) (hg : Gl X "max") (hm : X.mg "max" = none) (ha : PXA X W [a, b] tL) (he : starEach [a, b] X.env = (false, eval a X.env) :: starEach [b] X.env := by rfl) (hpl : (backTo pos (starEach [b] X.env)).any (·.1) = false := by rfl) : PX X W (.Call (.Name "max" p) [a, b] [] pos) (xCall pMax tL) :=
  px_callB (call_max2 hc) pcall_max hg hm (by decide +kernel) ha (by decide) (by decide) he hpl
theorem px_minI (hc : X.calm = true) (hg : Gl X "min") (hm : X.mg "min" = none) (ha : PXA X W [a, b] tL) (he : starEach [a, b] X.env = (false, eval a X.env) :: starEach [b] X.env := by rfl) (hpl : (backTo pos (starEach [b] X.env)).any (·.1) = false := by rfl) : PX X W (.Call (.Name "min" p) [a, b] [] pos) (xCall pMin tL) :=
  px_callB (call_min2 hc) pcall_min hg hm (by decide +kernel) ha (by decide) (by decide) he hpl
def pDivmod : List SV → Mem → VP → Prop := fun ss μ Q => match ss with
  | [.d (.int i), .d (.int j)] => CDiv i j ∧ Q (.d (.tup [.int (i / j), .int (i % j)])) μ
  | _ => False
theorem pcall_divmod : PCall X.K (fun xs H Q => ∃ i j, xs = [.int i, .int j] ∧ CDiv i j ∧ ∀ p, H p = none → Q (.ref p) (upd H p (.tup [.int (i / j), .int (i % j)]))) pDivmod := by
  intro ss μ A G H vs Qp Q h c rs k
  match ss, h, rs with
  | [.d (.int i), .d (.int j)], ⟨hd, h⟩, .cons r (.cons r2 .nil) =>
    cases r; cases r2
    refine ⟨i, j, rfl, hd, fun p hp => ?_⟩
    obtain ⟨c2, s2⟩ := c.laid (o := .tup [.int (i / j), .int (i % j)]) hp
    exact k _ _ _ _ _ _ h c2 s2 (Rep.tup upd_same (.cons (.int _) (.cons (.int _) .nil)))
theorem px_divmod (hg : Gl X "divmod") (hm : X.mg "divmod" = none) (ha : PXA X W [a, b] tL) (he : starEach [a, b] X.env = (false, eval a X.env) :: starEach [b] X.env := by rfl) (hpl : (backTo pos (starEach [b] X.env)).any (·.1) = false := by rfl) : PX X W (.Call (.Name "divmod" p) [a, b] [] pos) (xCall pDivmod tL) :=
  px_callB call_divmod pcall_divmod hg hm (by decide +kernel) ha (by decide) (by decide) he hpl

/-! ### subscripts -/
def ixOf (s : SV) (μ : Mem) (i : Int) : Option D := match s with
  | .d (.tup l) => atI l i
  | .d (.ntp l) => atI l i
  | .d (.lst l) => atI l i
  | .d (.scr l) => (atI l i).map .int
  | .d (.str x) => if x.length ≤ sizeLine then (atI x.cps.toList i).map fun c => .str ⟨#[c]⟩ else none
  | .c k => match μ[k]? with
    | some (.lst l) => atI l i
    | _ => none
  | _ => none
def pIx : SV → SV → Mem → VP → Prop := fun sa sb μ Q => match sb with
  | .d (.int i) => on (ixOf sa μ i) fun d => Q (.d d) μ
  | _ => False
theorem atI_rep {K : PySem.W.Frag} {G : Hp} {l : List D} {vs : List V} {i : Int} {d : D} (r : Reps K G l vs) (e : atI l i = some d) : ∃ v, atI vs i = some v ∧ Rep K G d v := by
  unfold atI at e ⊢
  rw [← r.length]
  obtain ⟨j, e1, e2⟩ := Option.bind_eq_some_iff.mp e
  rw [e1]
  exact r.at e2
theorem pop_ix : POp X.K (rIx X.K) pIx := by
  intro sa sb μ A G H va vb Qp Q h c ra rb k
  match sb, h, rb with
  | .d (.int i), h, rb =>
    cases rb
    obtain ⟨d, e, q⟩ := on_of h
    unfold ixOf at e
    split at e
    · obtain ⟨a, us, rfl, h1, h2⟩ := Reps.sq ra
      obtain ⟨v, e1, r1⟩ := atI_rep h2 e
      exact .inr (.inl ⟨a, us, i, v, rfl, rfl, c.le.sqT h1, e1, k _ _ _ _ _ _ q c .refl r1⟩)
    · obtain ⟨a, us, rfl, h1, h2⟩ := Reps.sqn ra
      obtain ⟨v, e1, r1⟩ := atI_rep h2 e
      exact .inr (.inl ⟨a, us, i, v, rfl, rfl, c.le.sqT h1, e1, k _ _ _ _ _ _ q c .refl r1⟩)
    · obtain ⟨a, us, rfl, h1, h2⟩ := Reps.sql ra
      obtain ⟨v, e1, r1⟩ := atI_rep h2 e
      exact .inl ⟨a, us, i, v, rfl, rfl, SqL.of (c.le _ _ h1), e1, k _ _ _ _ _ _ q c .refl r1⟩
    · obtain ⟨n, e1, rfl⟩ := Option.map_eq_some_iff.mp e
      cases ra with
      | scr h1 =>
        refine .inl ⟨_, _, i, .int n, rfl, rfl, c.le.sqL h1, ?_, k _ _ _ _ _ _ q c .refl (.int _)⟩
        unfold atI at e1 ⊢
        obtain ⟨j, e2, e3⟩ := Option.bind_eq_some_iff.mp e1
        rw [List.length_map, e2]
        simp only [Option.bind_some, List.getElem?_map, e3, Option.map_some]
    · split at e
      · rename_i x hz
        obtain ⟨n, e1, rfl⟩ := Option.map_eq_some_iff.mp e
        cases ra
        exact .inr (.inr ⟨_, i, n, rfl, rfl, hz, e1, k _ _ _ _ _ _ q c .refl (.str _)⟩)
      · cases e
    · rename_i kk
      split at e
      · rename_i l hk
        obtain ⟨a, ha, rfl⟩ := ra
        obtain ⟨us, h1, h2⟩ := c.ok _ _ _ ha hk
        obtain ⟨v, e1, r1⟩ := atI_rep h2 e
        exact .inl ⟨a, us, i, v, rfl, rfl, SqL.of h1, e1, k _ _ _ _ _ _ q c .refl r1⟩
      · cases e
    · cases e
theorem px_ix (ha : PX X W a ta) (hb : PX X W b tb) (hs : PlainIx b := by intro _ _; rfl) : PX X W (.Subscript a b pos) (xOp pIx ta tb) :=
  ⟨(pe_ix ix_seq ha.pe hb.pe hs).imp fun _ _ _ h => lift_op pop_ix h⟩

/-! ### slices -/
def cutD (xs : List D) (lo hi : Option Int) : List D := (xs.drop (HT.sIx xs.length 0 lo)).take (HT.sIx xs.length xs.length hi - HT.sIx xs.length 0 lo)
theorem cutD_rep {K : PySem.W.Frag} {G : Hp} {l : List D} {vs : List V} (r : Reps K G l vs) (lo hi : Option Int) : Reps K G (cutD l lo hi) (cutV vs lo hi) := by
  unfold cutD cutV
  rw [← r.length]
  exact (r.drop _).take _
abbrev TXO := XP → Env' → Mem → (Option Int → Mem → Prop) → Prop
def liftO (K : PySem.W.Frag) (W : WX) (t : TXO) : TO := fun σ H Q => ∃ A ρ μ G Qp x, Sim K A σ ρ μ G H ∧ t x ρ μ Qp ∧ ExTo K W A G H x ∧
  ∀ o μ' A' G' H', Qp o μ' → Cells K A' μ' G' H' → Step A G H A' G' H' → Q o H'
structure PXO (X : Cx) (W : WX) (e : Option Expr) (t : TXO) : Prop where
  po : PO X e (liftO X.K W t)
theorem _root_.L2.PO.imp {X : Cx} {e : Option Expr} {t t' : TO} (h : PO X e t) (i : ∀ σ H Q, t' σ H Q → t σ H Q) : PO X e t' := ⟨fun pins s σ H Q I q => h.run pins s σ H Q I (i _ _ _ q)⟩
def xNoPart : TXO := fun _ _ μ Q => Q none μ
def xPart (t : TX) : TXO := fun x ρ μ Q => t x ρ μ fun s μ1 => match s with
  | .d (.int i) => Q (some i) μ1
  | _ => False
theorem pxo_none : PXO X W none xNoPart := by
  refine ⟨po_none.imp fun σ H Q h => ?_⟩
  obtain ⟨A, ρ, μ, G, Qp, xp, S, ht, hx, k⟩ := h
  exact k _ _ _ _ _ ht S.toCells .refl
theorem pxo_some (h : PX X W e ta) : PXO X W (some e) (xPart ta) := by
  refine ⟨(po_some h.pe).imp fun σ H Q h => ?_⟩
  obtain ⟨A, ρ, μ, G, Qp, xp, S, ht, hx, k⟩ := h
  refine ⟨A, ρ, μ, G, _, xp, S, ht, hx, fun r μ' A' G' H' v q c s rr => ?_⟩
  match r, q, rr with
  | .d (.int i), q, rr => cases rr; exact ⟨i, rfl, k _ _ _ _ _ q c s⟩
def PSl (K : PySem.W.Frag) (r : V → Option Int → Option Int → Hp → VK → Prop) (P : SV → Option Int → Option Int → Mem → VP → Prop) : Prop := ∀ (sa : SV) (lo hi : Option Int) (μ : Mem) (A : List Addr) (G H : Hp) (va : V) (Qp : VP) (Q : VK), P sa lo hi μ Qp → Cells K A μ G H → RepS K A G sa va →
  (∀ r μ' A' G' H' v, Qp r μ' → Cells K A' μ' G' H' → Step A G H A' G' H' → RepS K A' G' r v → Q v H') → r va lo hi H Q
def xSl (P : SV → Option Int → Option Int → Mem → VP → Prop) (ta : TX) (tl th : TXO) : TX := fun x ρ μ Q => ta x ρ μ fun sa μ1 => tl x ρ μ1 fun lo μ2 => th x ρ μ2 fun hi μ3 => P sa lo hi μ3 Q
theorem px_sl {lo hi : Option Expr} {tl th : TXO} {p2 : Pos} {r : V → Option Int → Option Int → Hp → VK → Prop} {P : SV → Option Int → Option Int → Mem → VP → Prop} (hr : SlR X r) (hp : PSl X.K r P) (ha : PX X W a ta) (hl : PXO X W lo tl) (hh : PXO X W hi th) :
    PX X W (.Subscript a (.Slice lo hi none p2) pos) (xSl P ta tl th) := by
  refine ⟨(pe_slice hr ha.pe hl.po hh.po).imp fun σ H Q h => ?_⟩
  obtain ⟨A, ρ, μ, G, Qp, xp, S, ht, hx, k⟩ := h
  refine ⟨A, ρ, μ, G, _, xp, S, ht, hx, fun sa μ1 A1 G1 H1 va q c1 s1 r1 => ?_⟩
  refine ⟨A1, ρ, μ1, G1, _, xp, S.after s1 c1, q, hx.after s1, fun ol μ2 A2 G2 H2 q2 c2 s2 => ?_⟩
  have s12 := s1.trans s2
  refine ⟨A2, ρ, μ2, G2, _, xp, S.after s12 c2, q2, hx.after s12, fun oh μ3 A3 G3 H3 q3 c3 s3 => ?_⟩
  have s23 := s2.trans s3
  exact hp sa ol oh μ3 A3 G3 H3 va Qp Q q3 c3 (r1.mono s23.pre s23.le) fun r μ' A' G' H' v q5 c5 s5 r5 => k r μ' A' G' H' v q5 c5 ((s12.trans s3).trans s5) r5
/-- a slice of a known tuple: the whole of it is the tuple itself -/
def cutN (l : List D) (lo hi : Option Int) : D := if HT.sIx l.length 0 lo = 0 ∧ HT.sIx l.length l.length hi = l.length then .ntp l else .tup (cutD l lo hi)
def pSlT : SV → Option Int → Option Int → Mem → VP → Prop := fun sa lo hi μ Q => match sa with
  | .d (.tup l) => Q (.d (.tup (cutD l lo hi))) μ
  | .d (.ntp l) => Q (.d (cutN l lo hi)) μ
  | _ => False
def pSlL : SV → Option Int → Option Int → Mem → VP → Prop := fun sa lo hi μ Q => on (lstOf sa μ) fun l => Q (.d (.lst (cutD l lo hi))) μ
theorem psl_tup : PSl X.K (rSlA X.K) pSlT := by
  intro sa lo hi μ A G H va Qp Q h c ra k
  match sa, h, ra with
  | .d (.tup l), q, ra =>
    obtain ⟨a, us, rfl, h1, h2⟩ := tupOf_rep (s := .d (.tup l)) rfl c ra
    refine ⟨a, us, rfl, h1, fun hw => ?_, fun _ p hp => ?_⟩
    · have hl : cutD l lo hi = l := by
        unfold cutD
        rw [h2.length, hw.1, hw.2, List.drop_zero, Nat.sub_zero, ← h2.length, List.take_length]
      have q : Qp (.d (.tup (cutD l lo hi))) μ := q
      rw [hl] at q
      exact k _ _ _ _ _ _ q c .refl ra
    · obtain ⟨c2, s2⟩ := c.laid (o := .tup (cutV us lo hi)) hp
      exact k _ _ _ _ _ _ q c2 s2 (Rep.tup upd_same ((cutD_rep h2 lo hi).mono s2.le))
  | .d (.ntp l), q, ra =>
    obtain ⟨a, us, rfl, h1, h2⟩ := tupOf_rep (s := .d (.ntp l)) rfl c ra
    have q : Qp (.d (cutN l lo hi)) μ := q
    unfold cutN at q
    refine ⟨a, us, rfl, h1, fun hw => ?_, fun hw p hp => ?_⟩
    · rw [if_pos (by rw [h2.length]; exact hw)] at q
      exact k _ _ _ _ _ _ q c .refl ra
    · rw [if_neg (by rw [h2.length]; exact hw)] at q
      obtain ⟨c2, s2⟩ := c.laid (o := .tup (cutV us lo hi)) hp
      exact k _ _ _ _ _ _ q c2 s2 (Rep.tup upd_same ((cutD_rep h2 lo hi).mono s2.le))
theorem psl_list : PSl X.K (rSlL X.K) pSlL := by
  intro sa lo hi μ A G H va Qp Q h c ra k
  obtain ⟨l, e, q⟩ := on_of h
  obtain ⟨a, us, rfl, h1, h2⟩ := lstOf_rep e c ra
  refine ⟨a, us, rfl, SqL.of h1, fun p hp => ?_⟩
  obtain ⟨c2, s2⟩ := c.laid (o := .lst (cutV us lo hi)) hp
  exact k _ _ _ _ _ _ q c2 s2 (Rep.lst upd_same ((cutD_rep h2 lo hi).mono s2.le))
/-- a slice of the script -/
def pSlS : SV → Option Int → Option Int → Mem → VP → Prop := fun sa lo hi μ Q => match sa with
  | .d (.scr l) => Q (.d (.lst (cutD (l.map .int) lo hi))) μ
  | _ => False
theorem scr_reps {K : PySem.W.Frag} {G : Hp} : ∀ l : List Int, Reps K G (l.map .int) (l.map V.int)
  | [] => .nil
  | i :: l => .cons (.int i) (scr_reps l)
theorem psl_scr : PSl X.K (rSlL X.K) pSlS := by
  intro sa lo hi μ A G H va Qp Q h c ra k
  match sa, h, ra with
  | .d (.scr l), h, ra =>
    cases ra with
    | scr h1 =>
      refine ⟨_, _, rfl, c.le.sqL h1, fun p hp => ?_⟩
      obtain ⟨c2, s2⟩ := c.laid (o := .lst (cutV (l.map V.int) lo hi)) hp
      exact k _ _ _ _ _ _ h c2 s2 (Rep.lst upd_same ((cutD_rep (scr_reps l) lo hi)))
variable {lo hi : Option Expr} {tl th : TXO} {p2 : Pos}
theorem px_slT (ha : PX X W a ta) (hl : PXO X W lo tl) (hh : PXO X W hi th) : PX X W (.Subscript a (.Slice lo hi none p2) pos) (xSl pSlT ta tl th) := px_sl sl_tupA psl_tup ha hl hh
theorem px_slL (ha : PX X W a ta) (hl : PXO X W lo tl) (hh : PXO X W hi th) : PX X W (.Subscript a (.Slice lo hi none p2) pos) (xSl pSlL ta tl th) := px_sl sl_list psl_list ha hl hh
theorem px_slS (ha : PX X W a ta) (hl : PXO X W lo tl) (hh : PXO X W hi th) : PX X W (.Subscript a (.Slice lo hi none p2) pos) (xSl pSlS ta tl th) := px_sl sl_list psl_scr ha hl hh

/-! ### tuple + tuple, list + list -/
def pCatT : SV → SV → Mem → VP → Prop := fun sa sb μ Q => match sa, sb with
  | .d (.tup l), .d (.tup m) => l.length + m.length ≤ sizeLine ∧ Q (.d (.tup (l ++ m))) μ
  | _, _ => False
theorem pop_catT : POp X.K (rCatA X.K) pCatT := by
  intro sa sb μ A G H va vb Qp Q h c ra rb k
  match sa, sb, h, ra, rb with
  | .d (.tup l), .d (.tup m), ⟨hz, h⟩, ra, rb =>
    obtain ⟨a, us, rfl, h1, h2⟩ := Reps.sq ra
    obtain ⟨b, ws, rfl, h3, h4⟩ := Reps.sq rb
    refine ⟨a, b, us, ws, rfl, rfl, c.le.sqT h1, c.le.sqT h3, by rw [← h2.length, ← h4.length]; exact hz, fun e => ?_, fun _ e => ?_, fun _ _ p hp => ?_⟩
    · have hl : l = [] := List.length_eq_zero_iff.mp (by rw [h2.length, e]; rfl)
      subst hl
      exact k _ _ _ _ _ _ h c .refl rb
    · have hl : m = [] := List.length_eq_zero_iff.mp (by rw [h4.length, e]; rfl)
      subst hl
      rw [List.append_nil] at h
      exact k _ _ _ _ _ _ h c .refl ra
    · obtain ⟨c2, s2⟩ := c.laid (o := .tup (us ++ ws)) hp
      exact k _ _ _ _ _ _ h c2 s2 (Rep.tup upd_same ((h2.app h4).mono s2.le))
theorem px_catT (ha : PX X W a ta) (hb : PX X W b tb) : PX X W (.BinOp a .Add b pos) (xOp pCatT ta tb) := px_op op_catA pop_catT ha hb
def pCatL : SV → SV → Mem → VP → Prop := fun sa sb μ Q => on (lstOf sa μ) fun l => on (lstOf sb μ) fun m => l.length + m.length ≤ sizeLine ∧ Q (.d (.lst (l ++ m))) μ
theorem pop_catL {K : PySem.W.Frag} : POp K rCat pCatL := by
  intro sa sb μ A G H va vb Qp Q h c ra rb k
  obtain ⟨l, e1, h⟩ := on_of h
  obtain ⟨m, e2, hz, q⟩ := on_of h
  obtain ⟨a, us, rfl, h1, h2⟩ := lstOf_rep e1 c ra
  obtain ⟨b, ws, rfl, h3, h4⟩ := lstOf_rep e2 c rb
  refine ⟨a, b, us, ws, rfl, rfl, h1, h3, by rw [← h2.length, ← h4.length]; exact hz, fun p hp => ?_⟩
  obtain ⟨c2, s2⟩ := c.laid (o := .lst (us ++ ws)) hp
  exact k _ _ _ _ _ _ q c2 s2 (Rep.lst upd_same ((h2.app h4).mono s2.le))
theorem px_catL (ha : PX X W a ta) (hb : PX X W b tb) : PX X W (.BinOp a .Add b pos) (xOp pCatL ta tb) := px_op op_cat pop_catL ha hb
end
end PL
/-! The P-layer: statements, targets, loops, comprehensions. -/
namespace PL
open PySem PySem.Spec PyProof.Rows L2
section
variable {X : Cx} {W : WX} {a b c e : Expr} {es : List Expr} {ta tb tc te : TX} {tA : TXT} {tL : TXA} {st : Stmt} {rest : List Stmt} {t u : TXS} {pos p : Pos}

/-! ### blocks, small statements -/
def xNext : TXS := fun E ρ μ => E.nx ρ μ
def xSeq (t u : TXS) : TXS := fun E ρ μ => t { E with nx := u E } ρ μ
theorem pss_nil' : PXSs X W [] xNext := by
  refine ⟨pss_nil.imp fun D σ H h => ?_⟩
  obtain ⟨A, ρ, μ, G, E, S, ht, k⟩ := h
  exact k.nx _ _ _ _ _ _ ht S .refl
theorem pxs_cons (h1 : PXS X W st t) (h2 : PXSs X W rest u) : PXSs X W (st :: rest) (xSeq t u) := by
  refine ⟨(pss_cons h1.ps h2.ps).imp fun D σ H h => ?_⟩
  obtain ⟨A, ρ, μ, G, E, S, ht, k⟩ := h
  refine ⟨A, ρ, μ, G, _, S, ht, ?_⟩
  exact ⟨fun ρ' μ' A' σ' G' H' q s s2 => ⟨A', ρ', μ', G', E, s, q, k.after s2⟩, k.bk, k.ct, k.rt, k.ex⟩
theorem pxs_one (h1 : PXS X W st t) : PXSs X W [st] t := ⟨pss_one h1.ps⟩
theorem psx_pass : PXS X W (.Pass pos) xNext := by
  refine ⟨ps_pass.imp fun D σ H h => ?_⟩
  obtain ⟨A, ρ, μ, G, E, S, ht, k⟩ := h
  exact k.nx _ _ _ _ _ _ ht S .refl
def xBreak : TXS := fun E ρ μ => E.bk ρ μ
def xCont : TXS := fun E ρ μ => E.ct ρ μ
theorem psx_break : PXS X W (.Break pos) xBreak := by
  refine ⟨ps_break.imp fun D σ H h => ?_⟩
  obtain ⟨A, ρ, μ, G, E, S, ht, k⟩ := h
  exact k.bk _ _ _ _ _ _ ht S .refl
theorem psx_continue : PXS X W (.Continue pos) xCont := by
  refine ⟨ps_continue.imp fun D σ H h => ?_⟩
  obtain ⟨A, ρ, μ, G, E, S, ht, k⟩ := h
  exact k.ct _ _ _ _ _ _ ht S .refl
def xDrop (te : TX) : TXS := fun E ρ μ => te E.ex ρ μ fun _ μ1 => E.nx ρ μ1
theorem psx_expr (he : PX X W e te) (hs : swapsWith e none pos.line X.env = pure false := by rfl) : PXS X W (.Expr e pos) (xDrop te) := by
  refine ⟨(ps_expr he.pe hs).imp fun D σ H h => ?_⟩
  obtain ⟨A, ρ, μ, G, E, S, ht, k⟩ := h
  exact ⟨A, ρ, μ, G, _, _, S, ht, k.ex, fun r μ' A' G' H' v q c s rr => k.nx _ _ _ _ _ _ q (S.after s c) s⟩
def xRet (te : TX) : TXS := fun E ρ μ => te E.ex ρ μ E.rt
theorem psx_ret (he : PX X W e te) : PXS X W (.Return (some e) pos) (xRet te) := by
  refine ⟨(ps_ret he.pe).imp fun D σ H h => ?_⟩
  obtain ⟨A, ρ, μ, G, E, S, ht, k⟩ := h
  exact ⟨A, ρ, μ, G, _, _, S, ht, k.ex, fun r μ' A' G' H' v q c s rr => k.rt _ _ _ _ _ _ q c s rr⟩
def xRetN : TXS := fun E _ μ => E.rt (.d .non) μ
theorem psx_retN : PXS X W (.Return none pos) xRetN := by
  refine ⟨ps_retN.imp fun D σ H h => ?_⟩
  obtain ⟨A, ρ, μ, G, E, S, ht, k⟩ := h
  exact k.rt _ _ _ _ _ _ ht S.toCells .refl .non
def xIfS (c : TXT) (t u : TXS) : TXS := fun E ρ μ => c E.ex ρ μ fun b μ1 => Br b (t E ρ μ1) (u E ρ μ1)
theorem psx_if {c : Expr} {a b : List Stmt} (hc : PXT X W c tA) (ha : PXSs X W a t) (hb : PXSs X W b u) : PXS X W (.If c a b pos) (xIfS tA t u) := by
  refine ⟨(ps_if hc.pt ha.ps hb.ps).imp fun D σ H h => ?_⟩
  obtain ⟨A, ρ, μ, G, E, S, ht, k⟩ := h
  refine ⟨A, ρ, μ, G, _, _, S, ht, k.ex, fun r μ' A' G' H' q c s => ?_⟩
  cases r with
  | true => exact ite_tt ⟨A', ρ, μ', G', E, S.after s c, q, k.after s⟩
  | false => exact ite_ff ⟨A', ρ, μ', G', E, S.after s c, q, k.after s⟩
def xNever : TXS := fun _ _ _ => False
theorem psx_never : PXS X W st xNever := by
  refine ⟨ps_never.imp fun D σ H h => ?_⟩
  obtain ⟨A, ρ, μ, G, E, S, ht, k⟩ := h
  exact ht
theorem pxs_never {sts : List Stmt} : PXSs X W sts xNever := by
  refine ⟨pss_never.imp fun D σ H h => ?_⟩
  obtain ⟨A, ρ, μ, G, E, S, ht, k⟩ := h
  exact ht

/-! ### targets -/
abbrev TXG := XP → SV → Env' → Mem → (Env' → Mem → Prop) → Prop
abbrev TXGs := XP → List D → Env' → Mem → (Env' → Mem → Prop) → Prop
/-- the slots of own apart, the frame is as it was -/
def Keeps (own : List Nat) (σ σ' : L2.St) : Prop := L2.wipe σ' own = L2.wipe σ own
theorem Keeps.refl {own : List Nat} {σ : L2.St} : Keeps own σ σ := rfl
theorem Keeps.trans {own : List Nat} {σ σ1 σ2 : L2.St} (a : Keeps own σ σ1) (b : Keeps own σ1 σ2) : Keeps own σ σ2 := Eq.trans b a
theorem wipe_set (σ : L2.St) (i : Nat) (x : Option V) : ∀ vs : List Nat, (i ∈ vs → L2.wipe (σ.set i x) vs = L2.wipe σ vs) ∧ (i ∉ vs → L2.wipe (σ.set i x) vs = (L2.wipe σ vs).set i x)
  | [] => ⟨fun h => absurd h (by simp), fun _ => rfl⟩
  | v :: vs => by
    obtain ⟨h1, h2⟩ := wipe_set σ i x vs
    refine ⟨fun h => ?_, fun h => ?_⟩
    · show (L2.wipe (σ.set i x) vs).set v none = (L2.wipe σ vs).set v none
      by_cases hm : i ∈ vs
      · rw [h1 hm]
      · rcases List.mem_cons.mp h with e | e
        · subst e
          rw [h2 hm, List.set_set]
        · exact absurd e hm
    · show (L2.wipe (σ.set i x) vs).set v none = ((L2.wipe σ vs).set v none).set i x
      rw [h2 (fun z => h (List.mem_cons_of_mem _ z)), List.set_comm _ _ (fun e => h (by rw [e]; exact List.mem_cons_self))]
theorem Keeps.set {own : List Nat} {σ : L2.St} {i : Nat} {x : Option V} (h : i ∈ own) : Keeps own σ (σ.set i x) := (wipe_set σ i x own).1 h
def liftG (K : PySem.W.Frag) (W : WX) (own : List Nat) (g : TXG) : TG := fun v σ H Q => ∃ A ρ μ G s Qp x, Sim K A σ ρ μ G H ∧ RepS K A G s v ∧ g x s ρ μ Qp ∧ ExTo K W A G H x ∧
  ∀ ρ' μ' A' σ' G' H', Qp ρ' μ' → Sim K A' σ' ρ' μ' G' H' → Step A G H A' G' H' → Keeps own σ σ' → Q σ' H'
def liftGs (K : PySem.W.Frag) (W : WX) (own : List Nat) (g : TXGs) : TGs := fun vs σ H Q => ∃ A ρ μ G ds Qp x, Sim K A σ ρ μ G H ∧ Reps K G ds vs ∧ g x ds ρ μ Qp ∧ ExTo K W A G H x ∧
  ∀ ρ' μ' A' σ' G' H', Qp ρ' μ' → Sim K A' σ' ρ' μ' G' H' → Step A G H A' G' H' → Keeps own σ σ' → Q σ' H'
structure PXG (X : Cx) (W : WX) (own : List Nat) (e : Expr) (g : TXG) : Prop where
  pg : PG X e (liftG X.K W own g)
structure PXGs (X : Cx) (W : WX) (own : List Nat) (es : List Expr) (g : TXGs) : Prop where
  pg : PGs X es (liftGs X.K W own g)
theorem _root_.L2.PG.imp {X : Cx} {e : Expr} {t t' : TG} (h : PG X e t) (i : ∀ v σ H Q, t' v σ H Q → t v σ H Q) : PG X e t' := ⟨fun pins s σ H v u Q I r q => h.run pins s σ H v u Q I r (i _ _ _ _ q)⟩
theorem _root_.L2.PGs.imp {X : Cx} {e : List Expr} {t t' : TGs} (h : PGs X e t) (i : ∀ v σ H Q, t' v σ H Q → t v σ H Q) : PGs X e t' := ⟨fun pins s σ H v u Q I r q => h.run pins s σ H v u Q I r (i _ _ _ _ q)⟩
theorem Sim.set {K : PySem.W.Frag} {A : List Addr} {σ : L2.St} {ρ : Env'} {μ : Mem} {G H : Hp} {s : SV} {v : V} (S : Sim K A σ ρ μ G H) (i : Nat) (r : RepS K A G s v) : Sim K A (σ.set i (some v)) (ρ.set i s) μ G H where
  toCells := S.toCells
  sl := by simp [Env'.set, S.sl]
  at_ := fun j hj => by
    have hl : j < ρ.n := hj
    by_cases h : j = i
    · subst h
      refine ⟨some v, ?_, ?_⟩
      · rw [List.getElem?_set_self (by rw [← S.sl]; exact hl)]
      · show SlotOk K A G (if j = j then s else _) _
        rw [if_pos rfl]
        cases s with
        | un => trivial
        | d x => exact ⟨v, rfl, r⟩
        | c k => exact ⟨v, rfl, r⟩
    · obtain ⟨o, e1, q⟩ := S.at_ j hl
      refine ⟨o, by rw [List.getElem?_set_ne (Ne.symm h)]; exact e1, ?_⟩
      show SlotOk K A G (if j = i then s else _) _
      rw [if_neg h]; exact q
def xName (i : Nat) : TXG := fun _ s ρ μ Q => Q (ρ.set i s) μ
theorem pxg_name {i : Nat} {own : List Nat} {x : Str} (ho : i ∈ own) (hN : X.N.Nodup) (hi : X.N[i]? = some x) (hx : Loc X.env.scope x) (hf : X.fn x = true ∨ X.env.scope.names.lookup x = some .local := by first | exact .inl rfl | exact .inr rfl | assumption) : PXG X W own (.Name x pos) (xName i) := by
  refine ⟨(pg_name hN hi hx hf).imp fun v σ H Q h => ?_⟩
  obtain ⟨A, ρ, μ, G, s, Qp, x, S, r, ht, hx, k⟩ := h
  exact k _ _ _ _ _ _ ht (S.set i r) .refl (Keeps.set ho)
def xgNil : TXGs := fun _ ds ρ μ Q => match ds with
  | [] => Q ρ μ
  | _ => False
def xgCons (g : TXG) (gs : TXGs) : TXGs := fun x ds ρ μ Q => match ds with
  | d :: r => g x (.d d) ρ μ fun ρ1 μ1 => gs x r ρ1 μ1 Q
  | [] => False
variable {g : TXG} {gs : TXGs} {own : List Nat}
theorem pxgs_nil : PXGs X W own [] xgNil := by
  refine ⟨pgs_nil.imp fun v σ H Q h => ?_⟩
  obtain ⟨A, ρ, μ, G, ds, Qp, x, S, r, ht, hx, k⟩ := h
  match ds, r, ht with
  | [], .nil, ht => exact ⟨rfl, k _ _ _ _ _ _ ht S .refl .refl⟩
theorem pxgs_cons (h1 : PXG X W own e g) (h2 : PXGs X W own es gs) (hs : (assignEach (e :: es) X.env).map (·.2) = assign e X.env :: (assignEach es X.env).map (·.2) := by rfl) : PXGs X W own (e :: es) (xgCons g gs) := by
  refine ⟨(pgs_cons h1.pg h2.pg hs).imp fun v σ H Q h => ?_⟩
  obtain ⟨A, ρ, μ, G, ds, Qp, x, S, r, ht, hx, k⟩ := h
  match ds, r, ht with
  | d :: ds, .cons r rr, ht =>
    refine ⟨_, _, rfl, A, ρ, μ, G, .d d, _, x, S, r, ht, hx, fun ρ' μ' A' σ' G' H' q s s2 kp => ?_⟩
    exact ⟨A', ρ', μ', G', ds, _, x, s, rr.mono s2.le, q, hx.after s2, fun ρ3 μ3 A3 σ3 G3 H3 q3 s3 s23 kp2 => k _ _ _ _ _ _ q3 s3 (s2.trans s23) (kp.trans kp2)⟩
/-- (a, b, ..) = a tuple -/
def xgTup (n : Nat) (gs : TXGs) : TXG := fun x s ρ μ Q => match s with
  | .d (.tup ds) => ds.length = n ∧ gs x ds ρ μ Q
  | _ => False
theorem pxg_tup {k : Nat} {n : Nat} (hc : X.calm = true) (h : PXGs X W own es gs) (hn : (assignEach es X.env).length = n := by rfl) (hst : (assignEach es X.env).findIdx? (·.1) = none := by rfl) : PXG X W own (.Tuple es k pos) (xgTup n gs) := by
  refine ⟨(pg_tup hc h.pg hn hst).imp fun v σ H Q h => ?_⟩
  obtain ⟨A, ρ, μ, G, s, Qp, x, S, r, ht, hx, k⟩ := h
  match s, r, ht with
  | .d (.tup ds), r, ⟨hl, ht⟩ =>
    obtain ⟨a, us, rfl, h1, h2⟩ := Reps.sq r
    exact ⟨a, us, rfl, S.le.sqT h1, by rw [← h2.length]; exact hl, A, ρ, μ, G, ds, _, x, S, h2, ht, hx, k⟩
/-- l[i] = .., l a list of one's own -/
def xgSub (to ti : TX) : TXG := fun x s ρ μ Q => to x ρ μ fun so μ1 => ti x ρ μ1 fun si μ2 => match so, si, s with
  | .c k, .d (.int i), .d v => match μ2[k]? with
    | some (.lst l) => on (ixN l.length i) fun j => Q ρ (μ2.set k (.lst (l.set j v)))
    | _ => False
  | _, _, _ => False
theorem pxg_sub {o i : Expr} {to ti : TX} (ho : PX X W o to) (hi : PX X W i ti)
    (ha : ∀ v, assign (.Subscript o i pos) X.env v = (do
      let ov ← holding [v] (eval o X.env)
      let iv ← holding [v, ov] (eval i X.env)
      standAt pos
      holding [v, ov, iv] (setItem ov iv v)
      release [v, ov, iv] []) := by intro _; rfl) : PXG X W own (.Subscript o i pos) (xgSub to ti) := by
  refine ⟨(pg_sub ho.pe hi.pe set_list ha).imp fun v σ H Q h => ?_⟩
  obtain ⟨A, ρ, μ, G, s, Qp, x, S, r, ht, hx, k⟩ := h
  refine ⟨A, ρ, μ, G, _, x, S, ht, hx, fun so μ1 A1 G1 H1 vo q c1 s1 r1 => ?_⟩
  refine ⟨A1, ρ, μ1, G1, _, x, S.after s1 c1, q, hx.after s1, fun si μ2 A2 G2 H2 vi q2 c2 s2 r2 => ?_⟩
  match so, si, s, r1, r2, r, q2 with
  | .c kk, .d (.int j), .d w, r1, r2, r, q2 =>
    obtain ⟨a, ha, rfl⟩ := r1
    cases r2
    simp only at q2
    split at q2
    · rename_i l hk
      obtain ⟨n, hn, q⟩ := on_of q2
      have ha2 : A2[kk]? = some a := by
        obtain ⟨B, rfl⟩ := s2.pre
        rw [List.getElem?_append_left (List.getElem?_eq_some_iff.mp ha).1]; exact ha
      obtain ⟨us, h1, h2⟩ := c2.ok _ _ _ ha2 hk
      have s12 := s1.trans s2
      refine ⟨a, us, j, n, rfl, rfl, h1, by rw [← h2.length]; exact hn, ?_⟩
      obtain ⟨c3, s3⟩ := c2.write (o := .lst (us.set n v)) (cl := .lst (l.set n w)) ha2 ⟨_, upd_same, h2.set (Rep.mono s12.le r) n⟩
      exact k _ _ _ _ _ _ q (S.after (s12.trans s3) c3) (s12.trans s3) .refl
    · exact q2.elim
/-- target = e -/
def xAsg (te : TX) (g : TXG) : TXS := fun E ρ μ => te E.ex ρ μ fun s μ1 => g E.ex s ρ μ1 E.nx
theorem psx_asg {tg : Expr} (he : PX X W e te) (hg : PXG X W own tg g) (hs : swapsWithSole [tg] e pos.line X.env = pure false := by rfl) (hw : swappedStores [tg] e X.env = pure none := by rfl)
    (h1 : (assignEach [tg] X.env).map (·.2) = [assign tg X.env] := by rfl) : PXS X W (.Assign [tg] e pos) (xAsg te g) := by
  refine ⟨(ps_asg he.pe hg.pg hs hw h1).imp fun D σ H h => ?_⟩
  obtain ⟨A, ρ, μ, G, E, S, ht, k⟩ := h
  refine ⟨A, ρ, μ, G, _, _, S, ht, k.ex, fun s μ1 A1 G1 H1 v q c1 s1 r1 => ?_⟩
  exact ⟨A1, ρ, μ1, G1, s, _, _, S.after s1 c1, r1, q, k.ex.after s1, fun ρ' μ' A' σ' G' H' q' S' s' _ => k.nx _ _ _ _ _ _ q' S' (s1.trans s')⟩
theorem psx_set {i : Nat} {x : Str} {pos' : Pos} (hN : X.N.Nodup) (hi : X.N[i]? = some x) (hx : Loc X.env.scope x) (he : PX X W e te) (hs : swapsWith e (some (.Name x pos')) pos.line X.env = pure false := by rfl) (hf : X.fn x = true ∨ X.env.scope.names.lookup x = some .local := by first | exact .inl rfl | exact .inr rfl | assumption) :
    PXS X W (.Assign [.Name x pos'] e pos) (xAsg te (xName i)) := by
  refine ⟨(ps_set hN hi hx he.pe hs hf).imp fun D σ H h => ?_⟩
  obtain ⟨A, ρ, μ, G, E, S, ht, k⟩ := h
  exact ⟨A, ρ, μ, G, _, _, S, ht, k.ex, fun s μ1 A1 G1 H1 v q c1 s1 r1 => k.nx _ _ _ _ _ _ q ((S.after s1 c1).set i r1) s1⟩
/-- a, b = x, y, plain local names -/
def xPar (i j : Nat) (t : TXA) : TXS := fun E ρ μ => t E.ex ρ μ fun ss μ1 => match ss with
  | [s, r] => E.nx ((ρ.set i s).set j r) μ1
  | _ => False
theorem psx_par {i j : Nat} {x y : Str} {px py pt : Pos} {kt k2 pt2} (hc : X.calm = true) (hN : X.N.Nodup) (hi : X.N[i]? = some x) (hj : X.N[j]? = some y) (hij : i ≠ j)
    (hx : X.env.scope.names.lookup x = some .local) (hy : X.env.scope.names.lookup y = some .local) (ha : PXA X W [a, b] tL)
    (hw : swappedStores [.Tuple [.Name x px, .Name y py] kt pt] (.Tuple [a, b] k2 pt2) X.env = pure (some [x, y]))
    (hs : swapsWithSole [.Tuple [.Name x px, .Name y py] kt pt] (.Tuple [a, b] k2 pt2) pos.line X.env = pure false := by rfl) :
    PXS X W (.Assign [.Tuple [.Name x px, .Name y py] kt pt] (.Tuple [a, b] k2 pt2) pos) (xPar i j tL) := by
  refine ⟨(ps_par hc hN hi hj hij hx hy ha.pa hw hs).imp fun D σ H h => ?_⟩
  obtain ⟨A, ρ, μ, G, E, S, ht, k⟩ := h
  refine ⟨A, ρ, μ, G, _, _, S, ht, k.ex, fun ss μ1 A1 G1 H1 vs q c1 s1 r1 => ?_⟩
  match ss, r1, q with
  | [s, r], .cons h1 (.cons h2 .nil), q => exact ⟨_, _, rfl, k.nx _ _ _ _ _ _ q (((S.after s1 c1).set i h1).set j h2) s1⟩

/-! ### while -/
def xWhile (c : TXT) (tb : TXS) : TXS := fun E ρ μ => ∃ I : Nat → Env' → Mem → Prop, (∃ m, I m ρ μ) ∧ ∀ m ρ μ, I m ρ μ → c E.ex ρ μ fun b μ1 =>
  Br b (tb { E with nx := fun ρ' μ' => ∃ m', m' < m ∧ I m' ρ' μ', ct := fun ρ' μ' => ∃ m', m' < m ∧ I m' ρ' μ', bk := E.nx } ρ μ1) (E.nx ρ μ1)
theorem psx_while {c : Expr} {body : List Stmt} (hp : PassesOwn (model X.prog X.w) X.A X.env X.xe) (hc : PXT X W c tA) (hb : PXSs X W body t) : PXS X W (.While c body [] pos) (xWhile tA t) := by
  refine ⟨(ps_while hp hc.pt hb.ps).imp fun D σ H h => ?_⟩
  obtain ⟨A, ρ, μ, G, E, S, ⟨I, ⟨m0, i0⟩, turn⟩, k⟩ := h
  refine ⟨fun m σ' H' => ∃ A' ρ' μ' G', I m ρ' μ' ∧ Sim X.K A' σ' ρ' μ' G' H' ∧ Step A G H A' G' H', ⟨m0, A, ρ, μ, G, i0, S, .refl⟩, ?_⟩
  rintro m σ1 H1 ⟨A1, ρ1, μ1, G1, i1, S1, s1⟩
  refine ⟨A1, ρ1, μ1, G1, _, _, S1, turn m ρ1 μ1 i1, k.ex.after s1, fun b μ2 A2 G2 H2 q c2 s2 => ?_⟩
  have s12 := s1.trans s2
  cases b with
  | true =>
    refine ite_tt ⟨fun σ' H' => ∃ m', m' < m ∧ ∃ A' ρ' μ' G', I m' ρ' μ' ∧ Sim X.K A' σ' ρ' μ' G' H' ∧ Step A G H A' G' H', fun σ' H' z => z, ?_⟩
    refine ⟨A2, ρ1, μ2, G2, _, S1.after s2 c2, q, ?_⟩
    have fin : ∀ ρ' μ' A' σ' G' H', (∃ m', m' < m ∧ I m' ρ' μ') → Sim X.K A' σ' ρ' μ' G' H' → Step A2 G2 H2 A' G' H' → ∃ m', m' < m ∧ ∃ A' ρ' μ' G', I m' ρ' μ' ∧ Sim X.K A' σ' ρ' μ' G' H' ∧ Step A G H A' G' H' := fun ρ' μ' A' σ' G' H' ⟨m', hm, i'⟩ S' s' => ⟨m', hm, A', ρ', μ', G', i', S', s12.trans s'⟩
    exact ⟨fin, fun ρ' μ' A' σ' G' H' q' S' s' => k.nx _ _ _ _ _ _ q' S' (s12.trans s'), fin, (k.after s12).rt, (k.after s12).ex⟩
  | false => exact ite_ff (k.nx _ _ _ _ _ _ q (S1.after s2 c2) s12)
end
end PL
/-! The P-layer: what is walked; for; comprehensions. -/
namespace PL
open PySem PySem.Spec PyProof.Rows L2

/-! ### enumerate over a tuple -/
def IteT (K : PySem.W.Frag) (a : Addr) : It where
  go i H := ∃ (xs : List V) (x : V), SqT K H a xs ∧ xs[i]? = some x
  yld i H v H' := ∃ T x, v = .ref T ∧ H T = none ∧ H' = upd H T (.tup [.int (i : Nat), x]) ∧ ∀ xs, SqT K H a xs → xs[i]? = some x
  stop i H := ∃ xs : List V, SqT K H a xs ∧ xs.length = i
theorem turn_enumT {P : Program} {w : World} {K : PySem.W.Frag} {elts : List Expr} {kk : Nat} {tpos : Pos} (a e it : Addr) :
    Turn P w K (.Tuple elts kk tpos) (IteT K a) [e, it] e (fun i h => (∃ old, IsEnum h e it ((i : Nat) : Int) old) ∧ h.IsTupleIter it a i ∧ e ≠ it) where
  mem := List.mem_cons_self
  obj := fun i h st b hb => by
    obtain ⟨⟨old, he⟩, ⟨o, ho, hc, hd⟩, _⟩ := st
    rcases List.mem_cons.mp hb with z | hb
    · subst z; exact ⟨_, he, fun v q => nomatch q⟩
    · rcases List.mem_cons.mp hb with z | hb
      · subst z; exact ⟨o, ho, fun v q => by rw [hd] at q; cases q⟩
      · cases hb
  keep := fun i h h' st k => let ⟨⟨old, he⟩, hi, hne⟩ := st; ⟨⟨old, k e (by simp) _ he⟩, hi.at fun o q => k it (by simp) o q, hne⟩
  item := by
    intro X hP hw hK hc i pins s σ H E I hf st hg
    subst hP hw hK
    obtain ⟨⟨old, he⟩, hit, hne⟩ := st
    obtain ⟨xs, x, hq, hx⟩ := hg
    obtain ⟨its, rv, p, hz⟩ := I.tuple hq
    obtain ⟨u, hu, ru⟩ := rv.get hx
    have hel : e < s.heap.objs.size := Heap.lt_size he
    have hil : it < s.heap.objs.size := by obtain ⟨_, q, _⟩ := hit; exact Heap.lt_size q
    have hea : e ≠ a := fun z => by
      obtain ⟨o, e1, c1, _⟩ := p
      rw [← z] at e1
      have e2 : s.heap.get? e = some o := e1
      rw [show s.heap.get? e = _ from he] at e2
      cases e2
      exact absurd (Value.type.inj c1) (by decide)
    have hia : a ≠ it := fun z => by
      obtain ⟨o, e1, c1, _⟩ := p
      obtain ⟨o2, e2, c2, _⟩ := hit
      rw [z, e2] at e1
      cases e1
      rw [c1] at c2
      exact absurd (Value.type.inj c2) (by decide)
    have hi : i < its.toArray.size := by
      have := (List.getElem?_eq_some_iff.mp hu).1
      simpa using this
    refine wpAny_pyNext_enum_itemC (Draws.tuple (A := X.A.in1) (I.ok.hd hc) it a hia its.toArray) he ⟨hit, p⟩ hi hne (by simp [hne, hea]) fun y h' tk hy ho hst hT hsz hk => ?_
    have ey : y = u := by
      rw [List.getElem?_toArray, hu] at hy
      exact (Option.some.inj hy).symm
    subst ey
    refine ⟨_, rfl, wpAny_letOwnedTupleGo_enum (s := { s with heap := h', toks := tk + 1 }) ho fun h'' he' sb => ?_⟩
    have hT2 := (sb.2 _ (Nat.ne_of_gt hel)).trans hT
    have new : ObjOk X.prog X.w (upd H s.heap.objs.size (.tup [.int (i : Nat), x])) h'' s.heap.objs.size (.tup [.int (i : Nat), x]) :=
      ⟨by show 2 ≤ sizeLine; decide, [.int i tk, y], .cons ⟨_, rfl⟩ (.cons ru .nil), ⟨_, hT2, rfl, _, rfl⟩⟩
    have I1 := I.turnedNew (t' := tk + 1) (ch := [e, it]) (fun b ob hb q => (sb.2 b (fun z => hb (by simp [z]))).trans (hk b ob (fun z => hb (by simp [z])) (fun z => hb (by simp [z])) q)) hf (Nat.le_refl _) new
    refine ⟨.ref s.heap.objs.size, _, I1, rfl, ⟨_, x, rfl, I.hok.fresh (Nat.le_refl _), rfl, fun ys hy => by rw [I.tuple_inj hy hq]; exact hx⟩, ⟨⟨y, ?_⟩, hst.1.at fun o q => (sb.2 it (Ne.symm hne)).trans q, hne⟩, fun b hb => ?_⟩
    · have e1 : ((i + 1 : Nat) : Int) = (i : Int) + 1 := by omega
      rw [e1]; exact he'
    · have hb' : b < s.heap.objs.size := by
        rcases List.mem_cons.mp hb with z | hb
        · subst z; exact hel
        · rcases List.mem_cons.mp hb with z | hb
          · subst z; exact hil
          · cases hb
      rw [upd_ne (Nat.ne_of_lt hb')]
      exact (hf b hb).1
  done := by
    intro X hP hw hK hc i pins s σ H E I hf st hg
    subst hP hw hK
    obtain ⟨⟨old, he⟩, hit, hne⟩ := st
    obtain ⟨xs, hq, hx⟩ := hg
    obtain ⟨its, rv, p, hz⟩ := I.tuple hq
    have hl := rv.length
    have hia : a ≠ it := fun z => by
      obtain ⟨o, e1, c1, _⟩ := p
      obtain ⟨o2, e2, c2, _⟩ := hit
      rw [z, e2] at e1
      cases e1
      rw [c1] at c2
      exact absurd (Value.type.inj c2) (by decide)
    obtain ⟨f0, f1, f2, f3, f4, f5⟩ := hf it (by simp)
    have hn : i = its.toArray.size := by simp; omega
    subst hn
    exact wpAny_pyNext_enum_endD (Draws.tuple (A := X.A.in1) (I.ok.hd hc) it a hia its.toArray) he ⟨hit, p⟩ fun h' eb => ⟨rfl, I.turned (t' := s.toks) (fun b o hb q => eb b o hb q) f0 f1 f3 f4 f5⟩
  self := fun A i s Q E st h => let ⟨⟨_, he⟩, _⟩ := st; wpAny_pyIter_enum he h

theorem meets_enum1 {v : Value} {o : Obj} {H : Heap → Prop} (B : Begins v o H) :
    Meets (Builtin.«enumerate.__new__» ⟨[.type "enumerate", v], []⟩) (fun _ R s => H s.heap ∧
      R (.ok (.ret (.ref (s.heap.push o).objs.size))) { s with heap := (s.heap.push o).push { cls := .type "enumerate", data := .fields #[.none, .bool false, .ref s.heap.objs.size, rawInt 0, .none, .none] } }) :=
  .of_wp fun prog w A R s h => by
    obtain ⟨hp, g, d, tk, os⟩ := s
    obtain ⟨h1, h⟩ := h
    have hsub := sub_enumerate
    have q1 : ∀ {A' : Around} {E : Value → Shared → Prop} {Q : Value → Shared → Prop}, Q (.ref hp.objs.size) ⟨hp.push o, g, d, tk, os⟩ → wpAny (model prog w) A' (pyIter v) Q E ⟨hp, g, d, tk, os⟩ :=
      fun q => B.iter prog w _ _ ⟨hp, g, d, tk, os⟩ _ h1 q
    wp_walk using q1
    refine wpAny_stack_any fun st => wpAny_pure ?_
    split
    · rename_i c _ _ _ _ _
      cases (c == Value.type "enumerate")
      all_goals
        wp_walk using q1
        exact ⟨_, rfl, h⟩
    · wp_walk using q1
      exact ⟨_, rfl, h⟩
theorem call_enum1 {prog : Program} {w : World} {A : Around} {E : Value → Shared → Prop} {s : Shared} {v : Value} {o : Obj} {H : Heap → Prop} {Q : Value → Shared → Prop} (B : Begins v o H) (h1 : H s.heap)
    (h : ∀ h', IsEnum h' (s.heap.objs.size + 1) s.heap.objs.size 0 .none → h'.get? s.heap.objs.size = some o → (∀ b o, s.heap.get? b = some o → h'.get? b = some o) → Q (.ref (s.heap.objs.size + 1)) { s with heap := h' }) :
    wpAny (model prog w) A (call (.type "enumerate") [v]) Q E s := by
  refine callType_new F.called_enumerate (by decide) (F.typeCall_enumerate_1 _) (F.newCall_enumerate_1 _) (fun obj => F.args_object_init_2 obj _) F.entry_enumerate_new (meets_enum1 B) ⟨h1, ?_⟩
  have hz : (s.heap.push o).objs.size = s.heap.objs.size + 1 := Heap.size_push ..
  show _ ∧ _
  rw [hz]
  have he := Heap.get?_push_size (s.heap.push o) (o := { cls := .type "enumerate", data := .fields #[.none, .bool false, .ref s.heap.objs.size, rawInt 0, .none, .none] }) rfl
  rw [hz] at he
  exact ⟨⟨_, he, rfl⟩, h _ he (Heap.get?_push_of_some _ (Heap.get?_push_size _ B.free)) fun b o x => Heap.get?_push_of_some _ (Heap.get?_push_of_some _ x)⟩
def iEnumT (K : PySem.W.Frag) (ta : TA) : TI := fun σ H R => ta σ H fun vs H1 => ∃ a xs, vs = [.ref a] ∧ SqT K H1 a xs ∧ R (IteT K a) H1
theorem pi_enumT {X : Cx} {e : Expr} {ta : TA} {p pos tpos : Pos} {elts : List Expr} {kk : Nat} (hg : Gl X "enumerate") (hm : X.mg "enumerate" = none) (ha : PA X [e] ta) (hs : starEach [e] X.env = [(false, eval e X.env)] := by rfl) :
    PI X (.Tuple elts kk tpos) (.Call (.Name "enumerate" p) [e] [] pos) (iEnumT X.K ta) := by
  refine ⟨fun pins s σ H R I h => ?_⟩
  refine Call_ (ld_blt I hg hm boot_enumerate (PyProof.Rows.callWith_type1 (thn (ha.run pos pins s σ H _ I h) fun us s1 ⟨vs, H1, I1, r1, q1⟩ => ?_) hs rfl))
  obtain ⟨a, xs, ex, hq, q⟩ := q1
  subst ex
  cases r1 with
  | cons r rr =>
    cases rr
    cases r
    obtain ⟨its, rv, p', hz⟩ := I1.tuple hq
    refine call_enum1 (begins_tuple a its.toArray) p' fun h' he hit0 hk => wpAny_pyIter_enum he ?_
    have hit : h'.IsTupleIter s1.heap.objs.size a 0 := ⟨_, hit0, rfl, rfl⟩
    have I2 : Inv X pins σ H1 { s1 with heap := h' } := I1.kept (t' := s1.toks) hk
    refine ⟨s1.heap.objs.size + 1, [s1.heap.objs.size + 1, s1.heap.objs.size], _, _, H1, rfl, I2, turn_enumT a (s1.heap.objs.size + 1) s1.heap.objs.size, ⟨⟨.none, he⟩, hit, Nat.succ_ne_self _⟩, fun b hb => ?_, q⟩
    have hle : s1.heap.objs.size ≤ b := by
      rcases List.mem_cons.mp hb with z | hb
      · rw [z]; exact Nat.le_add_right _ _
      · rcases List.mem_cons.mp hb with z | hb
        · rw [z]; exact Nat.le_refl _
        · cases hb
    exact I1.fpOk hle (I1.hok.fresh hle)
end PL
/-! The P-layer: what is walked; for; comprehensions. -/
namespace PL
open PySem PySem.Spec PyProof.Rows L2 RZ
/-- item i of ds comes: it stands already, or a new tuple -/
def YD (K : PySem.W.Frag) (ds : List D) (G : Hp) : Nat → Hp → V → Hp → Prop := fun i H x H' => ∀ G1, LeZ G G1 → Le G1 H → ∃ d, ds[i]? = some d ∧
  ((H' = H ∧ Rep K G1 d x) ∨ (∃ (T : Addr) (vs : List V) (l : List D), x = .ref T ∧ H T = none ∧ H' = upd H T (.tup vs) ∧ d = .tup l ∧ Reps K G1 l vs) ∨ ∃ (T : Addr) (vs : List V) (l : List D), x = .ref T ∧ H T = some (.tup vs) ∧ H' = H ∧ d = .tup l ∧ Reps K G1 l vs)
def liftI (K : PySem.W.Frag) (W : WX) (t : TXI) : TI := fun σ H R => ∃ A ρ μ G Rp x, Sim K A σ ρ μ G H ∧ t x ρ μ Rp ∧ ExTo K W A G H x ∧
  ∀ ds μ' A' G' H' J, Rp ds μ' → Cells K A' μ' G' H' → Step A G H A' G' H' → Walk J ds.length (fun H => LeZ G' H) (YD K ds G') → R J H'
structure PXI (X : Cx) (W : WX) (tg iter : Expr) (ti : TXI) : Prop where
  ex : ∃ wi, PI X tg iter wi ∧ ∀ σ H R, liftI X.K W ti σ H R → wi σ H R
section
variable {X : Cx} {W : WX} {a b c e tg : Expr} {es : List Expr} {ta tb tc te : TX} {tL : TXA} {pos p tpos : Pos} {elts : List Expr} {kk : Nat}
def xiT (te : TX) : TXI := fun x ρ μ Q => te x ρ μ fun s μ1 => on (tupOf s) fun l => Q l μ1
def xiL (te : TX) : TXI := fun x ρ μ Q => te x ρ μ fun s μ1 => match s with
  | .d (.lst l) => Q l μ1
  | _ => False
theorem pxi_tup (he : PX X W e te) : PXI X W tg e (xiT te) := by
  refine ⟨_, pi_tup he.pe, fun σ H R h => ?_⟩
  obtain ⟨A, ρ, μ, G, Rp, x, S, ht, hx, k⟩ := h
  refine ⟨A, ρ, μ, G, _, x, S, ht, hx, fun s μ1 A1 G1 H1 v q c1 s1 r1 => ?_⟩
  obtain ⟨l, e, q⟩ := on_of q
  match s, e, r1 with
  | .d (.tup l'), e, r1 =>
    cases e
    obtain ⟨a, us, rfl, h1, h2⟩ := Reps.sq r1
    refine ⟨a, rfl, ⟨us, c1.le.sqT h1⟩, k _ _ _ _ _ _ q c1 s1 ?_⟩
    rw [h2.length]
    refine walk_tup.mono (fun H' z => z.sqT h1) fun i H0 x H' hi _ y G2 g2 _ => ?_
    obtain ⟨d, e1, r⟩ := h2.get y.2
    exact ⟨d, e1, .inl ⟨y.1, r.mono g2⟩⟩
  | .d (.ntp l'), e, r1 =>
    cases e
    obtain ⟨a, us, rfl, h1, h2⟩ := Reps.sqn r1
    refine ⟨a, rfl, ⟨us, c1.le.sqT h1⟩, k _ _ _ _ _ _ q c1 s1 ?_⟩
    rw [h2.length]
    refine walk_tup.mono (fun H' z => z.sqT h1) fun i H0 x H' hi _ y G2 g2 _ => ?_
    obtain ⟨d, e1, r⟩ := h2.get y.2
    exact ⟨d, e1, .inl ⟨y.1, r.mono g2⟩⟩
theorem pxi_lst (he : PX X W e te) : PXI X W tg e (xiL te) := by
  refine ⟨_, pi_list he.pe, fun σ H R h => ?_⟩
  obtain ⟨A, ρ, μ, G, Rp, x, S, ht, hx, k⟩ := h
  refine ⟨A, ρ, μ, G, _, x, S, ht, hx, fun s μ1 A1 G1 H1 v q c1 s1 r1 => ?_⟩
  match s, q, r1 with
  | .d (.lst l'), q, r1 =>
    obtain ⟨a, us, rfl, h1, h2⟩ := Reps.sql r1
    refine ⟨a, rfl, ⟨us, SqL.of (c1.le _ _ h1)⟩, k _ _ _ _ _ _ q c1 s1 ?_⟩
    rw [h2.length]
    refine walk_list.mono (fun H' z => SqL.of (z.same h1 rfl)) fun i H0 x H' hi _ y G2 g2 _ => ?_
    obtain ⟨d, e1, r⟩ := h2.get y.2
    exact ⟨d, e1, .inl ⟨y.1, r.mono g2⟩⟩
/-- lo, lo + 1, .. -/
def rngD (lo : Int) (n : Nat) : List D := (List.range n).map fun i => .int (lo + (i : Nat))
theorem walk_rngD {K : PySem.W.Frag} {lo : Int} {n : Nat} {G : Hp} : Walk (Itr lo n) (rngD lo n).length (fun H => LeZ G H) (YD K (rngD lo n) G) := by
  have hl : (rngD lo n).length = n := by simp [rngD]
  rw [hl]
  refine walk_range.mono (fun _ _ => trivial) fun i H0 x H' hi _ y G2 g2 _ => ?_
  obtain ⟨e1, e2⟩ := y
  subst e2
  exact ⟨.int (lo + i), by simp [rngD, hi], .inl ⟨e1, .int _⟩⟩
def xiR1 (t : TXA) : TXI := fun x ρ μ Q => t x ρ μ fun ss μ1 => match ss with
  | [.d (.int j)] => (-(2 ^ 62) ≤ j ∧ j < 2 ^ 62) ∧ Q (rngD 0 j.toNat) μ1
  | _ => False
def xiR2 (t : TXA) : TXI := fun x ρ μ Q => t x ρ μ fun ss μ1 => match ss with
  | [.d (.int i), .d (.int j)] => (-(2 ^ 62) ≤ i ∧ i < 2 ^ 62 ∧ -(2 ^ 62) ≤ j ∧ j < 2 ^ 62) ∧ Q (rngD i (j - i).toNat) μ1
  | _ => False
theorem pxi_range1 (hg : Gl X "range") (hm : X.mg "range" = none) (ha : PXA X W [a] tL) (hs : starEach [a] X.env = [(false, eval a X.env)] := by rfl) : PXI X W tg (.Call (.Name "range" p) [a] [] pos) (xiR1 tL) := by
  refine ⟨_, pi_range1 hg hm ha.pa hs, fun σ H R h => ?_⟩
  obtain ⟨A, ρ, μ, G, Rp, x, S, ht, hx, k⟩ := h
  refine ⟨A, ρ, μ, G, _, x, S, ht, hx, fun ss μ1 A1 G1 H1 vs q c1 s1 r1 => ?_⟩
  match ss, q, r1 with
  | [.d (.int j)], ⟨⟨h1, h2⟩, q⟩, .cons r .nil => cases r; exact ⟨j, rfl, h1, h2, k _ _ _ _ _ _ q c1 s1 walk_rngD⟩
theorem pxi_range2 (hg : Gl X "range") (hm : X.mg "range" = none) (ha : PXA X W [a, b] tL) (hs : starEach [a, b] X.env = [(false, eval a X.env), (false, eval b X.env)] := by rfl) (hs2 : starEach [b] X.env = [(false, eval b X.env)] := by rfl) : PXI X W tg (.Call (.Name "range" p) [a, b] [] pos) (xiR2 tL) := by
  refine ⟨_, pi_range2 hg hm ha.pa hs hs2, fun σ H R h => ?_⟩
  obtain ⟨A, ρ, μ, G, Rp, x, S, ht, hx, k⟩ := h
  refine ⟨A, ρ, μ, G, _, x, S, ht, hx, fun ss μ1 A1 G1 H1 vs q c1 s1 r1 => ?_⟩
  match ss, q, r1 with
  | [.d (.int i), .d (.int j)], ⟨hb, q⟩, .cons r (.cons r' .nil) => cases r; cases r'; exact ⟨i, j, rfl, hb, k _ _ _ _ _ _ q c1 s1 walk_rngD⟩
/-- (0, d), (1, e), .. -/
def enumD (l : List D) : List D := l.mapIdx fun i d => .tup [.int (i : Nat), d]
theorem yd_pair {K : PySem.W.Frag} {G1 : Hp} {x y : V} {d e : D} {H H' : Hp} {v : V} {ds : List D} {i : Nat} (hd : ds[i]? = some (.tup [d, e])) (r1 : Rep K G1 d x) (r2 : Rep K G1 e y) (h : ∃ T, v = .ref T ∧ H T = none ∧ H' = upd H T (.tup [x, y])) :
    ∃ d, ds[i]? = some d ∧ ((H' = H ∧ Rep K G1 d v) ∨ (∃ (T : Addr) (vs : List V) (l : List D), v = .ref T ∧ H T = none ∧ H' = upd H T (.tup vs) ∧ d = .tup l ∧ Reps K G1 l vs) ∨ ∃ (T : Addr) (vs : List V) (l : List D), v = .ref T ∧ H T = some (.tup vs) ∧ H' = H ∧ d = .tup l ∧ Reps K G1 l vs) := by
  obtain ⟨T, h1, h2, h3⟩ := h
  exact ⟨_, hd, .inr (.inl ⟨T, [x, y], [d, e], h1, h2, h3, rfl, .cons r1 (.cons r2 .nil)⟩)⟩
def xiEnT (t : TXA) : TXI := fun x ρ μ Q => t x ρ μ fun ss μ1 => match ss with
  | [.d (.tup l)] => Q (enumD l) μ1
  | _ => False
def xiEnL (t : TXA) : TXI := fun x ρ μ Q => t x ρ μ fun ss μ1 => match ss with
  | [.d (.lst l)] => Q (enumD l) μ1
  | _ => False
theorem pxi_enumT (hg : Gl X "enumerate") (hm : X.mg "enumerate" = none) (ha : PXA X W [e] tL) (hs : starEach [e] X.env = [(false, eval e X.env)] := by rfl) : PXI X W (.Tuple elts kk tpos) (.Call (.Name "enumerate" p) [e] [] pos) (xiEnT tL) := by
  refine ⟨_, pi_enumT hg hm ha.pa hs, fun σ H R h => ?_⟩
  obtain ⟨A, ρ, μ, G, Rp, x, S, ht, hx, k⟩ := h
  refine ⟨A, ρ, μ, G, _, x, S, ht, hx, fun ss μ1 A1 G1 H1 vs q c1 s1 r1 => ?_⟩
  match ss, q, r1 with
  | [.d (.tup l)], q, .cons r .nil =>
    obtain ⟨a, us, rfl, h1, h2⟩ := Reps.sq r
    refine ⟨a, us, rfl, c1.le.sqT h1, k _ _ _ _ _ _ q c1 s1 ?_⟩
    have hl : (enumD l).length = us.length := by simp [enumD, h2.length]
    rw [hl]
    refine ⟨fun i H hi q => ⟨us, us[i], q.sqT h1, by simp [hi]⟩, fun _ q => ⟨us, q.sqT h1, rfl⟩, fun i H v H' hi q y G2 g2 _ => ?_⟩
    obtain ⟨T, x, e1, e2, e3, e4⟩ := y
    obtain ⟨d, ed, r⟩ := h2.get (e4 us (q.sqT h1))
    exact yd_pair (d := .int (i : Nat)) (e := d) (by simp [enumD, ed]) (.int _) (r.mono g2) ⟨T, e1, e2, e3⟩
theorem pxi_enumL (hg : Gl X "enumerate") (hm : X.mg "enumerate" = none) (ha : PXA X W [e] tL) (hs : starEach [e] X.env = [(false, eval e X.env)] := by rfl) : PXI X W (.Tuple elts kk tpos) (.Call (.Name "enumerate" p) [e] [] pos) (xiEnL tL) := by
  refine ⟨_, pi_enum hg hm ha.pa hs, fun σ H R h => ?_⟩
  obtain ⟨A, ρ, μ, G, Rp, x, S, ht, hx, k⟩ := h
  refine ⟨A, ρ, μ, G, _, x, S, ht, hx, fun ss μ1 A1 G1 H1 vs q c1 s1 r1 => ?_⟩
  match ss, q, r1 with
  | [.d (.lst l)], q, .cons r .nil =>
    obtain ⟨a, us, rfl, h1, h2⟩ := Reps.sql r
    refine ⟨a, us, rfl, SqL.of (c1.le _ _ h1), k _ _ _ _ _ _ q c1 s1 ?_⟩
    have hl : (enumD l).length = us.length := by simp [enumD, h2.length]
    rw [hl]
    refine walk_enum.mono (fun H z => SqL.of (z.same h1 rfl)) fun i H v H' hi q y G2 g2 _ => ?_
    obtain ⟨T, x, y', e1, e2, e3, e4, e5⟩ := y
    cases e4
    obtain ⟨d, ed, r⟩ := h2.get e5
    exact yd_pair (d := .int (i : Nat)) (e := d) (by simp [enumD, ed]) (.int _) (r.mono g2) ⟨T, e1, e2, e3⟩
def zipD (l m : List D) : List D := List.zipWith (fun a b => .tup [a, b]) l m
def xiZipT (t : TXA) : TXI := fun x ρ μ Q => t x ρ μ fun ss μ1 => match ss with
  | [.d (.tup l), .d (.tup m)] => Q (zipD l m) μ1
  | _ => False
def xiZipL (t : TXA) : TXI := fun x ρ μ Q => t x ρ μ fun ss μ1 => match ss with
  | [.d (.lst l), .d (.lst m)] => Q (zipD l m) μ1
  | _ => False
theorem zipD_at {l m : List D} {i : Nat} {d e : D} (h1 : l[i]? = some d) (h2 : m[i]? = some e) : (zipD l m)[i]? = some (.tup [d, e]) := by
  unfold zipD
  rw [List.getElem?_zipWith, h1, h2]
theorem walk_zipT {K : PySem.W.Frag} {a b : Addr} {xs ys : List V} {n : Nat} (hn : n = min xs.length ys.length) : Walk (ItzT K a b) n (fun H => SqT K H a xs ∧ SqT K H b ys) (YPair (fun i => xs[i]?) (fun i => ys[i]?)) := by
  subst hn
  refine ⟨fun i _ hi q => ?_, fun _ q => ⟨xs, ys, q.1, q.2, by omega⟩, fun i H v H' _ q y => ?_⟩
  · have h1 : i < xs.length := by omega
    have h2 : i < ys.length := by omega
    exact ⟨xs, ys, xs[i], ys[i], q.1, q.2, by simp [h1], by simp [h2]⟩
  · obtain ⟨T, x, z, h1, h2, h3, h4, h5⟩ := y
    exact ⟨T, x, z, h1, h2, h3, h4 xs q.1, h5 ys q.2⟩
theorem pxi_zipT (hg : Gl X "zip") (hm : X.mg "zip" = none) (ha : PXA X W [a, b] tL) (hs : starEach [a, b] X.env = (false, eval a X.env) :: starEach [b] X.env := by rfl) (hpl : (backTo pos (starEach [b] X.env)).any (·.1) = false := by rfl) : PXI X W (.Tuple elts kk tpos) (.Call (.Name "zip" p) [a, b] [] pos) (xiZipT tL) := by
  refine ⟨_, pi_zipA hg hm ha.pa hs hpl, fun σ H R h => ?_⟩
  obtain ⟨A, ρ, μ, G, Rp, x, S, ht, hx, k⟩ := h
  refine ⟨A, ρ, μ, G, _, x, S, ht, hx, fun ss μ1 A1 G1 H1 vs q c1 s1 r1 => ?_⟩
  match ss, q, r1 with
  | [.d (.tup l), .d (.tup m)], q, .cons r (.cons r' .nil) =>
    obtain ⟨a, us, rfl, h1, h2⟩ := Reps.sq r
    obtain ⟨b, ws, rfl, h3, h4⟩ := Reps.sq r'
    refine ⟨a, b, us, ws, rfl, .inr ⟨c1.le.sqT h1, c1.le.sqT h3, k _ _ _ _ _ _ q c1 s1 ?_⟩⟩
    have hl : (zipD l m).length = min us.length ws.length := by simp [zipD, h2.length, h4.length]
    refine (walk_zipT hl).mono (fun H z => ⟨z.sqT h1, z.sqT h3⟩) fun i H v H' hi q y G2 g2 _ => ?_
    obtain ⟨T, x, y', e1, e2, e3, e4, e5⟩ := y
    obtain ⟨d, ed, r⟩ := h2.get e4
    obtain ⟨e, ee, r'⟩ := h4.get e5
    exact yd_pair (d := d) (e := e) (zipD_at ed ee) (r.mono g2) (r'.mono g2) ⟨T, e1, e2, e3⟩
theorem pxi_zipL (hg : Gl X "zip") (hm : X.mg "zip" = none) (ha : PXA X W [a, b] tL) (hs : starEach [a, b] X.env = (false, eval a X.env) :: starEach [b] X.env := by rfl) (hpl : (backTo pos (starEach [b] X.env)).any (·.1) = false := by rfl) : PXI X W (.Tuple elts kk tpos) (.Call (.Name "zip" p) [a, b] [] pos) (xiZipL tL) := by
  refine ⟨_, pi_zipA hg hm ha.pa hs hpl, fun σ H R h => ?_⟩
  obtain ⟨A, ρ, μ, G, Rp, x, S, ht, hx, k⟩ := h
  refine ⟨A, ρ, μ, G, _, x, S, ht, hx, fun ss μ1 A1 G1 H1 vs q c1 s1 r1 => ?_⟩
  match ss, q, r1 with
  | [.d (.lst l), .d (.lst m)], q, .cons r (.cons r' .nil) =>
    obtain ⟨a, us, rfl, h1, h2⟩ := Reps.sql r
    obtain ⟨b, ws, rfl, h3, h4⟩ := Reps.sql r'
    refine ⟨a, b, us, ws, rfl, .inl ⟨SqL.of (c1.le _ _ h1), SqL.of (c1.le _ _ h3), k _ _ _ _ _ _ q c1 s1 ?_⟩⟩
    have hl : (zipD l m).length = min us.length ws.length := by simp [zipD, h2.length, h4.length]
    refine (walk_zip hl).mono (fun H z => ⟨SqL.of (z.same h1 rfl), SqL.of (z.same h3 rfl)⟩) fun i H v H' hi q y G2 g2 _ => ?_
    obtain ⟨T, x, y', e1, e2, e3, e4, e5⟩ := y
    obtain ⟨d, ed, r⟩ := h2.get e4
    obtain ⟨e, ee, r'⟩ := h4.get e5
    exact yd_pair (d := d) (e := e) (zipD_at ed ee) (r.mono g2) (r'.mono g2) ⟨T, e1, e2, e3⟩
def strD (z : Str) : List D := z.cps.toList.map fun c => .str ⟨#[c]⟩
def xiS (te : TX) : TXI := fun x ρ μ Q => te x ρ μ fun s μ1 => match s with
  | .d (.str z) => Q (strD z) μ1
  | _ => False
theorem pxi_str (he : PX X W e te) : PXI X W tg e (xiS te) := by
  refine ⟨_, pi_str he.pe, fun σ H R h => ?_⟩
  obtain ⟨A, ρ, μ, G, Rp, x, S, ht, hx, k⟩ := h
  refine ⟨A, ρ, μ, G, _, x, S, ht, hx, fun s μ1 A1 G1 H1 v q c1 s1 r1 => ?_⟩
  match s, q, r1 with
  | .d (.str z), q, r1 =>
    cases r1
    refine ⟨z, rfl, k _ _ _ _ _ _ q c1 s1 ?_⟩
    have hl : (strD z).length = z.cps.size := by simp [strD]
    rw [hl]
    refine walk_str.mono (fun _ _ => trivial) fun i H v H' hi q y G2 g2 _ => ?_
    obtain ⟨e1, c, e2, rfl⟩ := y
    have e3 : z.cps.toList[i]? = some c := by rw [Array.getElem?_toList]; exact e2
    exact ⟨.str ⟨#[c]⟩, by simp only [strD, List.getElem?_map, e3, Option.map_some], .inl ⟨e1, .str _⟩⟩

/-! ### for -/
variable {own : List Nat} {tA : TXT} {g : TXG} {t : TXS} {ti : TXI} {iter : Expr} {body : List Stmt}
def xFor (ti : TXI) (g : TXG) (tb : TXS) : TXS := fun E ρ μ => ti E.ex ρ μ fun ds μ1 => ∃ I : Nat → Env' → Mem → Prop, I 0 ρ μ1 ∧
  (∀ i d ρ μ, ds[i]? = some d → I i ρ μ → g E.ex (.d d) ρ μ fun ρ2 μ2 => tb { E with nx := I (i + 1), ct := I (i + 1), bk := E.nx } ρ2 μ2) ∧ ∀ ρ μ, I ds.length ρ μ → E.nx ρ μ
/-- what a turn begins with -/
theorem yd_begin {K : PySem.W.Frag} {ds : List D} {G0 G H H' : Hp} {A : List Addr} {μ : Mem} {i : Nat} {x : V} (le : LeZ G0 G) (c : Cells K A μ G H) (y : YD K ds G0 i H x H') :
    ∃ d G', ds[i]? = some d ∧ Rep K G' d x ∧ Cells K A μ G' H' ∧ Step A G H A G' H' := by
  obtain ⟨d, e, h⟩ := y G le c.le
  rcases h with ⟨rfl, r⟩ | ⟨T, vs, l, rfl, h1, rfl, rfl, r⟩ | ⟨T, vs, l, rfl, h1, rfl, rfl, r⟩
  · exact ⟨d, G, e, r, c, .refl⟩
  · obtain ⟨c2, s2⟩ := c.laid (o := .tup vs) h1
    exact ⟨_, _, e, Rep.tup upd_same (r.mono s2.le), c2, s2⟩
  · have lg : Le G (upd G T (.tup vs)) := fun a o e => by
      by_cases z : a = T
      · subst z; rw [c.le a o e] at h1; rw [upd_same, ← h1]
      · rw [upd_ne z]; exact e
    refine ⟨_, upd G T (.tup vs), e, Rep.tup upd_same (r.mono lg.z), ⟨fun a o e => ?_, c.len, c.nd, fun a ha => ?_, fun k a cl e1 e2 => (c.ok k a cl e1 e2).mono (List.prefix_refl _) lg.z rfl⟩, ⟨List.prefix_refl _, lg.z, fun _ _ h _ => .inl h, fun a h => ?_, fun _ _ h => .inr h, fun _ h => .inl h, fun _ h => h⟩⟩
    · by_cases z : a = T
      · subst z; rw [upd_same] at e; rw [h1]; exact e
      · rw [upd_ne z] at e; exact c.le a o e
    · refine (upd_ne fun z => ?_).trans (c.free a ha)
      obtain ⟨k, hk⟩ := List.mem_iff_getElem?.mp ha
      have hl : k < μ.length := by rw [← c.len]; exact (List.getElem?_eq_some_iff.mp hk).1
      exact (c.ok k a _ hk (List.getElem?_eq_getElem hl)).notup (by rw [z]; exact h1)
    · by_cases z : a = T
      · subst z; exact .inr (.inr ⟨vs, h1⟩)
      · rw [upd_ne z] at h; exact .inl h
theorem psx_for (hp : PassesOwn (model X.prog X.w) X.A X.env X.xe) (hc : X.calm = true) (hi : PXI X W tg iter ti) (hg : PXG X W own tg g) (hb : PXSs X W body t)
    (hs : ∀ x, foldedSetIterable iter X.env x = pure x := by intro _; rfl) : PXS X W (.For tg iter body [] pos) (xFor ti g t) := by
  obtain ⟨wi, hpi, hti⟩ := hi.ex
  refine ⟨(ps_for hp hc hpi hg.pg hb.ps hs).imp fun D σ H h => ?_⟩
  obtain ⟨A, ρ, μ, G, E, S, ht, k⟩ := h
  refine hti _ _ _ ⟨A, ρ, μ, G, _, _, S, ht, k.ex, fun ds μ1 A1 G1 H1 J q c1 s1 w => ?_⟩
  obtain ⟨I, i0, turn, done⟩ := q
  refine for_it w (fun i σ H => ∃ A' ρ' μ' G', I i ρ' μ' ∧ Sim X.K A' σ ρ' μ' G' H ∧ Step A1 G1 H1 A' G' H) ⟨A1, ρ, μ1, G1, i0, S.after s1 c1, .refl⟩ (fun i σ H _ ⟨A', ρ', μ', G', _, S', s'⟩ => s'.le.trans S'.le.z) ?_ ?_
  · rintro i x σ2 H2 H3 hi ⟨A2, ρ2, μ2, G2, i2, S2, s2⟩ y
    obtain ⟨d, G3, e, r, c3, s3⟩ := yd_begin s2.le S2.toCells y
    have s23 := s2.trans s3
    have s13 := s1.trans s23
    refine ⟨A2, ρ2, μ2, G3, .d d, _, _, S2.after s3 c3, r, turn i d ρ2 μ2 e i2, k.ex.after s13, fun ρ4 μ4 A4 σ4 G4 H4 q4 S4 s4 _ => ?_⟩
    have s14 := s13.trans s4
    refine ⟨A4, ρ4, μ4, G4, _, S4, q4, ?_⟩
    have fin : ∀ ρ' μ' A' σ' G' H', I (i + 1) ρ' μ' → Sim X.K A' σ' ρ' μ' G' H' → Step A4 G4 H4 A' G' H' → ∃ A'' ρ' μ' G', I (i + 1) ρ' μ' ∧ Sim X.K A'' σ' ρ' μ' G' H' ∧ Step A1 G1 H1 A'' G' H' := fun ρ' μ' A' σ' G' H' q' S' s' => ⟨A', ρ', μ', G', q', S', (s23.trans s4).trans s'⟩
    exact ⟨fin, fun ρ' μ' A' σ' G' H' q' S' s' => k.nx _ _ _ _ _ _ q' S' (s14.trans s'), fin, (k.after s14).rt, (k.after s14).ex⟩
  · rintro σ2 H2 ⟨A2, ρ2, μ2, G2, i2, S2, s2⟩
    exact k.nx _ _ _ _ _ _ (done _ _ i2) S2 (s1.trans s2)

/-! ### list comprehensions -/
def wipeP (ρ : Env') : List Nat → Env'
  | [] => ρ
  | v :: vs => (wipeP ρ vs).set v .un
theorem Sim.wipe {K : PySem.W.Frag} {A : List Addr} {σ : L2.St} {ρ : Env'} {μ : Mem} {G H : Hp} (S : Sim K A σ ρ μ G H) : ∀ vs : List Nat, Sim K A (L2.wipe σ vs) (wipeP ρ vs) μ G H
  | [] => S
  | v :: vs => by
    have S' := Sim.wipe S vs
    refine ⟨S'.toCells, by unfold L2.wipe wipeP; simp [Env'.set, S'.sl], fun j hj => ?_⟩
    have hl : j < (wipeP ρ vs).n := hj
    unfold L2.wipe
    by_cases h : j = v
    · subst h
      refine ⟨none, by rw [List.getElem?_set_self (by rw [← S'.sl]; exact hl)], ?_⟩
      show SlotOk K A G (if j = j then SV.un else _) _
      rw [if_pos rfl]; trivial
    · obtain ⟨o, e1, q⟩ := S'.at_ j hl
      refine ⟨o, by rw [List.getElem?_set_ne (Ne.symm h)]; exact e1, ?_⟩
      show SlotOk K A G (if j = v then SV.un else _) _
      rw [if_neg h]; exact q
structure PXTs (X : Cx) (W : WX) (ifs : List Expr) (t : TXT) : Prop where
  pt : PTs X ifs (liftT X.K W t)
theorem _root_.L2.PTs.imp {X : Cx} {e : List Expr} {t t' : TT} (h : PTs X e t) (i : ∀ σ H Q, t' σ H Q → t σ H Q) : PTs X e t' := ⟨fun pins s σ H Q I q => h.run pins s σ H Q I (i _ _ _ q)⟩
def xYes : TXT := fun _ _ μ Q => Q true μ
theorem pxts_nil : PXTs X W [] xYes := by
  refine ⟨pts_nil.imp fun σ H Q h => ?_⟩
  obtain ⟨A, ρ, μ, G, Qp, x, S, ht, hx, k⟩ := h
  exact k _ _ _ _ _ ht S.toCells .refl
theorem pxts_one {c : Expr} (h : PXT X W c tA) : PXTs X W [c] tA := ⟨pts_one h.pt⟩
/-- nothing is raised within -/
abbrev wF : WX := fun _ _ _ _ => False
abbrev xF : XP := fun _ _ _ => False
theorem exF {K : PySem.W.Frag} {A : List Addr} {G H : Hp} : ExTo K wF A G H xF := fun _ _ _ _ _ _ _ _ h _ _ _ => h
/-- targets touch their own slots alone: shown at each reading -/
def xLc (ti : TXI) (g : TXG) (tt : TXT) (te : TX) (vs : List Nat) (fin : List D → Mem → VP → Prop) : TX := fun x ρ μ Q => ti x ρ μ fun ds μ1 => ds.length ≤ sizeLine ∧ ∃ I : Nat → List D → Mem → Prop, I 0 [] μ1 ∧
  (∀ i d acc μ, ds[i]? = some d → I i acc μ → g xF (.d d) (wipeP ρ vs) μ fun ρ2 μ2 => tt xF ρ2 μ2 fun b μ3 => Br b (te xF ρ2 μ3 fun s μ4 => match s with
    | .d y => I (i + 1) (acc ++ [y]) μ4
    | _ => False) (I (i + 1) acc μ3)) ∧ ∀ acc μ, I ds.length acc μ → fin acc μ Q
def finL : List D → Mem → VP → Prop := fun acc μ Q => Q (.d (.lst acc)) μ
def finC : List D → Mem → VP → Prop := fun acc μ Q => Q (.c μ.length) (μ ++ [.lst acc])
/-- the comprehension's loop -/
theorem lc_turns {K : PySem.W.Frag} {ds : List D} {J : It} {A1 : List Addr} {G1 H1 : Hp} {σ : L2.St} {ρ : Env'} {μ1 : Mem} {tt : TXT} {te : TX} {vs : List Nat} {Q : Hp → Prop} {Dd : Addr} (S : Sim K A1 σ ρ μ1 G1 H1) (hD : H1 Dd = none)
    (w : Walk J ds.length (fun H => LeZ G1 H) (YD K ds G1)) (hz : ds.length ≤ sizeLine) {I : Nat → List D → Mem → Prop} (i0 : I 0 [] μ1)
    (turn : ∀ i d acc μ, ds[i]? = some d → I i acc μ → g xF (.d d) (wipeP ρ vs) μ fun ρ2 μ2 => tt xF ρ2 μ2 fun b μ3 => Br b (te xF ρ2 μ3 fun s μ4 => match s with
      | .d y => I (i + 1) (acc ++ [y]) μ4
      | _ => False) (I (i + 1) acc μ3))
    (done : ∀ acc μ, I ds.length acc μ → ∀ A' G' H' ws, Cells K A' μ G' H' → Step A1 G1 H1 A' G' H' → H' Dd = some (.lst ws) → Reps K G' acc ws → Dd ∉ A' → G' Dd = none → Q H') :
    ∃ W : Nat → Nat → Hp → Prop, (∃ m, W 0 m (upd H1 Dd (.lst []))) ∧ ∀ i m H, W i m H →
      (J.stop i H ∧ Q H) ∨ (J.go i H ∧ ∃ Nx : Hp → Prop, (∀ H', Nx H' → ∃ m', m' < m ∧ W (i + 1) m' H') ∧ ∀ x H', J.yld i H x H' → liftG K wF vs g x (L2.wipe σ vs) H' fun σ2 H2 => L2.wipe σ2 vs = L2.wipe σ vs ∧ liftT K wF tt σ2 H2 fun b H3 =>
        if b = true then lift K wF te σ2 H3 fun y H4 => ∃ acc, H4 Dd = some (.lst acc) ∧ acc.length < sizeLine ∧ Nx (upd H4 Dd (.lst (acc ++ [y]))) else Nx H3) := by
  have wipe2 : ∀ σ : L2.St, L2.wipe (L2.wipe σ vs) vs = L2.wipe σ vs := fun σ => by
    refine List.ext_getElem? fun j => ?_
    have key : ∀ (τ : L2.St) (us : List Nat), (L2.wipe τ us)[j]? = if j ∈ us then (τ[j]?).map (fun _ => none) else τ[j]? := by
      intro τ us
      induction us with
      | nil => simp [L2.wipe]
      | cons v us ih =>
        unfold L2.wipe
        by_cases e : v = j
        · subst e
          by_cases hv : v < τ.length
          · rw [List.getElem?_set_self (by rw [L2.wipe_length]; exact hv)]
            simp [List.getElem?_eq_getElem hv]
          · rw [List.getElem?_eq_none (by simp [L2.wipe_length]; omega)]
            simp [List.getElem?_eq_none (Nat.le_of_not_lt hv)]
        · rw [List.getElem?_set_ne e, ih]
          have : (j ∈ v :: us) ↔ j ∈ us := by
            simp only [List.mem_cons]
            exact ⟨fun h => h.resolve_left fun q => e q.symm, .inr⟩
          simp only [this]
    rw [key, key]
    by_cases h : j ∈ vs
    · simp [h]
      cases σ[j]? <;> rfl
    · simp [h]
  refine lc_it w (σ := σ) (vs := vs) (Qd := Q) (g := liftG K wF vs g) (tt := liftT K wF tt) (te := lift K wF te) (fun i H => ∃ acc ws A' G' μ', I i acc μ' ∧ acc.length ≤ i ∧ Cells K A' μ' G' H ∧ Step A1 G1 H1 A' G' H ∧ H Dd = some (.lst ws) ∧ Reps K G' acc ws ∧ Dd ∉ A' ∧ G' Dd = none) ?_ (fun i H _ ⟨acc, ws, A', G', μ', _, _, c, s, _⟩ => s.le.trans c.le.z) ?_ ?_
  · have gn : G1 Dd = none := S.gnone hD
    have na : Dd ∉ A1 := fun z => S.ne_of_lt z hD rfl
    refine ⟨[], [], A1, G1, μ1, i0, Nat.zero_le _, ⟨fun a o e => ?_, S.len, S.nd, S.free, fun k a cl h1 h2 => ?_⟩, ⟨List.prefix_refl _, LeZ.refl _, fun a o e _ => .inl ?_, fun a e => .inl e, fun a xs e => ?_, fun a e => .inl e, fun a e => ?_⟩, upd_same, .nil, na, gn⟩
    · rw [upd_ne (ne_of_none e gn)]; exact S.le a o e
    · exact (S.ok k a cl h1 h2).mono (List.prefix_refl _) (LeZ.refl _) (upd_ne (S.ne_of_lt (List.mem_of_getElem? h1) hD))
    · rw [upd_ne (ne_of_none e hD)]; exact e
    · by_cases z : a = Dd
      · rw [z, upd_same] at e; cases e
      · rw [upd_ne z] at e; exact .inr e
    · by_cases z : a = Dd
      · rw [z, upd_same]; simp
      · rw [upd_ne z]; exact e
  · rintro i x H H' hi ⟨acc, ws, A2, G2, μ2, i2, hacc, c2, s2, hd, hr, na, gn⟩ y
    obtain ⟨d, G3, e, r, c3, s3⟩ := yd_begin s2.le c2 y
    have keepD : ∀ {A' : List Addr} {G' H' : Hp}, Step A2 G2 H A' G' H' → H' Dd = some (.lst ws) ∧ Dd ∉ A' ∧ G' Dd = none := fun {A' G' H'} st => by
      refine ⟨?_, fun z => ?_, ?_⟩
      · rcases st.keep _ _ hd na with q | ⟨q, _⟩
        · exact q
        · rw [gn] at q; cases q
      · rcases st.cells _ z with q | q
        · exact na q
        · rw [hd] at q; cases q
      · cases q : G' Dd with
        | none => rfl
        | some o =>
          rcases st.new Dd (by rw [q]; simp) with z | z | ⟨_, z⟩
          · exact absurd gn z
          · rw [hd] at z; cases z
          · rw [hd] at z; cases z
    have S3 : Sim K A2 (L2.wipe σ vs) (wipeP ρ vs) μ2 G3 H' := by
      have st := s2.trans s3
      exact (S.wipe vs).after st c3
    refine ⟨A2, _, μ2, G3, .d d, _, xF, S3, r, turn i d acc μ2 e i2, exF, fun ρ4 μ4 A4 σ4 G4 H4 q4 S4 s4 kp => ⟨Eq.trans kp (wipe2 σ), ?_⟩⟩
    refine ⟨A4, ρ4, μ4, G4, _, xF, S4, q4, exF, fun b μ5 A5 G5 H5 q5 c5 s5 => ?_⟩
    have s25 := (s3.trans s4).trans s5
    cases b with
    | false =>
      obtain ⟨h1, h2, h3⟩ := keepD s25
      exact ite_ff ⟨acc, ws, A5, G5, μ5, q5, by omega, c5, s2.trans s25, h1, hr.mono s25.le, h2, h3⟩
    | true =>
      refine ite_tt ⟨A5, ρ4, μ5, G5, _, xF, S4.after s5 c5, q5, exF, fun s μ6 A6 G6 H6 v q6 c6 s6 r6 => ?_⟩
      have s26 := s25.trans s6
      obtain ⟨h1, h2, h3⟩ := keepD s26
      match s, q6, r6 with
      | .d z, q6, r6 =>
        refine ⟨ws, h1, by rw [← hr.length]; omega, acc ++ [z], ws ++ [v], A6, G6, μ6, q6, by simp; omega, ?_, ?_, upd_same, (hr.mono s26.le).app (.cons r6 .nil), h2, h3⟩
        · refine ⟨fun a o e => ?_, c6.len, c6.nd, c6.free, fun k a cl e1 e2 => ?_⟩
          · rw [upd_ne (ne_of_none e h3)]; exact c6.le a o e
          · exact (c6.ok k a cl e1 e2).mono (List.prefix_refl _) (LeZ.refl _) (upd_ne fun q => h2 (by rw [← q]; exact List.mem_of_getElem? e1))
        · have st := s2.trans s26
          refine ⟨st.pre, st.le, fun a o e n => ?_, st.new, fun a xs e => ?_, st.cells, fun a e => ?_⟩
          · rw [upd_ne (ne_of_none e hD)]; exact st.keep a o e n
          · by_cases q : a = Dd
            · rw [q, upd_same] at e; cases e
            · rw [upd_ne q] at e; exact st.tups a xs e
          · by_cases q : a = Dd
            · rw [q, upd_same]; simp
            · rw [upd_ne q]; exact st.there a e
  · rintro H ⟨acc, ws, A2, G2, μ2, i2, _, c2, s2, hd, hr, na, gn⟩
    exact done acc μ2 i2 A2 G2 H ws c2 s2 hd hr na gn
theorem px_lc {elt : Expr} {ifs : List Expr} {scope : Scope} {own : List (Str × Nat)} {tt : TXT} (hc : X.calm = true) (hN : X.N.Nodup) (hi : PXI X W tg iter ti) (ok : BlkOk X.N X.env.scope scope own)
    (hg : ∀ (s : Shared) (H : Hp) (C : Addr) (cl : List (Str × Addr)) (fp : List Addr), PXG (X.blk s H scope (compEnvC scope cl C X.env) fp) wF (own.map (·.2)) tg g)
    (ht : ∀ (s : Shared) (H : Hp) (C : Addr) (cl : List (Str × Addr)) (fp : List Addr), PXTs (X.blk s H scope (compEnvC scope cl C X.env) fp) wF ifs tt)
    (he : ∀ (s : Shared) (H : Hp) (C : Addr) (cl : List (Str × Addr)) (fp : List Addr), PX (X.blk s H scope (compEnvC scope cl C X.env) fp) wF elt te) (hs : ∀ x, foldedSetIterable iter X.env x = pure x := by intro _; rfl) :
    PX X W (.ListComp elt [⟨tg, iter, ifs, 0⟩] scope pos) (xLc ti g tt te (own.map (·.2)) finL) := by
  obtain ⟨wi, hpi, hti⟩ := hi.ex
  refine ⟨(pe_lc (g := liftG X.K wF (own.map (·.2)) g) (tt := liftT X.K wF tt) (te := lift X.K wF te) hc hN hpi ok (fun s H C cl fp => (hg s H C cl fp).pg) (fun s H C cl fp => (ht s H C cl fp).pt) (fun s H C cl fp => (he s H C cl fp).pe) hs).imp fun σ H Q h => ?_⟩
  obtain ⟨A, ρ, μ, G, Qp, x, S, ht, hx, k⟩ := h
  refine hti _ _ _ ⟨A, ρ, μ, G, _, x, S, ht, hx, fun ds μ1 A1 G1 H1 J ⟨hz, I, i0, turn, done⟩ c1 s1 w Dd hD => ?_⟩
  refine lc_turns (S.after s1 c1) hD w hz i0 turn fun acc μ' i' A' G' H' ws c' s' hd hr na gn => ?_
  have q := done acc μ' i'
  have lg : LeZ G' (upd G' Dd (.lst ws)) := fun a o e => .inl (by rw [upd_ne (ne_of_none e gn)]; exact e)
  refine k (.d (.lst acc)) μ' A' (upd G' Dd (.lst ws)) H' (.ref Dd) q ⟨fun a o e => ?_, c'.len, c'.nd, fun a ha => ?_, fun j a cl e1 e2 => (c'.ok j a cl e1 e2).mono (List.prefix_refl _) lg rfl⟩ ?_ (Rep.lst upd_same (hr.mono lg))
  · by_cases z : a = Dd
    · rw [z] at e ⊢; rw [upd_same] at e; rw [hd]; exact e
    · rw [upd_ne z] at e; exact c'.le a o e
  · rw [upd_ne (fun z => na (by rw [← z]; exact ha))]; exact c'.free a ha
  · have st := s1.trans s'
    refine ⟨st.pre, st.le.trans lg, st.keep, fun a e => ?_, st.tups, st.cells, st.there⟩
    by_cases z : a = Dd
    · refine .inr (.inl ?_)
      cases q2 : H a with
      | none => rfl
      | some o => exact absurd (by rw [z]; exact hD) (s1.there a (by rw [q2]; simp))
    · rw [upd_ne z] at e; exact st.new a e
/-- a list of one's own -/
theorem px_lcC {elt : Expr} {ifs : List Expr} {scope : Scope} {own : List (Str × Nat)} {tt : TXT} (hc : X.calm = true) (hN : X.N.Nodup) (hi : PXI X W tg iter ti) (ok : BlkOk X.N X.env.scope scope own)
    (hg : ∀ (s : Shared) (H : Hp) (C : Addr) (cl : List (Str × Addr)) (fp : List Addr), PXG (X.blk s H scope (compEnvC scope cl C X.env) fp) wF (own.map (·.2)) tg g)
    (ht : ∀ (s : Shared) (H : Hp) (C : Addr) (cl : List (Str × Addr)) (fp : List Addr), PXTs (X.blk s H scope (compEnvC scope cl C X.env) fp) wF ifs tt)
    (he : ∀ (s : Shared) (H : Hp) (C : Addr) (cl : List (Str × Addr)) (fp : List Addr), PX (X.blk s H scope (compEnvC scope cl C X.env) fp) wF elt te) (hs : ∀ x, foldedSetIterable iter X.env x = pure x := by intro _; rfl) :
    PX X W (.ListComp elt [⟨tg, iter, ifs, 0⟩] scope pos) (xLc ti g tt te (own.map (·.2)) finC) := by
  obtain ⟨wi, hpi, hti⟩ := hi.ex
  refine ⟨(pe_lc (g := liftG X.K wF (own.map (·.2)) g) (tt := liftT X.K wF tt) (te := lift X.K wF te) hc hN hpi ok (fun s H C cl fp => (hg s H C cl fp).pg) (fun s H C cl fp => (ht s H C cl fp).pt) (fun s H C cl fp => (he s H C cl fp).pe) hs).imp fun σ H Q h => ?_⟩
  obtain ⟨A, ρ, μ, G, Qp, x, S, ht, hx, k⟩ := h
  refine hti _ _ _ ⟨A, ρ, μ, G, _, x, S, ht, hx, fun ds μ1 A1 G1 H1 J ⟨hz, I, i0, turn, done⟩ c1 s1 w Dd hD => ?_⟩
  refine lc_turns (S.after s1 c1) hD w hz i0 turn fun acc μ' i' A' G' H' ws c' s' hd hr na gn => ?_
  have q := done acc μ' i'
  have st := s1.trans s'
  refine k (.c μ'.length) (μ' ++ [.lst acc]) (A' ++ [Dd]) G' H' (.ref Dd) (show Qp (.c μ'.length) (μ' ++ [.lst acc]) from q) ⟨c'.le, by simp [c'.len], ?_, fun a ha => ?_, fun j a cl e1 e2 => ?_⟩ ⟨st.pre.trans (List.prefix_append _ _), st.le, st.keep, st.new, st.tups, fun a ha => ?_, st.there⟩ ⟨Dd, by rw [← c'.len]; simp, rfl⟩
  · refine List.nodup_append.mpr ⟨c'.nd, by simp, fun a ha b hb => ?_⟩
    simp at hb
    subst hb
    exact fun z => na (z ▸ ha)
  · rcases List.mem_append.mp ha with h | h
    · exact c'.free a h
    · simp at h; subst h; exact gn
  · rcases getElem?_append_one e1 with e1 | ⟨z1, z2⟩
    · have hk : j < μ'.length := by rw [← c'.len]; exact (List.getElem?_eq_some_iff.mp e1).1
      rw [List.getElem?_append_left hk] at e2
      exact (c'.ok j a cl e1 e2).mono (List.prefix_append _ _) (LeZ.refl _) rfl
    · subst z2
      rw [z1, c'.len, List.getElem?_append_right (Nat.le_refl _)] at e2
      simp at e2
      subst e2
      exact ⟨ws, hd, hr⟩
  · rcases List.mem_append.mp ha with h | h
    · exact st.cells a h
    · simp at h
      subst h
      refine .inr ?_
      cases q2 : H a with
      | none => rfl
      | some o => exact absurd hD (s1.there a (by rw [q2]; simp))
end
end PL
/-! The P-layer: what a def promises; calls of defs. -/
namespace PL
open PySem PySem.Spec PyProof.Rows L2
/-- a def's promise: the arguments (cells by their places among the handed-in cells), the handed-in cells, the wanted end -/
abbrev PSp := XP → List SV → Mem → VP → Prop
def low (K : PySem.W.Frag) (p : PSp) : Sp := fun vs H Q E => ∃ A as μ G Qp x, Cells K A μ G H ∧ RepsS K A G as vs ∧ p x as μ Qp ∧
  (∀ C fs μ' A' G' H' d, x C fs μ' → Cells K A' μ' G' H' → Step A G H A' G' H' → ExOk K G' H' fs d → E (.ref (He.ga K C)) d H') ∧
  ∀ r μ' A' G' H' v, Qp r μ' → Cells K A' μ' G' H' → Step A G H A' G' H' → RepS K A' G' r v → Q v H'
def startP (n : Nat) (as : List SV) : Env' := ⟨as.length + (n - as.length), fun i => as.getD i .un⟩
theorem sim_start {K : PySem.W.Frag} {A : List Addr} {as : List SV} {vs : List V} {μ : Mem} {G H : Hp} {N : List Str} (c : Cells K A μ G H) (r : RepsS K A G as vs) : Sim K A (L2.start N vs) (startP N.length as) μ G H where
  toCells := c
  sl := by simp [startP, L2.start, r.length]
  at_ := by
    have key : ∀ (as : List SV) (vs : List V) (n m : Nat), RepsS K A G as vs → n = m → ∀ (i : Nat) (s : SV), (as ++ List.replicate n .un)[i]? = some s → ∃ o, (vs.map some ++ List.replicate m none)[i]? = some o ∧ SlotOk K A G s o := by
      intro as
      induction as with
      | nil =>
        intro vs n m r e i s h
        cases r
        subst e
        simp only [List.nil_append, List.map_nil] at h ⊢
        obtain ⟨hi, e⟩ := List.getElem?_eq_some_iff.mp h
        simp at hi e
        subst e
        exact ⟨none, by simp [hi], trivial⟩
      | cons a as ih =>
        intro vs n m r e i s h
        cases r with
        | @cons _ v _ us r1 r2 =>
          cases i with
          | zero =>
            simp at h
            subst h
            refine ⟨some v, by simp, ?_⟩
            cases a with
            | un => trivial
            | d x => exact ⟨v, rfl, r1⟩
            | c k => exact ⟨v, rfl, r1⟩
          | succ i => simpa using ih us n m r2 e i s (by simpa using h)
    intro i hi
    have hi : i < as.length + (N.length - as.length) := hi
    refine key as vs (N.length - as.length) _ r (by rw [r.length]) i _ ?_
    show (as ++ List.replicate (N.length - as.length) SV.un)[i]? = some (as.getD i .un)
    by_cases h : i < as.length
    · rw [List.getElem?_append_left h, List.getD_eq_getElem?_getD, List.getElem?_eq_getElem h]; rfl
    · rw [List.getElem?_append_right (by omega), List.getD_eq_getElem?_getD, List.getElem?_eq_none (by omega : as.length ≤ i), List.getElem?_replicate, if_pos (by omega)]; rfl
section
variable {P : Program} {w : World} {K : PySem.W.Frag} {mg : Str → Option Value} {base : Heap}
/-- THE RULE for a def -/
theorem fn_p {x qual : Str} {st : Stmt} {f : Addr} {fd : FuncData} {N ps : List Str} {k : Nat} {p : PSp} {t : TXS} (F : Fun K x qual st f fd) (S : FnScope N ps (defScope st)) (len : ∀ x as μ Q, p x as μ Q → as.length = ps.length)
    (hp : ∀ x as μ Q, p x as μ Q → t { nx := fun _ μ => Q (.d .non) μ, rt := Q, ex := x } (startP N.length as) μ)
    (hb : ∀ (cdv : Value) (A : Around) (outer : List Env) (s : Shared) (H : Hp) (E : XK), Room k (A.deeper (envOfC qual (defScope st) s.heap.objs.size f cdv)) →
      PXSs (cxOf (L2.CX P w) P w K mg base N qual (defScope st) f cdv A outer s H E) (fun cls d _ H => E cls d H) (defBody st) t) :
    FnOk P w K mg base (L2.CX P w) (k + 1) f fd ps (low K p) := by
  refine F.okX S (fun vs H Q E h => ?_) fun cdv A outer s H vs Q E hr h => ?_
  · obtain ⟨A, as, μ, G, Qp, x, c, r, hq, _⟩ := h
    rw [← r.length]
    exact len _ _ _ _ hq
  · obtain ⟨A', as, μ, G, Qp, x, c, r, hq, hx, hk⟩ := h
    refine ⟨_, (hb cdv A outer s H E hr).ps, A', startP N.length as, μ, G, _, sim_start c r, hp _ _ _ _ hq, ?_⟩
    refine ⟨fun ρ' μ' A2 σ' G' H' q S' s' => hk _ _ _ _ _ _ q S'.toCells s' .non, fun _ _ _ _ _ _ q => q.elim, fun _ _ _ _ _ _ q => q.elim, fun r μ' A2 G' H' v q c' s' r' => hk _ _ _ _ _ _ q c' s' r', ?_⟩
    exact fun C fs μ' A2 G' H' d σ q c' s' e => hx C fs μ' A2 G' H' d q c' s' e
end

/-! ### calls -/
def cellsOf : List SV → List Nat
  | [] => []
  | .c k :: r => k :: cellsOf r
  | _ :: r => cellsOf r
def relab (n : Nat) : List SV → List SV
  | [] => []
  | .c _ :: r => .c n :: relab (n + 1) r
  | s :: r => s :: relab n r
def nocell : Cell := .lst []
def picked (μ : Mem) (ks : List Nat) : Mem := ks.map fun k => μ.getD k nocell
def merge : Mem → List Nat → Mem → Mem
  | μ, [], _ => μ
  | μ, _ :: _, [] => μ
  | μ, k :: ks, c :: cs => merge (μ.set k c) ks cs
termination_by structural _ ks => ks
theorem merge_length : ∀ (ks : List Nat) (μ cs : Mem), (merge μ ks cs).length = μ.length
  | [], μ, cs => by cases cs <;> rfl
  | k :: ks, μ, [] => rfl
  | k :: ks, μ, c :: cs => by
    show (merge (μ.set k c) ks cs).length = _
    rw [merge_length ks, List.length_set]
theorem merge_out : ∀ (ks : List Nat) (μ cs : Mem) (j : Nat), j ∉ ks → (merge μ ks cs)[j]? = μ[j]?
  | [], μ, cs, j, _ => by cases cs <;> rfl
  | k :: ks, μ, [], j, _ => rfl
  | k :: ks, μ, c :: cs, j, h => by
    show (merge (μ.set k c) ks cs)[j]? = _
    rw [merge_out ks _ _ _ (fun z => h (List.mem_cons_of_mem _ z)), List.getElem?_set_ne (fun e => h (by rw [e]; exact List.mem_cons_self))]
theorem merge_in : ∀ (ks : List Nat) (μ cs : Mem) (i j : Nat), ks.Nodup → ks[i]? = some j → i < cs.length → j < μ.length → (merge μ ks cs)[j]? = cs[i]?
  | [], _, _, _, _, _, h, _, _ => by simp at h
  | k :: ks, μ, [], i, j, _, _, h, _ => by simp at h
  | k :: ks, μ, c :: cs, 0, j, nd, h, _, hj => by
    simp at h
    subst h
    show (merge (μ.set k c) ks cs)[k]? = _
    rw [merge_out ks _ _ _ (List.nodup_cons.mp nd).1, List.getElem?_set_self hj]
    rfl
  | k :: ks, μ, c :: cs, i + 1, j, nd, h, hl, hj => by
    show (merge (μ.set k c) ks cs)[j]? = _
    rw [merge_in ks _ _ i j (List.nodup_cons.mp nd).2 (by simpa using h) (by simpa using hl) (by simpa using hj)]
    simp
/-- a call of a def that promises p -/
def ndP (ks : List Nat) (A : Prop) : Prop := match ks with
  | [] => A
  | [_] => A
  | ks => ks.Nodup ∧ A
theorem ndP_of {ks : List Nat} {A : Prop} (h : ndP ks A) : ks.Nodup ∧ A := by
  match ks, h with
  | [], h => exact ⟨List.nodup_nil, h⟩
  | [_], h => exact ⟨by simp, h⟩
  | _ :: _ :: _, h => exact h
/-- what a call takes and gives back are cells without cells -/
def flP (cs : Mem) (A : Prop) : Prop := match cs with
  | [] => A
  | c :: cs => flat1 c = true ∧ flP cs A
theorem flP_of {A : Prop} : ∀ {cs : Mem}, flP cs A → (∀ c ∈ cs, flat1 c = true) ∧ A
  | [], h => ⟨fun c hc => by simp at hc, h⟩
  | c :: cs, h => by
    obtain ⟨h1, h2⟩ := h
    obtain ⟨h3, h4⟩ := flP_of h2
    exact ⟨fun d hd => (List.mem_cons.mp hd).elim (fun e => by rw [e]; exact h1) (h3 d), h4⟩
def callP (p : PSp) (x : XP) (ss : List SV) (μ : Mem) (Q : VP) : Prop := ndP (cellsOf ss) <| flP (picked μ (cellsOf ss)) <|
  p (fun C fs μ' => flP (μ'.take (cellsOf ss).length) (x C fs (merge μ (cellsOf ss) μ'))) (relab 0 ss) (picked μ (cellsOf ss)) fun r μ' => flP (μ'.take (cellsOf ss).length) <| match r with
    | .d d => Q (.d d) (merge μ (cellsOf ss) μ')
    | .c j => if j < (cellsOf ss).length then Q (.c ((cellsOf ss).getD j 0)) (merge μ (cellsOf ss) μ') else flP [μ'.getD j nocell] (Q (.c μ.length) (merge μ (cellsOf ss) μ' ++ [μ'.getD j nocell]))
    | .un => False
section
variable {K : PySem.W.Frag} {A : List Addr} {μ : Mem} {G H : Hp}
def pickA (A : List Addr) (ks : List Nat) : List Addr := ks.map fun k => A.getD k 0
theorem cellsOf_ok : ∀ {ss : List SV} {vs : List V}, RepsS K A G ss vs → ∀ k ∈ cellsOf ss, k < A.length
  | [], _, _, k, h => by simp [cellsOf] at h
  | .c j :: r, _, .cons h t, k, hk => by
    obtain ⟨a, e, _⟩ := h
    rcases List.mem_cons.mp (show k ∈ j :: cellsOf r from hk) with z | z
    · rw [z]; exact (List.getElem?_eq_some_iff.mp e).1
    · exact cellsOf_ok t k z
  | .d _ :: r, _, .cons h t, k, hk => cellsOf_ok t k hk
  | .un :: r, _, .cons h t, k, hk => cellsOf_ok t k hk
theorem relab_ok {B : List Addr} : ∀ {ss : List SV} {vs : List V} (n : Nat), RepsS K A G ss vs → (∀ i k a, (cellsOf ss)[i]? = some k → A[k]? = some a → B[n + i]? = some a) → RepsS K B G (relab n ss) vs
  | [], _, _, .nil, _ => .nil
  | .c j :: r, _, n, .cons h t, hb => by
    obtain ⟨a, e, rfl⟩ := h
    refine .cons ⟨a, by simpa using hb 0 j a rfl e, rfl⟩ (relab_ok (n + 1) t fun i k a h1 h2 => ?_)
    have := hb (i + 1) k a (by simpa [cellsOf] using h1) h2
    rw [show n + 1 + i = n + (i + 1) by omega]
    exact this
  | .d x :: r, _, n, .cons h t, hb => .cons h (relab_ok n t hb)
  | .un :: r, _, n, .cons h t, hb => .cons h (relab_ok n t hb)
theorem pickA_at {ks : List Nat} (h : ∀ k ∈ ks, k < A.length) {i : Nat} {k : Nat} (e : ks[i]? = some k) : ∃ a, A[k]? = some a ∧ (pickA A ks)[i]? = some a := by
  have hk := h k (List.mem_of_getElem? e)
  refine ⟨A[k], List.getElem?_eq_getElem hk, ?_⟩
  unfold pickA
  rw [List.getElem?_map, e]
  show some (A.getD k 0) = _
  rw [List.getD_eq_getElem?_getD, List.getElem?_eq_getElem hk]
  rfl
theorem pickA_mem {ks : List Nat} (h : ∀ k ∈ ks, k < A.length) {a : Addr} (ha : a ∈ pickA A ks) : ∃ k ∈ ks, A[k]? = some a := by
  obtain ⟨k, hk, rfl⟩ := List.mem_map.mp ha
  refine ⟨k, hk, ?_⟩
  rw [List.getD_eq_getElem?_getD, List.getElem?_eq_getElem (h k hk)]
  rfl
theorem Cells.at_inj (c : Cells K A μ G H) {i j : Nat} {a : Addr} (h1 : A[i]? = some a) (h2 : A[j]? = some a) : i = j := by
  obtain ⟨l1, e1⟩ := List.getElem?_eq_some_iff.mp h1
  obtain ⟨l2, e2⟩ := List.getElem?_eq_some_iff.mp h2
  exact (List.getElem_inj c.nd).mp (e1.trans e2.symm)
theorem nodup_map_on {α β : Type} {f : α → β} : ∀ {l : List α}, l.Nodup → (∀ x ∈ l, ∀ y ∈ l, f x = f y → x = y) → (l.map f).Nodup
  | [], _, _ => List.nodup_nil
  | x :: l, nd, h => by
    obtain ⟨h1, h2⟩ := List.nodup_cons.mp nd
    rw [List.map_cons]
    refine List.nodup_cons.mpr ⟨fun hm => ?_, nodup_map_on h2 fun a ha b hb => h a (List.mem_cons_of_mem _ ha) b (List.mem_cons_of_mem _ hb)⟩
    obtain ⟨y, hy, e⟩ := List.mem_map.mp hm
    exact h1 (h x List.mem_cons_self y (List.mem_cons_of_mem _ hy) e.symm ▸ hy)
theorem Cells.pick (c : Cells K A μ G H) {ks : List Nat} (h : ∀ k ∈ ks, k < A.length) (nd : ks.Nodup) (fl : ∀ c ∈ picked μ ks, flat1 c = true) : Cells K (pickA A ks) (picked μ ks) G H where
  le := c.le
  len := by simp [pickA, picked]
  nd := by
    unfold pickA
    refine nodup_map_on nd fun i hi j hj e => ?_
    have h1 := List.getElem?_eq_getElem (h i hi)
    have h2 := List.getElem?_eq_getElem (h j hj)
    refine c.at_inj h1 ?_
    rw [List.getD_eq_getElem?_getD, List.getD_eq_getElem?_getD, h1, h2] at e
    rw [h2]; exact congrArg some e.symm
  free := fun a ha => let ⟨k, _, e⟩ := pickA_mem h ha; c.free a (List.mem_of_getElem? e)
  ok := fun i a cl h1 h2 => by
    have hi : i < ks.length := by
      have := (List.getElem?_eq_some_iff.mp h1).1
      simpa [pickA] using this
    obtain ⟨b, e1, e2⟩ := pickA_at h (List.getElem?_eq_getElem hi)
    rw [h1] at e2; cases e2
    have hfl := fl cl (List.mem_of_getElem? h2)
    unfold picked at h2
    rw [List.getElem?_map, List.getElem?_eq_getElem hi] at h2
    have h2 : μ.getD ks[i] nocell = cl := Option.some.inj h2
    have hm : ks[i] < μ.length := by rw [← c.len]; exact h _ (List.getElem_mem hi)
    rw [List.getD_eq_getElem?_getD, List.getElem?_eq_getElem hm] at h2
    refine (c.ok _ _ _ e1 ?_).flat hfl
    rw [List.getElem?_eq_getElem hm]
    exact congrArg some h2
/-- behind a call: the caller's cells -/
theorem Cells.back (c : Cells K A μ G H) {ks : List Nat} (h : ∀ k ∈ ks, k < A.length) (nd : ks.Nodup) {A' : List Addr} {μ' : Mem} {G' H' : Hp} (c' : Cells K A' μ' G' H') (s' : Step (pickA A ks) G H A' G' H') (fl : ∀ c ∈ μ'.take ks.length, flat1 c = true) :
    Cells K A (merge μ ks μ') G' H' ∧ Step A G H A G' H' := by
  have sub : ∀ a, a ∉ A → a ∉ pickA A ks := fun a n z => let ⟨k, _, e⟩ := pickA_mem h z; n (List.mem_of_getElem? e)
  have hasH : ∀ a ∈ A, H a ≠ none := fun a ha z => c.ne_of_lt ha z rfl
  refine ⟨⟨c'.le, by rw [merge_length]; exact c.len, c.nd, fun a ha => ?_, fun j a cl h1 h2 => ?_⟩, ⟨List.prefix_refl _, s'.le, fun a o e n => s'.keep a o e (sub a n), s'.new, s'.tups, fun a ha => .inl ha, s'.there⟩⟩
  · cases q : G' a with
    | none => rfl
    | some o =>
      rcases s'.new a (by rw [q]; simp) with z | z | ⟨xs, z⟩
      · exact absurd (c.free a ha) z
      · exact absurd z (hasH a ha)
      · obtain ⟨k, hk⟩ := List.mem_iff_getElem?.mp ha
        have hl : k < μ.length := by rw [← c.len]; exact (List.getElem?_eq_some_iff.mp hk).1
        exact absurd z (c.ok k a _ hk (List.getElem?_eq_getElem hl)).notup
  · have hjl : j < μ.length := by rw [← c.len]; exact (List.getElem?_eq_some_iff.mp h1).1
    by_cases hj : j ∈ ks
    · obtain ⟨i, hi⟩ := List.mem_iff_getElem?.mp hj
      obtain ⟨b, e1, e2⟩ := pickA_at h hi
      rw [h1] at e1; cases e1
      obtain ⟨B, rfl⟩ := s'.pre
      have hil := (List.getElem?_eq_some_iff.mp e2).1
      have e3 : (pickA A ks ++ B)[i]? = some a := by rw [List.getElem?_append_left hil]; exact e2
      have hm : i < μ'.length := by rw [← c'.len, List.length_append]; omega
      rw [merge_in ks μ μ' i j nd hi hm hjl] at h2
      refine (c'.ok i a cl e3 h2).flat (fl cl (List.mem_of_getElem? (i := i) ?_))
      rw [List.getElem?_take, if_pos (by simpa [pickA] using hil)]; exact h2
    · rw [merge_out ks μ μ' j hj] at h2
      have ok := c.ok j a cl h1 h2
      obtain ⟨o, e⟩ := ok.some
      have na : a ∉ pickA A ks := fun z => by
        obtain ⟨k, hk, e⟩ := pickA_mem h z
        exact hj ((c.at_inj h1 e) ▸ hk)
      refine ok.mono (List.prefix_refl _) s'.le ?_
      rcases s'.keep a o e na with q | ⟨q, _⟩
      · rw [q, e]
      · rw [c.free a (List.mem_of_getElem? h1)] at q; cases q
end
section
variable {X : Cx} {W : WX} {a b c e : Expr} {es : List Expr} {tL tK : TXA} {pos ppos : Pos} {x : Str}
/-- the promise at a call gives what is wanted there -/
theorem call_low {K : PySem.W.Frag} {p : PSp} {x : XP} {ss : List SV} {vs : List V} {A : List Addr} {μ : Mem} {G H : Hp} {Qp : VP} {Q : VK} (h : callP p x ss μ Qp) (c : Cells K A μ G H) (r : RepsS K A G ss vs) (hx : ExTo K W A G H x)
    (k : ∀ r μ' A' G' H' v, Qp r μ' → Cells K A' μ' G' H' → Step A G H A' G' H' → RepS K A' G' r v → Q v H') : low K p vs H Q (fun cls d H' => ∀ σ, W cls d σ H') := by
  obtain ⟨nd, h⟩ := ndP_of h
  obtain ⟨fl, h⟩ := flP_of h
  have hk := cellsOf_ok r
  refine ⟨pickA A (cellsOf ss), relab 0 ss, picked μ (cellsOf ss), G, _, _, c.pick hk nd fl, relab_ok 0 r (fun i k a e1 e2 => ?_), h, fun C fs μ' A' G' H' d q c' s' e σ => ?_, fun r' μ' A' G' H' v q c' s' rr => ?_⟩
  · obtain ⟨b, e3, e4⟩ := pickA_at hk e1
    rw [e2] at e3; cases e3
    rw [Nat.zero_add]; exact e4
  · obtain ⟨fl2, q⟩ := flP_of q
    obtain ⟨c2, s2⟩ := c.back hk nd c' s' fl2
    exact hx C fs _ A G' H' d σ q c2 s2 e
  · obtain ⟨fl2, q⟩ := flP_of q
    obtain ⟨c2, s2⟩ := c.back hk nd c' s' fl2
    match r', q, rr with
    | .d d, q, rr => exact k _ _ _ _ _ _ q c2 s2 rr
    | .c j, q, rr =>
      obtain ⟨b, hb, rfl⟩ := rr
      obtain ⟨B, rfl⟩ := s'.pre
      have hl : (pickA A (cellsOf ss)).length = (cellsOf ss).length := by simp [pickA]
      by_cases hj : j < (cellsOf ss).length
      · have q := (show (if j < (cellsOf ss).length then _ else _ : Prop) from q)
        rw [if_pos hj] at q
        refine k _ _ _ _ _ _ q c2 s2 ⟨b, ?_, rfl⟩
        rw [List.getElem?_append_left (by rw [hl]; exact hj)] at hb
        obtain ⟨b', e3, e4⟩ := pickA_at hk (List.getElem?_eq_getElem hj)
        rw [hb] at e4; cases e4
        rw [List.getD_eq_getElem?_getD, List.getElem?_eq_getElem hj]
        exact e3
      · have q := (show (if j < (cellsOf ss).length then _ else _ : Prop) from q)
        rw [if_neg hj] at q
        obtain ⟨fl3, q⟩ := flP_of q
        have hbm : b ∈ pickA A (cellsOf ss) ++ B := List.mem_of_getElem? hb
        have nb : b ∉ pickA A (cellsOf ss) := fun z => by
          obtain ⟨i, hi⟩ := List.mem_iff_getElem?.mp z
          have hil := (List.getElem?_eq_some_iff.mp hi).1
          have := c'.at_inj hb (by rw [List.getElem?_append_left hil]; exact hi)
          omega
        have fresh : H b = none := (s'.cells b hbm).resolve_left nb
        have nA : b ∉ A := fun z => c.ne_of_lt z fresh rfl
        have hjm : j < μ'.length := by rw [← c'.len]; exact (List.getElem?_eq_some_iff.mp hb).1
        have gcell : μ'[j]? = some (μ'.getD j nocell) := by rw [List.getD_eq_getElem?_getD, List.getElem?_eq_getElem hjm]; rfl
        refine k _ _ (A ++ [b]) G' H' _ q ⟨c2.le, by rw [List.length_append, List.length_append, c2.len]; rfl, ?_, fun a ha => ?_, fun i a cl h1 h2 => ?_⟩ ⟨List.prefix_append _ _, s2.le, s2.keep, s2.new, s2.tups, fun a ha => ?_, s2.there⟩ ⟨b, by rw [← c.len]; simp, rfl⟩
        · refine List.nodup_append.mpr ⟨c.nd, by simp, fun a ha d hd => ?_⟩
          simp at hd
          subst hd
          exact fun z => nA (z ▸ ha)
        · rcases List.mem_append.mp ha with z | z
          · exact c2.free a z
          · simp at z; subst z; exact c'.free a hbm
        · rcases getElem?_append_one h1 with h1 | ⟨z1, z2⟩
          · have : i < (merge μ (cellsOf ss) μ').length := by rw [← c2.len]; exact (List.getElem?_eq_some_iff.mp h1).1
            rw [List.getElem?_append_left this] at h2
            exact (c2.ok i a cl h1 h2).mono (List.prefix_append _ _) (LeZ.refl _) rfl
          · subst z2
            rw [z1, c2.len, List.getElem?_append_right (Nat.le_refl _)] at h2
            simp at h2
            subst h2
            exact (c'.ok j a _ hb gcell).flat (fl3 _ (by simp))
        · rcases List.mem_append.mp ha with z | z
          · exact .inl z
          · simp at z; subst z; exact .inr fresh
def xUser (p : PSp) (t : TXA) : TX := fun x ρ μ Q => t x ρ μ fun ss μ1 => callP p x ss μ1 Q
theorem px_call {k : Nat} {f : Addr} {fd : FuncData} {ps : List Str} {p : PSp} (tk : Takes X W) (F : FnOk X.prog X.w X.K X.mg X.base (L2.CX X.prog X.w) k f fd ps (low X.K p)) (hr : Room k X.A) (hg : Gl X x) (hm : X.mg x = some (.ref f)) (hk : PySem.W.keepIn X.K (.ref f) = true)
    (hb : Binds X.K fd ps []) (ha : PXA X W (e :: es) tL) (hdb : (x == ("__debug__" : Str)) = false := by decide) (he : starEach (e :: es) X.env = (false, eval e X.env) :: starEach es X.env := by rfl) (hpl : (backTo pos (starEach es X.env)).any (·.1) = false := by rfl) :
    PX X W (.Call (.Name x ppos) (e :: es) [] pos) (xUser p tL) := by
  refine ⟨(pe_call F hr hg hm hk hb .nil (E := fun cls d H' => ∀ σ, W cls d σ H') (passes_call tk fun _ _ σ _ h => h σ) ha.pa hdb he hpl).imp fun σ H Q h => ?_⟩
  obtain ⟨A, ρ, μ, G, Qp, xp, S, ht, hx, k⟩ := h
  refine ⟨A, ρ, μ, G, _, xp, S, ht, hx, fun ss μ1 A1 G1 H1 vs q c1 s1 r1 => ?_⟩
  show low X.K p (vs ++ []) H1 Q _
  rw [List.append_nil]
  exact call_low q c1 r1 (hx.after s1) fun r μ' A' G' H' v q3 c3 s3 r3 => k r μ' A' G' H' v q3 c3 (s1.trans s3) r3
end
end PL
/-! The P-layer: keywords, methods of lists, calls of local names, dicts. -/
namespace PL
open PySem PySem.Spec PyProof.Rows L2
/-! ### calls with keywords -/
def permG {α : Type} (z : α) (perm : List Nat) (us ws : List α) : List α := perm.map fun i => (us ++ ws).getD i z
theorem permG_rel {perm : List Nat} {vs : List V} {us : List Value} {zs : List V} {ws : List Value} (r1 : Vals vs us) (r2 : Vals zs ws) : Vals (permG .non perm vs zs) (permG Value.none perm us ws) := by
  have r := r1.append r2
  unfold permG
  induction perm with
  | nil => exact .nil
  | cons i perm ih =>
    refine .cons ?_ ih
    show RelV ((vs ++ zs).getD i .non) ((us ++ ws).getD i Value.none)
    rw [List.getD_eq_getElem?_getD, List.getD_eq_getElem?_getD]
    cases e : (vs ++ zs)[i]? with
    | none => rw [r.none_of e]; rfl
    | some x =>
      obtain ⟨u, h1, h2⟩ := r.get e
      rw [h1]; exact h2
theorem kbn_of {K : PySem.W.Frag} {x qual : Str} {params : Arguments} {body : List Stmt} {scope : Scope} {kws : List (Str × V)} {f : Addr} {fd : FuncData} {ps : List Str} (F : FunD K x qual params body scope [] kws f fd) (n : Nat) (ks : List Str) (perm : List Nat)
    (h : ∀ (kV doc pm : Value) (an : Option Addr) (cdv ct : Value) (us ws : List Value), us.length = n → ws.length = ks.length → bindArgs (PySem.W.fnOf x qual params body scope .none kV doc pm an cdv ct) ⟨us, ks.zip ws⟩ = pure (ps.zip (permG Value.none perm us ws))) :
    KBn K fd ps n ks (permG Value.none perm) (permG .non perm) := by
  obtain ⟨oc, od, dV, kV, doc, pm, an, cdv, ct, osl, rfl, lk, hcd, hD, hK⟩ := F.ex
  rcases hD with ⟨_, rfl⟩ | ⟨e, _⟩
  · exact ⟨fun s us ws _ h1 h2 => .of_eq (h kV doc pm an cdv ct us ws h1 h2), fun r1 r2 => permG_rel r1 r2⟩
  · exact absurd rfl e
structure PXK (X : Cx) (W : WX) (kws : List Keyword) (t : TXA) : Prop where
  pk : PK X kws (liftA X.K W t)
theorem _root_.L2.PK.imp {X : Cx} {e : List Keyword} {t t' : TA} (h : PK X e t) (i : ∀ σ H Q, t' σ H Q → t σ H Q) : PK X e t' := ⟨fun pos pins s σ H Q I q => h.run pos pins s σ H Q I (i _ _ _ q)⟩
section
variable {X : Cx} {W : WX} {a b c e o : Expr} {es : List Expr} {kws : List Keyword} {ta tb tc te to : TX} {tL tK : TXA} {pos ppos kpos apos cpos : Pos} {x : Str} {nm : Option Str}
theorem pxk_nil : PXK X W [] xNil := by
  refine ⟨pk_nil.imp fun σ H Q h => ?_⟩
  obtain ⟨A, ρ, μ, G, Qp, xp, S, ht, hx, k⟩ := h
  exact k _ _ _ _ _ _ ht S.toCells .refl .nil
theorem pxk_cons (ha : PX X W e ta) (hr : PXK X W kws tL) : PXK X W (⟨nm, e, kpos⟩ :: kws) (xCons ta tL) := by
  refine ⟨(pk_cons ha.pe hr.pk).imp fun σ H Q h => ?_⟩
  obtain ⟨A, ρ, μ, G, Qp, xp, S, ht, hx, k⟩ := h
  refine ⟨A, ρ, μ, G, _, xp, S, ht, hx, fun r μ' A' G' H' v q c s rr => ?_⟩
  exact ⟨A', ρ, μ', G', _, xp, S.after s c, q, hx.after s, fun rs μ2 A2 G2 H2 vs q2 c2 s2 rr2 => k _ _ _ _ _ _ q2 c2 (s.trans s2) (.cons (rr.mono s2.pre s2.le) rr2)⟩
theorem RepsS.app {K : PySem.W.Frag} {A : List Addr} {G : Hp} : ∀ {ds es : List SV} {vs us : List V}, RepsS K A G ds vs → RepsS K A G es us → RepsS K A G (ds ++ es) (vs ++ us)
  | _, _, _, _, .nil, t => t
  | _, _, _, _, .cons r s, t => .cons r (RepsS.app s t)
theorem RepsS.at {K : PySem.W.Frag} {A : List Addr} {G : Hp} : ∀ {ds : List SV} {vs : List V} (i : Nat), RepsS K A G ds vs → RepS K A G (ds.getD i .un) (vs.getD i .non)
  | _, _, _, .nil => by simp; trivial
  | _, _, 0, .cons r _ => by simpa using r
  | _, _, i + 1, .cons _ t => by simpa using RepsS.at i t
theorem permG_reps {K : PySem.W.Frag} {A : List Addr} {G : Hp} {ds es : List SV} {vs us : List V} (r1 : RepsS K A G ds vs) (r2 : RepsS K A G es us) : ∀ perm : List Nat, RepsS K A G (permG .un perm ds es) (permG .non perm vs us)
  | [] => .nil
  | i :: perm => .cons (RepsS.at i (r1.app r2)) (permG_reps r1 r2 perm)
def xUserK (p : PSp) (n m : Nat) (perm : List Nat) (t tk : TXA) : TX := fun x ρ μ Q => t x ρ μ fun ss μ1 => tk x ρ μ1 fun zs μ2 => (ss.length = n ∧ zs.length = m) ∧ callP p x (permG .un perm ss zs) μ2 Q
theorem px_callKw {k n : Nat} {f : Addr} {fd : FuncData} {ps ks : List Str} {p : PSp} {perm : List Nat} (tk : Takes X W) (F : FnOk X.prog X.w X.K X.mg X.base (L2.CX X.prog X.w) k f fd ps (low X.K p)) (hr : Room k X.A) (hg : Gl X x) (hm : X.mg x = some (.ref f)) (hk : PySem.W.keepIn X.K (.ref f) = true)
    (hb : KBn X.K fd ps n ks (permG Value.none perm) (permG .non perm)) (ha : PXA X W (e :: es) tL) (hkw : PXK X W kws tK) (hall : (backToKw pos (keywordEach kws X.env)).all (·.1.isSome) = true := by rfl) (hks : (backToKw pos (keywordEach kws X.env)).filterMap (·.1) = ks := by rfl)
    (hdb : (x == ("__debug__" : Str)) = false := by decide) (he : starEach (e :: es) X.env = (false, eval e X.env) :: starEach es X.env := by rfl)
    (hpl : ((backTo pos (starEach (e :: es) X.env)).any (·.1) || (backToKw pos (keywordEach kws X.env)).any (·.1.isNone)) = false := by rfl) : PX X W (.Call (.Name x ppos) (e :: es) kws pos) (xUserK p n ks.length perm tL tK) := by
  refine ⟨(pe_callN F hr hg hm hk hb (E := fun cls d H' => ∀ σ, W cls d σ H') (passes_call tk fun _ _ σ _ h => h σ) ha.pa hkw.pk hall hks hdb he hpl).imp fun σ H Q h => ?_⟩
  obtain ⟨A, ρ, μ, G, Qp, xp, S, ht, hx, k⟩ := h
  refine ⟨A, ρ, μ, G, _, xp, S, ht, hx, fun ss μ1 A1 G1 H1 vs q c1 s1 r1 => ?_⟩
  refine ⟨A1, ρ, μ1, G1, _, xp, S.after s1 c1, q, hx.after s1, fun zs μ2 A2 G2 H2 us q2 c2 s2 r2 => ?_⟩
  obtain ⟨⟨l1, l2⟩, q2⟩ := q2
  have s12 := s1.trans s2
  refine ⟨by rw [← r1.length]; exact l1, by rw [← r2.length]; exact l2, ?_⟩
  exact call_low q2 c2 (permG_reps (r1.mono s2.pre s2.le) r2 perm) (hx.after s12) fun r μ' A' G' H' v q3 c3 s3 r3 => k r μ' A' G' H' v q3 c3 (s12.trans s3) r3
/-- f(k = v, ..) -/
theorem px_callKw0 {k : Nat} {f : Addr} {fd : FuncData} {ps ks : List Str} {p : PSp} {perm : List Nat} (tk : Takes X W) (F : FnOk X.prog X.w X.K X.mg X.base (L2.CX X.prog X.w) k f fd ps (low X.K p)) (hr : Room k X.A) (hg : Gl X x) (hm : X.mg x = some (.ref f)) (hk : PySem.W.keepIn X.K (.ref f) = true)
    (hb : KBn X.K fd ps 0 ks (permG Value.none perm) (permG .non perm)) (hkw : PXK X W kws tK) (hall : (backToKw pos (keywordEach kws X.env)).all (·.1.isSome) = true := by rfl) (hks : (backToKw pos (keywordEach kws X.env)).filterMap (·.1) = ks := by rfl)
    (hdb : (x == ("__debug__" : Str)) = false := by decide)
    (hpl : ((backTo pos (starEach [] X.env)).any (·.1) || (backToKw pos (keywordEach kws X.env)).any (·.1.isNone)) = false := by rfl) : PX X W (.Call (.Name x ppos) [] kws pos) (xUserK p 0 ks.length perm xNil tK) := by
  refine ⟨⟨fun pins s σ H Q I h => ?_⟩⟩
  obtain ⟨A, ρ, μ, G, Qp, xp, S, ht, hx, k⟩ := h
  refine wpAny_Call_Name_kw (ld_glob I hg hm ?_ hdb)
  refine PySem.W.callWith_KW0 (h₀ := X.base) I.ok.mod.kin hk hall ?_ hpl
  refine thn (hkw.pk.run pos pins s σ H (fun us H2 => us.length = ks.length ∧ low X.K p (permG .non perm [] us) H2 Q (fun cls d H' => ∀ σ, W cls d σ H')) I ?_) fun ws s2 ⟨zs, H2, I2, rz, l2, q2⟩ => ⟨I2.kIn, ?_⟩
  · refine ⟨A, ρ, μ, G, _, xp, S, ht, hx, fun zs μ2 A2 G2 H2 us q2 c2 s2 r2 => ?_⟩
    obtain ⟨⟨l1, l2⟩, q2⟩ := q2
    refine ⟨by rw [← r2.length]; exact l2, ?_⟩
    exact call_low q2 c2 (permG_reps .nil r2 perm) (hx.after s2) fun r μ' A' G' H' v q3 c3 s3 r3 => k r μ' A' G' H' v q3 c3 (s2.trans s3) r3
  · rw [hks]
    exact run_fnN (us := []) (vs := []) F hr hb (passes_call tk fun _ _ σ _ h => h σ) I2 .nil rz rfl l2 q2

/-! ### calls of a local name that holds a def -/
/-- the def at f keeps p -/
structure HeldP (P : Program) (w : World) (K : PySem.W.Frag) (mg : Str → Option Value) (base : Heap) (k : Nat) (f : Addr) (p : PSp) : Prop where
  ex : ∃ (fd : FuncData) (ps : List Str), FnOk P w K mg base (L2.CX P w) k f fd ps (low K p) ∧ PySem.W.keepIn K (.ref f) = true ∧ Binds K fd ps []
def xLocal (i : Nat) (T : Str → Option PSp) (t : TXA) : TX := fun x ρ μ Q => i < ρ.n ∧ match ρ.f i with
  | .d (.fn f) => on (T f) fun p => t x ρ μ fun ss μ1 => callP p x ss μ1 Q
  | _ => False
theorem px_local {i k : Nat} {T : Str → Option PSp} (tk : Takes X W) (hT : ∀ f p, T f = some p → HeldP X.prog X.w X.K X.mg X.base k (He.ga X.K f) p) (hr : Room k X.A) (hN : X.N[i]? = some x) (hv : Vis X.env.scope x) (ha : PXA X W (e :: es) tL)
    (hdb : (x == ("__debug__" : Str)) = false := by decide) (hcd : (x == ("__classdict__" : Str)) = false := by decide)
    (he : starEach (e :: es) X.env = (false, eval e X.env) :: starEach es X.env := by rfl) (hpl : (backTo pos (starEach es X.env)).any (·.1) = false := by rfl) : PX X W (.Call (.Name x ppos) (e :: es) [] pos) (xLocal i T tL) := by
  refine ⟨⟨fun pins s σ H Q I h => ?_⟩⟩
  obtain ⟨A, ρ, μ, G, Qp, xp, S, ht, hx, k⟩ := h
  obtain ⟨hn, ht⟩ := ht
  obtain ⟨o, e2, so⟩ := S.at_ i hn
  split at ht
  · rename_i f e1
    obtain ⟨p, hp, ht⟩ := on_of ht
    obtain ⟨fd, ps, F, hk, hb⟩ := (hT f p hp).ex
    rw [e1] at so
    obtain ⟨v, rfl, r⟩ := so
    cases r
    refine (pe_callL (i := i) F hr hN hv hk hb .nil (E := fun cls d H' => ∀ σ, W cls d σ H') (passes_call tk fun _ _ σ _ h => h σ) ha.pa hdb hcd he hpl).run pins s σ H Q I ⟨e2, ?_⟩
    refine ⟨A, ρ, μ, G, _, xp, S, ht, hx, fun ss μ1 A1 G1 H1 vs q c1 s1 r1 => ?_⟩
    show low X.K p (vs ++ []) H1 Q _
    rw [List.append_nil]
    exact call_low q c1 r1 (hx.after s1) fun r μ' A' G' H' v q3 c3 s3 r3 => k r μ' A' G' H' v q3 c3 (s1.trans s3) r3
  · exact ht.elim

/-! ### methods of lists -/
def PMt (K : PySem.W.Frag) (r : V → List V → Hp → VK → Prop) (P : SV → List SV → Mem → VP → Prop) : Prop := ∀ (so : SV) (ss : List SV) (μ : Mem) (A : List Addr) (G H : Hp) (v : V) (vs : List V) (Qp : VP) (Q : VK), P so ss μ Qp → Cells K A μ G H → RepS K A G so v → RepsS K A G ss vs →
  (∀ r μ' A' G' H' v, Qp r μ' → Cells K A' μ' G' H' → Step A G H A' G' H' → RepS K A' G' r v → Q v H') → r v vs H Q
/-- the receiver is a list -/
def isLst (s : SV) (μ : Mem) : Prop := ∃ l, lstOf s μ = some l
def xMeth (P : SV → List SV → Mem → VP → Prop) (to : TX) (t : TXA) : TX := fun x ρ μ Q => to x ρ μ fun so μ1 => (lstOf so μ1).isSome = true ∧ t x ρ μ1 fun ss μ2 => P so ss μ2 Q
theorem px_lmeth {name : Str} {id : String} {r : V → List V → Hp → VK → Prop} {P : SV → List SV → Mem → VP → Prop} (slot : Slot "list" name id) (hty : typeOf (.builtin id) = pure (.type "method_descriptor")) (hm : MtR X id r) (hp : PMt X.K r P) (ho : PX X W o to) (ha : PXA X W (e :: es) tL)
    (hbase : attributeBase o name X.env (eval o X.env) = eval o X.env := by rfl)
    (hfew : ((backTo cpos (starEach (e :: es) X.env)).all (fun x => !x.1) && (backToKw cpos (keywordEach [] X.env)).all (fun x => x.1.isSome)
      && decide ((e :: es).length + ([] : List Keyword).length + (if ([] : List Keyword).isEmpty then 0 else 1) < 30)) = true := by rfl)
    (hline : (apos.endLine == cpos.line) = true := by rfl) (hs : starEach (e :: es) X.env = (false, eval e X.env) :: starEach es X.env := by rfl) (hplain : (backTo cpos (starEach es X.env)).any (·.1) = false := by rfl) :
    PX X W (.Call (.Attribute o name apos) (e :: es) [] cpos) (xMeth P to tL) := by
  refine ⟨(pe_bm PySem.F.plainAttrs_list slot hty hm ho.pe ha.pa hbase hfew hline hs hplain).imp fun σ H Q h => ?_⟩
  obtain ⟨A, ρ, μ, G, Qp, xp, S, ht, hx, k⟩ := h
  refine ⟨A, ρ, μ, G, _, xp, S, ht, hx, fun so μ1 A1 G1 H1 v q c1 s1 r1 => ?_⟩
  obtain ⟨hl, q⟩ := q
  obtain ⟨l, hl⟩ := Option.isSome_iff_exists.mp hl
  obtain ⟨a, us, rfl, h1, h2⟩ := lstOf_rep hl c1 r1
  refine ⟨Or.inl ⟨rfl, _, SqL.of h1⟩, A1, ρ, μ1, G1, _, xp, S.after s1 c1, q, hx.after s1, fun ss μ2 A2 G2 H2 vs q2 c2 s2 r2 => ?_⟩
  exact hp so ss μ2 A2 G2 H2 _ vs Qp Q q2 c2 (r1.mono s2.pre s2.le) r2 fun r μ' A' G' H' v q3 c3 s3 r3 => k r μ' A' G' H' v q3 c3 ((s1.trans s2).trans s3) r3
theorem px_lmeth0 {name : Str} {id : String} {r : V → List V → Hp → VK → Prop} {P : SV → List SV → Mem → VP → Prop} (slot : Slot "list" name id) (hty : typeOf (.builtin id) = pure (.type "method_descriptor")) (hm : MtR X id r) (hp : PMt X.K r P) (ho : PX X W o to)
    (hbase : attributeBase o name X.env (eval o X.env) = eval o X.env := by rfl) (hline : (apos.endLine == cpos.line) = true := by rfl) : PX X W (.Call (.Attribute o name apos) [] [] cpos) (xMeth P to xNil) := by
  refine ⟨(pe_bm0 PySem.F.plainAttrs_list slot hty hm ho.pe hbase hline).imp fun σ H Q h => ?_⟩
  obtain ⟨A, ρ, μ, G, Qp, xp, S, ht, hx, k⟩ := h
  refine ⟨A, ρ, μ, G, _, xp, S, ht, hx, fun so μ1 A1 G1 H1 v q c1 s1 r1 => ?_⟩
  obtain ⟨hl, q⟩ := q
  obtain ⟨l, hl⟩ := Option.isSome_iff_exists.mp hl
  obtain ⟨a, us, rfl, h1, h2⟩ := lstOf_rep hl c1 r1
  refine ⟨Or.inl ⟨rfl, _, SqL.of h1⟩, ?_⟩
  exact hp so [] μ1 A1 G1 H1 _ [] Qp Q q c1 r1 .nil fun r μ' A' G' H' v q3 c3 s3 r3 => k r μ' A' G' H' v q3 c3 (s1.trans s3) r3
/-- l.append(x) -/
def pAppend : SV → List SV → Mem → VP → Prop := fun so ss μ Q => match so, ss with
  | .c k, [.d y] => match μ[k]? with
    | some (.lst l) => l.length < sizeLine ∧ Q (.d .non) (μ.set k (.lst (l ++ [y])))
    | _ => False
  | _, _ => False
theorem pmt_append {K : PySem.W.Frag} : PMt K rAppend pAppend := by
  intro so ss μ A G H v vs Qp Q h c ro rs k
  match so, ss, h, ro, rs with
  | .c kk, [.d y], h, ro, .cons r .nil =>
    obtain ⟨a, ha, rfl⟩ := ro
    simp only [pAppend] at h
    split at h
    · rename_i l hk
      obtain ⟨hz, h⟩ := h
      obtain ⟨us, h1, h2⟩ := c.ok _ _ _ ha hk
      refine ⟨a, us, _, rfl, rfl, h1, by rw [← h2.length]; exact hz, ?_⟩
      obtain ⟨c3, s3⟩ := c.write (o := .lst (us ++ [_])) (cl := .lst (l ++ [y])) ha ⟨_, upd_same, h2.app (.cons r .nil)⟩
      exact k _ _ _ _ _ _ h c3 s3 .non
    · exact h.elim
theorem px_append (ho : PX X W o to) (ha : PXA X W [e] tL) (hbase : attributeBase o "append" X.env (eval o X.env) = eval o X.env := by rfl)
    (hfew : ((backTo cpos (starEach [e] X.env)).all (fun x => !x.1) && (backToKw cpos (keywordEach [] X.env)).all (fun x => x.1.isSome)
      && decide ([e].length + ([] : List Keyword).length + (if ([] : List Keyword).isEmpty then 0 else 1) < 30)) = true := by rfl)
    (hline : (apos.endLine == cpos.line) = true := by rfl) (hs : starEach [e] X.env = (false, eval e X.env) :: starEach [] X.env := by rfl) : PX X W (.Call (.Attribute o "append" apos) [e] [] cpos) (xMeth pAppend to tL) :=
  px_lmeth PySem.F.slot_list_append PySem.F.type_list_append mt_append pmt_append ho ha hbase hfew hline hs rfl
/-- l.extend(m) -/
def pExtend : SV → List SV → Mem → VP → Prop := fun so ss μ Q => match so, ss with
  | .c k, [s] => match μ[k]? with
    | some (.lst l) => on (lstOf s μ) fun m => l.length + m.length ≤ sizeLine ∧ Q (.d .non) (μ.set k (.lst (l ++ m)))
    | _ => False
  | _, _ => False
theorem pmt_extend {K : PySem.W.Frag} : PMt K rExtend pExtend := by
  intro so ss μ A G H v vs Qp Q h c ro rs k
  match so, ss, h, ro, rs with
  | .c kk, [s], h, ro, .cons r .nil =>
    obtain ⟨a, ha, rfl⟩ := ro
    simp only [pExtend] at h
    split at h
    · rename_i l hk
      obtain ⟨m, hm, hz, h⟩ := on_of h
      obtain ⟨us, h1, h2⟩ := c.ok _ _ _ ha hk
      obtain ⟨b, ws, rfl, h3, h4⟩ := lstOf_rep hm c r
      refine ⟨a, b, us, ws, rfl, rfl, h1, h3, by rw [← h2.length, ← h4.length]; exact hz, ?_⟩
      obtain ⟨c3, s3⟩ := c.write (o := .lst (us ++ ws)) (cl := .lst (l ++ m)) ha ⟨_, upd_same, h2.app h4⟩
      exact k _ _ _ _ _ _ h c3 s3 .non
    · exact h.elim
theorem px_extend (ho : PX X W o to) (ha : PXA X W [e] tL) (hbase : attributeBase o "extend" X.env (eval o X.env) = eval o X.env := by rfl)
    (hfew : ((backTo cpos (starEach [e] X.env)).all (fun x => !x.1) && (backToKw cpos (keywordEach [] X.env)).all (fun x => x.1.isSome)
      && decide ([e].length + ([] : List Keyword).length + (if ([] : List Keyword).isEmpty then 0 else 1) < 30)) = true := by rfl)
    (hline : (apos.endLine == cpos.line) = true := by rfl) (hs : starEach [e] X.env = (false, eval e X.env) :: starEach [] X.env := by rfl) : PX X W (.Call (.Attribute o "extend" apos) [e] [] cpos) (xMeth pExtend to tL) :=
  px_lmeth PySem.F.slot_list_extend PySem.F.type_list_extend mt_extend pmt_extend ho ha hbase hfew hline hs rfl

end
end PL
/-! The P-layer: dicts; operations whatever the sorts. -/
namespace PL
open PySem PySem.Spec PyProof.Rows L2
def keyOf : D → Option Key
  | .int i => some (.inl i)
  | .str x => some (.inr x)
  | _ => none
def keysOf : List D → Option (List Key)
  | [] => some []
  | d :: ds => match keyOf d, keysOf ds with
    | some k, some ks => some (k :: ks)
    | _, _ => none
theorem keyOf_eq {d : D} {k : Key} (h : keyOf d = some k) : d = keyD k := by
  cases d <;> simp [keyOf] at h
  all_goals subst h; rfl
theorem keysOf_eq : ∀ {l : List D} {ks : List Key}, keysOf l = some ks → l = ks.map keyD
  | [], ks, h => by simp [keysOf] at h; subst h; rfl
  | d :: ds, ks, h => by
    unfold keysOf at h
    split at h
    · rename_i k ks' h1 h2
      cases h
      rw [keyOf_eq h1, keysOf_eq h2]; rfl
    · cases h
theorem keyD_inj {a b : Key} (h : keyD a = keyD b) : a = b := by
  cases a <;> cases b <;> simp [keyD] at h
  all_goals rw [h]
theorem keysD_inj : ∀ {a b : List Key}, a.map keyD = b.map keyD → a = b
  | [], [], _ => rfl
  | [], _ :: _, h => by simp at h
  | _ :: _, [], h => by simp at h
  | x :: a, y :: b, h => by
    simp only [List.map_cons, List.cons.injEq] at h
    rw [keyD_inj h.1, keysD_inj h.2]
theorem keyD_rep {K : PySem.W.Frag} {G : Hp} (k : Key) : Rep K G (keyD k) (kV k) := by
  cases k with
  | inl i => exact .int i
  | inr x => exact .str x
theorem keyD_reps {K : PySem.W.Frag} {G : Hp} : ∀ ks : List Key, Reps K G (ks.map keyD) (ks.map kV)
  | [] => .nil
  | k :: ks => .cons (keyD_rep k) (keyD_reps ks)
theorem keyD_val {K : PySem.W.Frag} {G : Hp} {k : Key} {v : V} (r : Rep K G (keyD k) v) : v = kV k := by
  cases k with
  | inl i => cases r; rfl
  | inr x => cases r; rfl
theorem keysD_vals {K : PySem.W.Frag} {G : Hp} : ∀ {ks : List Key} {vs : List V}, Reps K G (ks.map keyD) vs → vs = ks.map kV
  | [], _, .nil => rfl
  | k :: ks, _, .cons h t => by rw [keyD_val h, keysD_vals t]; rfl

open Classical in
noncomputable def findD : List D → List D → D → Option D
  | k :: ks, v :: vs, x => if k = x then some v else findD ks vs x
  | _, _, _ => none
open Classical in
noncomputable def putKs (ks : List D) (k : D) : List D := if k ∈ ks then ks else ks ++ [k]
open Classical in
noncomputable def putVs (ks vs : List D) (k v : D) : List D := if k ∈ ks then List.zipWith (fun k' v' => if k' = k then v else v') ks vs else vs ++ [v]
section
variable {κ : Type} [DecidableEq κ] {kd : κ → D} {K : PySem.W.Frag} {G : Hp}
theorem findD_rep (inj : ∀ a b, kd a = kd b → a = b) (k : κ) : ∀ {kvs : List (κ × V)} {vs : List D}, Reps K G vs (kvs.map Prod.snd) → (∀ v, valV kvs k = some v → ∃ d, findD (kvs.map fun p => kd p.1) vs (kd k) = some d ∧ Rep K G d v) ∧ (valV kvs k = none → findD (kvs.map fun p => kd p.1) vs (kd k) = none)
  | [], _, .nil => ⟨fun v h => (by cases h), fun _ => rfl⟩
  | p :: kvs, _, .cons r t => by
    obtain ⟨h1, h2⟩ := findD_rep inj k t
    by_cases e : p.1 = k
    · rw [valV_pos e]
      refine ⟨fun v h => ?_, fun h => by cases h⟩
      cases h
      exact ⟨_, by simp only [List.map_cons, findD]; rw [if_pos (by rw [e])], r⟩
    · have e' : ¬ kd p.1 = kd k := fun z => e (inj _ _ z)
      rw [valV_neg e]
      refine ⟨fun v h => ?_, fun h => ?_⟩
      · obtain ⟨d, q, r'⟩ := h1 v h
        exact ⟨d, by simp only [List.map_cons, findD]; rw [if_neg e']; exact q, r'⟩
      · simp only [List.map_cons, findD]; rw [if_neg e']; exact h2 h
theorem any_mem (inj : ∀ a b, kd a = kd b → a = b) (k : κ) (kvs : List (κ × V)) : (kvs.any fun kv => decide (kv.1 = k)) = true ↔ kd k ∈ kvs.map fun p => kd p.1 := by
  rw [List.any_eq_true, List.mem_map]
  constructor
  · rintro ⟨p, hp, e⟩
    exact ⟨p, hp, by rw [of_decide_eq_true e]⟩
  · rintro ⟨p, hp, e⟩
    exact ⟨p, hp, decide_eq_true (inj _ _ e)⟩
theorem put_keys (inj : ∀ a b, kd a = kd b → a = b) (kvs : List (κ × V)) (k : κ) (v : V) : (putK kvs k v).map (fun p => kd p.1) = putKs (kvs.map fun p => kd p.1) (kd k) := by
  unfold putK putKs
  by_cases h : (kvs.any fun kv => decide (kv.1 = k)) = true
  · rw [if_pos h, if_pos ((any_mem inj k kvs).mp h), List.map_map]
    refine List.map_congr_left fun p _ => ?_
    show kd (if p.1 = k then (p.1, v) else p).1 = kd p.1
    split <;> rfl
  · rw [if_neg h, if_neg (fun z => h ((any_mem inj k kvs).mpr z)), List.map_append]
    rfl
theorem put_vals (inj : ∀ a b, kd a = kd b → a = b) {kvs : List (κ × V)} {vs : List D} (r : Reps K G vs (kvs.map Prod.snd)) (k : κ) {d : D} {v : V} (rv : Rep K G d v) : Reps K G (putVs (kvs.map fun p => kd p.1) vs (kd k) d) ((putK kvs k v).map Prod.snd) := by
  unfold putK putVs
  by_cases h : (kvs.any fun kv => decide (kv.1 = k)) = true
  · rw [if_pos h, if_pos ((any_mem inj k kvs).mp h)]
    clear h
    induction kvs generalizing vs with
    | nil => cases r; exact .nil
    | cons p kvs ih =>
      cases r with
      | cons r t =>
        refine .cons ?_ (ih t)
        show Rep K G (@ite D (kd p.1 = kd k) (Classical.propDecidable _) d _) (if p.1 = k then (p.1, v) else p).2
        by_cases e : p.1 = k
        · rw [if_pos e, if_pos (by rw [e])]; exact rv
        · rw [if_neg e, if_neg (fun z => e (inj _ _ z))]; exact r
  · rw [if_neg h, if_neg (fun z => h ((any_mem inj k kvs).mpr z)), List.map_append]
    exact r.app (.cons rv .nil)
end

/-- what is read as a dict: whether its keys are tuples, its keys, its values -/
def dicOf (s : SV) (μ : Mem) : Option (Bool × List D × List D) := match s with
  | .d (.dic t ks vs) => some (t, ks, vs)
  | .c k => match μ[k]? with
    | some (.dK ks vs) => some (false, ks, vs)
    | some (.dT ks vs) => some (true, ks, vs)
    | _ => none
  | _ => none
def DicAt (K : PySem.W.Frag) (G H : Hp) (a : Addr) : Bool × List D × List D → Prop
  | (false, ks, vs) => ∃ kvs : List (Key × V), Rd H a (.dK kvs) ∧ ks = kvs.map (fun p => keyD p.1) ∧ Reps K G vs (kvs.map Prod.snd)
  | (true, ks, vs) => ∃ kvs : List (List Key × V), Rd H a (.dT kvs) ∧ ks = kvs.map (fun p => .tup (p.1.map keyD)) ∧ Reps K G vs (kvs.map Prod.snd)
theorem dicOf_rep {K : PySem.W.Frag} {A : List Addr} {μ : Mem} {G H : Hp} {s : SV} {v : V} {z : Bool × List D × List D} (e : dicOf s μ = some z) (c : Cells K A μ G H) (r : RepS K A G s v) : ∃ a, v = .ref a ∧ DicAt K G H a z := by
  unfold dicOf at e
  split at e
  · cases e
    cases r with
    | dicK h k hs => exact ⟨_, rfl, _, c.le.rd h, k, hs⟩
    | dicT h k hs => exact ⟨_, rfl, _, c.le.rd h, k, hs⟩
  · obtain ⟨a, ha, rfl⟩ := r
    split at e
    · rename_i hk
      cases e
      obtain ⟨kvs, h1, h2, h3⟩ := c.ok _ _ _ ha hk
      exact ⟨a, rfl, kvs, .inl h1, h2, h3⟩
    · rename_i hk
      cases e
      obtain ⟨kvs, h1, h2, h3⟩ := c.ok _ _ _ ha hk
      exact ⟨a, rfl, kvs, .inl h1, h2, h3⟩
    · cases e
  · cases e
/-- the key is of the sort: ints, texts for the one sort of dicts, tuples of such for the other one -/
def fitK : Bool → D → Bool
  | false, .int _ => true
  | false, .str _ => true
  | true, .tup l => (keysOf l).isSome
  | _, _ => false
theorem tupKey_inj {a b : List Key} (h : (D.tup (a.map keyD)) = .tup (b.map keyD)) : a = b := keysD_inj (by injection h)
theorem fitF {k : D} (h : fitK false k = true) : ∃ k', k = keyD k' := by
  cases k <;> simp [fitK] at h
  · exact ⟨.inl _, rfl⟩
  · exact ⟨.inr _, rfl⟩
theorem fitT {k : D} (h : fitK true k = true) : ∃ ks : List Key, k = .tup (ks.map keyD) := by
  cases k <;> simp [fitK] at h
  obtain ⟨ks, e⟩ := Option.isSome_iff_exists.mp h
  exact ⟨ks, by rw [keysOf_eq e]⟩
theorem tupKey_val {K : PySem.W.Frag} {G H : Hp} {ks : List Key} {v : V} (le : Le G H) (r : Rep K G (.tup (ks.map keyD)) v) : ∃ b, v = .ref b ∧ H b = some (.tup (ks.map kV)) := by
  cases r with
  | tup h hs => rw [keysD_vals hs] at h; exact ⟨_, rfl, le _ _ h⟩
/-- what a dict holds at a key -/
theorem dget_of {K : PySem.W.Frag} {A : List Addr} {μ : Mem} {G H : Hp} {sd : SV} {vd vk : V} {t : Bool} {ks vs : List D} {k : D} (c : Cells K A μ G H) (e : dicOf sd μ = some (t, ks, vs)) (rd : RepS K A G sd vd) (rk : Rep K G k vk) (hf : fitK t k = true) :
    ∃ a o, vd = .ref a ∧ DGet H a vk o ∧ (∀ v, o = some v → ∃ d, findD ks vs k = some d ∧ Rep K G d v) ∧ (o = none → findD ks vs k = none) := by
  obtain ⟨a, rfl, h⟩ := dicOf_rep e c rd
  cases t with
  | false =>
    obtain ⟨kvs, h1, rfl, h3⟩ := h
    obtain ⟨k', rfl⟩ := fitF hf
    obtain rfl := keyD_val rk
    obtain ⟨q1, q2⟩ := findD_rep (kd := keyD) (fun _ _ z => keyD_inj z) k' h3
    exact ⟨a, _, rfl, .inl ⟨kvs, k', h1, rfl, rfl⟩, fun v hv => q1 v hv, q2⟩
  | true =>
    obtain ⟨kvs, h1, rfl, h3⟩ := h
    obtain ⟨k', rfl⟩ := fitT hf
    obtain ⟨b, rfl, hb⟩ := tupKey_val c.le rk
    obtain ⟨q1, q2⟩ := findD_rep (kd := fun ks : List Key => D.tup (ks.map keyD)) (fun _ _ z => tupKey_inj z) k' h3
    exact ⟨a, _, rfl, .inr ⟨kvs, k', b, h1, rfl, hb, rfl⟩, fun v hv => q1 v hv, q2⟩
def pDGet : SV → SV → Mem → VP → Prop := fun sd sk μ Q => match sk with
  | .d k => on (dicOf sd μ) fun z => fitK z.1 k = true ∧ on (findD z.2.1 z.2.2 k) fun d => Q (.d d) μ
  | _ => False
def rDGet : R2 := fun x y H Q => ∃ a v, x = .ref a ∧ DGet H a y (some v) ∧ Q v H
theorem pop_dget {K : PySem.W.Frag} : POp K rDGet pDGet := by
  intro sa sb μ A G H va vb Qp Q h c ra rb k
  match sb, h, rb with
  | .d key, h, rb =>
    obtain ⟨⟨t, ks, vs⟩, e, hf, h⟩ := on_of h
    obtain ⟨d, hd, q⟩ := on_of h
    obtain ⟨a, o, rfl, g, h1, h2⟩ := dget_of c e ra rb hf
    cases o with
    | none => rw [h2 rfl] at hd; cases hd
    | some v =>
      obtain ⟨d', e1, r⟩ := h1 v rfl
      have e2 : d' = d := Option.some.inj (e1.symm.trans hd)
      subst e2
      exact ⟨a, v, rfl, g, k _ _ _ _ _ _ q c .refl r⟩
def pDIn (neg : Bool) : SV → SV → Mem → VP → Prop := fun sk sd μ Q => match sk with
  | .d k => on (dicOf sd μ) fun z => fitK z.1 k = true ∧ Q (.d (.bl (if neg = true then !(findD z.2.1 z.2.2 k).isSome else (findD z.2.1 z.2.2 k).isSome))) μ
  | _ => False
def rDIn (neg : Bool) : R2 := fun y x H Q => ∃ a o, x = .ref a ∧ DGet H a y o ∧ Q (.bl (if neg = true then !o.isSome else o.isSome)) H
theorem pop_din {K : PySem.W.Frag} {neg : Bool} : POp K (rDIn neg) (pDIn neg) := by
  intro sb sa μ A G H vb va Qp Q h c rb ra k
  match sb, h, rb with
  | .d key, h, rb =>
    obtain ⟨⟨t, ks, vs⟩, e, hf, h⟩ := on_of h
    obtain ⟨a, o, rfl, g, h1, h2⟩ := dget_of c e ra rb hf
    refine ⟨a, o, rfl, g, k _ _ _ _ _ _ h c .refl ?_⟩
    have e2 : o.isSome = (findD ks vs key).isSome := by
      cases o with
      | none => rw [h2 rfl]; rfl
      | some v => obtain ⟨d', e1, _⟩ := h1 v rfl; rw [e1]; rfl
    rw [e2]; exact .bl _
section
variable {X : Cx} {W : WX} {a b c e o i : Expr} {ta tb tc te to ti : TX} {tL : TXA} {pos apos cpos pos' : Pos}
theorem op_or {f : Value → Value → Sem Value} {r1 r2 : R2} (h1 : OpR X f r1) (h2 : OpR X f r2) : OpR X f (fun x y H Q => r1 x y H Q ∨ r2 x y H Q) :=
  fun pins s σ H x y v u Q I rx ry h => h.elim (h1 pins s σ H x y v u Q I rx ry) (h2 pins s σ H x y v u Q I rx ry)
theorem op_dIn (hu : X.A.units + 1 < cLine) : OpR X (compareOp .In) (rDIn false) := by
  intro pins s σ H x y v u Q I rx ry ⟨a, o, e, g, q⟩
  subst e
  obtain rfl : u = Value.ref a := ry
  exact d_in hu I g rx fun s3 I3 => ⟨.bl o.isSome, H, I3, rfl, q⟩
theorem op_dNotIn (hu : X.A.units + 1 < cLine) : OpR X (compareOp .NotIn) (rDIn true) := by
  intro pins s σ H x y v u Q I rx ry ⟨a, o, e, g, q⟩
  subst e
  obtain rfl : u = Value.ref a := ry
  exact d_notIn hu I g rx fun s3 I3 => ⟨.bl (!o.isSome), H, I3, rfl, q⟩
theorem px_dget (hu : X.A.units + 1 < cLine) (ha : PX X W a ta) (hb : PX X W b tb) (hs : NoSl b := by intro _ _; rfl) : PX X W (.Subscript a b pos) (xOp pDGet ta tb) :=
  ⟨(pe_dget hu ha.pe hb.pe hs).imp fun _ _ _ h => lift_op pop_dget h⟩
theorem px_dIn (hu : X.A.units + 1 < cLine) (ha : PX X W a ta) (hb : PX X W b tb) (hm : behindInMarks .In b = false := by first | exact nomark _ | rfl) : PX X W (.Compare a [.In] [b] pos) (xOp (pDIn false) ta tb) := px_cmp (op_dIn hu) pop_din ha hb hm
theorem px_dNotIn (hu : X.A.units + 1 < cLine) (ha : PX X W a ta) (hb : PX X W b tb) (hm : behindInMarks .NotIn b = false := by first | exact nomark _ | rfl) : PX X W (.Compare a [.NotIn] [b] pos) (xOp (pDIn true) ta tb) := px_cmp (op_dNotIn hu) pop_din ha hb hm

/-- {} for keys that are ints and texts; tuples -/
def xNewK : TX := fun _ _ μ Q => Q (.c μ.length) (μ ++ [.dK [] []])
def xNewT : TX := fun _ _ μ Q => Q (.c μ.length) (μ ++ [.dT [] []])
theorem px_newK : PX X W (.Dict [] [] pos) xNewK := by
  refine ⟨pe_dnewK.imp fun σ H Q h => ?_⟩
  obtain ⟨A, ρ, μ, G, Qp, xp, S, ht, hx, k⟩ := h
  intro p hp
  obtain ⟨c2, s2⟩ := S.toCells.cell (o := .dK []) (cl := .dK [] []) hp ⟨[], upd_same, rfl, .nil⟩
  exact k _ _ _ _ _ _ ht c2 s2 ⟨p, by rw [← S.len]; simp, rfl⟩
theorem px_newT : PX X W (.Dict [] [] pos) xNewT := by
  refine ⟨pe_dnewT.imp fun σ H Q h => ?_⟩
  obtain ⟨A, ρ, μ, G, Qp, xp, S, ht, hx, k⟩ := h
  intro p hp
  obtain ⟨c2, s2⟩ := S.toCells.cell (o := .dT []) (cl := .dT [] []) hp ⟨[], upd_same, rfl, .nil⟩
  exact k _ _ _ _ _ _ ht c2 s2 ⟨p, by rw [← S.len]; simp, rfl⟩
/-- d[k] = v, d a dict of one's own -/
def dputS (so si s : SV) (μ : Mem) (q : Mem → Prop) : Prop := match so, si, s with
  | .c k, .d key, .d v => match μ[k]? with
    | some (.dK ks vs) => (fitK false key = true ∧ ks.length < sizeLine) ∧ q (μ.set k (.dK (putKs ks key) (putVs ks vs key v)))
    | some (.dT ks vs) => (fitK true key = true ∧ ks.length < sizeLine) ∧ q (μ.set k (.dT (putKs ks key) (putVs ks vs key v)))
    | _ => False
  | _, _, _ => False
def xDPut (to ti te : TX) : TXS := fun E ρ μ => te E.ex ρ μ fun s μ1 => to E.ex ρ μ1 fun so μ2 => ti E.ex ρ μ2 fun si μ3 => dputS so si s μ3 fun μ4 => E.nx ρ μ4
theorem dput_of {K : PySem.W.Frag} {A : List Addr} {μ : Mem} {G H : Hp} {so si s : SV} {vo vi v : V} {q : Mem → Prop} (h : dputS so si s μ q) (c : Cells K A μ G H) (r1 : RepS K A G so vo) (r2 : RepS K A G si vi) (r : RepS K A G s v) :
    ∃ a H' μ', vo = .ref a ∧ DPut H a vi v H' ∧ q μ' ∧ Cells K A μ' G H' ∧ Step A G H A G H' := by
  match so, si, s, h, r1, r2, r with
  | .c kk, .d key, .d w, h, r1, r2, r =>
    obtain ⟨a, ha, rfl⟩ := r1
    simp only [dputS] at h
    split at h
    · rename_i ks vs hk
      obtain ⟨⟨hf, hz⟩, h⟩ := h
      obtain ⟨kvs, h1, rfl, h3⟩ := c.ok _ _ _ ha hk
      obtain ⟨k', rfl⟩ := fitF hf
      obtain rfl := keyD_val r2
      obtain ⟨c3, s3⟩ := c.write (o := .dK (putK kvs k' v)) (cl := .dK (putKs (kvs.map fun p => keyD p.1) (keyD k')) (putVs (kvs.map fun p => keyD p.1) vs (keyD k') w)) ha
        ⟨_, upd_same, (put_keys (kd := keyD) (fun _ _ z => keyD_inj z) kvs k' v).symm, put_vals (kd := keyD) (fun _ _ z => keyD_inj z) h3 k' r⟩
      exact ⟨a, _, _, rfl, .inl ⟨kvs, k', h1, rfl, by simpa using hz, rfl⟩, h, c3, s3⟩
    · rename_i ks vs hk
      obtain ⟨⟨hf, hz⟩, h⟩ := h
      obtain ⟨kvs, h1, rfl, h3⟩ := c.ok _ _ _ ha hk
      obtain ⟨k', rfl⟩ := fitT hf
      obtain ⟨b, rfl, hb⟩ := tupKey_val c.le r2
      obtain ⟨c3, s3⟩ := c.write (o := .dT (putK kvs k' v)) (cl := .dT (putKs (kvs.map fun p => .tup (p.1.map keyD)) (.tup (k'.map keyD))) (putVs (kvs.map fun p => .tup (p.1.map keyD)) vs (.tup (k'.map keyD)) w)) ha
        ⟨_, upd_same, (put_keys (kd := fun ks : List Key => D.tup (ks.map keyD)) (fun _ _ z => tupKey_inj z) kvs k' v).symm, put_vals (kd := fun ks : List Key => D.tup (ks.map keyD)) (fun _ _ z => tupKey_inj z) h3 k' r⟩
      exact ⟨a, _, _, rfl, .inr ⟨kvs, k', b, h1, rfl, hb, by simpa using hz, rfl⟩, h, c3, s3⟩
    · exact h.elim
theorem psx_dput (hu : X.A.units + 1 < cLine) (ho : PX X W o to) (hi : PX X W i ti) (he : PX X W e te) (hs : swapsWith e (some (.Subscript o i pos')) pos.line X.env = pure false := by rfl) : PXS X W (.Assign [.Subscript o i pos'] e pos) (xDPut to ti te) := by
  refine ⟨(ps_dput hu ho.pe hi.pe he.pe hs).imp fun D σ H h => ?_⟩
  obtain ⟨A, ρ, μ, G, E, S, ht, k⟩ := h
  refine ⟨A, ρ, μ, G, _, _, S, ht, k.ex, fun s μ1 A1 G1 H1 v q c1 s1 r1 => ?_⟩
  refine ⟨A1, ρ, μ1, G1, _, _, S.after s1 c1, q, k.ex.after s1, fun so μ2 A2 G2 H2 vo q2 c2 s2 r2 => ?_⟩
  have s12 := s1.trans s2
  refine ⟨A2, ρ, μ2, G2, _, _, S.after s12 c2, q2, k.ex.after s12, fun si μ3 A3 G3 H3 vi q3 c3 s3 r3 => ?_⟩
  have s13 := s12.trans s3
  have s23 := s2.trans s3
  obtain ⟨a, H', μ', rfl, g, q4, c4, s4⟩ := dput_of q3 c3 (r2.mono s3.pre s3.le) r3 (r1.mono s23.pre s23.le)
  exact ⟨a, H', rfl, g, k.nx _ _ _ _ _ _ q4 (S.after (s13.trans s4) c4) (s13.trans s4)⟩

/-! ### keys are walked -/
def tLockD (td : TE) : TE := fun σ H Q => td σ H fun x H1 => ∃ d u, x = .ref d ∧ ((∃ kvs, u = .dK kvs) ∨ ∃ kvs, u = .dT kvs) ∧ ((H1 d = some u ∧ ∀ od, Q (.ref d) (upd H1 d (.frz od u))) ∨ ∃ od, H1 d = some (.frz od u) ∧ Q (.ref d) H1)
theorem pe_lockD {td : TE} (h : PE X e td) : PE X e (tLockD td) := by
  refine ⟨fun pins s σ H Q I q => ?_⟩
  refine thn (h.run pins s σ H _ I q) fun v s1 ⟨x, H1, I1, rx, d, u, ex, hu, q1⟩ => ?_
  subst ex
  rcases q1 with ⟨hd, q1⟩ | ⟨od, hd, q1⟩
  · obtain ⟨od, I2⟩ := I1.lock hd (by rcases hu with ⟨_, rfl⟩ | ⟨_, rfl⟩ <;> exact True.intro)
    exact ⟨_, _, I2, rx, q1 od⟩
  · exact ⟨_, _, I1, rx, q1⟩
theorem Cells.lockD {K : PySem.W.Frag} {A : List Addr} {μ : Mem} {G H : Hp} {d : Addr} {u : HO} {od : Obj} (c : Cells K A μ G H) (h : G d = some u) (hu : isDic u = true) : Cells K A μ (upd G d (.frz od u)) (upd H d (.frz od u)) ∧ Step A G H A (upd G d (.frz od u)) (upd H d (.frz od u)) := by
  have lg : LeZ G (upd G d (.frz od u)) := fun a o e => by
    by_cases z : a = d
    · subst z; rw [h] at e; cases e; exact .inr ⟨hu, od, upd_same⟩
    · exact .inl (by rw [upd_ne z]; exact e)
  have hH := c.le _ _ h
  have na : d ∉ A := fun z => by rw [c.free d z] at h; cases h
  refine ⟨⟨fun a o e => ?_, c.len, c.nd, fun a ha => ?_, fun k a cl e1 e2 => (c.ok k a cl e1 e2).mono (List.prefix_refl _) lg (upd_ne fun (z : a = d) => na (by rw [← z]; exact List.mem_of_getElem? e1))⟩, ⟨List.prefix_refl _, lg, fun a o e n => ?_, fun a e => ?_, fun a xs e => ?_, fun a ha => .inl ha, fun a e => ?_⟩⟩
  · by_cases z : a = d
    · subst z; rw [upd_same] at e ⊢; exact e
    · rw [upd_ne z] at e ⊢; exact c.le a o e
  · rw [upd_ne (fun (z : a = d) => na (by rw [← z]; exact ha))]; exact c.free a ha
  · by_cases z : a = d
    · subst z
      rw [hH] at e; cases e
      exact .inr ⟨h, hu, od, upd_same⟩
    · exact .inl (by rw [upd_ne z]; exact e)
  · by_cases z : a = d
    · subst z; exact .inl (by rw [h]; simp)
    · rw [upd_ne z] at e; exact .inl e
  · by_cases z : a = d
    · subst z; rw [upd_same] at e; cases e
    · rw [upd_ne z] at e; exact .inr e
  · by_cases z : a = d
    · subst z; rw [upd_same]; simp
    · rw [upd_ne z]; exact e
def xiK (te : TX) : TXI := fun x ρ μ Q => te x ρ μ fun s μ1 => match s with
  | .d (.dic _ ks _) => Q ks μ1
  | _ => False
theorem yd_keys {K : PySem.W.Frag} {G : Hp} {d : Addr} {od : Obj} {kvs : List (Key × V)} (h : G d = some (.frz od (.dK kvs))) : Walk (Itk d od kvs) (kvs.map fun p => keyD p.1).length (fun H => LeZ G H) (YD K (kvs.map fun p => keyD p.1) G) := by
  rw [List.length_map]
  refine walk_keys.mono (fun H z => z.same h rfl) fun i H0 x H' hi _ y G2 g2 _ => ?_
  obtain ⟨rfl, k, v, e, rfl⟩ := y
  exact ⟨keyD k, by rw [List.getElem?_map, e]; rfl, .inl ⟨rfl, keyD_rep k⟩⟩
theorem yd_keysT {K : PySem.W.Frag} {G : Hp} {d : Addr} {od : Obj} {kvs : List (List Key × V)} (h : G d = some (.frz od (.dT kvs))) : Walk (Itkt d od kvs) (kvs.map fun p => D.tup (p.1.map keyD)).length (fun H => LeZ G H) (YD K (kvs.map fun p => D.tup (p.1.map keyD)) G) := by
  rw [List.length_map]
  refine walk_keysT.mono (fun H z => z.same h rfl) fun i H0 x H' hi _ y G2 g2 _ => ?_
  obtain ⟨rfl, k, v, q, e, rfl, hq⟩ := y
  exact ⟨.tup (k.map keyD), by rw [List.getElem?_map, e]; rfl, .inr (.inr ⟨q, _, k.map keyD, rfl, hq, rfl, rfl, keyD_reps k⟩)⟩
theorem pxi_keys {tg : Expr} (he : PX X W e te) : PXI X W tg e (xiK te) := by
  refine ⟨_, pi_keys (pe_lockD he.pe), fun σ H R h => ?_⟩
  obtain ⟨A, ρ, μ, G, Rp, x, S, ht, hx, k⟩ := h
  refine ⟨A, ρ, μ, G, _, x, S, ht, hx, fun s μ1 A1 G1 H1 v q c1 s1 r1 => ?_⟩
  match s, q, r1 with
  | .d (.dic t ks vs), q, r1 =>
    cases r1 with
    | @dicK a kvs _ _ h hk hs =>
      subst hk
      rcases h with h | ⟨od, h⟩
      · refine ⟨a, .dK kvs, rfl, .inl ⟨_, rfl⟩, .inl ⟨c1.le _ _ h, fun od => ?_⟩⟩
        obtain ⟨c2, s2⟩ := c1.lockD (od := od) h rfl
        exact ⟨a, od, rfl, .inl ⟨kvs, upd_same, k _ _ _ _ _ _ q c2 (s1.trans s2) (yd_keys upd_same)⟩⟩
      · exact ⟨a, .dK kvs, rfl, .inl ⟨_, rfl⟩, .inr ⟨od, c1.le _ _ h, a, od, rfl, .inl ⟨kvs, c1.le _ _ h, k _ _ _ _ _ _ q c1 s1 (yd_keys h)⟩⟩⟩
    | @dicT a kvs _ _ h hk hs =>
      subst hk
      rcases h with h | ⟨od, h⟩
      · refine ⟨a, .dT kvs, rfl, .inr ⟨_, rfl⟩, .inl ⟨c1.le _ _ h, fun od => ?_⟩⟩
        obtain ⟨c2, s2⟩ := c1.lockD (od := od) h rfl
        exact ⟨a, od, rfl, .inr ⟨kvs, upd_same, k _ _ _ _ _ _ q c2 (s1.trans s2) (yd_keysT upd_same)⟩⟩
      · exact ⟨a, .dT kvs, rfl, .inr ⟨_, rfl⟩, .inr ⟨od, c1.le _ _ h, a, od, rfl, .inr ⟨kvs, c1.le _ _ h, k _ _ _ _ _ _ q c1 s1 (yd_keysT h)⟩⟩⟩

/-! ### calls whose new list or dict is data from here on -/
end
end PL
/-! The P-layer: calls whose new list or dict is data from here on; what is never met. -/
namespace PL
open PySem PySem.Spec PyProof.Rows L2
def optAll {α : Type} : List (Option α) → Option (List α)
  | [] => some []
  | some a :: r => (optAll r).map (a :: ·)
  | none :: _ => none
/-- what a value is from here on, its cells (all behind the first n0) data -/
def frzS (n0 : Nat) (μ : Mem) : Nat → SV → Option D
  | n, s => match s with
    | .d x => some x
    | .un => none
    | .c j => if n0 ≤ j then (match μ[j]? with
      | some (.lst l) => some (.lst l)
      | some (.dK ks vs) => some (.dic false ks vs)
      | some (.dT ks vs) => some (.dic true ks vs)
      | some (.ins C ns vs) => some (.obj C ns vs)
      | some (.dC ks is) => match n with
        | 0 => none
        | n + 1 => (optAll (is.map fun s => frzS n0 μ n s)).map (.dic true ks)
      | some (.inC C ns vs) => match n with
        | 0 => none
        | n + 1 => (optAll (vs.map fun s => frzS n0 μ n s)).map (.obj C ns)
      | none => none) else none
/-- a call of a def that promises p; what is made there is data here -/
def callPF (p : PSp) (x : XP) (ss : List SV) (μ : Mem) (Q : VP) : Prop := ndP (cellsOf ss) <| flP (picked μ (cellsOf ss)) <|
  p (fun C fs μ' => flP (μ'.take (cellsOf ss).length) (x C fs (merge μ (cellsOf ss) μ'))) (relab 0 ss) (picked μ (cellsOf ss)) fun r μ' => flP (μ'.take (cellsOf ss).length) <| match r with
    | .d d => Q (.d d) (merge μ (cellsOf ss) μ')
    | .c j => on (frzS (cellsOf ss).length μ' 3 (.c j)) fun d => Q (.d d) (merge μ (cellsOf ss) μ')
    | .un => False
/-- all cells of B are frozen -/
theorem Cells.frz {K : PySem.W.Frag} {A B : List Addr} {μ : Mem} {G H : Hp} (c : Cells K (A ++ B) μ G H) : ∃ G2, LeZ G G2 ∧ Le G2 H ∧ (∀ a, G2 a ≠ none → G a ≠ none ∨ a ∈ B) ∧ (∀ b ∈ B, G2 b = H b) ∧ ∀ b, b ∉ B → G2 b = G b := by
  classical
  refine ⟨fun a => if a ∈ B then H a else G a, fun a o e => .inl ?_, fun a o e => ?_, fun a e => ?_, fun b hb => if_pos hb, fun b hb => if_neg hb⟩
  · have : a ∉ B := fun z => by rw [c.free a (List.mem_append_right _ z)] at e; cases e
    exact (if_neg this).trans e
  · by_cases z : a ∈ B
    · exact (if_pos z).symm.trans e
    · exact c.le a o ((if_neg z).symm.trans e)
  · by_cases z : a ∈ B
    · exact .inr z
    · exact .inl fun w => e ((if_neg z).trans w)
theorem optAll_reps {K : PySem.W.Frag} {A : List Addr} {G G2 : Hp} {f : SV → Option D} : ∀ {ss : List SV} {vs : List V} {ds : List D}, optAll (ss.map f) = some ds → RepsS K A G ss vs → (∀ s v d, s ∈ ss → f s = some d → RepS K A G s v → Rep K G2 d v) → Reps K G2 ds vs
  | [], _, ds, e, .nil, _ => by simp [optAll] at e; subst e; exact .nil
  | s :: ss, _, ds, e, .cons r t, h => by
    rw [List.map_cons] at e
    cases e1 : f s with
    | none => rw [e1] at e; simp [optAll] at e
    | some d =>
      rw [e1] at e
      simp only [optAll, Option.map_eq_some_iff] at e
      obtain ⟨ds', e2, rfl⟩ := e
      exact .cons (h s _ d List.mem_cons_self e1 r) (optAll_reps e2 t fun s' v d hs => h s' v d (List.mem_cons_of_mem _ hs))
theorem frzS_rep {K : PySem.W.Frag} {A B : List Addr} {μ : Mem} {G G2 H : Hp} (c : Cells K (A ++ B) μ G H) (lg : LeZ G G2) (hB : ∀ b ∈ B, G2 b = H b) : ∀ (n : Nat) (s : SV) (v : V) (d : D), frzS A.length μ n s = some d → RepS K (A ++ B) G s v → Rep K G2 d v
  | n, .d x, v, d, e, r => by
    unfold frzS at e; cases e; exact Rep.mono lg r
  | n, .un, v, d, e, r => by unfold frzS at e; cases e
  | n, .c j, v, d, e, r => by
    obtain ⟨b, hb, rfl⟩ := r
    unfold frzS at e
    dsimp only at e
    split at e
    · rename_i hj
      have hbB : b ∈ B := by
        rw [List.getElem?_append_right hj] at hb
        exact List.mem_of_getElem? hb
      have hG := hB b hbB
      split at e
      · rename_i l hk
        obtain ⟨vs, h1, h2⟩ := c.ok _ _ _ hb hk
        cases e; exact .lst (hG.trans h1) (h2.mono lg)
      · rename_i ks vs hk
        obtain ⟨kvs, h1, h2, h3⟩ := c.ok _ _ _ hb hk
        cases e; exact .dicK (.inl (hG.trans h1)) h2 (h3.mono lg)
      · rename_i ks vs hk
        obtain ⟨kvs, h1, h2, h3⟩ := c.ok _ _ _ hb hk
        cases e; exact .dicT (.inl (hG.trans h1)) h2 (h3.mono lg)
      · rename_i C ns vs hk
        obtain ⟨dx, fs, h1, h2, h3⟩ := c.ok _ _ _ hb hk
        cases e; exact .obj (hG.trans h1) h2 (h3.mono lg)
      · rename_i ks is hk
        obtain ⟨kvs, h1, h2, h3⟩ := c.ok _ _ _ hb hk
        cases n with
        | zero => cases e
        | succ n =>
          simp only [Option.map_eq_some_iff] at e
          obtain ⟨ds, e1, rfl⟩ := e
          refine .dicT (.inl (hG.trans h1)) h2 (optAll_reps (f := frzS A.length μ n) e1 h3 fun s v d _ hs hr => frzS_rep c lg hB n s v d hs hr)
      · rename_i C ns vs hk
        obtain ⟨dx, fs, h1, h2, h3⟩ := c.ok _ _ _ hb hk
        cases n with
        | zero => cases e
        | succ n =>
          simp only [Option.map_eq_some_iff] at e
          obtain ⟨ds, e1, rfl⟩ := e
          exact .obj (hG.trans h1) h2 (optAll_reps (f := frzS A.length μ n) e1 h3 fun s v d _ hs hr => frzS_rep c lg hB n s v d hs hr)
      · cases e
    · cases e
section
variable {X : Cx} {W : WX} {a b c e : Expr} {es : List Expr} {kws : List Keyword} {tL tK : TXA} {pos ppos : Pos} {x : Str}
theorem call_lowF {K : PySem.W.Frag} {p : PSp} {x : XP} {ss : List SV} {vs : List V} {A : List Addr} {μ : Mem} {G H : Hp} {Qp : VP} {Q : VK} (h : callPF p x ss μ Qp) (c : Cells K A μ G H) (r : RepsS K A G ss vs) (hx : ExTo K W A G H x)
    (k : ∀ r μ' A' G' H' v, Qp r μ' → Cells K A' μ' G' H' → Step A G H A' G' H' → RepS K A' G' r v → Q v H') : low K p vs H Q (fun cls d H' => ∀ σ, W cls d σ H') := by
  obtain ⟨nd, h⟩ := ndP_of h
  obtain ⟨fl, h⟩ := flP_of h
  have hk := cellsOf_ok r
  refine ⟨pickA A (cellsOf ss), relab 0 ss, picked μ (cellsOf ss), G, _, _, c.pick hk nd fl, relab_ok 0 r (fun i k a e1 e2 => ?_), h, fun C fs μ' A' G' H' d q c' s' e σ => ?_, fun r' μ' A' G' H' v q c' s' rr => ?_⟩
  · obtain ⟨b, e3, e4⟩ := pickA_at hk e1
    rw [e2] at e3; cases e3
    rw [Nat.zero_add]; exact e4
  · obtain ⟨fl2, q⟩ := flP_of q
    obtain ⟨c2, s2⟩ := c.back hk nd c' s' fl2
    exact hx C fs _ A G' H' d σ q c2 s2 e
  · obtain ⟨fl2, q⟩ := flP_of q
    obtain ⟨c2, s2⟩ := c.back hk nd c' s' fl2
    match r', q, rr with
    | .d d, q, rr => exact k _ _ _ _ _ _ q c2 s2 rr
    | .c j, q, rr =>
      obtain ⟨d, hd, q⟩ := on_of q
      obtain ⟨B, rfl⟩ := s'.pre
      have hl : (pickA A (cellsOf ss)).length = (cellsOf ss).length := by simp [pickA]
      rw [← hl] at hd
      obtain ⟨G2, g1, g2, g3, g4, g5⟩ := c'.frz
      have hr := frzS_rep c' g1 g4 3 (.c j) v d hd rr
      have fresh : ∀ b ∈ B, H b = none := fun b hb => (s'.cells b (List.mem_append_right _ hb)).resolve_left fun z => by
        have := List.nodup_append.mp c'.nd
        exact this.2.2 b z b hb rfl
      have nA : ∀ a ∈ A, a ∉ B := fun a ha z => c.ne_of_lt ha (fresh a z) rfl
      refine k (.d d) _ A G2 H' _ q ⟨g2, c2.len, c2.nd, fun a ha => ?_, fun i a cl e1 e2 => (c2.ok i a cl e1 e2).mono (List.prefix_refl _) g1 rfl⟩ ⟨List.prefix_refl _, s2.le.trans g1, s2.keep, fun a e => ?_, s2.tups, s2.cells, s2.there⟩ hr
      · rw [g5 a (nA a ha)]; exact c2.free a ha
      · rcases g3 a e with z | z
        · exact s2.new a z
        · exact .inr (.inl (fresh a z))
def xUserF (p : PSp) (t : TXA) : TX := fun x ρ μ Q => t x ρ μ fun ss μ1 => callPF p x ss μ1 Q
theorem px_callF {k : Nat} {f : Addr} {fd : FuncData} {ps : List Str} {p : PSp} (tk : Takes X W) (F : FnOk X.prog X.w X.K X.mg X.base (L2.CX X.prog X.w) k f fd ps (low X.K p)) (hr : Room k X.A) (hg : Gl X x) (hm : X.mg x = some (.ref f)) (hk : PySem.W.keepIn X.K (.ref f) = true)
    (hb : Binds X.K fd ps []) (ha : PXA X W (e :: es) tL) (hdb : (x == ("__debug__" : Str)) = false := by decide) (he : starEach (e :: es) X.env = (false, eval e X.env) :: starEach es X.env := by rfl) (hpl : (backTo pos (starEach es X.env)).any (·.1) = false := by rfl) :
    PX X W (.Call (.Name x ppos) (e :: es) [] pos) (xUserF p tL) := by
  refine ⟨(pe_call F hr hg hm hk hb .nil (E := fun cls d H' => ∀ σ, W cls d σ H') (passes_call tk fun _ _ σ _ h => h σ) ha.pa hdb he hpl).imp fun σ H Q h => ?_⟩
  obtain ⟨A, ρ, μ, G, Qp, xp, S, ht, hx, k⟩ := h
  refine ⟨A, ρ, μ, G, _, xp, S, ht, hx, fun ss μ1 A1 G1 H1 vs q c1 s1 r1 => ?_⟩
  show low X.K p (vs ++ []) H1 Q _
  rw [List.append_nil]
  exact call_lowF q c1 r1 (hx.after s1) fun r μ' A' G' H' v q3 c3 s3 r3 => k r μ' A' G' H' v q3 c3 (s1.trans s3) r3
/-- what is never met -/
def xvNever : TX := fun _ _ _ _ => False
def xtNever : TXT := fun _ _ _ _ => False
theorem px_never : PX X W e xvNever := ⟨⟨fun pins s σ H Q I h => by
  obtain ⟨A, ρ, μ, G, Qp, xp, S, ht, hx, k⟩ := h
  exact ht.elim⟩⟩
theorem pxt_never : PXT X W e xtNever := ⟨⟨fun pins s σ H Q I h => by
  obtain ⟨A, ρ, μ, G, Qp, xp, S, ht, hx, k⟩ := h
  exact ht.elim⟩⟩
end
end PL
/-! The P-layer: defs by their names. -/
namespace PL
open PySem PySem.Spec PyProof.Rows L2
/-- the module's def x, as the text st has it -/
structure Def (K : PySem.W.Frag) (mg : Str → Option Value) (x : Str) (st : Stmt) : Prop where
  ex : ∃ fd, FunD K x x (defArgs st) (defBody st) (defScope st) [] [] (He.ga K x) fd ∧ mg x = some (.ref (He.ga K x))
/-- .. keeps p -/
structure Has (P : Program) (w : World) (K : PySem.W.Frag) (mg : Str → Option Value) (base : Heap) (k : Nat) (x : Str) (ps : List Str) (p : PSp) : Prop where
  ex : ∃ fd, FnOk P w K mg base (L2.CX P w) k (He.ga K x) fd ps (low K p) ∧ mg x = some (.ref (He.ga K x)) ∧ PySem.W.keepIn K (.ref (He.ga K x)) = true ∧ Binds K fd ps [] ∧ ∃ st, FunD K x x (defArgs st) (defBody st) (defScope st) [] [] (He.ga K x) fd
theorem _root_.L2.FunD.fun_ {K : PySem.W.Frag} {x : Str} {st : Stmt} {f : Addr} {fd : FuncData} (F : FunD K x x (defArgs st) (defBody st) (defScope st) [] [] f fd) : Fun K x x st f fd := by
  obtain ⟨oc, od, dV, kV, doc, pm, an, cdv, ct, osl, rfl, lk, hcd, hD, hK⟩ := F.ex
  rcases hD with ⟨_, rfl⟩ | ⟨e, _⟩
  · exact ⟨⟨oc, od, kV, doc, pm, an, cdv, ct, osl, rfl, lk, hcd⟩, F.kp⟩
  · exact absurd rfl e
/-- how a def's parameters take n values -/
def BindN (x : Str) (st : Stmt) (ps : List Str) : Prop := ∀ (kV doc pm : Value) (an : Option Addr) (cdv ct : Value) (us : List Value), us.length = ps.length → bindArgs (PySem.W.fnOf x x (defArgs st) (defBody st) (defScope st) .none kV doc pm an cdv ct) ⟨us, []⟩ = pure (ps.zip us)
section
variable {P : Program} {w : World} {K : PySem.W.Frag} {mg : Str → Option Value} {base : Heap}
theorem has_p {x : Str} {st : Stmt} {N ps : List Str} {k : Nat} {p : PSp} {t : TXS} (D : Def K mg x st) (S : FnScope N ps (defScope st)) (B : BindN x st ps) (len : ∀ x as μ Q, p x as μ Q → as.length = ps.length)
    (hb : ∀ (f : Addr) (cdv : Value) (A : Around) (outer : List Env) (s : Shared) (H : Hp) (E : XK), Room k (A.deeper (envOfC x (defScope st) s.heap.objs.size f cdv)) →
      PXSs (cxOf (L2.CX P w) P w K mg base N x (defScope st) f cdv A outer s H E) (fun cls d _ H => E cls d H) (defBody st) t)
    (hp : ∀ x as μ Q, p x as μ Q → t { nx := fun _ μ => Q (.d .non) μ, rt := Q, ex := x } (startP N.length as) μ) : Has P w K mg base (k + 1) x ps p := by
  obtain ⟨fd, F, hm⟩ := D.ex
  exact ⟨fd, fn_p F.fun_ S len hp (hb _), hm, F.kp, FunD.bindsN F B, st, F⟩
theorem Has.imp {x : Str} {ps : List Str} {k : Nat} {p q : PSp} (h : Has P w K mg base k x ps p) (i : ∀ x as μ Q, q x as μ Q → p x as μ Q) : Has P w K mg base k x ps q := by
  obtain ⟨fd, F, r⟩ := h.ex
  have i2 : ∀ vs H Q E, low K q vs H Q E → low K p vs H Q E := fun vs H Q E z => by
    obtain ⟨A', as, μ, G, Qp, x, c, rr, hq, hx, hk⟩ := z
    exact ⟨A', as, μ, G, Qp, x, c, rr, i _ _ _ _ hq, hx, hk⟩
  exact ⟨fd, ⟨fun vs H Q E z => F.1 vs H Q E (i2 _ _ _ _ z), fun A outer s H args us vs Q E hr e b r z => F.run A outer s H args us vs Q E hr e b r (i2 _ _ _ _ z)⟩, r⟩
end
/-- nothing let out -/
theorem _root_.L2.FnOk.ground {P : Program} {w : World} {K : PySem.W.Frag} {mg : Str → Option Value} {base : Heap} {k : Nat} {f : Addr} {fd : FuncData} {ps : List Str} {sp : Sp} (F : FnOk P w K mg base (L2.CX P w) k f fd ps sp) :
    FnOk P w K mg base CX0 k f fd ps (fun vs H Q _ => sp vs H Q fun _ _ _ => False) :=
  ⟨fun vs H Q E q => F.len vs H Q _ q, fun A outer s H args us vs Q E hr he hb hv hs => by
    have r := F.run A outer s H args us vs Q _ hr he hb hv hs
    refine codeAny_mono r fun r s' z => ?_
    cases r with
    | ok v => cases v <;> exact z
    | error e =>
      obtain ⟨_, _, _, _, _, _, _, _, _, _, _, _, q⟩ := z
      exact q.elim⟩
/-- the def's own context -/
theorem tk_of {P : Program} {w : World} {K : PySem.W.Frag} {mg : Str → Option Value} {base : Heap} {N : List Str} {qual : Str} {scope : Scope} {f : Addr} {cdv : Value} {A : Around} {outer : List Env} {s : Shared} {H : Hp} {E : XK} :
    Takes (cxOf (L2.CX P w) P w K mg base N qual scope f cdv A outer s H E) (fun cls d _ H => E cls d H) := takes_of rfl rfl rfl rfl
theorem hp_of {P : Program} {w : World} {K : PySem.W.Frag} {mg : Str → Option Value} {base : Heap} {N : List Str} {qual : Str} {scope : Scope} {f : Addr} {cdv : Value} {A : Around} {outer : List Env} {s : Shared} {H : Hp} {E : XK} :
    PassesOwn (model P w) (cxOf (L2.CX P w) P w K mg base N qual scope f cdv A outer s H E).A (cxOf (L2.CX P w) P w K mg base N qual scope f cdv A outer s H E).env (cxOf (L2.CX P w) P w K mg base N qual scope f cdv A outer s H E).xe :=
  passes_of (X := cxOf (L2.CX P w) P w K mg base N qual scope f cdv A outer s H E) rfl
section
variable {X : Cx} {W : WX} {a b c e : Expr} {es : List Expr} {kws : List Keyword} {tL tK : TXA} {pos ppos : Pos} {x : Str} {k k' : Nat} {ps : List Str} {p : PSp}
theorem px_callH (h : Has X.prog X.w X.K X.mg X.base k x ps p) (tk : Takes X W) (hr : Room k' X.A) (hle : k ≤ k') (hg : Gl X x) (ha : PXA X W (e :: es) tL) (hdb : (x == ("__debug__" : Str)) = false := by decide) (he : starEach (e :: es) X.env = (false, eval e X.env) :: starEach es X.env := by rfl) (hpl : (backTo pos (starEach es X.env)).any (·.1) = false := by rfl) :
    PX X W (.Call (.Name x ppos) (e :: es) [] pos) (xUser p tL) := by
  obtain ⟨fd, F, hm, hk, hb, _⟩ := h.ex
  exact px_call tk F (hr.mono hle) hg hm hk hb ha hdb he hpl
theorem px_callHF (h : Has X.prog X.w X.K X.mg X.base k x ps p) (tk : Takes X W) (hr : Room k' X.A) (hle : k ≤ k') (hg : Gl X x) (ha : PXA X W (e :: es) tL) (hdb : (x == ("__debug__" : Str)) = false := by decide) (he : starEach (e :: es) X.env = (false, eval e X.env) :: starEach es X.env := by rfl) (hpl : (backTo pos (starEach es X.env)).any (·.1) = false := by rfl) :
    PX X W (.Call (.Name x ppos) (e :: es) [] pos) (xUserF p tL) := by
  obtain ⟨fd, F, hm, hk, hb, _⟩ := h.ex
  exact px_callF tk F (hr.mono hle) hg hm hk hb ha hdb he hpl
/-- how keywords are taken -/
def BindK (x : Str) (ps : List Str) (n : Nat) (ks : List Str) (perm : List Nat) (st : Stmt) : Prop := ∀ (kV doc pm : Value) (an : Option Addr) (cdv ct : Value) (us ws : List Value), us.length = n → ws.length = ks.length → bindArgs (PySem.W.fnOf x x (defArgs st) (defBody st) (defScope st) .none kV doc pm an cdv ct) ⟨us, ks.zip ws⟩ = pure (ps.zip (permG Value.none perm us ws))
/-- .. with its text -/
structure HasK (P : Program) (w : World) (K : PySem.W.Frag) (mg : Str → Option Value) (base : Heap) (k : Nat) (x : Str) (st : Stmt) (ps : List Str) (p : PSp) : Prop where
  ex : ∃ fd, FnOk P w K mg base (L2.CX P w) k (He.ga K x) fd ps (low K p) ∧ mg x = some (.ref (He.ga K x)) ∧ PySem.W.keepIn K (.ref (He.ga K x)) = true ∧ FunD K x x (defArgs st) (defBody st) (defScope st) [] [] (He.ga K x) fd
theorem Has.withK {P : Program} {w : World} {K : PySem.W.Frag} {mg : Str → Option Value} {base : Heap} {st : Stmt} (h : Has P w K mg base k x ps p) (D : Def K mg x st) : HasK P w K mg base k x st ps p := by
  obtain ⟨fd, F, hm, hk, hb, st', F'⟩ := h.ex
  obtain ⟨gd, G, hm'⟩ := D.ex
  have e2 : fd = gd := by
    obtain ⟨_, _, _, _, _, _, _, _, _, _, _, l1, _⟩ := F'.ex
    obtain ⟨_, _, _, _, _, _, _, _, _, _, _, l2, _⟩ := G.ex
    rw [l1] at l2; cases l2; rfl
  subst e2
  exact ⟨fd, F, hm, hk, G⟩
theorem px_callHK {n : Nat} {ks : List Str} {perm : List Nat} {st : Stmt} (h : HasK X.prog X.w X.K X.mg X.base k x st ps p) (tk : Takes X W) (hr : Room k' X.A) (hle : k ≤ k') (hg : Gl X x)
    (hb : BindK x ps n ks perm st) (ha : PXA X W (e :: es) tL) (hkw : PXK X W kws tK) (hall : (backToKw pos (keywordEach kws X.env)).all (·.1.isSome) = true := by rfl) (hks : (backToKw pos (keywordEach kws X.env)).filterMap (·.1) = ks := by rfl)
    (hdb : (x == ("__debug__" : Str)) = false := by decide) (he : starEach (e :: es) X.env = (false, eval e X.env) :: starEach es X.env := by rfl)
    (hpl : ((backTo pos (starEach (e :: es) X.env)).any (·.1) || (backToKw pos (keywordEach kws X.env)).any (·.1.isNone)) = false := by rfl) : PX X W (.Call (.Name x ppos) (e :: es) kws pos) (xUserK p n ks.length perm tL tK) := by
  obtain ⟨fd, F, hm, hk, F'⟩ := h.ex
  exact px_callKw tk F (hr.mono hle) hg hm hk (kbn_of F' n ks perm hb) ha hkw hall hks hdb he hpl
theorem px_callHK0 {ks : List Str} {perm : List Nat} {st : Stmt} (h : HasK X.prog X.w X.K X.mg X.base k x st ps p) (tk : Takes X W) (hr : Room k' X.A) (hle : k ≤ k') (hg : Gl X x)
    (hb : BindK x ps 0 ks perm st) (hkw : PXK X W kws tK) (hall : (backToKw pos (keywordEach kws X.env)).all (·.1.isSome) = true := by rfl) (hks : (backToKw pos (keywordEach kws X.env)).filterMap (·.1) = ks := by rfl)
    (hdb : (x == ("__debug__" : Str)) = false := by decide)
    (hpl : ((backTo pos (starEach [] X.env)).any (·.1) || (backToKw pos (keywordEach kws X.env)).any (·.1.isNone)) = false := by rfl) : PX X W (.Call (.Name x ppos) [] kws pos) (xUserK p 0 ks.length perm xNil tK) := by
  obtain ⟨fd, F, hm, hk, F'⟩ := h.ex
  exact px_callKw0 tk F (hr.mono hle) hg hm hk (kbn_of F' 0 ks perm hb) hkw hall hks hdb hpl
/-- a def as a value -/
theorem px_fn {mg : Str → Option Value} (hm : Has X.prog X.w X.K X.mg X.base k x ps p) (hg : Gl X x) (e : X.mg = mg := by rfl) (hd : (x == ("__debug__" : Str)) = false := by decide) : PX X W (.Name x pos) (xC (.fn x)) := by
  obtain ⟨fd, F, hm, _⟩ := hm.ex
  subst e
  exact px_gref hg hm hd
theorem Has.held {P : Program} {w : World} {K : PySem.W.Frag} {mg : Str → Option Value} {base : Heap} (h : Has P w K mg base k x ps p) : HeldP P w K mg base k (He.ga K x) p := by
  obtain ⟨fd, F, hm, hk, hb, _⟩ := h.ex
  exact ⟨fd, ps, F, hk, hb⟩
end
end PL
/-! The P-layer: rules that hold whatever the sorts of the values are. -/
namespace PL
open PySem PySem.Spec PyProof.Rows L2 RZ
section
variable {X : Cx} {W : WX} {a b c e : Expr} {es : List Expr} {ta tb tc te : TX} {tA : TXT} {tL : TXA} {pos p tpos p2 : Pos} {elts : List Expr} {kk k : Nat} {x : Str}
theorem hu_of {A : Around} (r : Room k A) : A.units + 64 < cLine := r.units
theorem hu1_of {A : Around} (r : Room k A) : A.units + 1 < cLine := by have := r.units; omega
theorem px_gintC {i : Int} (hg : Gl X x) (hm : ∃ t, X.mg x = some (.int i t)) (hd : (x == ("__debug__" : Str)) = false := by decide) : PX X W (.Name x pos) (xC (.int i)) := let ⟨_, h⟩ := hm; px_gint hg h hd
theorem px_gstrC {z : Str} (hg : Gl X x) (hm : ∃ t, X.mg x = some (.str z t)) (hd : (x == ("__debug__" : Str)) = false := by decide) : PX X W (.Name x pos) (xC (.str z)) := let ⟨_, h⟩ := hm; px_gstr hg h hd
/-! ### + * -/
def pAddU : SV → SV → Mem → VP → Prop := fun sa sb μ Q => match sa, sb with
  | .d (.int i), .d (.int j) => Q (.d (.int (i + j))) μ
  | .d (.str i), .d (.str j) => i.length + j.length ≤ sizeLine ∧ Q (.d (.str (i ++ j))) μ
  | .d (.tup l), .d (.tup m) => l.length + m.length ≤ sizeLine ∧ Q (.d (.tup (l ++ m))) μ
  | sa, sb => on (lstOf sa μ) fun l => on (lstOf sb μ) fun m => l.length + m.length ≤ sizeLine ∧ Q (.d (.lst (l ++ m))) μ
def rAddS : R2 := fun x y H Q => ∃ i j, x = .str i ∧ y = .str j ∧ i.length + j.length ≤ sizeLine ∧ Q (.str (i ++ j)) H
theorem pop_addU : POp X.K (fun x y H Q => (rI0 (fun i j => .int (i + j)) x y H Q ∨ rAddS x y H Q) ∨ (rCatA X.K x y H Q ∨ rCat x y H Q)) pAddU := by
  intro sa sb μ A G H va vb Qp Q h c ra rb k
  unfold pAddU at h
  split at h
  · cases ra; cases rb
    exact .inl (.inl ⟨_, _, rfl, rfl, k _ _ _ _ _ _ h c .refl (.int _)⟩)
  · cases ra; cases rb
    exact .inl (.inr ⟨_, _, rfl, rfl, h.1, k _ _ _ _ _ _ h.2 c .refl (.str _)⟩)
  · rename_i l m
    exact .inr (.inl (pop_catT (X := X) (.d (.tup l)) (.d (.tup m)) μ A G H va vb Qp Q h c ra rb k))
  · exact .inr (.inr (pop_catL (K := X.K) _ _ μ A G H va vb Qp Q h c ra rb k))
theorem px_addU (ha : PX X W a ta) (hb : PX X W b tb) : PX X W (.BinOp a .Add b pos) (xOp pAddU ta tb) := px_op (op_or (op_or op_add op_add_str) (op_or op_catA op_cat)) pop_addU ha hb
def pMulU : SV → SV → Mem → VP → Prop := fun sa sb μ Q => match sa, sb with
  | .d (.int i), .d (.int j) => CMul i j ∧ Q (.d (.int (i * j))) μ
  | sa, .d (.int j) => on (lstOf sa μ) fun l => (-(2 ^ 63) ≤ j ∧ j < 2 ^ 63 ∧ l.length * j.toNat ≤ sizeLine) ∧ Q (.d (.lst (List.replicate j.toNat l).flatten)) μ
  | _, _ => False
theorem reps_rep {K : PySem.W.Frag} {G : Hp} {l : List D} {vs : List V} (r : Reps K G l vs) : ∀ n : Nat, Reps K G (List.replicate n l).flatten (List.replicate n vs).flatten
  | 0 => .nil
  | n + 1 => by
    rw [List.replicate_succ, List.replicate_succ, List.flatten_cons, List.flatten_cons]
    exact r.app (reps_rep r n)
theorem pop_mulU {K : PySem.W.Frag} : POp K (fun x y H Q => rI CMul (fun i j => .int (i * j)) x y H Q ∨ rRep x y H Q) pMulU := by
  intro sa sb μ A G H va vb Qp Q h c ra rb k
  unfold pMulU at h
  split at h
  · cases ra; cases rb
    exact .inl ⟨_, _, rfl, rfl, h.1, k _ _ _ _ _ _ h.2 c .refl (.int _)⟩
  · obtain ⟨l, e1, ⟨h1, h2, h3⟩, q⟩ := on_of h
    obtain ⟨a, us, rfl, g1, g2⟩ := lstOf_rep e1 c ra
    cases rb
    refine .inr ⟨a, _, us, rfl, rfl, g1, h1, h2, by rw [← g2.length]; exact h3, fun p hp => ?_⟩
    obtain ⟨c2, s2⟩ := c.laid (o := .lst (List.replicate _ us).flatten) hp
    exact k _ _ _ _ _ _ q c2 s2 (Rep.lst upd_same ((reps_rep g2 _).mono s2.le))
  · exact h.elim
theorem px_mulU (ha : PX X W a ta) (hb : PX X W b tb) : PX X W (.BinOp a .Mult b pos) (xOp pMulU ta tb) := px_op (op_or op_mul op_rep) pop_mulU ha hb
def xNeg (ta : TX) : TX := fun x ρ μ Q => ta x ρ μ fun s μ1 => match s with
  | .d (.int i) => Q (.d (.int (-i))) μ1
  | _ => False
theorem px_neg (ha : PX X W a ta) : PX X W (.UnaryOp .USub a pos) (xNeg ta) := by
  refine ⟨(pe_un un_neg ha.pe).imp fun σ H Q h => ?_⟩
  obtain ⟨A, ρ, μ, G, Qp, xp, S, ht, hx, k⟩ := h
  refine ⟨A, ρ, μ, G, _, xp, S, ht, hx, fun s μ1 A1 G1 H1 v q c1 s1 r1 => ?_⟩
  match s, q, r1 with
  | .d (.int i), q, r1 => cases r1; exact ⟨i, rfl, k _ _ _ _ _ _ q c1 s1 (.int _)⟩
/-! ### < <= > >= of ints, of texts -/
def sLt (i j : Str) : Bool := decide (i.cps.toList < j.cps.toList)
def pCmpU (f : Int → Int → Bool) (g : Str → Str → Bool) : SV → SV → Mem → VP → Prop := fun sa sb μ Q => match sa, sb with
  | .d (.int i), .d (.int j) => Q (.d (.bl (f i j))) μ
  | .d (.str i), .d (.str j) => Q (.d (.bl (g i j))) μ
  | _, _ => False
def rCmpS (g : Str → Str → Bool) : R2 := fun x y H Q => ∃ i j, x = .str i ∧ y = .str j ∧ Q (.bl (g i j)) H
theorem pop_cmpU {K : PySem.W.Frag} {f : Int → Int → Bool} {g : Str → Str → Bool} : POp K (fun x y H Q => rI0 (fun i j => .bl (f i j)) x y H Q ∨ rCmpS g x y H Q) (pCmpU f g) := by
  intro sa sb μ A G H va vb Qp Q h c ra rb k
  unfold pCmpU at h
  split at h
  · cases ra; cases rb
    exact .inl ⟨_, _, rfl, rfl, k _ _ _ _ _ _ h c .refl (.bl _)⟩
  · cases ra; cases rb
    exact .inr ⟨_, _, rfl, rfl, k _ _ _ _ _ _ h c .refl (.bl _)⟩
  · exact h.elim
abbrev pLtU := pCmpU (fun i j => decide (i < j)) fun i j => decide (i.cps.toList < j.cps.toList)
abbrev pLeU := pCmpU (fun i j => decide (i ≤ j)) fun i j => !decide (j.cps.toList < i.cps.toList)
abbrev pGtU := pCmpU (fun i j => decide (j < i)) fun i j => decide (j.cps.toList < i.cps.toList)
abbrev pGeU := pCmpU (fun i j => decide (j ≤ i)) fun i j => !decide (i.cps.toList < j.cps.toList)
theorem px_ltU (_ : X.A.units + 64 < cLine) (ha : PX X W a ta) (hb : PX X W b tb) : PX X W (.Compare a [.Lt] [b] pos) (xOp pLtU ta tb) := px_cmp (op_or op_lt op_lt_str) pop_cmpU ha hb
theorem px_leU (_ : X.A.units + 64 < cLine) (ha : PX X W a ta) (hb : PX X W b tb) : PX X W (.Compare a [.LtE] [b] pos) (xOp pLeU ta tb) := px_cmp (op_or op_le op_le_str) pop_cmpU ha hb
theorem px_gtU (_ : X.A.units + 64 < cLine) (ha : PX X W a ta) (hb : PX X W b tb) : PX X W (.Compare a [.Gt] [b] pos) (xOp pGtU ta tb) := px_cmp (op_or op_gt op_gt_str) pop_cmpU ha hb
theorem px_geU (_ : X.A.units + 64 < cLine) (ha : PX X W a ta) (hb : PX X W b tb) : PX X W (.Compare a [.GtE] [b] pos) (xOp pGeU ta tb) := px_cmp (op_or op_ge op_ge_str) pop_cmpU ha hb
theorem pxt_ltU (_ : X.A.units + 64 < cLine) (ha : PX X W a ta) (hb : PX X W b tb) : PXT X W (.Compare a [.Lt] [b] pos) (xTest (xOp pLtU ta tb)) := pxt_cmp (op_or op_lt op_lt_str) pop_cmpU ha hb
theorem pxt_leU (_ : X.A.units + 64 < cLine) (ha : PX X W a ta) (hb : PX X W b tb) : PXT X W (.Compare a [.LtE] [b] pos) (xTest (xOp pLeU ta tb)) := pxt_cmp (op_or op_le op_le_str) pop_cmpU ha hb
theorem pxt_gtU (_ : X.A.units + 64 < cLine) (ha : PX X W a ta) (hb : PX X W b tb) : PXT X W (.Compare a [.Gt] [b] pos) (xTest (xOp pGtU ta tb)) := pxt_cmp (op_or op_gt op_gt_str) pop_cmpU ha hb
theorem pxt_geU (_ : X.A.units + 64 < cLine) (ha : PX X W a ta) (hb : PX X W b tb) : PXT X W (.Compare a [.GtE] [b] pos) (xTest (xOp pGeU ta tb)) := pxt_cmp (op_or op_ge op_ge_str) pop_cmpU ha hb
theorem px_ltltI (ha : PX X W a ta) (hb : PX X W b tb) (hc : PX X W c tc) (hm : lastMarks [.Lt, .Lt] [b, c] = false := by with_unfolding_all rfl) : PX X W (.Compare a [.Lt, .Lt] [b, c] pos) (xChain pLt pLt ta tb tc) := px_chain op_lt (pop_I0 fun _ _ _ => .bl _) op_lt (pop_I0 fun _ _ _ => .bl _) ha hb hc hm
theorem pxt_ltltI (ha : PX X W a ta) (hb : PX X W b tb) (hc : PX X W c tc) (hm : lastMarks [.Lt, .Lt] [b, c] = false := by with_unfolding_all rfl) : PXT X W (.Compare a [.Lt, .Lt] [b, c] pos) (xTest (xChain pLt pLt ta tb tc)) := pxt_chain op_lt (pop_I0 fun _ _ _ => .bl _) op_lt (pop_I0 fun _ _ _ => .bl _) ha hb hc hm
theorem px_leltI (ha : PX X W a ta) (hb : PX X W b tb) (hc : PX X W c tc) (hm : lastMarks [.LtE, .Lt] [b, c] = false := by with_unfolding_all rfl) : PX X W (.Compare a [.LtE, .Lt] [b, c] pos) (xChain pLe pLt ta tb tc) := px_chain op_le (pop_I0 fun _ _ _ => .bl _) op_lt (pop_I0 fun _ _ _ => .bl _) ha hb hc hm
theorem pxt_leltI (ha : PX X W a ta) (hb : PX X W b tb) (hc : PX X W c tc) (hm : lastMarks [.LtE, .Lt] [b, c] = false := by with_unfolding_all rfl) : PXT X W (.Compare a [.LtE, .Lt] [b, c] pos) (xTest (xChain pLe pLt ta tb tc)) := pxt_chain op_le (pop_I0 fun _ _ _ => .bl _) op_lt (pop_I0 fun _ _ _ => .bl _) ha hb hc hm
theorem pxt_isN {j pos'} (ha : PX X W a ta) : PXT X W (.Compare a [.Is] [.Constant .none j pos'] pos) (xTest (xIsN ta)) := by
  refine ⟨(pt_cmp (pc_isN ha.pe)).imp fun σ H Q h => ?_⟩
  refine lift_test (t0 := _) (fun _ _ _ z => ?_) h
  obtain ⟨A, ρ, μ, G, Qp, xp, S, ht, hx, k⟩ := z
  refine ⟨A, ρ, μ, G, _, xp, S, ht, hx, fun r μ' A' G' H' v q c s rr => ?_⟩
  rcases isN_of rr with ⟨rfl, rfl⟩ | rfl | ⟨h1, h2, h3⟩
  · exact k _ _ _ _ _ _ q c s (.bl _)
  · exact q.elim
  · rw [h3]
    match r, h1, h2, q with
    | .c _, _, _, q => exact k _ _ _ _ _ _ q c s (.bl _)
    | .d d, h1, _, q => cases d <;> first | exact absurd rfl h1 | exact k _ _ _ _ _ _ q c s (.bl _)
theorem pxt_notN {j pos'} (ha : PX X W a ta) : PXT X W (.Compare a [.IsNot] [.Constant .none j pos'] pos) (xTest (xNotN ta)) := by
  refine ⟨(pt_cmp (pc_notN ha.pe)).imp fun σ H Q h => ?_⟩
  refine lift_test (t0 := _) (fun _ _ _ z => ?_) h
  obtain ⟨A, ρ, μ, G, Qp, xp, S, ht, hx, k⟩ := z
  refine ⟨A, ρ, μ, G, _, xp, S, ht, hx, fun r μ' A' G' H' v q c s rr => ?_⟩
  rcases isN_of rr with ⟨rfl, rfl⟩ | rfl | ⟨h1, h2, h3⟩
  · exact k _ _ _ _ _ _ q c s (.bl _)
  · exact q.elim
  · rw [h3]
    match r, h1, h2, q with
    | .c _, _, _, q => exact k _ _ _ _ _ _ q c s (.bl _)
    | .d d, h1, _, q => cases d <;> first | exact absurd rfl h1 | exact k _ _ _ _ _ _ q c s (.bl _)
/-! ### in: a dict, a list or tuple of data, one sign in a text -/
def rInTD (K : PySem.W.Frag) (neg : Bool) : R2 := fun x y H Q => ∃ d ds, Dp K H x d ∧ Dp K H y (.tuple ds) ∧ SeqAt.shaped d = true ∧ SeqAt.shaped (.tuple ds) = true ∧ Q (.bl (if neg = true then !ds.any fun z => PyData.eqv z d else ds.any fun z => PyData.eqv z d)) H
theorem room_tup {A : Around} {d : PyData} {ds : List PyData} (sd : SeqAt.shaped d = true) (hu : A.units + 64 < cLine) (dp : d.depth ≤ 62) : A.units + 1 + min (PyData.depthAll ds) d.depth < cLine := by
  have : min (PyData.depthAll ds) d.depth ≤ 62 := Nat.le_trans (Nat.min_le_right _ _) dp
  omega
theorem okEq_depth {d : D} (h : okEq d = true) : (toPy d).depth ≤ 61 := by
  obtain ⟨h1, h2⟩ := flat_lay 60 d h
  omega
theorem shaped_lay {d : PyData} (h : SeqAt.shaped d = true) : d.canLay0 = true := SeqAt.canLay_of_shaped h
theorem toPys_any {d : PyData} : ∀ l : List D, ((toPys l).any fun z => PyData.eqv z d) = l.any fun z => PyData.eqv (toPy z) d
  | [] => rfl
  | x :: l => by simp only [toPys, List.any_cons, toPys_any l]
def inD (d : D) (l : List D) : Bool := l.any fun z => deq z d
def pInU : SV → SV → Mem → VP → Prop := fun sk sd μ Q => match sk, sd with
  | .d k, .d (.dic t ks vs) => fitK t k = true ∧ Q (.d (.bl ((findD ks vs k).isSome))) μ
  | .d k, .d (.tup l) => (okEq k = true ∧ okEq (.tup l) = true) ∧ Q (.d (.bl (inD k l))) μ
  | .d k, .d (.ntp l) => (okEq k = true ∧ okEq (.ntp l) = true) ∧ Q (.d (.bl (inD k l))) μ
  | .d k, .d (.lst l) => (okEq k = true ∧ okEq (.lst l) = true) ∧ Q (.d (.bl (inD k l))) μ
  | .d (.str x), .d (.str z) => (∃ c, x = ⟨#[c]⟩ ∧ Q (.d (.bl (decide (c ∈ z.cps.toList)))) μ)
  | .d k, .c j => match μ[j]? with
    | some (.lst l) => (okEq k = true ∧ okEq (.lst l) = true) ∧ Q (.d (.bl (inD k l))) μ
    | some (.dK ks vs) => fitK false k = true ∧ Q (.d (.bl ((findD ks vs k).isSome))) μ
    | some (.dT ks vs) => fitK true k = true ∧ Q (.d (.bl ((findD ks vs k).isSome))) μ
    | _ => False
  | _, _ => False
def pNiU : SV → SV → Mem → VP → Prop := fun sk sd μ Q => match sk, sd with
  | .d k, .d (.dic t ks vs) => fitK t k = true ∧ Q (.d (.bl (!(findD ks vs k).isSome))) μ
  | .d k, .d (.tup l) => (okEq k = true ∧ okEq (.tup l) = true) ∧ Q (.d (.bl (!inD k l))) μ
  | .d k, .d (.ntp l) => (okEq k = true ∧ okEq (.ntp l) = true) ∧ Q (.d (.bl (!inD k l))) μ
  | .d k, .d (.lst l) => (okEq k = true ∧ okEq (.lst l) = true) ∧ Q (.d (.bl (!inD k l))) μ
  | .d (.str x), .d (.str z) => (∃ c, x = ⟨#[c]⟩ ∧ Q (.d (.bl (!decide (c ∈ z.cps.toList)))) μ)
  | .d k, .c j => match μ[j]? with
    | some (.lst l) => (okEq k = true ∧ okEq (.lst l) = true) ∧ Q (.d (.bl (!inD k l))) μ
    | some (.dK ks vs) => fitK false k = true ∧ Q (.d (.bl (!(findD ks vs k).isSome))) μ
    | some (.dT ks vs) => fitK true k = true ∧ Q (.d (.bl (!(findD ks vs k).isSome))) μ
    | _ => False
  | _, _ => False
def rInS0 (neg : Bool) : R2 := fun x y H Q => ∃ (c : Nat) (z : Str), x = .str ⟨#[c]⟩ ∧ y = .str z ∧ Q (.bl (if neg = true then !decide (c ∈ z.cps.toList) else decide (c ∈ z.cps.toList))) H
def rInLD (K : PySem.W.Frag) (neg : Bool) : R2 := fun x y H Q => ∃ d ds, (Dp K H x d ∧ d.depth ≤ 62) ∧ Dp K H y (.list ds) ∧ SeqAt.shaped d = true ∧ SeqAt.shaped (.list ds) = true ∧ Q (.bl (if neg = true then !ds.any fun z => PyData.eqv z d else ds.any fun z => PyData.eqv z d)) H
def rInTD' (K : PySem.W.Frag) (neg : Bool) : R2 := fun x y H Q => ∃ d ds, (Dp K H x d ∧ d.depth ≤ 62) ∧ Dp K H y (.tuple ds) ∧ SeqAt.shaped d = true ∧ SeqAt.shaped (.tuple ds) = true ∧ Q (.bl (if neg = true then !ds.any fun z => PyData.eqv z d else ds.any fun z => PyData.eqv z d)) H
theorem shaped_all {ds : List PyData} (h : SeqAt.shaped (.list ds) = true) : PyData.canLayAll0 ds = true := SeqAt.canLay_of_shaped h
theorem shaped_allT {ds : List PyData} (h : SeqAt.shaped (.tuple ds) = true) : PyData.canLayAll0 ds = true := SeqAt.canLay_of_shaped h
theorem op_inLD (hu : X.A.units + 64 < cLine) : OpR X (compareOp .In) (rInLD X.K false) := by
  intro pins s σ H x y v u Q I rx ry h
  obtain ⟨d, ds, ⟨hd, hp⟩, he, sd, se, q⟩ := h
  obtain ⟨as, r1⟩ := Dp.reads I d x v hd rx
  obtain ⟨bs, r2⟩ := Dp.reads I (.list ds) y u he ry
  exact SeqAt.in_list_reads r2 r1 (shaped_all se) (shaped_lay sd) (room_tup sd hu hp) ⟨.bl _, H, I, rfl, q⟩
theorem op_notInLD (hu : X.A.units + 64 < cLine) : OpR X (compareOp .NotIn) (rInLD X.K true) := by
  intro pins s σ H x y v u Q I rx ry h
  obtain ⟨d, ds, ⟨hd, hp⟩, he, sd, se, q⟩ := h
  obtain ⟨as, r1⟩ := Dp.reads I d x v hd rx
  obtain ⟨bs, r2⟩ := Dp.reads I (.list ds) y u he ry
  exact SeqAt.notIn_list_reads r2 r1 (shaped_all se) (shaped_lay sd) (room_tup sd hu hp) ⟨.bl _, H, I, rfl, q⟩
theorem op_inTD (hu : X.A.units + 64 < cLine) : OpR X (compareOp .In) (rInTD' X.K false) := by
  intro pins s σ H x y v u Q I rx ry h
  obtain ⟨d, ds, ⟨hd, hp⟩, he, sd, se, q⟩ := h
  obtain ⟨as, r1⟩ := Dp.reads I d x v hd rx
  obtain ⟨bs, r2⟩ := Dp.reads I (.tuple ds) y u he ry
  exact SeqAt.in_tuple_reads r2 r1 (shaped_allT se) (shaped_lay sd) (room_tup sd hu hp) ⟨.bl _, H, I, rfl, q⟩
theorem op_notInTD (hu : X.A.units + 64 < cLine) : OpR X (compareOp .NotIn) (rInTD' X.K true) := by
  intro pins s σ H x y v u Q I rx ry h
  obtain ⟨d, ds, ⟨hd, hp⟩, he, sd, se, q⟩ := h
  obtain ⟨as, r1⟩ := Dp.reads I d x v hd rx
  obtain ⟨bs, r2⟩ := Dp.reads I (.tuple ds) y u he ry
  exact SeqAt.notIn_tuple_reads r2 r1 (shaped_allT se) (shaped_lay sd) (room_tup sd hu hp) ⟨.bl _, H, I, rfl, q⟩
theorem inD_eq (k : D) (l : List D) : ((toPys l).any fun z => PyData.eqv z (toPy k)) = inD k l := toPys_any l
theorem pop_inU {K : PySem.W.Frag} : POp K (fun x y H Q => (rDIn false x y H Q ∨ rInS0 false x y H Q) ∨ (rInLD K false x y H Q ∨ rInTD' K false x y H Q)) pInU := by
  have bl : ∀ (G : Hp) (b : Bool), Rep K G (.bl b) (.bl b) := fun G b => .bl b
  intro sk sd μ A G H va vb Qp Q h c ra rb k
  unfold pInU at h
  split at h
  · rename_i k t ks vs
    exact .inl (.inl (pop_din (K := K) (.d k) (.d (.dic t ks vs)) μ A G H va vb Qp Q h c ra rb ‹_›))
  · rename_i kd l
    obtain ⟨⟨h1, h2⟩, q⟩ := h
    rw [← inD_eq] at q
    refine .inr (.inr ⟨toPy kd, toPys l, ⟨rep_dp c.le 60 kd _ h1 ra, by have := okEq_depth h1; omega⟩, ?_, okEq_shaped h1, ?_, k _ _ _ _ _ _ q c .refl (.bl _)⟩)
    · have := rep_dp c.le 60 (.tup l) _ h2 rb
      simpa only [toPy] using this
    · have := okEq_shaped h2
      simpa only [toPy] using this
  · rename_i kd l
    obtain ⟨⟨h1, h2⟩, q⟩ := h
    rw [← inD_eq] at q
    refine .inr (.inr ⟨toPy kd, toPys l, ⟨rep_dp c.le 60 kd _ h1 ra, by have := okEq_depth h1; omega⟩, ?_, okEq_shaped h1, ?_, k _ _ _ _ _ _ q c .refl (.bl _)⟩)
    · have := rep_dp c.le 60 (.ntp l) _ h2 rb
      simpa only [toPy] using this
    · have := okEq_shaped h2
      simpa only [toPy] using this
  · rename_i kd l
    obtain ⟨⟨h1, h2⟩, q⟩ := h
    rw [← inD_eq] at q
    refine .inr (.inl ⟨toPy kd, toPys l, ⟨rep_dp c.le 60 kd _ h1 ra, by have := okEq_depth h1; omega⟩, ?_, okEq_shaped h1, ?_, k _ _ _ _ _ _ q c .refl (.bl _)⟩)
    · have := rep_dp c.le 60 (.lst l) _ h2 rb
      simpa only [toPy] using this
    · have := okEq_shaped h2
      simpa only [toPy] using this
  · rename_i x z
    obtain ⟨ch, rfl, q⟩ := h
    cases ra; cases rb
    exact .inl (.inr ⟨ch, z, rfl, rfl, k _ _ _ _ _ _ q c .refl (.bl _)⟩)
  · rename_i kd j
    split at h
    · rename_i l hk
      obtain ⟨a, ha, rfl⟩ := rb
      obtain ⟨us, g1, g2⟩ := c.ok _ _ _ ha hk
      obtain ⟨⟨h1, h2⟩, q⟩ := h
      rw [← inD_eq] at q
      refine .inr (.inl ⟨toPy kd, toPys l, ⟨rep_dp c.le 60 kd _ h1 ra, by have := okEq_depth h1; omega⟩, .lst (SqL.of g1) (reps_dp c.le 59 l _ (by unfold okEq at h2; simpa only [flat] using h2) g2), okEq_shaped h1, ?_, k _ _ _ _ _ _ q c .refl (.bl _)⟩)
      have := okEq_shaped h2
      simpa only [toPy] using this
    · rename_i ks vs hk
      exact .inl (.inl (pop_din (K := K) (.d kd) (.c j) μ A G H va vb Qp Q (by simp only [pDIn, dicOf, hk, on]; exact h) c ra rb k))
    · rename_i ks vs hk
      exact .inl (.inl (pop_din (K := K) (.d kd) (.c j) μ A G H va vb Qp Q (by simp only [pDIn, dicOf, hk, on]; exact h) c ra rb k))
    · exact h.elim
  · exact h.elim
theorem pop_niU {K : PySem.W.Frag} : POp K (fun x y H Q => (rDIn true x y H Q ∨ rInS0 true x y H Q) ∨ (rInLD K true x y H Q ∨ rInTD' K true x y H Q)) pNiU := by
  have bl : ∀ (G : Hp) (b : Bool), Rep K G (.bl b) (.bl b) := fun G b => .bl b
  intro sk sd μ A G H va vb Qp Q h c ra rb k
  unfold pNiU at h
  split at h
  · rename_i k t ks vs
    exact .inl (.inl (pop_din (K := K) (.d k) (.d (.dic t ks vs)) μ A G H va vb Qp Q h c ra rb ‹_›))
  · rename_i kd l
    obtain ⟨⟨h1, h2⟩, q⟩ := h
    rw [← inD_eq] at q
    refine .inr (.inr ⟨toPy kd, toPys l, ⟨rep_dp c.le 60 kd _ h1 ra, by have := okEq_depth h1; omega⟩, ?_, okEq_shaped h1, ?_, k _ _ _ _ _ _ q c .refl (.bl _)⟩)
    · have := rep_dp c.le 60 (.tup l) _ h2 rb
      simpa only [toPy] using this
    · have := okEq_shaped h2
      simpa only [toPy] using this
  · rename_i kd l
    obtain ⟨⟨h1, h2⟩, q⟩ := h
    rw [← inD_eq] at q
    refine .inr (.inr ⟨toPy kd, toPys l, ⟨rep_dp c.le 60 kd _ h1 ra, by have := okEq_depth h1; omega⟩, ?_, okEq_shaped h1, ?_, k _ _ _ _ _ _ q c .refl (.bl _)⟩)
    · have := rep_dp c.le 60 (.ntp l) _ h2 rb
      simpa only [toPy] using this
    · have := okEq_shaped h2
      simpa only [toPy] using this
  · rename_i kd l
    obtain ⟨⟨h1, h2⟩, q⟩ := h
    rw [← inD_eq] at q
    refine .inr (.inl ⟨toPy kd, toPys l, ⟨rep_dp c.le 60 kd _ h1 ra, by have := okEq_depth h1; omega⟩, ?_, okEq_shaped h1, ?_, k _ _ _ _ _ _ q c .refl (.bl _)⟩)
    · have := rep_dp c.le 60 (.lst l) _ h2 rb
      simpa only [toPy] using this
    · have := okEq_shaped h2
      simpa only [toPy] using this
  · rename_i x z
    obtain ⟨ch, rfl, q⟩ := h
    cases ra; cases rb
    exact .inl (.inr ⟨ch, z, rfl, rfl, k _ _ _ _ _ _ q c .refl (.bl _)⟩)
  · rename_i kd j
    split at h
    · rename_i l hk
      obtain ⟨a, ha, rfl⟩ := rb
      obtain ⟨us, g1, g2⟩ := c.ok _ _ _ ha hk
      obtain ⟨⟨h1, h2⟩, q⟩ := h
      rw [← inD_eq] at q
      refine .inr (.inl ⟨toPy kd, toPys l, ⟨rep_dp c.le 60 kd _ h1 ra, by have := okEq_depth h1; omega⟩, .lst (SqL.of g1) (reps_dp c.le 59 l _ (by unfold okEq at h2; simpa only [flat] using h2) g2), okEq_shaped h1, ?_, k _ _ _ _ _ _ q c .refl (.bl _)⟩)
      have := okEq_shaped h2
      simpa only [toPy] using this
    · rename_i ks vs hk
      exact .inl (.inl (pop_din (K := K) (.d kd) (.c j) μ A G H va vb Qp Q (by simp only [pDIn, dicOf, hk, on]; exact h) c ra rb k))
    · rename_i ks vs hk
      exact .inl (.inl (pop_din (K := K) (.d kd) (.c j) μ A G H va vb Qp Q (by simp only [pDIn, dicOf, hk, on]; exact h) c ra rb k))
    · exact h.elim
  · exact h.elim
theorem op_inU (hu : X.A.units + 64 < cLine) : OpR X (compareOp .In) (fun x y H Q => (rDIn false x y H Q ∨ rInS0 false x y H Q) ∨ (rInLD X.K false x y H Q ∨ rInTD' X.K false x y H Q)) :=
  op_or (op_or (op_dIn (by omega)) op_in_sign) (op_or (op_inLD hu) (op_inTD hu))
theorem op_notInU (hu : X.A.units + 64 < cLine) : OpR X (compareOp .NotIn) (fun x y H Q => (rDIn true x y H Q ∨ rInS0 true x y H Q) ∨ (rInLD X.K true x y H Q ∨ rInTD' X.K true x y H Q)) :=
  op_or (op_or (op_dNotIn (by omega)) op_notIn_sign) (op_or (op_notInLD hu) (op_notInTD hu))
theorem px_inU (hu : X.A.units + 64 < cLine) (ha : PX X W a ta) (hb : PX X W b tb) (hm : behindInMarks .In b = false := by first | exact nomark _ | rfl) : PX X W (.Compare a [.In] [b] pos) (xOp pInU ta tb) := px_cmp (op_inU hu) pop_inU ha hb hm
theorem px_notinU (hu : X.A.units + 64 < cLine) (ha : PX X W a ta) (hb : PX X W b tb) (hm : behindInMarks .NotIn b = false := by first | exact nomark _ | rfl) : PX X W (.Compare a [.NotIn] [b] pos) (xOp pNiU ta tb) := px_cmp (op_notInU hu) pop_niU ha hb hm
theorem pxt_inU (hu : X.A.units + 64 < cLine) (ha : PX X W a ta) (hb : PX X W b tb) (hm : behindInMarks .In b = false := by first | exact nomark _ | rfl) : PXT X W (.Compare a [.In] [b] pos) (xTest (xOp pInU ta tb)) := pxt_cmp (op_inU hu) pop_inU ha hb hm
theorem pxt_notinU (hu : X.A.units + 64 < cLine) (ha : PX X W a ta) (hb : PX X W b tb) (hm : behindInMarks .NotIn b = false := by first | exact nomark _ | rfl) : PXT X W (.Compare a [.NotIn] [b] pos) (xTest (xOp pNiU ta tb)) := pxt_cmp (op_notInU hu) pop_niU ha hb hm
/-! ### slices of tuples, lists, the script -/
def pSlU : SV → Option Int → Option Int → Mem → VP → Prop := fun sa lo hi μ Q => match sa with
  | .d (.tup l) => Q (.d (.tup (cutD l lo hi))) μ
  | .d (.scr l) => Q (.d (.lst (cutD (l.map .int) lo hi))) μ
  | sa => on (lstOf sa μ) fun l => Q (.d (.lst (cutD l lo hi))) μ
theorem psl_U : PSl X.K (fun x lo hi H Q => rSlA X.K x lo hi H Q ∨ rSlL X.K x lo hi H Q) pSlU := by
  intro sa lo hi μ A G H va Qp Q h c ra k
  unfold pSlU at h
  split at h
  · rename_i l
    exact .inl (psl_tup (.d (.tup l)) lo hi μ A G H va Qp Q h c ra k)
  · rename_i l
    exact .inr (psl_scr (.d (.scr l)) lo hi μ A G H va Qp Q h c ra k)
  · exact .inr (psl_list _ lo hi μ A G H va Qp Q h c ra k)
theorem px_slU {lo hi : Option Expr} {tl th : TXO} (ha : PX X W a ta) (hl : PXO X W lo tl) (hh : PXO X W hi th) : PX X W (.Subscript a (.Slice lo hi none p2) pos) (xSl pSlU ta tl th) := px_sl (SlR.or sl_tupA sl_list) psl_U ha hl hh
/-! ### what is walked: a tuple, a list, the script, a dict's keys, a text -/
def iU (K : PySem.W.Frag) (td : TE) : TI := fun σ H R => td σ H fun x H1 => (∃ a xs, x = .ref a ∧ SqT K H1 a xs ∧ R (Itt K a) H1) ∨ (∃ a xs, x = .ref a ∧ SqL K H1 a xs ∧ R (Itl K a) H1) ∨
  (∃ z, x = .str z ∧ R (Its z) H1) ∨ ∃ d u, x = .ref d ∧ ((∃ kvs, u = .dK kvs) ∨ ∃ kvs, u = .dT kvs) ∧ ((H1 d = some u ∧ ∀ od, (∀ kvs, u = .dK kvs → R (Itk d od kvs) (upd H1 d (.frz od u))) ∧ ∀ kvs, u = .dT kvs → R (Itkt d od kvs) (upd H1 d (.frz od u))) ∨
    ∃ od, H1 d = some (.frz od u) ∧ (∀ kvs, u = .dK kvs → R (Itk d od kvs) H1) ∧ ∀ kvs, u = .dT kvs → R (Itkt d od kvs) H1)
theorem keys_core {tg : Expr} {pins : List (Addr × Obj)} {σ : L2.St} {H1 : Hp} {s1 : Shared} {R : It → Hp → Prop} {d : Addr} {o : Obj} {u : HO} (I1 : Inv X pins σ H1 s1) (hd : H1 d = some (.frz o u)) (hu : (∃ kvs, u = .dK kvs) ∨ ∃ kvs, u = .dT kvs)
    (q1 : ∀ kvs, u = .dK kvs → R (Itk d o kvs) H1) (q2 : ∀ kvs, u = .dT kvs → R (Itkt d o kvs) H1) : wpAny (model X.prog X.w) X.A (pyIter (.ref d)) (PIE X pins σ tg R) X.xe s1 := by
  rcases hu with ⟨kvs, rfl⟩ | ⟨kvs, rfl⟩
  · obtain ⟨hs, hgd, hx, es, ep, vs, hdt, hsz, kv, hm⟩ := I1.frzK hd
    refine iter_keys hs hgd hx hdt (pi_one (tk := s1.toks) I1 _ (turn_keys _ hdt) ⟨_, Heap.get?_push_size _ rfl, rfl, ?_⟩ (q1 _ rfl))
    rw [hsz] <;> rfl
  · obtain ⟨hs, hgd, hx, es, ep, hdt, hsz, ent⟩ := I1.frzT hd
    refine iter_keys hs hgd hx hdt (pi_one (tk := s1.toks) I1 _ (turn_keysT _ hdt) ⟨_, Heap.get?_push_size _ rfl, rfl, ?_⟩ (q2 _ rfl))
    rw [hsz] <;> rfl
theorem pi_U {tg : Expr} {td : TE} (he : PE X e td) : PI X tg e (iU X.K td) := by
  refine ⟨fun pins s σ H R I h => ?_⟩
  refine thn (he.run pins s σ H _ I h) fun v s1 ⟨x, H1, I1, r1, q1⟩ => ?_
  rcases q1 with ⟨a, xs, rfl, hq, q⟩ | ⟨a, xs, rfl, hq, q⟩ | ⟨z, rfl, q⟩ | ⟨d, u, rfl, hu, q⟩
  · cases r1
    obtain ⟨its, rv, p, hz⟩ := I1.tuple hq
    refine wpAny_pyIter_tuple (show s1.heap.IsTuple a its.toArray from p) ?_
    refine ⟨s1.heap.objs.size, [s1.heap.objs.size], _, _, H1, rfl, I1.kept (t' := s1.toks) fun b o e => Heap.get?_push_of_some _ e, turn_tuple a _, ⟨_, Heap.get?_push_size _ rfl, rfl, rfl⟩, fun b hb => ?_, q⟩
    have e : b = s1.heap.objs.size := by simpa using hb
    subst e
    exact I1.fpOk (Nat.le_refl _) (I1.hok.fresh (Nat.le_refl _))
  · cases r1
    obtain ⟨its, rv, p, hz⟩ := I1.list hq
    refine wpAny_pyIter_list p.isList ?_
    refine ⟨s1.heap.objs.size, [s1.heap.objs.size], _, _, H1, rfl, I1.kept (t' := s1.toks) fun b o e => Heap.get?_push_of_some _ e, turn_list a _, ⟨_, Heap.get?_push_size _ rfl, rfl, rfl⟩, fun b hb => ?_, q⟩
    have e : b = s1.heap.objs.size := by simpa using hb
    subst e
    exact I1.fpOk (Nat.le_refl _) (I1.hok.fresh (Nat.le_refl _))
  · obtain ⟨t, rfl⟩ := r1
    cases ha : z.cps.all (· < 128)
    · exact wpAny_pyIter_wide ha (pi_one (tk := s1.toks) I1 _ (turn_str _ z t "str_iterator" (.inr rfl)) ⟨_, Heap.get?_push_size _ rfl, rfl, rfl⟩ q)
    · exact wpAny_pyIter_ascii ha (pi_one (tk := s1.toks) I1 _ (turn_str _ z t "str_ascii_iterator" (.inl rfl)) ⟨_, Heap.get?_push_size _ rfl, rfl, rfl⟩ q)
  · cases r1
    rcases q with ⟨hd, q⟩ | ⟨od, hd, q⟩
    · obtain ⟨od, I2⟩ := I1.lock hd (by rcases hu with ⟨_, rfl⟩ | ⟨_, rfl⟩ <;> exact True.intro)
      exact keys_core I2 upd_same hu (q od).1 (q od).2
    · exact keys_core I1 hd hu q.1 q.2
def itD : D → Option (List D)
  | .tup l => some l
  | .ntp l => some l
  | .lst l => some l
  | .scr l => some (l.map .int)
  | .str z => some (strD z)
  | .dic _ ks _ => some ks
  | _ => none
def xiU (te : TX) : TXI := fun x ρ μ Q => te x ρ μ fun s μ1 => match s with
  | .d d => on (itD d) fun l => Q l μ1
  | _ => False
theorem yd_str {K : PySem.W.Frag} {G : Hp} {z : Str} : Walk (Its z) (strD z).length (fun H => LeZ G H) (YD K (strD z) G) := by
  have hl : (strD z).length = z.cps.size := by simp [strD]
  rw [hl]
  refine walk_str.mono (fun _ _ => trivial) fun i H v H' hi q y G2 g2 _ => ?_
  obtain ⟨e1, c, e2, rfl⟩ := y
  have e3 : z.cps.toList[i]? = some c := by rw [Array.getElem?_toList]; exact e2
  exact ⟨.str ⟨#[c]⟩, by simp only [strD, List.getElem?_map, e3, Option.map_some], .inl ⟨e1, .str _⟩⟩
theorem pxi_U {tg : Expr} (he : PX X W e te) : PXI X W tg e (xiU te) := by
  refine ⟨_, pi_U he.pe, fun σ H R h => ?_⟩
  obtain ⟨A, ρ, μ, G, Rp, x, S, ht, hx, k⟩ := h
  refine ⟨A, ρ, μ, G, _, x, S, ht, hx, fun s μ1 A1 G1 H1 v q c1 s1 r1 => ?_⟩
  match s, q, r1 with
  | .d d, q, r1 =>
    obtain ⟨l, hl, q⟩ := on_of q
    cases d <;> simp [itD] at hl
    case tup l' =>
      subst hl
      obtain ⟨a, us, rfl, h1, h2⟩ := Reps.sq r1
      refine .inl ⟨a, us, rfl, c1.le.sqT h1, k _ _ _ _ _ _ q c1 s1 ?_⟩
      rw [h2.length]
      refine walk_tup.mono (fun H' z => z.sqT h1) fun i H0 x H' hi _ y G2 g2 _ => ?_
      obtain ⟨d, e1, r⟩ := h2.get y.2
      exact ⟨d, e1, .inl ⟨y.1, r.mono g2⟩⟩
    case ntp l' =>
      subst hl
      obtain ⟨a, us, rfl, h1, h2⟩ := Reps.sqn r1
      refine .inl ⟨a, us, rfl, c1.le.sqT h1, k _ _ _ _ _ _ q c1 s1 ?_⟩
      rw [h2.length]
      refine walk_tup.mono (fun H' z => z.sqT h1) fun i H0 x H' hi _ y G2 g2 _ => ?_
      obtain ⟨d, e1, r⟩ := h2.get y.2
      exact ⟨d, e1, .inl ⟨y.1, r.mono g2⟩⟩
    case lst l' =>
      subst hl
      obtain ⟨a, us, rfl, h1, h2⟩ := Reps.sql r1
      refine .inr (.inl ⟨a, us, rfl, SqL.of (c1.le _ _ h1), k _ _ _ _ _ _ q c1 s1 ?_⟩)
      rw [h2.length]
      refine walk_list.mono (fun H' z => SqL.of (z.same h1 rfl)) fun i H0 x H' hi _ y G2 g2 _ => ?_
      obtain ⟨d, e1, r⟩ := h2.get y.2
      exact ⟨d, e1, .inl ⟨y.1, r.mono g2⟩⟩
    case scr l' =>
      subst hl
      cases r1 with
      | scr h1 =>
        refine .inr (.inl ⟨_, _, rfl, c1.le.sqL h1, k _ _ _ _ _ _ q c1 s1 ?_⟩)
        have h2 := scr_reps (K := X.K) (G := G1) l'
        rw [h2.length]
        refine walk_list.mono (fun H' z => z.sqL h1) fun i H0 x H' hi _ y G2 g2 _ => ?_
        obtain ⟨d, e1, r⟩ := h2.get y.2
        exact ⟨d, e1, .inl ⟨y.1, r.mono g2⟩⟩
    case str z =>
      subst hl
      cases r1
      exact .inr (.inr (.inl ⟨z, rfl, k _ _ _ _ _ _ q c1 s1 yd_str⟩))
    case dic t ks vs =>
      subst hl
      cases r1 with
      | @dicK a kvs _ _ h hk hs =>
        subst hk
        refine .inr (.inr (.inr ⟨a, .dK kvs, rfl, .inl ⟨_, rfl⟩, ?_⟩))
        rcases h with h | ⟨od, h⟩
        · refine .inl ⟨c1.le _ _ h, fun od => ⟨fun kvs' e => ?_, fun kvs' e => by cases e⟩⟩
          cases e
          obtain ⟨c2, s2⟩ := c1.lockD (od := od) h rfl
          exact k _ _ _ _ _ _ q c2 (s1.trans s2) (yd_keys upd_same)
        · refine .inr ⟨od, c1.le _ _ h, fun kvs' e => ?_, fun kvs' e => by cases e⟩
          cases e
          exact k _ _ _ _ _ _ q c1 s1 (yd_keys h)
      | @dicT a kvs _ _ h hk hs =>
        subst hk
        refine .inr (.inr (.inr ⟨a, .dT kvs, rfl, .inr ⟨_, rfl⟩, ?_⟩))
        rcases h with h | ⟨od, h⟩
        · refine .inl ⟨c1.le _ _ h, fun od => ⟨fun kvs' e => (by cases e), fun kvs' e => ?_⟩⟩
          cases e
          obtain ⟨c2, s2⟩ := c1.lockD (od := od) h rfl
          exact k _ _ _ _ _ _ q c2 (s1.trans s2) (yd_keysT upd_same)
        · refine .inr ⟨od, c1.le _ _ h, fun kvs' e => (by cases e), fun kvs' e => ?_⟩
          cases e
          exact k _ _ _ _ _ _ q c1 s1 (yd_keysT h)
/-! ### enumerate, zip of either -/
def iEnumU (K : PySem.W.Frag) (ta : TA) : TI := fun σ H R => ta σ H fun vs H1 => ∃ a xs, vs = [.ref a] ∧ ((SqT K H1 a xs ∧ R (IteT K a) H1) ∨ (SqL K H1 a xs ∧ R (Ite K a) H1))
theorem pi_enumU {ta : TA} (hg : Gl X "enumerate") (hm : X.mg "enumerate" = none) (ha : PA X [e] ta) (hs : starEach [e] X.env = [(false, eval e X.env)] := by rfl) :
    PI X (.Tuple elts kk tpos) (.Call (.Name "enumerate" p) [e] [] pos) (iEnumU X.K ta) := by
  refine ⟨fun pins s σ H R I h => ?_⟩
  refine Call_ (ld_blt I hg hm boot_enumerate (PyProof.Rows.callWith_type1 (thn (ha.run pos pins s σ H _ I h) fun us s1 ⟨vs, H1, I1, r1, q1⟩ => ?_) hs rfl))
  obtain ⟨a, xs, ex, q⟩ := q1
  subst ex
  cases r1 with
  | cons r rr =>
    cases rr
    cases r
    have fp : ∀ b ∈ [s1.heap.objs.size + 1, s1.heap.objs.size], FpOk X pins H1 b := fun b hb => by
      have e' : b = s1.heap.objs.size + 1 ∨ b = s1.heap.objs.size := by simpa using hb
      have hle : s1.heap.objs.size ≤ b := by
        rcases e' with z | z
        · rw [z]; exact Nat.le_add_right _ _
        · rw [z]; exact Nat.le_refl _
      exact I1.fpOk hle (I1.hok.fresh hle)
    rcases q with ⟨hq, q⟩ | ⟨hq, q⟩
    · obtain ⟨its, rv, p', hz⟩ := I1.tuple hq
      refine call_enum1 (begins_tuple a its.toArray) p' fun h' he hit0 hk => wpAny_pyIter_enum he ?_
      have hit : h'.IsTupleIter s1.heap.objs.size a 0 := ⟨_, hit0, rfl, rfl⟩
      have I2 : Inv X pins σ H1 { s1 with heap := h' } := I1.kept (t' := s1.toks) hk
      exact ⟨s1.heap.objs.size + 1, [s1.heap.objs.size + 1, s1.heap.objs.size], _, _, H1, rfl, I2, turn_enumT a (s1.heap.objs.size + 1) s1.heap.objs.size, ⟨⟨.none, he⟩, hit, Nat.succ_ne_self _⟩, fp, q⟩
    · obtain ⟨its, rv, p', hz⟩ := I1.list hq
      refine call_enumerate_list p'.isList fun h' he hit hsz hk => wpAny_pyIter_enum he ?_
      have I2 : Inv X pins σ H1 { s1 with heap := h' } := I1.kept (t' := s1.toks) hk
      exact ⟨s1.heap.objs.size + 1, [s1.heap.objs.size + 1, s1.heap.objs.size], _, _, H1, rfl, I2, turn_enum a (s1.heap.objs.size + 1) s1.heap.objs.size, ⟨⟨.none, he⟩, hit, Nat.succ_ne_self _⟩, fp, q⟩
def xiEnU (t : TXA) : TXI := fun x ρ μ Q => t x ρ μ fun ss μ1 => match ss with
  | [.d (.tup l)] => Q (enumD l) μ1
  | [.d (.ntp l)] => Q (enumD l) μ1
  | [.d (.lst l)] => Q (enumD l) μ1
  | _ => False
theorem pxi_enumU (hg : Gl X "enumerate") (hm : X.mg "enumerate" = none) (ha : PXA X W [e] tL) (hs : starEach [e] X.env = [(false, eval e X.env)] := by rfl) : PXI X W (.Tuple elts kk tpos) (.Call (.Name "enumerate" p) [e] [] pos) (xiEnU tL) := by
  refine ⟨_, pi_enumU hg hm ha.pa hs, fun σ H R h => ?_⟩
  obtain ⟨A, ρ, μ, G, Rp, x, S, ht, hx, k⟩ := h
  refine ⟨A, ρ, μ, G, _, x, S, ht, hx, fun ss μ1 A1 G1 H1 vs q c1 s1 r1 => ?_⟩
  match ss, q, r1 with
  | [.d (.tup l)], q, .cons r .nil =>
    obtain ⟨a, us, rfl, h1, h2⟩ := Reps.sq r
    refine ⟨a, us, rfl, .inl ⟨c1.le.sqT h1, k _ _ _ _ _ _ q c1 s1 ?_⟩⟩
    have hl : (enumD l).length = us.length := by simp [enumD, h2.length]
    rw [hl]
    refine ⟨fun i H hi q => ⟨us, us[i], q.sqT h1, by simp [hi]⟩, fun _ q => ⟨us, q.sqT h1, rfl⟩, fun i H v H' hi q y G2 g2 _ => ?_⟩
    obtain ⟨T, x, e1, e2, e3, e4⟩ := y
    obtain ⟨d, ed, r⟩ := h2.get (e4 us (q.sqT h1))
    exact yd_pair (d := .int (i : Nat)) (e := d) (by simp [enumD, ed]) (.int _) (r.mono g2) ⟨T, e1, e2, e3⟩
  | [.d (.ntp l)], q, .cons r .nil =>
    obtain ⟨a, us, rfl, h1, h2⟩ := Reps.sqn r
    refine ⟨a, us, rfl, .inl ⟨c1.le.sqT h1, k _ _ _ _ _ _ q c1 s1 ?_⟩⟩
    have hl : (enumD l).length = us.length := by simp [enumD, h2.length]
    rw [hl]
    refine ⟨fun i H hi q => ⟨us, us[i], q.sqT h1, by simp [hi]⟩, fun _ q => ⟨us, q.sqT h1, rfl⟩, fun i H v H' hi q y G2 g2 _ => ?_⟩
    obtain ⟨T, x, e1, e2, e3, e4⟩ := y
    obtain ⟨d, ed, r⟩ := h2.get (e4 us (q.sqT h1))
    exact yd_pair (d := .int (i : Nat)) (e := d) (by simp [enumD, ed]) (.int _) (r.mono g2) ⟨T, e1, e2, e3⟩
  | [.d (.lst l)], q, .cons r .nil =>
    obtain ⟨a, us, rfl, h1, h2⟩ := Reps.sql r
    refine ⟨a, us, rfl, .inr ⟨SqL.of (c1.le _ _ h1), k _ _ _ _ _ _ q c1 s1 ?_⟩⟩
    have hl : (enumD l).length = us.length := by simp [enumD, h2.length]
    rw [hl]
    refine walk_enum.mono (fun H z => SqL.of (z.same h1 rfl)) fun i H v H' hi q y G2 g2 _ => ?_
    obtain ⟨T, x, y', e1, e2, e3, e4, e5⟩ := y
    cases e4
    obtain ⟨d, ed, r⟩ := h2.get e5
    exact yd_pair (d := .int (i : Nat)) (e := d) (by simp [enumD, ed]) (.int _) (r.mono g2) ⟨T, e1, e2, e3⟩
def xiZipU (t : TXA) : TXI := fun x ρ μ Q => t x ρ μ fun ss μ1 => match ss with
  | [.d (.tup l), .d (.tup m)] => Q (zipD l m) μ1
  | [.d (.ntp l), .d (.tup m)] => Q (zipD l m) μ1
  | [.d (.tup l), .d (.ntp m)] => Q (zipD l m) μ1
  | [.d (.ntp l), .d (.ntp m)] => Q (zipD l m) μ1
  | [.d (.lst l), .d (.lst m)] => Q (zipD l m) μ1
  | _ => False
theorem pxi_zipU (hg : Gl X "zip") (hm : X.mg "zip" = none) (ha : PXA X W [a, b] tL) (hs : starEach [a, b] X.env = (false, eval a X.env) :: starEach [b] X.env := by rfl) (hpl : (backTo pos (starEach [b] X.env)).any (·.1) = false := by rfl) : PXI X W (.Tuple elts kk tpos) (.Call (.Name "zip" p) [a, b] [] pos) (xiZipU tL) := by
  refine ⟨_, pi_zipA hg hm ha.pa hs hpl, fun σ H R h => ?_⟩
  obtain ⟨A, ρ, μ, G, Rp, x, S, ht, hx, k⟩ := h
  refine ⟨A, ρ, μ, G, _, x, S, ht, hx, fun ss μ1 A1 G1 H1 vs q c1 s1 r1 => ?_⟩
  match ss, q, r1 with
  | [.d (.tup l), .d (.tup m)], q, .cons r (.cons r' .nil) =>
    obtain ⟨a, us, rfl, h1, h2⟩ := Reps.sq r
    obtain ⟨b, ws, rfl, h3, h4⟩ := Reps.sq r'
    refine ⟨a, b, us, ws, rfl, .inr ⟨c1.le.sqT h1, c1.le.sqT h3, k _ _ _ _ _ _ q c1 s1 ?_⟩⟩
    have hl : (zipD l m).length = min us.length ws.length := by simp [zipD, h2.length, h4.length]
    refine (walk_zipT hl).mono (fun H z => ⟨z.sqT h1, z.sqT h3⟩) fun i H v H' hi q y G2 g2 _ => ?_
    obtain ⟨T, x, y', e1, e2, e3, e4, e5⟩ := y
    obtain ⟨d, ed, r⟩ := h2.get e4
    obtain ⟨e, ee, r'⟩ := h4.get e5
    exact yd_pair (d := d) (e := e) (zipD_at ed ee) (r.mono g2) (r'.mono g2) ⟨T, e1, e2, e3⟩
  | [.d (.ntp l), .d (.tup m)], q, .cons r (.cons r' .nil) =>
    obtain ⟨a, us, rfl, h1, h2⟩ := Reps.sqn r
    obtain ⟨b, ws, rfl, h3, h4⟩ := Reps.sq r'
    refine ⟨a, b, us, ws, rfl, .inr ⟨c1.le.sqT h1, c1.le.sqT h3, k _ _ _ _ _ _ q c1 s1 ?_⟩⟩
    have hl : (zipD l m).length = min us.length ws.length := by simp [zipD, h2.length, h4.length]
    refine (walk_zipT hl).mono (fun H z => ⟨z.sqT h1, z.sqT h3⟩) fun i H v H' hi q y G2 g2 _ => ?_
    obtain ⟨T, x, y', e1, e2, e3, e4, e5⟩ := y
    obtain ⟨d, ed, r⟩ := h2.get e4
    obtain ⟨e, ee, r'⟩ := h4.get e5
    exact yd_pair (d := d) (e := e) (zipD_at ed ee) (r.mono g2) (r'.mono g2) ⟨T, e1, e2, e3⟩
  | [.d (.tup l), .d (.ntp m)], q, .cons r (.cons r' .nil) =>
    obtain ⟨a, us, rfl, h1, h2⟩ := Reps.sq r
    obtain ⟨b, ws, rfl, h3, h4⟩ := Reps.sqn r'
    refine ⟨a, b, us, ws, rfl, .inr ⟨c1.le.sqT h1, c1.le.sqT h3, k _ _ _ _ _ _ q c1 s1 ?_⟩⟩
    have hl : (zipD l m).length = min us.length ws.length := by simp [zipD, h2.length, h4.length]
    refine (walk_zipT hl).mono (fun H z => ⟨z.sqT h1, z.sqT h3⟩) fun i H v H' hi q y G2 g2 _ => ?_
    obtain ⟨T, x, y', e1, e2, e3, e4, e5⟩ := y
    obtain ⟨d, ed, r⟩ := h2.get e4
    obtain ⟨e, ee, r'⟩ := h4.get e5
    exact yd_pair (d := d) (e := e) (zipD_at ed ee) (r.mono g2) (r'.mono g2) ⟨T, e1, e2, e3⟩
  | [.d (.ntp l), .d (.ntp m)], q, .cons r (.cons r' .nil) =>
    obtain ⟨a, us, rfl, h1, h2⟩ := Reps.sqn r
    obtain ⟨b, ws, rfl, h3, h4⟩ := Reps.sqn r'
    refine ⟨a, b, us, ws, rfl, .inr ⟨c1.le.sqT h1, c1.le.sqT h3, k _ _ _ _ _ _ q c1 s1 ?_⟩⟩
    have hl : (zipD l m).length = min us.length ws.length := by simp [zipD, h2.length, h4.length]
    refine (walk_zipT hl).mono (fun H z => ⟨z.sqT h1, z.sqT h3⟩) fun i H v H' hi q y G2 g2 _ => ?_
    obtain ⟨T, x, y', e1, e2, e3, e4, e5⟩ := y
    obtain ⟨d, ed, r⟩ := h2.get e4
    obtain ⟨e, ee, r'⟩ := h4.get e5
    exact yd_pair (d := d) (e := e) (zipD_at ed ee) (r.mono g2) (r'.mono g2) ⟨T, e1, e2, e3⟩
  | [.d (.lst l), .d (.lst m)], q, .cons r (.cons r' .nil) =>
    obtain ⟨a, us, rfl, h1, h2⟩ := Reps.sql r
    obtain ⟨b, ws, rfl, h3, h4⟩ := Reps.sql r'
    refine ⟨a, b, us, ws, rfl, .inl ⟨SqL.of (c1.le _ _ h1), SqL.of (c1.le _ _ h3), k _ _ _ _ _ _ q c1 s1 ?_⟩⟩
    have hl : (zipD l m).length = min us.length ws.length := by simp [zipD, h2.length, h4.length]
    refine (walk_zip hl).mono (fun H z => ⟨SqL.of (z.same h1 rfl), SqL.of (z.same h3 rfl)⟩) fun i H v H' hi q y G2 g2 _ => ?_
    obtain ⟨T, x, y', e1, e2, e3, e4, e5⟩ := y
    obtain ⟨d, ed, r⟩ := h2.get e4
    obtain ⟨e, ee, r'⟩ := h4.get e5
    exact yd_pair (d := d) (e := e) (zipD_at ed ee) (r.mono g2) (r'.mono g2) ⟨T, e1, e2, e3⟩
/-! ### isinstance, == and - again, for walking -/
inductive TyK where
  | bool | int | str | tuple | list | dict
def TyK.nm : TyK → String
  | .bool => "bool"
  | .int => "int"
  | .str => "str"
  | .tuple => "tuple"
  | .list => "list"
  | .dict => "dict"
def isK : TyK → D → Option Bool
  | k, .non => match k with | _ => some false
  | k, .bl _ => match k with | .bool => some true | .int => some true | _ => some false
  | k, .int _ => match k with | .int => some true | _ => some false
  | k, .str _ => match k with | .str => some true | _ => some false
  | k, .tup _ => match k with | .tuple => some true | _ => some false
  | k, .ntp _ => match k with | .tuple => some true | _ => some false
  | k, .lst _ => match k with | .list => some true | _ => some false
  | k, .scr _ => match k with | .list => some true | _ => some false
  | k, .dic _ _ _ => match k with | .dict => some true | _ => some false
  | _, _ => none
def isKc : TyK → Cell → Option Bool
  | k, .lst _ => match k with | .list => some true | _ => some false
  | k, .dK _ _ => match k with | .dict => some true | _ => some false
  | k, .dT _ _ => match k with | .dict => some true | _ => some false
  | _, _ => none
def isKs (k : TyK) (s : SV) (μ : Mem) : Option Bool := match s with
  | .d d => isK k d
  | .c j => match μ[j]? with
    | some c => isKc k c
    | none => none
  | .un => none
theorem isKs_ok {k : TyK} {s : SV} {μ : Mem} {b : Bool} (h : isKs k s μ = some b) : ∃ T, tyOf s μ = some T ∧ k.nm ∈ tyNames ∧ isTy T k.nm = b := by
  unfold isKs at h
  split at h
  · rename_i d
    cases d <;> cases k <;> simp [isK] at h <;> subst h <;> refine ⟨_, rfl, by decide, by decide⟩
  · rename_i j
    split at h
    · rename_i c hc
      cases c <;> cases k <;> simp [isKc] at h <;> subst h <;> simp only [tyOf, hc] <;> exact ⟨_, rfl, by decide, by decide⟩
    · cases h
  · cases h
def pIsK (k : TyK) : SV → Mem → VP → Prop := fun s μ Q => on (isKs k s μ) fun b => Q (.d (.bl b)) μ
def xIsK (k : TyK) (ta : TX) : TX := fun x ρ μ Q => ta x ρ μ fun s μ1 => pIsK k s μ1 Q
theorem px_isiK (k : TyK) {x : Str} {px' : Pos} (hg : Gl X "isinstance") (hm : X.mg "isinstance" = none) (hg2 : Gl X x) (hm2 : X.mg x = none) (hv : bootBuiltins x = some (.type k.nm)) (ha : PX X W a ta)
    (hn : x ≠ "__name__" := by decide) (hd : (x == ("__debug__" : Str)) = false := by decide)
    (he : starEach [a, .Name x px'] X.env = (false, eval a X.env) :: starEach [.Name x px'] X.env := by rfl) (he2 : starEach [.Name x px'] X.env = (false, eval (.Name x px') X.env) :: starEach [] X.env := by rfl) (hpl : (backTo pos (starEach [.Name x px'] X.env)).any (·.1) = false := by rfl) : PX X W (.Call (.Name "isinstance" p) [a, .Name x px'] [] pos) (xIsK k ta) := by
  have hL : PXA X W [a, .Name x px'] (xCons ta (xCons (xC (.ty k.nm)) xNil)) := pxa_cons ha (pxa_cons (px_bty (T := k.nm) hg2 hm2 hv hn hd) pxa_nil he2) he
  refine ⟨(pe_callB call_isiY hg hm (by decide +kernel) hL.pa (by decide) (by decide) he hpl).imp fun σ H Q h => ?_⟩
  obtain ⟨A, ρ, μ, G, Qp, xp, S, ht, hx, kk⟩ := h
  refine ⟨A, ρ, μ, G, fun ss μ1 => ∃ s, ss = [s, .d (.ty k.nm)] ∧ pIsK k s μ1 Qp, xp, S, ?_, hx, fun ss μ' A' G' H' vs q c s rr => ?_⟩
  · have e : (fun (s : SV) (μ1 : Mem) => ∃ s', [s, SV.d (.ty k.nm)] = [s', SV.d (.ty k.nm)] ∧ pIsK k s' μ1 Qp) = fun s μ1 => pIsK k s μ1 Qp := by
      funext s μ1
      refine propext ⟨fun ⟨s', e, q⟩ => ?_, fun q => ⟨s, rfl, q⟩⟩
      cases e
      exact q
    show ta xp ρ μ fun s μ1 => ∃ s', [s, SV.d (.ty k.nm)] = [s', SV.d (.ty k.nm)] ∧ pIsK k s' μ1 Qp
    rw [e]
    exact ht
  · obtain ⟨s0, rfl, q⟩ := q
    obtain ⟨b, e, q⟩ := on_of q
    obtain ⟨T, e1, e2, e3⟩ := isKs_ok e
    exact pcall_isi (X := X) _ μ' A' G' H' vs Qp Q (by simp only [pIsi, e1, on]; exact ⟨e2, by rw [e3]; exact q⟩) c rr fun r μ2 A2 G2 H2 v q2 c2 s2 r2 => kk r μ2 A2 G2 H2 v q2 c2 (s.trans s2) r2
def pModU : SV → SV → Mem → VP → Prop := fun sa sb μ Q => match sa, sb with
  | .d (.int i), .d (.int j) => 0 < j ∧ Q (.d (.int (i % j))) μ
  | _, _ => False
theorem pop_modU {K : PySem.W.Frag} : POp K (rI (fun _ j => 0 < j) fun i j => .int (i % j)) pModU := by
  intro sa sb μ A G H va vb Qp Q h c ra rb k
  unfold pModU at h
  split at h
  · cases ra; cases rb
    exact ⟨_, _, rfl, rfl, h.1, k _ _ _ _ _ _ h.2 c .refl (.int _)⟩
  · exact h.elim
theorem px_modU (ha : PX X W a ta) (hb : PX X W b tb) : PX X W (.BinOp a .Mod b pos) (xOp pModU ta tb) := px_op op_mod pop_modU ha hb
def pSubU : SV → SV → Mem → VP → Prop := fun sa sb μ Q => match sa, sb with
  | .d (.int i), .d (.int j) => Q (.d (.int (i - j))) μ
  | _, _ => False
theorem pop_subU {K : PySem.W.Frag} : POp K (rI0 fun i j => .int (i - j)) pSubU := by
  intro sa sb μ A G H va vb Qp Q h c ra rb k
  unfold pSubU at h
  split at h
  · cases ra; cases rb
    exact ⟨_, _, rfl, rfl, k _ _ _ _ _ _ h c .refl (.int _)⟩
  · exact h.elim
theorem px_subU (ha : PX X W a ta) (hb : PX X W b tb) : PX X W (.BinOp a .Sub b pos) (xOp pSubU ta tb) := px_op op_sub pop_subU ha hb
/-- ==, != -/
def pEqU : SV → SV → Mem → VP → Prop := fun sa sb μ Q => match sa, sb with
  | .d (.int i), .d (.int j) => Q (.d (.bl (decide (i = j)))) μ
  | .d (.bl i), .d (.bl j) => Q (.d (.bl (i == j))) μ
  | .d x, .d y => (okEq x = true ∧ okEq y = true) ∧ Q (.d (.bl (deq x y))) μ
  | _, _ => False
def pNeU : SV → SV → Mem → VP → Prop := fun sa sb μ Q => match sa, sb with
  | .d (.int i), .d (.int j) => Q (.d (.bl (!decide (i = j)))) μ
  | .d (.bl i), .d (.bl j) => Q (.d (.bl (!(i == j)))) μ
  | .d x, .d y => (okEq x = true ∧ okEq y = true) ∧ Q (.d (.bl (!deq x y))) μ
  | _, _ => False
theorem deq_int0 (i j : Int) : deq (.int i) (.int j) = decide (i = j) := by
  simp only [deq, toPy, PyData.eqv]
  by_cases h : i = j <;> simp [h]
theorem pop_eqU {K : PySem.W.Frag} : POp K (rEqD K) pEqU := by
  intro sa sb μ A G H va vb Qp Q h c ra rb k
  unfold pEqU at h
  split at h
  · rename_i i j
    exact pop_eq (.d (.int i)) (.d (.int j)) μ A G H va vb Qp Q ⟨⟨by simp [okEq, flat], by simp [okEq, flat]⟩, by rw [deq_int0]; exact h⟩ c ra rb k
  · rename_i i j
    exact pop_eq (.d (.bl i)) (.d (.bl j)) μ A G H va vb Qp Q ⟨⟨by simp [okEq, flat], by simp [okEq, flat]⟩, by simp only [deq, toPy, PyData.eqv]; exact h⟩ c ra rb k
  · rename_i x y _ _
    exact pop_eq (.d x) (.d y) μ A G H va vb Qp Q h c ra rb k
  · exact h.elim
theorem pop_neU {K : PySem.W.Frag} : POp K (rNeD K) pNeU := by
  intro sa sb μ A G H va vb Qp Q h c ra rb k
  unfold pNeU at h
  split at h
  · rename_i i j
    exact pop_ne (.d (.int i)) (.d (.int j)) μ A G H va vb Qp Q ⟨⟨by simp [okEq, flat], by simp [okEq, flat]⟩, by rw [deq_int0]; exact h⟩ c ra rb k
  · rename_i i j
    exact pop_ne (.d (.bl i)) (.d (.bl j)) μ A G H va vb Qp Q ⟨⟨by simp [okEq, flat], by simp [okEq, flat]⟩, by simp only [deq, toPy, PyData.eqv]; exact h⟩ c ra rb k
  · rename_i x y _ _
    exact pop_ne (.d x) (.d y) μ A G H va vb Qp Q h c ra rb k
  · exact h.elim
theorem px_eqU (hu : X.A.units + 64 < cLine) (ha : PX X W a ta) (hb : PX X W b tb) : PX X W (.Compare a [.Eq] [b] pos) (xOp pEqU ta tb) := px_cmp (op_eqD hu) pop_eqU ha hb
theorem px_neU (hu : X.A.units + 64 < cLine) (ha : PX X W a ta) (hb : PX X W b tb) : PX X W (.Compare a [.NotEq] [b] pos) (xOp pNeU ta tb) := px_cmp (op_neD hu) pop_neU ha hb
theorem pxt_eqU (hu : X.A.units + 64 < cLine) (ha : PX X W a ta) (hb : PX X W b tb) : PXT X W (.Compare a [.Eq] [b] pos) (xTest (xOp pEqU ta tb)) := pxt_cmp (op_eqD hu) pop_eqU ha hb
theorem pxt_neU (hu : X.A.units + 64 < cLine) (ha : PX X W a ta) (hb : PX X W b tb) : PXT X W (.Compare a [.NotEq] [b] pos) (xTest (xOp pNeU ta tb)) := pxt_cmp (op_neD hu) pop_neU ha hb
/-- lo op x op' hi, of ints -/
def pRel (o : Fin 2) (i j : Int) : Bool := match o with
  | 0 => decide (i < j)
  | 1 => decide (i ≤ j)
end
end PL
/-! The P-layer: plain lemmas for the plain laws. -/
namespace PL
open PySem PySem.Spec PyProof.Rows L2
theorem sz (n : Nat) (h : n ≤ 1000 := by decide) : n ≤ sizeLine := by rw [sizeLine_eq]; omega
theorem okEq_non : okEq .non = true := by simp [okEq, flat]
theorem okEq_bl (b : Bool) : okEq (.bl b) = true := by simp [okEq, flat]
theorem okEq_int (i : Int) : okEq (.int i) = true := by simp [okEq, flat]
theorem okEq_str (i : Str) : okEq (.str i) = PyData.strOk i := by simp [okEq, flat]
theorem deq_int (i j : Int) : deq (.int i) (.int j) = decide (i = j) := by
  simp only [deq, toPy, PyData.eqv]
  by_cases h : i = j <;> simp [h]
theorem deq_bl (i j : Bool) : deq (.bl i) (.bl j) = (i == j) := by simp only [deq, toPy, PyData.eqv]
theorem deq_str (i j : Str) : deq (.str i) (.str j) = decide (i = j) := by
  simp only [deq, toPy, PyData.eqv]
  by_cases h : i = j <;> simp [h]
theorem bools_map {α : Type} (g : α → Bool) : ∀ l : List α, bools (l.map fun d => .bl (g d)) = some (l.map g)
  | [] => rfl
  | a :: l => by simp only [List.map_cons, bools, bools_map g l, Option.map_some]
theorem bools_map' (bs : List Bool) : bools (bs.map .bl) = some bs := by
  have := bools_map id bs
  simpa using this
theorem take_map_succ {α β : Type} (f : α → β) {l : List α} {i : Nat} {d : α} (h : l[i]? = some d) : (l.take i).map f ++ [f d] = (l.take (i + 1)).map f := by
  rw [List.take_add_one, h]
  simp
theorem rngD_length (lo : Int) (n : Nat) : (rngD lo n).length = n := by simp [rngD]
theorem rngD_at {lo : Int} {n i : Nat} {d : D} (h : (rngD lo n)[i]? = some d) : i < n ∧ d = .int (lo + i) := by
  have hl : i < (rngD lo n).length := (List.getElem?_eq_some_iff.mp h).1
  rw [rngD_length] at hl
  refine ⟨hl, ?_⟩
  unfold rngD at h
  rw [List.getElem?_map, List.getElem?_range hl] at h
  exact (Option.some.inj h).symm
theorem enumD_length (l : List D) : (enumD l).length = l.length := by simp [enumD]
theorem enumD_at {l : List D} {i : Nat} {d : D} (h : (enumD l)[i]? = some d) : ∃ e, l[i]? = some e ∧ d = .tup [.int (i : Nat), e] := by
  unfold enumD at h
  rw [List.getElem?_mapIdx] at h
  obtain ⟨e, h1, h2⟩ := Option.map_eq_some_iff.mp h
  exact ⟨e, h1, h2.symm⟩
theorem zipD_length (l m : List D) : (zipD l m).length = min l.length m.length := by simp [zipD]
theorem zipD_at' {l m : List D} {i : Nat} {d : D} (h : (zipD l m)[i]? = some d) : ∃ a b, l[i]? = some a ∧ m[i]? = some b ∧ d = .tup [a, b] := by
  unfold zipD at h
  rw [List.getElem?_zipWith] at h
  split at h
  · rename_i a b h1 h2
    exact ⟨a, b, h1, h2, (Option.some.inj h).symm⟩
  · cases h
theorem atI_nat {α : Type} {l : List α} {i : Nat} : atI l (i : Nat) = l[i]? := by
  unfold atI ixN
  by_cases h : i < l.length
  · have h2 : ¬ ((i : Int) < 0) := by omega
    simp [h2, h]
  · have h2 : ¬ ((i : Int) < 0) := by omega
    simp [h2, h, List.getElem?_eq_none (Nat.le_of_not_lt h)]
theorem ixOf_scr {l : List Int} {n : Nat} (h : n < l.length) (μ : Mem) : ixOf (.d (.scr l)) μ n = some (.int l[n]) := by
  show (atI l (n : Int)).map D.int = _
  rw [PL.atI_nat, List.getElem?_eq_getElem h]; rfl
theorem ixOf_tup {l : List D} {n : Nat} {d : D} (h : l[n]? = some d) (μ : Mem) : ixOf (.d (.tup l)) μ n = some d := by
  show atI l (n : Int) = _
  rw [PL.atI_nat, h]
theorem ixOf_ntp {l : List D} {n : Nat} {d : D} (h : l[n]? = some d) (μ : Mem) : ixOf (.d (.ntp l)) μ n = some d := by
  show atI l (n : Int) = _
  rw [PL.atI_nat, h]
theorem ixOf_lst {l : List D} {n : Nat} {d : D} (h : l[n]? = some d) (μ : Mem) : ixOf (.d (.lst l)) μ n = some d := by
  show atI l (n : Int) = _
  rw [PL.atI_nat, h]
theorem ixN_lit {n : Nat} {i : Int} (h : 0 ≤ i) (h2 : i < n) : ixN n i = some i.toNat := by
  unfold ixN; rw [if_pos h, if_pos h2]
theorem atI_lit {α : Type} {l : List α} {i : Int} (h : 0 ≤ i) (h2 : i < l.length) : atI l i = l[i.toNat]? := by
  unfold atI; rw [ixN_lit h h2]; rfl
theorem cutD_mem {l : List D} {lo hi : Option Int} {d : D} (h : d ∈ cutD l lo hi) : d ∈ l := by
  unfold cutD at h
  exact List.mem_of_mem_drop (List.mem_of_mem_take h)
theorem cutD_le (l : List D) (lo hi : Option Int) : (cutD l lo hi).length ≤ l.length := by
  unfold cutD
  rw [List.length_take, List.length_drop]; omega
theorem findD_some {x : D} : ∀ {ks vs : List D}, ks.length = vs.length → ((findD ks vs x).isSome = true ↔ x ∈ ks)
  | [], [], _ => by simp [findD]
  | k :: ks, v :: vs, h => by
    simp only [findD]
    by_cases e : k = x
    · rw [if_pos e]; simp [e]
    · rw [if_neg e, findD_some (by simpa using h)]
      simp [Ne.symm e]
theorem putKs_mem {ks : List D} {k d : D} : d ∈ putKs ks k ↔ d ∈ ks ∨ d = k := by
  unfold putKs
  split
  · rename_i h
    constructor
    · exact .inl
    · rintro (q | rfl)
      · exact q
      · exact h
  · simp
theorem putKs_le (ks : List D) (k : D) : (putKs ks k).length ≤ ks.length + 1 := by
  unfold putKs
  split
  · omega
  · simp
theorem put_len {ks vs : List D} (h : ks.length = vs.length) (k v : D) : (putKs ks k).length = (putVs ks vs k v).length := by
  unfold putKs putVs
  split
  · simp [h]
  · simp [h]
section
variable {P : Program} {w : World} {K : PySem.W.Frag} {mg : Str → Option Value} {base : Heap}
/-- a promise that is never asked for -/
theorem Has.never {x : Str} {st : Stmt} {ps : List Str} {k : Nat} (D : Def K mg x st) (B : BindN x st ps) : Has P w K mg base k x ps (fun _ _ _ _ => False) := by
  obtain ⟨fd, F, hm⟩ := D.ex
  have no : ∀ vs H Q E, ¬ low K (fun _ _ _ _ => False) vs H Q E := fun vs H Q E ⟨_, _, _, _, _, _, _, _, z, _⟩ => z
  exact ⟨fd, ⟨fun vs H Q E z => (no _ _ _ _ z).elim, fun A outer s H args us vs Q E hr e b r z => (no _ _ _ _ z).elim⟩, hm, F.kp, FunD.bindsN F B, st, F⟩
end
end PL
/-! The P-layer: < <= > >= of data at any depth. -/
namespace PL
open PySem PySem.Spec PyProof.Rows L2
def ltD (x y : D) : Bool := PySem.W.dataLt (toPy x) (toPy y)
def alD (x y : D) : Bool := PySem.W.alike (toPy x) (toPy y)
def rCmpD (f : PyData → PyData → Bool) (K : PySem.W.Frag) : R2 := fun x y H Q => ∃ d e, Dp K H x d ∧ Dp K H y e ∧ PySem.W.alike d e = true ∧ d ≠ .none ∧ d.depth ≤ 62 ∧ Q (.bl (f d e)) H
theorem room62 {A : Around} {d e : PyData} (hu : A.units + 64 < cLine) (h : d.depth ≤ 62) : A.units + min d.depth e.depth < cLine := by
  have : min d.depth e.depth ≤ 62 := Nat.le_trans (Nat.min_le_left _ _) h
  omega
section
variable {X : Cx} {W : WX} {a b c e : Expr} {es : List Expr} {ta tb tc te : TX} {tA : TXT} {tL : TXA} {pos p tpos p2 : Pos} {x : Str}
theorem op_ltD (hu : X.A.units + 64 < cLine) : OpR X (compareOp .Lt) (rCmpD (fun d e => PySem.W.dataLt d e) X.K) := by
  intro pins s σ H x y v u Q I rx ry ⟨d, e, hd, he, hc, hn, hp, q⟩
  obtain ⟨as, r1⟩ := Dp.reads I d x v hd rx
  obtain ⟨bs, r2⟩ := Dp.reads I e y u he ry
  exact PySem.W.lt_data r1 r2 hc hn (room62 hu hp) ⟨.bl _, H, I, rfl, q⟩
theorem op_leD (hu : X.A.units + 64 < cLine) : OpR X (compareOp .LtE) (rCmpD (fun d e => !PySem.W.dataLt e d) X.K) := by
  intro pins s σ H x y v u Q I rx ry ⟨d, e, hd, he, hc, hn, hp, q⟩
  obtain ⟨as, r1⟩ := Dp.reads I d x v hd rx
  obtain ⟨bs, r2⟩ := Dp.reads I e y u he ry
  exact PySem.W.le_data r1 r2 hc hn (room62 hu hp) ⟨.bl _, H, I, rfl, q⟩
theorem op_gtD (hu : X.A.units + 64 < cLine) : OpR X (compareOp .Gt) (rCmpD (fun d e => PySem.W.dataLt e d) X.K) := by
  intro pins s σ H x y v u Q I rx ry ⟨d, e, hd, he, hc, hn, hp, q⟩
  obtain ⟨as, r1⟩ := Dp.reads I d x v hd rx
  obtain ⟨bs, r2⟩ := Dp.reads I e y u he ry
  exact PySem.W.gt_data r1 r2 hc hn (room62 hu hp) ⟨.bl _, H, I, rfl, q⟩
theorem op_geD (hu : X.A.units + 64 < cLine) : OpR X (compareOp .GtE) (rCmpD (fun d e => !PySem.W.dataLt d e) X.K) := by
  intro pins s σ H x y v u Q I rx ry ⟨d, e, hd, he, hc, hn, hp, q⟩
  obtain ⟨as, r1⟩ := Dp.reads I d x v hd rx
  obtain ⟨bs, r2⟩ := Dp.reads I e y u he ry
  exact PySem.W.ge_data r1 r2 hc hn (room62 hu hp) ⟨.bl _, H, I, rfl, q⟩
def isTp : D → Bool
  | .tup _ => true
  | .ntp _ => true
  | _ => false
def pLtV : SV → SV → Mem → VP → Prop := fun sa sb μ Q => match sa, sb with
  | .d (.int i), .d (.int j) => Q (.d (.bl (decide (i < j)))) μ
  | .d (.str i), .d (.str j) => Q (.d (.bl (decide (i.cps.toList < j.cps.toList)))) μ
  | .d x, .d y => (isTp x = true ∧ isTp y = true ∧ okEq x = true ∧ okEq y = true ∧ alD x y = true) ∧ Q (.d (.bl (ltD x y))) μ
  | _, _ => False
def pLeV : SV → SV → Mem → VP → Prop := fun sa sb μ Q => match sa, sb with
  | .d (.int i), .d (.int j) => Q (.d (.bl (decide (i ≤ j)))) μ
  | .d (.str i), .d (.str j) => Q (.d (.bl (!decide (j.cps.toList < i.cps.toList)))) μ
  | .d x, .d y => (isTp x = true ∧ isTp y = true ∧ okEq x = true ∧ okEq y = true ∧ alD x y = true) ∧ Q (.d (.bl (!ltD y x))) μ
  | _, _ => False
def pGtV : SV → SV → Mem → VP → Prop := fun sa sb μ Q => match sa, sb with
  | .d (.int i), .d (.int j) => Q (.d (.bl (decide (j < i)))) μ
  | .d (.str i), .d (.str j) => Q (.d (.bl (decide (j.cps.toList < i.cps.toList)))) μ
  | .d x, .d y => (isTp x = true ∧ isTp y = true ∧ okEq x = true ∧ okEq y = true ∧ alD x y = true) ∧ Q (.d (.bl (ltD y x))) μ
  | _, _ => False
def pGeV : SV → SV → Mem → VP → Prop := fun sa sb μ Q => match sa, sb with
  | .d (.int i), .d (.int j) => Q (.d (.bl (decide (j ≤ i)))) μ
  | .d (.str i), .d (.str j) => Q (.d (.bl (!decide (i.cps.toList < j.cps.toList)))) μ
  | .d x, .d y => (isTp x = true ∧ isTp y = true ∧ okEq x = true ∧ okEq y = true ∧ alD x y = true) ∧ Q (.d (.bl (!ltD x y))) μ
  | _, _ => False
theorem rCmpD_of {K : PySem.W.Frag} {f : PyData → PyData → Bool} {a b : D} {va vb : V} {G H : Hp} {Q : VK} (le : Le G H) (h : isTp a = true ∧ isTp b = true ∧ okEq a = true ∧ okEq b = true ∧ alD a b = true) (ra : Rep K G a va) (rb : Rep K G b vb)
    (q : Q (.bl (f (toPy a) (toPy b))) H) : rCmpD f K va vb H Q :=
  ⟨toPy a, toPy b, rep_dp le 60 a _ h.2.2.1 ra, rep_dp le 60 b _ h.2.2.2.1 rb, h.2.2.2.2, (by obtain ⟨h, _⟩ := h; cases a <;> simp [isTp] at h <;> simp only [toPy] <;> intro z <;> cases z), by have := okEq_depth h.2.2.1; omega, q⟩
theorem pop_ltV {K : PySem.W.Frag} : POp K (fun x y H Q => (rI0 (fun i j => .bl (decide (i < j))) x y H Q ∨ rCmpS (fun i j => decide (i.cps.toList < j.cps.toList)) x y H Q) ∨ rCmpD (fun d e => PySem.W.dataLt d e) K x y H Q) pLtV := by
  intro sa sb μ A G H va vb Qp Q h c ra rb k
  unfold pLtV at h
  split at h
  · cases ra; cases rb
    exact .inl (.inl ⟨_, _, rfl, rfl, k _ _ _ _ _ _ h c .refl (.bl _)⟩)
  · cases ra; cases rb
    exact .inl (.inr ⟨_, _, rfl, rfl, k _ _ _ _ _ _ h c .refl (.bl _)⟩)
  · exact .inr (rCmpD_of c.le h.1 ra rb (k _ _ _ _ _ _ h.2 c .refl (.bl _)))
  · exact h.elim
theorem pop_leV {K : PySem.W.Frag} : POp K (fun x y H Q => (rI0 (fun i j => .bl (decide (i ≤ j))) x y H Q ∨ rCmpS (fun i j => !decide (j.cps.toList < i.cps.toList)) x y H Q) ∨ rCmpD (fun d e => !PySem.W.dataLt e d) K x y H Q) pLeV := by
  intro sa sb μ A G H va vb Qp Q h c ra rb k
  unfold pLeV at h
  split at h
  · cases ra; cases rb
    exact .inl (.inl ⟨_, _, rfl, rfl, k _ _ _ _ _ _ h c .refl (.bl _)⟩)
  · cases ra; cases rb
    exact .inl (.inr ⟨_, _, rfl, rfl, k _ _ _ _ _ _ h c .refl (.bl _)⟩)
  · exact .inr (rCmpD_of c.le h.1 ra rb (k _ _ _ _ _ _ h.2 c .refl (.bl _)))
  · exact h.elim
theorem pop_gtV {K : PySem.W.Frag} : POp K (fun x y H Q => (rI0 (fun i j => .bl (decide (j < i))) x y H Q ∨ rCmpS (fun i j => decide (j.cps.toList < i.cps.toList)) x y H Q) ∨ rCmpD (fun d e => PySem.W.dataLt e d) K x y H Q) pGtV := by
  intro sa sb μ A G H va vb Qp Q h c ra rb k
  unfold pGtV at h
  split at h
  · cases ra; cases rb
    exact .inl (.inl ⟨_, _, rfl, rfl, k _ _ _ _ _ _ h c .refl (.bl _)⟩)
  · cases ra; cases rb
    exact .inl (.inr ⟨_, _, rfl, rfl, k _ _ _ _ _ _ h c .refl (.bl _)⟩)
  · exact .inr (rCmpD_of c.le h.1 ra rb (k _ _ _ _ _ _ h.2 c .refl (.bl _)))
  · exact h.elim
theorem pop_geV {K : PySem.W.Frag} : POp K (fun x y H Q => (rI0 (fun i j => .bl (decide (j ≤ i))) x y H Q ∨ rCmpS (fun i j => !decide (i.cps.toList < j.cps.toList)) x y H Q) ∨ rCmpD (fun d e => !PySem.W.dataLt d e) K x y H Q) pGeV := by
  intro sa sb μ A G H va vb Qp Q h c ra rb k
  unfold pGeV at h
  split at h
  · cases ra; cases rb
    exact .inl (.inl ⟨_, _, rfl, rfl, k _ _ _ _ _ _ h c .refl (.bl _)⟩)
  · cases ra; cases rb
    exact .inl (.inr ⟨_, _, rfl, rfl, k _ _ _ _ _ _ h c .refl (.bl _)⟩)
  · exact .inr (rCmpD_of c.le h.1 ra rb (k _ _ _ _ _ _ h.2 c .refl (.bl _)))
  · exact h.elim
theorem px_ltV (hu : X.A.units + 64 < cLine) (ha : PX X W a ta) (hb : PX X W b tb) : PX X W (.Compare a [.Lt] [b] pos) (xOp pLtV ta tb) := px_cmp (op_or (op_or op_lt op_lt_str) (op_ltD hu)) pop_ltV ha hb
theorem px_leV (hu : X.A.units + 64 < cLine) (ha : PX X W a ta) (hb : PX X W b tb) : PX X W (.Compare a [.LtE] [b] pos) (xOp pLeV ta tb) := px_cmp (op_or (op_or op_le op_le_str) (op_leD hu)) pop_leV ha hb
theorem px_gtV (hu : X.A.units + 64 < cLine) (ha : PX X W a ta) (hb : PX X W b tb) : PX X W (.Compare a [.Gt] [b] pos) (xOp pGtV ta tb) := px_cmp (op_or (op_or op_gt op_gt_str) (op_gtD hu)) pop_gtV ha hb
theorem px_geV (hu : X.A.units + 64 < cLine) (ha : PX X W a ta) (hb : PX X W b tb) : PX X W (.Compare a [.GtE] [b] pos) (xOp pGeV ta tb) := px_cmp (op_or (op_or op_ge op_ge_str) (op_geD hu)) pop_geV ha hb
theorem pxt_ltV (hu : X.A.units + 64 < cLine) (ha : PX X W a ta) (hb : PX X W b tb) : PXT X W (.Compare a [.Lt] [b] pos) (xTest (xOp pLtV ta tb)) := pxt_cmp (op_or (op_or op_lt op_lt_str) (op_ltD hu)) pop_ltV ha hb
theorem pxt_leV (hu : X.A.units + 64 < cLine) (ha : PX X W a ta) (hb : PX X W b tb) : PXT X W (.Compare a [.LtE] [b] pos) (xTest (xOp pLeV ta tb)) := pxt_cmp (op_or (op_or op_le op_le_str) (op_leD hu)) pop_leV ha hb
theorem pxt_gtV (hu : X.A.units + 64 < cLine) (ha : PX X W a ta) (hb : PX X W b tb) : PXT X W (.Compare a [.Gt] [b] pos) (xTest (xOp pGtV ta tb)) := pxt_cmp (op_or (op_or op_gt op_gt_str) (op_gtD hu)) pop_gtV ha hb
theorem pxt_geV (hu : X.A.units + 64 < cLine) (ha : PX X W a ta) (hb : PX X W b tb) : PXT X W (.Compare a [.GtE] [b] pos) (xTest (xOp pGeV ta tb)) := pxt_cmp (op_or (op_or op_ge op_ge_str) (op_geD hu)) pop_geV ha hb
end
end PL
/-! The P-layer: sorted lists of data. -/
namespace PL
open PySem PySem.Spec PyProof.Rows L2
theorem each_vals {R : Value → D × V → Prop} : ∀ {bs : List (D × V)} {us : List Value}, Vals (bs.map Prod.snd) us → (∀ b ∈ bs, ∀ u, RelV b.2 u → R u b) → W.EachIs R us bs
  | [], [], _, _ => .nil
  | b :: bs, u :: us, .cons r t, h => .cons (h b List.mem_cons_self u r) (each_vals t fun b' hb => h b' (List.mem_cons_of_mem _ hb))
theorem vals_each : ∀ {bs : List (D × V)} {us : List Value}, W.EachIs (fun u b => RelV b.2 u) us bs → Vals (bs.map Prod.snd) us
  | _, _, .nil => .nil
  | _, _, .cons r t => .cons r (vals_each t)
def srtD (l : List D) : List D := l.mergeSort (W.dataLe false toPy)
/-- data that sorted may look at -/
def okSort (l : List D) : Prop := (∀ d ∈ l, okEq d = true) ∧ W.AllAlike (l.map toPy) ∧ W.Sortable (l.map toPy)
def rSortedD (K : PySem.W.Frag) : List V → Hp → VK → Prop := fun vs H Q => ∃ (a : Addr) (bs : List (D × V)), vs = [V.ref a] ∧ SqL K H a (bs.map Prod.snd) ∧ (∀ b ∈ bs, Dp K H b.2 (toPy b.1) ∧ (toPy b.1).depth ≤ 61) ∧ W.AllAlike (bs.map fun b => toPy b.1) ∧ W.Sortable (bs.map fun b => toPy b.1) ∧
  ∀ p, H p = none → Q (.ref p) (upd H p (.lst ((bs.mergeSort (W.dataLe false fun b : D × V => toPy b.1)).map Prod.snd)))
theorem cr_sortedD {X : Cx} (hu : X.A.units + 64 < cLine) : CallR X (.builtin "sorted") (rSortedD X.K) := by
  intro pins s σ H vs us Q I r h
  obtain ⟨a, bs, rfl, hs, hb, hal, hk, q⟩ := h
  obtain ⟨its, rv, hl, hz⟩ := I.list hs
  obtain ⟨u, rfl, ru⟩ := vals1 r
  obtain rfl : u = Value.ref a := ru
  have hlen : bs.length = its.length := by rw [← rv.length, List.length_map]
  have e : W.EachIs (fun u b => RelV b.2 u) its bs := each_vals rv fun b _ u r => r
  have er : W.EachIs (fun v (b : D × V) => ∃ as, Reads s.heap v (toPy b.1) as) its bs := each_vals rv fun b hm u r => Dp.reads I (toPy b.1) b.2 u (hb b hm).1 r
  refine W.sorted_data hl.isList e er hal hk (by rw [hlen, ← rv.length]; exact hz) (fun b hm => by have := (hb b hm).2; omega) fun out ho eo => ?_
  obtain ⟨ep, he'⟩ := PyProof.Rows.sortedAll_at s.heap its out.toArray
  refine ⟨.ref _, upd H (s.heap.objs.size + 1) (.lst ((bs.mergeSort (W.dataLe false fun b : D × V => toPy b.1)).map Prod.snd)), I.laid (t' := s.toks) (fun _ _ => PyProof.Rows.sortedAll_old) (Nat.le_succ _) ⟨?_, out, ep, vals_each eo, he'⟩, rfl, q _ (I.hok.fresh (Nat.le_succ _))⟩
  rw [List.length_map, (List.mergeSort_perm _ _).length_eq, hlen, ← rv.length]
  exact hz
theorem reps_map {K : PySem.W.Frag} {G : Hp} : ∀ {T : List (D × V)}, (∀ t ∈ T, Rep K G t.1 t.2) → Reps K G (T.map Prod.fst) (T.map Prod.snd)
  | [], _ => .nil
  | t :: T, h => .cons (h t List.mem_cons_self) (reps_map fun b hb => h b (List.mem_cons_of_mem _ hb))
theorem zip_parts {K : PySem.W.Frag} {G : Hp} : ∀ {l : List D} {xs : List V}, Reps K G l xs → (l.zip xs).map Prod.fst = l ∧ (l.zip xs).map Prod.snd = xs ∧ ∀ t ∈ l.zip xs, Rep K G t.1 t.2 ∧ t.1 ∈ l
  | _, _, .nil => ⟨rfl, rfl, fun t ht => by simp at ht⟩
  | _, _, .cons r rs => by
    obtain ⟨h1, h2, h3⟩ := zip_parts rs
    refine ⟨by simp [h1], by simp [h2], fun t ht => ?_⟩
    rw [List.zip_cons_cons] at ht
    rcases List.mem_cons.mp ht with rfl | ht
    · exact ⟨r, List.mem_cons_self⟩
    · exact ⟨(h3 t ht).1, List.mem_cons_of_mem _ (h3 t ht).2⟩
def pSorted : List SV → Mem → VP → Prop := fun ss μ Q => match ss with
  | [s] => on (lstOf s μ) fun l => okSort l ∧ Q (.d (.lst (srtD l))) μ
  | _ => False
theorem pcall_sorted {K : PySem.W.Frag} : PCall K (rSortedD K) pSorted := by
  intro ss μ A G H vs Qp Q h c rs k
  match ss, h, rs with
  | [s], h, .cons r .nil =>
    obtain ⟨l, e, ⟨h1, h2, h3⟩, q⟩ := on_of h
    obtain ⟨a, us, rfl, g1, g2⟩ := lstOf_rep e c r
    obtain ⟨z1, z2, z3⟩ := zip_parts g2
    have zt : (l.zip us).map (fun b => toPy b.1) = l.map toPy := by
      show (l.zip us).map (toPy ∘ Prod.fst) = _
      rw [← List.map_map, z1]
    refine ⟨a, l.zip us, rfl, by rw [z2]; exact SqL.of g1, fun b hb => ⟨rep_dp c.le 60 _ _ (h1 _ (z3 b hb).2) (z3 b hb).1, okEq_depth (h1 _ (z3 b hb).2)⟩, by rw [zt]; exact h2, by rw [zt]; exact h3, fun p hp => ?_⟩
    have ef : ((l.zip us).mergeSort (W.dataLe false fun b : D × V => toPy b.1)).map Prod.fst = srtD l := by
      unfold srtD
      refine Eq.trans (List.map_mergeSort (r := W.dataLe false fun b : D × V => toPy b.1) (s := W.dataLe false toPy) (f := Prod.fst) (fun a _ b _ => rfl)) ?_
      rw [z1]
    have rep : Reps K G (srtD l) (((l.zip us).mergeSort (W.dataLe false fun b : D × V => toPy b.1)).map Prod.snd) := by
      rw [← ef]
      exact reps_map fun t ht => (z3 t ((List.mergeSort_perm _ _).mem_iff.mp ht)).1
    obtain ⟨c2, s2⟩ := c.laid (o := .lst (((l.zip us).mergeSort (W.dataLe false fun b : D × V => toPy b.1)).map Prod.snd)) hp
    exact k _ _ _ _ _ _ q c2 s2 (Rep.lst upd_same (rep.mono s2.le))
section
variable {X : Cx} {W : WX} {e : Expr} {tL : TXA} {p pos : Pos}
theorem px_sorted (hu : X.A.units + 64 < cLine) (hg : Gl X "sorted") (hm : X.mg "sorted" = none) (ha : PXA X W [e] tL) (he : starEach [e] X.env = (false, eval e X.env) :: starEach [] X.env := by rfl) : PX X W (.Call (.Name "sorted" p) [e] [] pos) (xCall pSorted tL) :=
  px_callB (cr_sortedD hu) pcall_sorted hg hm (by decide +kernel) ha (by decide) (by decide) he rfl
end
end PL
/-! The P-layer: the less, the greater of two data. -/
namespace PySem.W
open PySem PyProof.Rows PySem.SeqAt
theorem max_two_data {prog : Program} {w : World} {A : Around} {E : Value → Shared → Prop} {s : Shared} {a b : Value} {da db : PyData} {as bs : List Addr} {Q : Value → Shared → Prop} (hh : A.handled = none) (ra : Reads s.heap a da as) (rb : Reads s.heap b db bs)
    (hal : AlikeAll [da, db]) (hu : A.units + 1 + PyData.depthAll [da, db] < cLine) (h : ∀ h' tk, (∀ c o, s.heap.get? c = some o → h'.get? c = some o) → Q (if dataLt da db = true then b else a) { s with heap := h', toks := tk }) :
    wpAny (model prog w) A (call (.builtin "max") [a, b]) Q E s := by
  have nm : (toString "max" ++ toString ".loop" : String) = "max.loop" := by decide
  refine call_function_tree F.kind_max F.plain_max F.entry_max (F.args_max2 _ _) ?_
  show wpAny _ A.in1 (Builtin.Builtins.bindParams "max" ["key", "default"] 0 ⟨[], []⟩ >>= fun x => _) _ _ s
  refine wpAny_bind (wpAny_of_eq (show Builtin.Builtins.bindParams "max" ["key", "default"] 0 ⟨[], []⟩ = pure [none, none] from rfl) ?_)
  show wpAny _ A.in1 (newTuple [a, b] >>= fun x => _) _ _ s
  refine wpAny_bind (wpAny_newObj_type ?_)
  have isT : (s.heap.push { cls := .type "tuple", data := .seq #[a, b] }).IsTuple s.heap.objs.size #[a, b] := ⟨_, Heap.get?_push_size _ rfl, rfl, 0, rfl⟩
  have kp : ∀ c o, s.heap.get? c = some o → (s.heap.push { cls := .type "tuple", data := .seq #[a, b] }).get? c = some o := fun c o e => Heap.get?_push_of_some _ e
  have rall : ReadsAll (s.heap.push { cls := .type "tuple", data := .seq #[a, b] }) (#[a, b] : Array Value).toList [da, db] (as ++ (bs ++ [])) := .cons (reads_keeps kp ra) (.cons (reads_keeps kp rb) .nil)
  refine wpAny_bind (iter_tupleW (A := A.in1) (s := { s with heap := s.heap.push { cls := .type "tuple", data := .seq #[a, b] } }) hh isT fun s₂ e W st hfp hw hk => ?_)
  refine wpAny_bind (wpAny_newObj_type ?_)
  have nf := fun hm => Nat.lt_irrefl _ (hfp s₂.heap.objs.size hm)
  rw [nm]
  refine wpAny_pure ⟨plainId_quiet F.plain_max_loop _, codeAny_max_loop_firstH W (s.heap.push { cls := .type "tuple", data := .seq #[a, b] }) hw _ (cmpIn_gt (A := A.in1) (s := { s with heap := s.heap.push { cls := .type "tuple", data := .seq #[a, b] } }) rall hal (by show A.units + 1 + _ < _; exact hu)) s₂.heap.objs.size nf (fresh_in hk) _ (by simp) (fun c o q => Heap.get?_push_of_some _ (hk c o q)) (W.frame 0 s₂ _ s₂.toks st (Nat.le_refl _) fun c _ o q => Heap.get?_push_of_some _ q) (Heap.get?_push_size _ rfl) fun v s' hP hm => ?_⟩
  obtain ⟨h', tk, rfl, hk'⟩ := moved_old (s := { s with heap := s.heap.push { cls := .type "tuple", data := .seq #[a, b] } }) e rfl (Moved.drop_new (tk := s₂.toks) hm (Nat.le_refl _))
  have z := h h' tk fun c o q => hk' c o (kp c o q)
  have hv : v = if dataLt da db = true then b else a := by
    have hP2 : (#[a, b] : Array Value)[argBest (fun i j => dataLt ([da, db].getD j .none) ([da, db].getD i .none)) 1]? = some v := hP
    cases hc : (dataLt da db) <;> simp [argBest, hc] at hP2 <;> simp [hP2]
  rw [hv]
  exact z
theorem min_two_data {prog : Program} {w : World} {A : Around} {E : Value → Shared → Prop} {s : Shared} {a b : Value} {da db : PyData} {as bs : List Addr} {Q : Value → Shared → Prop} (hh : A.handled = none) (ra : Reads s.heap a da as) (rb : Reads s.heap b db bs)
    (hal : AlikeAll [da, db]) (hu : A.units + 1 + PyData.depthAll [da, db] < cLine) (h : ∀ h' tk, (∀ c o, s.heap.get? c = some o → h'.get? c = some o) → Q (if dataLt db da = true then b else a) { s with heap := h', toks := tk }) :
    wpAny (model prog w) A (call (.builtin "min") [a, b]) Q E s := by
  have nm : (toString "min" ++ toString ".loop" : String) = "min.loop" := by decide
  refine call_function_tree F.kind_min F.plain_min F.entry_min (F.args_min2 _ _) ?_
  show wpAny _ A.in1 (Builtin.Builtins.bindParams "min" ["key", "default"] 0 ⟨[], []⟩ >>= fun x => _) _ _ s
  refine wpAny_bind (wpAny_of_eq (show Builtin.Builtins.bindParams "min" ["key", "default"] 0 ⟨[], []⟩ = pure [none, none] from rfl) ?_)
  show wpAny _ A.in1 (newTuple [a, b] >>= fun x => _) _ _ s
  refine wpAny_bind (wpAny_newObj_type ?_)
  have isT : (s.heap.push { cls := .type "tuple", data := .seq #[a, b] }).IsTuple s.heap.objs.size #[a, b] := ⟨_, Heap.get?_push_size _ rfl, rfl, 0, rfl⟩
  have kp : ∀ c o, s.heap.get? c = some o → (s.heap.push { cls := .type "tuple", data := .seq #[a, b] }).get? c = some o := fun c o e => Heap.get?_push_of_some _ e
  have rall : ReadsAll (s.heap.push { cls := .type "tuple", data := .seq #[a, b] }) (#[a, b] : Array Value).toList [da, db] (as ++ (bs ++ [])) := .cons (reads_keeps kp ra) (.cons (reads_keeps kp rb) .nil)
  refine wpAny_bind (iter_tupleW (A := A.in1) (s := { s with heap := s.heap.push { cls := .type "tuple", data := .seq #[a, b] } }) hh isT fun s₂ e W st hfp hw hk => ?_)
  refine wpAny_bind (wpAny_newObj_type ?_)
  have nf := fun hm => Nat.lt_irrefl _ (hfp s₂.heap.objs.size hm)
  rw [nm]
  refine wpAny_pure ⟨plainId_quiet F.plain_min_loop _, codeAny_min_loop_firstH W (s.heap.push { cls := .type "tuple", data := .seq #[a, b] }) hw _ (cmpIn_lt (A := A.in1) (s := { s with heap := s.heap.push { cls := .type "tuple", data := .seq #[a, b] } }) rall hal (by show A.units + 1 + _ < _; exact hu)) s₂.heap.objs.size nf (fresh_in hk) _ (by simp) (fun c o q => Heap.get?_push_of_some _ (hk c o q)) (W.frame 0 s₂ _ s₂.toks st (Nat.le_refl _) fun c _ o q => Heap.get?_push_of_some _ q) (Heap.get?_push_size _ rfl) fun v s' hP hm => ?_⟩
  obtain ⟨h', tk, rfl, hk'⟩ := moved_old (s := { s with heap := s.heap.push { cls := .type "tuple", data := .seq #[a, b] } }) e rfl (Moved.drop_new (tk := s₂.toks) hm (Nat.le_refl _))
  have z := h h' tk fun c o q => hk' c o (kp c o q)
  have hv : v = if dataLt db da = true then b else a := by
    have hP2 : (#[a, b] : Array Value)[argBest (fun i j => dataLt ([da, db].getD i .none) ([da, db].getD j .none)) 1]? = some v := hP
    cases hc : (dataLt db da) <;> simp [argBest, hc] at hP2 <;> simp [hP2]
  rw [hv]
  exact z
end PySem.W
namespace PL
open PySem PySem.Spec PyProof.Rows L2
def alP (x y : D) : Bool := alD x x && (alD x y && (alD y x && alD y y))
theorem alP_all {l m : List D} (h : alP (.tup l) (.tup m) = true) : PySem.W.AlikeAll [toPy (.tup l), toPy (.tup m)] := by
  unfold alP at h
  simp only [Bool.and_eq_true] at h
  obtain ⟨h1, h2, h3, h4⟩ := h
  refine ⟨?_, ?_⟩
  · intro x hx y hy
    simp only [List.mem_cons, List.not_mem_nil, or_false] at hx hy
    rcases hx with rfl | rfl <;> rcases hy with rfl | rfl
    · exact h1
    · exact h2
    · exact h3
    · exact h4
  · intro x hx
    simp only [List.mem_cons, List.not_mem_nil, or_false] at hx
    rcases hx with rfl | rfl <;> simp [toPy]
def rmax2D (K : PySem.W.Frag) : List V → Hp → VK → Prop := fun vs H Q => ∃ (x y : V) (d e : PyData), vs = [x, y] ∧ Dp K H x d ∧ Dp K H y e ∧ PySem.W.AlikeAll [d, e] ∧ PyData.depthAll [d, e] ≤ 62 ∧ Q (if PySem.W.dataLt d e = true then y else x) H
theorem cr_max2D {X : Cx} (hc : X.calm = true) (hu : X.A.units + 64 < cLine) : CallR X (.builtin "max") (rmax2D X.K) := by
  intro pins s σ H xs us Q I r ⟨x, y, d, e, ex, hd, he, hal, hp, q⟩
  subst ex
  obtain ⟨u, w', rfl, r1, r2⟩ := vals2 r
  obtain ⟨as, k1⟩ := Dp.reads I d x u hd r1
  obtain ⟨bs, k2⟩ := Dp.reads I e y w' he r2
  refine PySem.W.max_two_data (I.ok.hd hc) k1 k2 hal (by omega) fun h' tk k => ⟨_, H, I.kept k, ?_, q⟩
  by_cases c : PySem.W.dataLt d e = true
  · rw [if_pos c, if_pos c]; exact r2
  · rw [if_neg c, if_neg c]; exact r1
def pmaxU : List SV → Mem → VP → Prop := fun ss μ Q => match ss with
  | [.d (.int i), .d (.int j)] => Q (.d (.int (if j > i then j else i))) μ
  | [.d (.str i), .d (.str j)] => (okEq (.str i) = true ∧ okEq (.str j) = true) ∧ Q (.d (if ltD (.str i) (.str j) = true then .str j else .str i)) μ
  | [.d (.tup l), .d (.tup m)] => (okEq (.tup l) = true ∧ okEq (.tup m) = true ∧ alP (.tup l) (.tup m) = true) ∧ Q (.d (if ltD (.tup l) (.tup m) = true then .tup m else .tup l)) μ
  | _ => False
theorem pcall_maxU {K : PySem.W.Frag} : PCall K (fun xs H Q => (∃ i j, xs = [.int i, .int j] ∧ Q (.int (if j > i then j else i)) H) ∨ rmax2D K xs H Q) pmaxU := by
  intro ss μ A G H vs Qp Q h c rs k
  unfold pmaxU at h
  split at h
  · match rs with
    | .cons r (.cons r2 .nil) =>
      cases r; cases r2
      exact .inl ⟨_, _, rfl, k _ _ _ _ _ _ h c .refl (.int _)⟩
  · rename_i i j
    match rs with
    | .cons r (.cons r2 .nil) =>
      obtain ⟨⟨h1, h2⟩, q⟩ := h
      refine .inr ⟨_, _, toPy (.str i), toPy (.str j), rfl, rep_dp c.le 60 _ _ h1 r, rep_dp c.le 60 _ _ h2 r2, ⟨?_, ?_⟩, ?_, k _ _ _ _ _ _ q c .refl ?_⟩
      · intro x hx y hy
        simp only [toPy, List.mem_cons, List.not_mem_nil, or_false] at hx hy
        rcases hx with rfl | rfl <;> rcases hy with rfl | rfl <;> simp [PySem.W.alike]
      · intro x hx
        simp only [toPy, List.mem_cons, List.not_mem_nil, or_false] at hx
        rcases hx with rfl | rfl <;> simp
      · simp [toPy, PyData.depthAll, PyData.depth]
      · by_cases z : ltD (.str i) (.str j) = true
        · rw [if_pos z, if_pos (show PySem.W.dataLt (toPy (.str i)) (toPy (.str j)) = true from z)]; exact r2
        · rw [if_neg z, if_neg (show ¬ PySem.W.dataLt (toPy (.str i)) (toPy (.str j)) = true from z)]; exact r
  · rename_i l m
    match rs with
    | .cons r (.cons r2 .nil) =>
      obtain ⟨⟨h1, h2, h3⟩, q⟩ := h
      refine .inr ⟨_, _, toPy (.tup l), toPy (.tup m), rfl, rep_dp c.le 60 _ _ h1 r, rep_dp c.le 60 _ _ h2 r2, alP_all h3, ?_, k _ _ _ _ _ _ q c .refl ?_⟩
      · have := okEq_depth h1
        have := okEq_depth h2
        simp only [PyData.depthAll]; omega
      · by_cases z : ltD (.tup l) (.tup m) = true
        · rw [if_pos z, if_pos (show PySem.W.dataLt (toPy (.tup l)) (toPy (.tup m)) = true from z)]; exact r2
        · rw [if_neg z, if_neg (show ¬ PySem.W.dataLt (toPy (.tup l)) (toPy (.tup m)) = true from z)]; exact r
  · exact h.elim
def rmin2D (K : PySem.W.Frag) : List V → Hp → VK → Prop := fun vs H Q => ∃ (x y : V) (d e : PyData), vs = [x, y] ∧ Dp K H x d ∧ Dp K H y e ∧ PySem.W.AlikeAll [d, e] ∧ PyData.depthAll [d, e] ≤ 62 ∧ Q (if PySem.W.dataLt e d = true then y else x) H
theorem cr_min2D {X : Cx} (hc : X.calm = true) (hu : X.A.units + 64 < cLine) : CallR X (.builtin "min") (rmin2D X.K) := by
  intro pins s σ H xs us Q I r ⟨x, y, d, e, ex, hd, he, hal, hp, q⟩
  subst ex
  obtain ⟨u, w', rfl, r1, r2⟩ := vals2 r
  obtain ⟨as, k1⟩ := Dp.reads I d x u hd r1
  obtain ⟨bs, k2⟩ := Dp.reads I e y w' he r2
  refine PySem.W.min_two_data (I.ok.hd hc) k1 k2 hal (by omega) fun h' tk k => ⟨_, H, I.kept k, ?_, q⟩
  by_cases c : PySem.W.dataLt e d = true
  · rw [if_pos c, if_pos c]; exact r2
  · rw [if_neg c, if_neg c]; exact r1
def pminU : List SV → Mem → VP → Prop := fun ss μ Q => match ss with
  | [.d (.int i), .d (.int j)] => Q (.d (.int (if j < i then j else i))) μ
  | [.d (.str i), .d (.str j)] => (okEq (.str i) = true ∧ okEq (.str j) = true) ∧ Q (.d (if ltD (.str j) (.str i) = true then .str j else .str i)) μ
  | [.d (.tup l), .d (.tup m)] => (okEq (.tup l) = true ∧ okEq (.tup m) = true ∧ alP (.tup l) (.tup m) = true) ∧ Q (.d (if ltD (.tup m) (.tup l) = true then .tup m else .tup l)) μ
  | _ => False
theorem pcall_minU {K : PySem.W.Frag} : PCall K (fun xs H Q => (∃ i j, xs = [.int i, .int j] ∧ Q (.int (if j < i then j else i)) H) ∨ rmin2D K xs H Q) pminU := by
  intro ss μ A G H vs Qp Q h c rs k
  unfold pminU at h
  split at h
  · match rs with
    | .cons r (.cons r2 .nil) =>
      cases r; cases r2
      exact .inl ⟨_, _, rfl, k _ _ _ _ _ _ h c .refl (.int _)⟩
  · rename_i i j
    match rs with
    | .cons r (.cons r2 .nil) =>
      obtain ⟨⟨h1, h2⟩, q⟩ := h
      refine .inr ⟨_, _, toPy (.str i), toPy (.str j), rfl, rep_dp c.le 60 _ _ h1 r, rep_dp c.le 60 _ _ h2 r2, ⟨?_, ?_⟩, ?_, k _ _ _ _ _ _ q c .refl ?_⟩
      · intro x hx y hy
        simp only [toPy, List.mem_cons, List.not_mem_nil, or_false] at hx hy
        rcases hx with rfl | rfl <;> rcases hy with rfl | rfl <;> simp [PySem.W.alike]
      · intro x hx
        simp only [toPy, List.mem_cons, List.not_mem_nil, or_false] at hx
        rcases hx with rfl | rfl <;> simp
      · simp [toPy, PyData.depthAll, PyData.depth]
      · by_cases z : ltD (.str j) (.str i) = true
        · rw [if_pos z, if_pos (show PySem.W.dataLt (toPy (.str j)) (toPy (.str i)) = true from z)]; exact r2
        · rw [if_neg z, if_neg (show ¬ PySem.W.dataLt (toPy (.str j)) (toPy (.str i)) = true from z)]; exact r
  · rename_i l m
    match rs with
    | .cons r (.cons r2 .nil) =>
      obtain ⟨⟨h1, h2, h3⟩, q⟩ := h
      refine .inr ⟨_, _, toPy (.tup l), toPy (.tup m), rfl, rep_dp c.le 60 _ _ h1 r, rep_dp c.le 60 _ _ h2 r2, alP_all h3, ?_, k _ _ _ _ _ _ q c .refl ?_⟩
      · have := okEq_depth h1
        have := okEq_depth h2
        simp only [PyData.depthAll]; omega
      · by_cases z : ltD (.tup m) (.tup l) = true
        · rw [if_pos z, if_pos (show PySem.W.dataLt (toPy (.tup m)) (toPy (.tup l)) = true from z)]; exact r2
        · rw [if_neg z, if_neg (show ¬ PySem.W.dataLt (toPy (.tup m)) (toPy (.tup l)) = true from z)]; exact r
  · exact h.elim
section
variable {X : Cx} {W : WX} {a b : Expr} {tL : TXA} {p pos : Pos}
theorem px_maxU (hu : X.A.units + 64 < cLine) (hc : X.calm = true) (hg : Gl X "max") (hm : X.mg "max" = none) (ha : PXA X W [a, b] tL) (he : starEach [a, b] X.env = (false, eval a X.env) :: starEach [b] X.env := by rfl) (hpl : (backTo pos (starEach [b] X.env)).any (·.1) = false := by rfl) : PX X W (.Call (.Name "max" p) [a, b] [] pos) (xCall pmaxU tL) :=
  px_callB (CallR.or (call_max2 hc) (cr_max2D hc hu)) pcall_maxU hg hm (by decide +kernel) ha (by decide) (by decide) he hpl
theorem px_minU (hu : X.A.units + 64 < cLine) (hc : X.calm = true) (hg : Gl X "min") (hm : X.mg "min" = none) (ha : PXA X W [a, b] tL) (he : starEach [a, b] X.env = (false, eval a X.env) :: starEach [b] X.env := by rfl) (hpl : (backTo pos (starEach [b] X.env)).any (·.1) = false := by rfl) : PX X W (.Call (.Name "min" p) [a, b] [] pos) (xCall pminU tL) :=
  px_callB (CallR.or (call_min2 hc) (cr_min2D hc hu)) pcall_minU hg hm (by decide +kernel) ha (by decide) (by decide) he hpl
end
end PL
/-! The P-layer: join, list(x), slices of texts, a name set to a comprehension on one line. -/
namespace PL
open PySem PySem.Spec PyProof.Rows L2 RZ
section
variable {X : Cx} {W : WX} {a b c e o tg iter elt : Expr} {es ifs : List Expr} {ta tb tc te to : TX} {tL : TXA} {pos p apos cpos tpos p2 : Pos} {x : Str} {g : TXG} {ti : TXI} {tt : TXT}
/-! ### ''.join(texts) -/
def txts : List D → Option (List Str)
  | [] => some []
  | .str x :: r => (txts r).map (x :: ·)
  | _ :: _ => none
theorem txts_reps {K : PySem.W.Frag} {G : Hp} : ∀ {l : List D} {ys : List Str} {vs : List V}, txts l = some ys → Reps K G l vs → vs = ys.map V.str
  | [], _, _, e, .nil => by simp [txts] at e; subst e; rfl
  | .str b :: r, bs, _, e, .cons h t => by
    simp only [txts, Option.map_eq_some_iff] at e
    obtain ⟨es, e1, rfl⟩ := e
    cases h
    rw [txts_reps e1 t]; rfl
  | .non :: _, _, _, e, _ | .int _ :: _, _, _, e, _ | .bl _ :: _, _, _, e, _ | .fn _ :: _, _, _, e, _ | .ty _ :: _, _, _, e, _ | .scr _ :: _, _, _, e, _ | .tup _ :: _, _, _, e, _ | .ntp _ :: _, _, _, e, _ | .lst _ :: _, _, _, e, _ | .dic _ _ _ :: _, _, _, e, _ | .obj _ _ _ :: _, _, _, e, _ => by simp [txts] at e
def xJoin (to te : TX) : TX := fun x ρ μ Q => to x ρ μ fun so μ1 => match so with
  | .d (.str a) => te x ρ μ1 fun s μ2 => on ((lstOf s μ2).or (tupOf s)) fun l => on (txts l) fun ys => ((ys.map (·.length)).sum + ys.length * a.length ≤ 16777216) ∧ Q (.d (.str (Txt.join a ys))) μ2
  | _ => False
theorem px_join (ho : PX X W o to) (he : PX X W e te) (hs : starEach [e] X.env = [(false, eval e X.env)] := by rfl) (hbase : attributeBase o "join" X.env (eval o X.env) = eval o X.env := by rfl) (hline : (apos.endLine == pos.line) = true := by rfl) :
    PX X W (.Call (.Attribute o "join" apos) [e] [] pos) (xJoin to te) := by
  refine ⟨(pe_join ho.pe he.pe hs hbase hline).imp fun σ H Q h => ?_⟩
  obtain ⟨A, ρ, μ, G, Qp, xp, S, ht, hx, k⟩ := h
  refine ⟨A, ρ, μ, G, _, xp, S, ht, hx, fun so μ1 A1 G1 H1 v q c1 s1 r1 => ?_⟩
  match so, q, r1 with
  | .d (.str a), q, r1 =>
    cases r1
    refine ⟨⟨a, rfl⟩, A1, ρ, μ1, G1, _, xp, S.after s1 c1, q, hx.after s1, fun s μ2 A2 G2 H2 vs q2 c2 s2 r2 => ?_⟩
    obtain ⟨l, e1, q2⟩ := on_of q2
    obtain ⟨ys, e2, hz, q2⟩ := on_of q2
    have fin : ∃ p, vs = .ref p ∧ (SqL X.K H2 p (ys.map V.str) ∨ SqT X.K H2 p (ys.map V.str)) := by
      cases e3 : lstOf s μ2 with
      | some l' =>
        rw [e3] at e1
        cases e1
        obtain ⟨p, us, rfl, g1, g2⟩ := lstOf_rep e3 c2 r2
        rw [txts_reps e2 g2] at g1
        exact ⟨p, rfl, .inl (SqL.of g1)⟩
      | none =>
        rw [e3] at e1
        obtain ⟨p, us, rfl, g1, g2⟩ := tupOf_rep (by simpa using e1) c2 r2
        rw [txts_reps e2 g2] at g1
        exact ⟨p, rfl, .inr g1⟩
    obtain ⟨p, rfl, hp⟩ := fin
    exact ⟨a, p, ys, rfl, rfl, hp, hz, k _ _ _ _ _ _ q2 c2 (s1.trans s2) (.str _)⟩
/-! ### list(x) -/
def pListOf (own : Bool) : List SV → Mem → VP → Prop := fun ss μ Q => match ss with
  | [s] => on ((lstOf s μ).or (tupOf s)) fun l => match own with
    | true => Q (.c μ.length) (μ ++ [.lst l])
    | false => Q (.d (.lst l)) μ
  | _ => False
theorem pcall_list {own : Bool} : PCall X.K (fun xs H Q => ∃ p ys, xs = [.ref p] ∧ (SqL X.K H p ys ∨ SqT X.K H p ys) ∧ ∀ l, H l = none → Q (.ref l) (upd H l (.lst ys))) (pListOf own) := by
  intro ss μ A G H vs Qp Q h c rs k
  match ss, h, rs with
  | [s], h, .cons (v := v) r .nil =>
    obtain ⟨l, e1, q⟩ := on_of h
    have fin : ∃ p us, v = .ref p ∧ (SqL X.K H p us ∨ SqT X.K H p us) ∧ Reps X.K G l us := by
      cases e3 : lstOf s μ with
      | some l' =>
        rw [e3] at e1
        cases e1
        obtain ⟨p, us, rfl, g1, g2⟩ := lstOf_rep e3 c r
        exact ⟨p, us, rfl, .inl (SqL.of g1), g2⟩
      | none =>
        rw [e3] at e1
        obtain ⟨p, us, rfl, g1, g2⟩ := tupOf_rep (by simpa using e1) c r
        exact ⟨p, us, rfl, .inr g1, g2⟩
    obtain ⟨p, us, rfl, hp, hr⟩ := fin
    refine ⟨p, us, rfl, hp, fun l hl => ?_⟩
    cases own with
    | true =>
      obtain ⟨c2, s2⟩ := c.cell (o := .lst us) (cl := .lst _) hl ⟨us, upd_same, hr⟩
      exact k _ _ _ _ _ _ q c2 s2 ⟨l, by rw [← c.len]; simp, rfl⟩
    | false =>
      obtain ⟨c2, s2⟩ := c.laid (o := .lst us) hl
      exact k _ _ _ _ _ _ q c2 s2 (Rep.lst upd_same (hr.mono s2.le))
theorem px_list (own : Bool) (hg : Gl X "list") (hm : X.mg "list" = none) (ha : PXA X W [e] tL) (he : starEach [e] X.env = (false, eval e X.env) :: starEach [] X.env := by rfl) : PX X W (.Call (.Name "list" p) [e] [] pos) (xCall (pListOf own) tL) :=
  px_callTy call_list_of pcall_list hg hm (by decide +kernel) ha (by decide) (by decide) he rfl
/-! ### slices, texts too -/
def pSlV : SV → Option Int → Option Int → Mem → VP → Prop := fun sa lo hi μ Q => match sa with
  | .d (.tup l) => Q (.d (.tup (cutD l lo hi))) μ
  | .d (.ntp l) => Q (.d (cutN l lo hi)) μ
  | .d (.scr l) => Q (.d (.lst (cutD (l.map .int) lo hi))) μ
  | .d (.str z) => z.length ≤ sizeLine ∧ Q (.d (.str (cutS z lo hi))) μ
  | sa => on (lstOf sa μ) fun l => Q (.d (.lst (cutD l lo hi))) μ
theorem psl_V : PSl X.K (fun x lo hi H Q => (rSlA X.K x lo hi H Q ∨ rSlL X.K x lo hi H Q) ∨ rSlS x lo hi H Q) pSlV := by
  intro sa lo hi μ A G H va Qp Q h c ra k
  unfold pSlV at h
  split at h
  · rename_i l
    exact .inl (.inl (psl_tup (.d (.tup l)) lo hi μ A G H va Qp Q h c ra k))
  · rename_i l
    exact .inl (.inl (psl_tup (.d (.ntp l)) lo hi μ A G H va Qp Q h c ra k))
  · rename_i l
    exact .inl (.inr (psl_scr (.d (.scr l)) lo hi μ A G H va Qp Q h c ra k))
  · cases ra
    exact .inr ⟨_, rfl, h.1, k _ _ _ _ _ _ h.2 c .refl (.str _)⟩
  · exact .inl (.inr (psl_list _ lo hi μ A G H va Qp Q h c ra k))
theorem px_slV {lo hi : Option Expr} {tl th : TXO} (ha : PX X W a ta) (hl : PXO X W lo tl) (hh : PXO X W hi th) : PX X W (.Subscript a (.Slice lo hi none p2) pos) (xSl pSlV ta tl th) := px_sl (SlR.or (SlR.or sl_tupA sl_list) sl_str) psl_V ha hl hh
end
end PL
/-! The P-layer: tuples that one knows to be plain, .index, is of bools, a name set to a comprehension on one line. -/
namespace PL
open PySem PySem.Spec PyProof.Rows L2 RZ
section
variable {X : Cx} {W : WX} {a b c e o tg iter elt : Expr} {es ifs : List Expr} {ta tb tc te to : TX} {tL : TXA} {pos p apos cpos tpos p2 : Pos} {x : Str} {g : TXG} {ti : TXI} {tt : TXT}
/-! ### tuple(x) as a tuple of which one knows the object -/
theorem call_tuple_frz : CallR X (.type "tuple") (fun xs H Q => ∃ p ys, xs = [.ref p] ∧ ((SqL X.K H p ys ∧ ∀ l o, H l = none → o.dict = none → Q (.ref l) (upd H l (.frz o (.tup ys)))) ∨ (SqT X.K H p ys ∧ Q (.ref p) H))) := by
  intro pins s σ H xs us Q I r h
  obtain ⟨p, ys, rfl, h⟩ := h
  obtain ⟨u, rfl, rx⟩ := vals1 r
  cases rx
  rcases h with ⟨hq, q⟩ | ⟨hq, q⟩
  · obtain ⟨its, r', pl, hz⟩ := I.list hq
    have hlen := r'.length
    refine call_tuple_list pl.isList (fun h' kp => ?_) (by simp only [List.size_toArray] <;> omega)
    have I1 : Inv X pins σ H { s with heap := h' } := I.kept (t' := s.toks) kp
    have I2 : Inv X pins σ (upd H h'.objs.size (.frz { cls := .type "tuple", data := .seq its.toArray } (.tup ys))) { s with heap := h'.push { cls := .type "tuple", data := .seq its.toArray } } :=
      I1.laid (t' := s.toks) (fun b o e => Heap.get?_push_of_some _ e) (Nat.le_refl _) (show ObjOk X.prog X.w _ _ _ (.frz _ (.tup ys)) from ⟨Heap.get?_push_size _ rfl, hz, its, r', IsTup.new _ _⟩)
    exact ⟨.ref h'.objs.size, _, I2, rfl, q _ _ (I1.hok.fresh (Nat.le_refl _)) rfl⟩
  · obtain ⟨its, r', pl, hz⟩ := I.tuple hq
    exact call_tuple_same pl ⟨.ref p, H, I, rfl, q⟩
def pTupN : List SV → Mem → VP → Prop := fun ss μ Q => match ss with
  | [s] => match lstOf s μ with
    | some l => Q (.d (.ntp l)) μ
    | none => (tupOf s).isSome = true ∧ Q s μ
  | _ => False
theorem pcall_tupN : PCall X.K (fun xs H Q => ∃ p ys, xs = [.ref p] ∧ ((SqL X.K H p ys ∧ ∀ l o, H l = none → o.dict = none → Q (.ref l) (upd H l (.frz o (.tup ys)))) ∨ (SqT X.K H p ys ∧ Q (.ref p) H))) pTupN := by
  intro ss μ A G H vs Qp Q h c rs k
  match ss, h, rs with
  | [s], h, .cons r .nil =>
    simp only [pTupN] at h
    cases e1 : lstOf s μ with
    | some l' =>
      rw [e1] at h
      obtain ⟨a, us, rfl, h1, h2⟩ := lstOf_rep e1 c r
      refine ⟨a, us, rfl, .inl ⟨SqL.of h1, fun p o hp hd => ?_⟩⟩
      obtain ⟨c2, s2⟩ := c.laid (o := .frz o (.tup us)) hp
      exact k _ _ _ _ _ _ h c2 s2 (Rep.ntp upd_same hd (h2.mono s2.le))
    | none =>
      rw [e1] at h
      obtain ⟨h0, q⟩ := h
      obtain ⟨l, e2⟩ := Option.isSome_iff_exists.mp h0
      obtain ⟨a, us, rfl, h1, h2⟩ := tupOf_rep e2 c r
      exact ⟨a, us, rfl, .inr ⟨h1, k _ _ _ _ _ _ q c .refl r⟩⟩
theorem px_tupleN (hg : Gl X "tuple") (hm : X.mg "tuple" = none) (ha : PXA X W [e] tL) (he : starEach [e] X.env = (false, eval e X.env) :: starEach [] X.env := by rfl) : PX X W (.Call (.Name "tuple" p) [e] [] pos) (xCall pTupN tL) :=
  px_callTy call_tuple_frz pcall_tupN hg hm (by decide +kernel) ha (by decide) (by decide) he rfl

/-! ### is, of bools -/
def pIsB (n : Bool) : SV → SV → Mem → VP → Prop := fun sa sb μ Q => match sa, sb with
  | .d (.bl x), .d (.bl y) => Q (.d (.bl (if n = true then !decide (x = y) else decide (x = y)))) μ
  | _, _ => False
theorem pop_isB {K : PySem.W.Frag} : POp K rIsB (pIsB false) := by
  intro sa sb μ A G H va vb Qp Q h c ra rb k
  match sa, sb, h, ra, rb with
  | .d (.bl x), .d (.bl y), h, ra, rb => cases ra; cases rb; exact ⟨x, y, rfl, rfl, k _ _ _ _ _ _ h c .refl (.bl _)⟩
theorem pop_notB {K : PySem.W.Frag} : POp K rNotB (pIsB true) := by
  intro sa sb μ A G H va vb Qp Q h c ra rb k
  match sa, sb, h, ra, rb with
  | .d (.bl x), .d (.bl y), h, ra, rb => cases ra; cases rb; exact ⟨x, y, rfl, rfl, k _ _ _ _ _ _ h c .refl (.bl _)⟩
theorem px_isB (ha : PX X W a ta) (hb : PX X W b tb) (hm : behindInMarks .Is b = false := by first | exact nomark _ | rfl) : PX X W (.Compare a [.Is] [b] pos) (xOp (pIsB false) ta tb) := px_cmp op_isBl pop_isB ha hb hm
theorem px_notB (ha : PX X W a ta) (hb : PX X W b tb) (hm : behindInMarks .IsNot b = false := by first | exact nomark _ | rfl) : PX X W (.Compare a [.IsNot] [b] pos) (xOp (pIsB true) ta tb) := px_cmp op_notBl pop_notB ha hb hm
theorem pxt_isB (ha : PX X W a ta) (hb : PX X W b tb) (hm : behindInMarks .Is b = false := by first | exact nomark _ | rfl) : PXT X W (.Compare a [.Is] [b] pos) (xTest (xOp (pIsB false) ta tb)) := pxt_cmp op_isBl pop_isB ha hb hm
theorem pxt_notB (ha : PX X W a ta) (hb : PX X W b tb) (hm : behindInMarks .IsNot b = false := by first | exact nomark _ | rfl) : PXT X W (.Compare a [.IsNot] [b] pos) (xTest (xOp (pIsB true) ta tb)) := pxt_cmp op_notBl pop_notB ha hb hm

/-! ### name = [..] on one line -/
theorem lc_liftL {vs : List Nat} {wi : TI} (hti : ∀ σ H R, liftI X.K W ti σ H R → wi σ H R) (σ : L2.St) (H : Hp) (Q : VK) (h : lift X.K W (xLc ti g tt te vs finL) σ H Q) : tLc wi (liftG X.K wF vs g) (liftT X.K wF tt) (lift X.K wF te) vs σ H Q := by
  obtain ⟨A, ρ, μ, G, Qp, x, S, ht, hx, k⟩ := h
  refine hti _ _ _ ⟨A, ρ, μ, G, _, x, S, ht, hx, fun ds μ1 A1 G1 H1 J ⟨hz, I, i0, turn, done⟩ c1 s1 w Dd hD => ?_⟩
  refine lc_turns (S.after s1 c1) hD w hz i0 turn fun acc μ' i' A' G' H' ws c' s' hd hr na gn => ?_
  have q := done acc μ' i'
  have lg : LeZ G' (upd G' Dd (.lst ws)) := fun a o e => .inl (by rw [upd_ne (ne_of_none e gn)]; exact e)
  refine k (.d (.lst acc)) μ' A' (upd G' Dd (.lst ws)) H' (.ref Dd) q ⟨fun a o e => ?_, c'.len, c'.nd, fun a ha => ?_, fun j a cl e1 e2 => (c'.ok j a cl e1 e2).mono (List.prefix_refl _) lg rfl⟩ ?_ (Rep.lst upd_same (hr.mono lg))
  · by_cases z : a = Dd
    · rw [z] at e ⊢; rw [upd_same] at e; rw [hd]; exact e
    · rw [upd_ne z] at e; exact c'.le a o e
  · rw [upd_ne (fun z => na (by rw [← z]; exact ha))]; exact c'.free a ha
  · have st := s1.trans s'
    refine ⟨st.pre, st.le.trans lg, st.keep, fun a e => ?_, st.tups, st.cells, st.there⟩
    by_cases z : a = Dd
    · refine .inr (.inl ?_)
      cases q2 : H a with
      | none => rfl
      | some o => exact absurd (by rw [z]; exact hD) (s1.there a (by rw [q2]; simp))
    · rw [upd_ne z] at e; exact st.new a e
theorem lc_liftC {vs : List Nat} {wi : TI} (hti : ∀ σ H R, liftI X.K W ti σ H R → wi σ H R) (σ : L2.St) (H : Hp) (Q : VK) (h : lift X.K W (xLc ti g tt te vs finC) σ H Q) : tLc wi (liftG X.K wF vs g) (liftT X.K wF tt) (lift X.K wF te) vs σ H Q := by
  obtain ⟨A, ρ, μ, G, Qp, x, S, ht, hx, k⟩ := h
  refine hti _ _ _ ⟨A, ρ, μ, G, _, x, S, ht, hx, fun ds μ1 A1 G1 H1 J ⟨hz, I, i0, turn, done⟩ c1 s1 w Dd hD => ?_⟩
  refine lc_turns (S.after s1 c1) hD w hz i0 turn fun acc μ' i' A' G' H' ws c' s' hd hr na gn => ?_
  have q := done acc μ' i'
  have st := s1.trans s'
  refine k (.c μ'.length) (μ' ++ [.lst acc]) (A' ++ [Dd]) G' H' (.ref Dd) (show Qp (.c μ'.length) (μ' ++ [.lst acc]) from q) ⟨c'.le, by simp [c'.len], ?_, fun a ha => ?_, fun j a cl e1 e2 => ?_⟩ ⟨st.pre.trans (List.prefix_append _ _), st.le, st.keep, st.new, st.tups, fun a ha => ?_, st.there⟩ ⟨Dd, by rw [← c'.len]; simp, rfl⟩
  · refine List.nodup_append.mpr ⟨c'.nd, by simp, fun a ha b hb => ?_⟩
    simp at hb
    subst hb
    exact fun z => na (z ▸ ha)
  · rcases List.mem_append.mp ha with h | h
    · exact c'.free a h
    · simp at h; subst h; exact gn
  · rcases getElem?_append_one e1 with e1 | ⟨z1, z2⟩
    · have hk : j < μ'.length := by rw [← c'.len]; exact (List.getElem?_eq_some_iff.mp e1).1
      rw [List.getElem?_append_left hk] at e2
      exact (c'.ok j a cl e1 e2).mono (List.prefix_append _ _) (LeZ.refl _) rfl
    · subst z2
      rw [z1, c'.len, List.getElem?_append_right (Nat.le_refl _)] at e2
      simp at e2
      subst e2
      exact ⟨ws, hd, hr⟩
  · rcases List.mem_append.mp ha with h | h
    · exact st.cells a h
    · simp at h
      subst h
      refine .inr ?_
      cases q2 : H a with
      | none => rfl
      | some o => exact absurd hD (s1.there a (by rw [q2]; simp))
theorem psx_setLc {i : Nat} {y : Str} {py : Pos} {scope : Scope} {own : List (Str × Nat)} (hc : X.calm = true) (hN : X.N.Nodup) (hy : X.N[i]? = some y) (hyl : X.env.scope.names.lookup y = some .local)
    (hsw : swapsWith (.ListComp elt [⟨tg, iter, ifs, 0⟩] scope p) (some (.Name y py)) pos.line X.env = pure true) (hi : PXI X W tg iter ti) (ok : BlkOk X.N X.env.scope scope own)
    (hg : ∀ (s : Shared) (H : Hp) (C : Addr) (cl : List (Str × Addr)) (fp : List Addr), PXG (X.blk s H scope (compEnvC scope cl C X.env) fp) wF (own.map (·.2)) tg g)
    (ht : ∀ (s : Shared) (H : Hp) (C : Addr) (cl : List (Str × Addr)) (fp : List Addr), PXTs (X.blk s H scope (compEnvC scope cl C X.env) fp) wF ifs tt)
    (he : ∀ (s : Shared) (H : Hp) (C : Addr) (cl : List (Str × Addr)) (fp : List Addr), PX (X.blk s H scope (compEnvC scope cl C X.env) fp) wF elt te) (hs : ∀ x, foldedSetIterable iter X.env x = pure x := by intro _; rfl) :
    PXS X W (.Assign [.Name y py] (.ListComp elt [⟨tg, iter, ifs, 0⟩] scope p) pos) (xAsg (xLc ti g tt te (own.map (·.2)) finL) (xName i)) := by
  obtain ⟨wi, hpi, hti⟩ := hi.ex
  refine ⟨(ps_setLc (g := liftG X.K wF (own.map (·.2)) g) (tt := liftT X.K wF tt) (te := lift X.K wF te) hc hN hy hyl hsw hpi ok (fun s H C cl fp => (hg s H C cl fp).pg) (fun s H C cl fp => (ht s H C cl fp).pt) (fun s H C cl fp => (he s H C cl fp).pe) hs).imp fun D σ H h => ?_⟩
  obtain ⟨A, ρ, μ, G, E, S, ht, k⟩ := h
  exact lc_liftL hti σ H _ ⟨A, ρ, μ, G, _, _, S, ht, k.ex, fun s μ1 A1 G1 H1 v q c1 s1 r1 => k.nx _ _ _ _ _ _ q ((S.after s1 c1).set i r1) s1⟩
theorem psx_setLcC {i : Nat} {y : Str} {py : Pos} {scope : Scope} {own : List (Str × Nat)} (hc : X.calm = true) (hN : X.N.Nodup) (hy : X.N[i]? = some y) (hyl : X.env.scope.names.lookup y = some .local)
    (hsw : swapsWith (.ListComp elt [⟨tg, iter, ifs, 0⟩] scope p) (some (.Name y py)) pos.line X.env = pure true) (hi : PXI X W tg iter ti) (ok : BlkOk X.N X.env.scope scope own)
    (hg : ∀ (s : Shared) (H : Hp) (C : Addr) (cl : List (Str × Addr)) (fp : List Addr), PXG (X.blk s H scope (compEnvC scope cl C X.env) fp) wF (own.map (·.2)) tg g)
    (ht : ∀ (s : Shared) (H : Hp) (C : Addr) (cl : List (Str × Addr)) (fp : List Addr), PXTs (X.blk s H scope (compEnvC scope cl C X.env) fp) wF ifs tt)
    (he : ∀ (s : Shared) (H : Hp) (C : Addr) (cl : List (Str × Addr)) (fp : List Addr), PX (X.blk s H scope (compEnvC scope cl C X.env) fp) wF elt te) (hs : ∀ x, foldedSetIterable iter X.env x = pure x := by intro _; rfl) :
    PXS X W (.Assign [.Name y py] (.ListComp elt [⟨tg, iter, ifs, 0⟩] scope p) pos) (xAsg (xLc ti g tt te (own.map (·.2)) finC) (xName i)) := by
  obtain ⟨wi, hpi, hti⟩ := hi.ex
  refine ⟨(ps_setLc (g := liftG X.K wF (own.map (·.2)) g) (tt := liftT X.K wF tt) (te := lift X.K wF te) hc hN hy hyl hsw hpi ok (fun s H C cl fp => (hg s H C cl fp).pg) (fun s H C cl fp => (ht s H C cl fp).pt) (fun s H C cl fp => (he s H C cl fp).pe) hs).imp fun D σ H h => ?_⟩
  obtain ⟨A, ρ, μ, G, E, S, ht, k⟩ := h
  exact lc_liftC hti σ H _ ⟨A, ρ, μ, G, _, _, S, ht, k.ex, fun s μ1 A1 G1 H1 v q c1 s1 r1 => k.nx _ _ _ _ _ _ q ((S.after s1 c1).set i r1) s1⟩
end
end PL
/-! The P-layer: x.index(y), of tuples and lists. -/
namespace PL
open PySem PySem.Spec PyProof.Rows L2 RZ
section
variable {X : Cx} {W : WX} {a b c e o tg iter elt : Expr} {es ifs : List Expr} {ta tb tc te to : TX} {t : TA} {tL : TXA} {pos p apos cpos tpos p2 : Pos} {x : Str} {g : TXG} {ti : TXI} {tt : TXT} {name : Str}
/-- a tuple of which one knows the object -/
def tyN (x : V) (H : Hp) : Prop := ∃ p o xs, x = .ref p ∧ H p = some (.frz o (.tup xs)) ∧ o.dict = none
theorem tyN_is {pins : List (Addr × Obj)} {σ : L2.St} {H : Hp} {s : Shared} {x : V} {v : Value} (I : Inv X pins σ H s) (r : RelV x v) (ty : tyN x H) :
    s.TypeIs v "tuple" ∧ ∀ a, v = .ref a → ∃ ob, s.heap.get? a = some ob ∧ ob.dict = none := by
  obtain ⟨p, o, xs, rfl, hp, hd⟩ := ty
  cases r
  obtain ⟨e, _, its, _, o', e', c', _⟩ := (show ObjOk X.prog X.w H s.heap p (.frz o (.tup xs)) from I.hok p _ hp)
  rw [e] at e'
  cases e'
  refine ⟨⟨o, e, c'⟩, fun a z => ?_⟩
  cases z
  exact ⟨o, e, hd⟩
/-- the method of a tuple or of a list, with arguments -/
theorem pe_bmU {idT idL : String} {rT rL : V → List V → Hp → VK → Prop} {to : TE} (slotT : Slot "tuple" name idT) (htyT : typeOf (.builtin idT) = pure (.type "method_descriptor")) (hmT : MtR X idT rT)
    (slotL : Slot "list" name idL) (htyL : typeOf (.builtin idL) = pure (.type "method_descriptor")) (hmL : MtR X idL rL) (ho : PE X o to) (ha : PA X (e :: es) t)
    (hbase : attributeBase o name X.env (eval o X.env) = eval o X.env := by rfl)
    (hfew : ((backTo cpos (starEach (e :: es) X.env)).all (fun x => !x.1) && (backToKw cpos (keywordEach [] X.env)).all (fun x => x.1.isSome)
      && decide ((e :: es).length + ([] : List Keyword).length + (if ([] : List Keyword).isEmpty then 0 else 1) < 30)) = true := by rfl)
    (hline : (apos.endLine == cpos.line) = true := by rfl) (hs : starEach (e :: es) X.env = (false, eval e X.env) :: starEach es X.env := by rfl) (hplain : (backTo cpos (starEach es X.env)).any (·.1) = false := by rfl) :
    PE X (.Call (.Attribute o name apos) (e :: es) [] cpos) (fun σ H Q => to σ H fun x H1 => (tyN x H1 ∧ t σ H1 fun xs H2 => rT x xs H2 Q) ∨ (tyV X.K "list" x H1 ∧ t σ H1 fun xs H2 => rL x xs H2 Q)) := by
  refine ⟨fun pins s σ H Q I h => ?_⟩
  refine wpAny_Call_method_late hbase hfew hline rfl (thn (ho.run pins s σ H _ I h) fun v s1 ⟨x, H1, I1, r1, q⟩ => ?_)
  rcases q with ⟨ty, q1⟩ | ⟨ty, q1⟩
  · obtain ⟨h1, h2⟩ := tyN_is I1 r1 ty
    refine ⟨"tuple", idT, PySem.F.plainAttrs_tuple, slotT, htyT, h1, h2, ?_⟩
    have hA := ha.run cpos pins s1 σ H1 _ I1 q1
    rw [hs] at hA ⊢
    refine Calls.callWith_builtin (by show (false || (backTo cpos (starEach es X.env)).any (·.1)) = false; rw [hplain] <;> rfl) (Calls.evalArgs_plain ?_)
    exact thn hA fun us s2 ⟨vs, H2, I2, r2, q2⟩ => hmT pins s2 σ H2 x vs v us Q I2 r1 r2 q2
  · obtain ⟨h1, h2⟩ := tyV_is I1 r1 ty
    refine ⟨"list", idL, PySem.F.plainAttrs_list, slotL, htyL, h1, h2, ?_⟩
    have hA := ha.run cpos pins s1 σ H1 _ I1 q1
    rw [hs] at hA ⊢
    refine Calls.callWith_builtin (by show (false || (backTo cpos (starEach es X.env)).any (·.1)) = false; rw [hplain] <;> rfl) (Calls.evalArgs_plain ?_)
    exact thn hA fun us s2 ⟨vs, H2, I2, r2, q2⟩ => hmL pins s2 σ H2 x vs v us Q I2 r1 r2 q2
/-- the first place of y in l -/
def firstAt (l : List D) (y : D) (j : Nat) : Prop := ∃ z, l[j]? = some z ∧ deq z y = true ∧ ∀ m z', m < j → l[m]? = some z' → deq z' y = false
def xIndex (to : TX) (tL : TXA) : TX := fun x ρ μ Q => to x ρ μ fun so μ1 => match so with
  | .d (.ntp l) => tL x ρ μ1 fun ss μ2 => match ss with
    | [.d (.str z)] => on (txts l) fun ys => ∃ j : Nat, ys[j]? = some z ∧ (∀ m, m < j → ys[m]? ≠ some z) ∧ Q (.d (.int j)) μ2
    | _ => False
  | so => (lstOf so μ1).isSome = true ∧ tL x ρ μ1 fun ss μ2 => match ss with
    | [.d y] => on (lstOf so μ2) fun l => okEq (.lst l) = true ∧ okEq y = true ∧ ∃ j : Nat, firstAt l y j ∧ Q (.d (.int j)) μ2
    | _ => False
theorem toPys_at : ∀ (l : List D) (j : Nat), (toPys l)[j]? = (l[j]?).map toPy
  | [], j => by simp [toPys]
  | d :: l, 0 => by simp [toPys]
  | d :: l, j + 1 => by simp [toPys, toPys_at l j]
theorem px_index (hu : X.A.units + 65 < cLine) (ho : PX X W o to) (ha : PXA X W [e] tL) (hbase : attributeBase o "index" X.env (eval o X.env) = eval o X.env := by rfl)
    (hfew : ((backTo cpos (starEach [e] X.env)).all (fun x => !x.1) && (backToKw cpos (keywordEach [] X.env)).all (fun x => x.1.isSome)
      && decide ([e].length + ([] : List Keyword).length + (if ([] : List Keyword).isEmpty then 0 else 1) < 30)) = true := by rfl)
    (hline : (apos.endLine == cpos.line) = true := by rfl) (hs : starEach [e] X.env = (false, eval e X.env) :: starEach [] X.env := by rfl) (hplain : (backTo cpos (starEach [] X.env)).any (·.1) = false := by rfl) :
    PX X W (.Call (.Attribute o "index" apos) [e] [] cpos) (xIndex to tL) := by
  refine ⟨(pe_bmU PySem.F.slot_tuple_index PySem.F.type_tuple_index mt_tup_index PySem.F.slot_list_index PySem.F.type_list_index (mt_indexD hu) ho.pe ha.pa hbase hfew hline hs hplain).imp fun σ H Q h => ?_⟩
  obtain ⟨A, ρ, μ, G, Qp, xp, S, ht, hx, k⟩ := h
  refine ⟨A, ρ, μ, G, _, xp, S, ht, hx, fun so μ1 A1 G1 H1 v q c1 s1 r1 => ?_⟩
  split at q
  · rename_i l
    cases r1 with
    | @ntp a ob l vs hp hd hr =>
    refine .inl ⟨⟨a, ob, vs, rfl, c1.le _ _ hp, hd⟩, A1, ρ, μ1, G1, _, xp, S.after s1 c1, q, hx.after s1, fun ss μ2 A2 G2 H2 us q2 c2 s2 r2 => ?_⟩
    match ss, q2, r2 with
    | [.d (.str z)], q2, .cons r .nil =>
      cases r
      obtain ⟨ys, e1, j, h1, h2, q3⟩ := on_of q2
      have hp2 : H2 a = some (.frz ob (.tup vs)) := c2.le _ _ (s2.le.same hp rfl)
      rw [txts_reps e1 hr] at hp2
      exact ⟨a, ys, z, j, rfl, rfl, .inl (.inr ⟨_, hp2⟩), h1, h2, k _ _ _ _ _ _ q3 c2 (s1.trans s2) (.int _)⟩
  · obtain ⟨h0, q⟩ := q
    obtain ⟨l0, e0⟩ := Option.isSome_iff_exists.mp h0
    obtain ⟨a0, us0, rfl, g1, g2⟩ := lstOf_rep e0 c1 r1
    refine .inr ⟨.inl ⟨rfl, _, SqL.of g1⟩, A1, ρ, μ1, G1, _, xp, S.after s1 c1, q, hx.after s1, fun ss μ2 A2 G2 H2 us q2 c2 s2 r2 => ?_⟩
    match ss, q2, r2 with
    | [.d y], q2, .cons r .nil =>
      obtain ⟨l, e1, ok1, ok2, j, ⟨z, hz, hd, hno⟩, q3⟩ := on_of q2
      obtain ⟨a, vs, e9, f1, f2⟩ := lstOf_rep e1 c2 (r1.mono s2.pre s2.le)
      cases e9
      have fl : flats 59 l = true := by
        have : flat 60 (.lst l) = true := ok1
        simpa only [flat] using this
      refine ⟨a0, _, toPy y, toPys l, j, toPy z, rfl, rfl, .lst (SqL.of f1) (reps_dp c2.le 59 l _ fl f2), rep_dp c2.le 60 y _ ok2 r, okEq_shaped ok1, okEq_shaped ok2, by rw [toPys_at, hz]; rfl, hd, fun m z' hm hz' => ?_, k _ _ _ _ _ _ q3 c2 (s1.trans s2) (.int _)⟩
      rw [toPys_at] at hz'
      cases e5 : l[m]? with
      | none => rw [e5] at hz'; cases hz'
      | some d => rw [e5] at hz'; cases hz'; exact hno m d hm e5
end
end PL
/-! The P-layer: comprehensions with two generators. -/
namespace PL
open PySem PySem.Spec PyProof.Rows L2 RZ
theorem wipe_wipe (σ : L2.St) (vs : List Nat) : L2.wipe (L2.wipe σ vs) vs = L2.wipe σ vs := by
  refine List.ext_getElem? fun j => ?_
  have key : ∀ (τ : L2.St) (us : List Nat), (L2.wipe τ us)[j]? = if j ∈ us then (τ[j]?).map (fun _ => none) else τ[j]? := by
    intro τ us
    induction us with
    | nil => simp [L2.wipe]
    | cons v us ih =>
      unfold L2.wipe
      by_cases e : v = j
      · subst e
        by_cases hv : v < τ.length
        · rw [List.getElem?_set_self (by rw [L2.wipe_length]; exact hv)]
          simp [List.getElem?_eq_getElem hv]
        · rw [List.getElem?_eq_none (by simp [L2.wipe_length]; omega)]
          simp [List.getElem?_eq_none (Nat.le_of_not_lt hv)]
      · rw [List.getElem?_set_ne e, ih]
        have : (j ∈ v :: us) ↔ j ∈ us := by
          simp only [List.mem_cons]
          exact ⟨fun h => h.resolve_left fun q => e q.symm, .inr⟩
        simp only [this]
  rw [key, key]
  by_cases h : j ∈ vs
  · simp [h]
    cases σ[j]? <;> rfl
  · simp [h]
/-- any loop over a walk -/
theorem it_gen {J : It} {n : Nat} {G : Hp → Prop} {Y : Nat → Hp → V → Hp → Prop} (w : Walk J n G Y) {H1 : Hp} {Qd : Hp → Prop} (body : (Hp → Prop) → V → Hp → Prop) (Pv : Nat → Hp → Prop) (h0 : Pv 0 H1) (hG : ∀ i H, i ≤ n → Pv i H → G H)
    (hs : ∀ i x H H', i < n → Pv i H → Y i H x H' → body (Pv (i + 1)) x H') (hd : ∀ H, Pv n H → Qd H) :
    ∃ W : Nat → Nat → Hp → Prop, (∃ m, W 0 m H1) ∧ ∀ i m H, W i m H →
      (J.stop i H ∧ Qd H) ∨ (J.go i H ∧ ∃ Nx : Hp → Prop, (∀ H', Nx H' → ∃ m', m' < m ∧ W (i + 1) m' H') ∧ ∀ x H', J.yld i H x H' → body Nx x H') := by
  refine ⟨fun i m H => m = n - i ∧ i ≤ n ∧ Pv i H, ⟨n, by simp, Nat.zero_le _, h0⟩, ?_⟩
  rintro i m H ⟨rfl, hi, p⟩
  have q := hG i H hi p
  by_cases hlt : i < n
  · exact .inr ⟨w.goes i H hlt q, Pv (i + 1), fun H' p' => ⟨n - (i + 1), by omega, rfl, hlt, p'⟩, fun x H' y => hs i x H H' hlt p (w.yields i H x H' hlt q y)⟩
  · have e : i = n := by omega
    subst e
    exact .inl ⟨w.stops H q, hd H p⟩
/-- the list under way stands at Dd -/
def LcS (K : PySem.W.Frag) (A1 : List Addr) (G1 H1 : Hp) (Dd : Addr) (acc : List D) (μ : Mem) (H : Hp) : Prop :=
  ∃ ws A' G', Cells K A' μ G' H ∧ Step A1 G1 H1 A' G' H ∧ H Dd = some (.lst ws) ∧ Reps K G' acc ws ∧ Dd ∉ A' ∧ G' Dd = none
section
variable {X : Cx} {W : WX} {a b c e o tg iter elt tg1 iter1 : Expr} {es ifs ifs1 : List Expr} {ta tb tc te to : TX} {tL : TXA} {pos p apos cpos tpos p2 : Pos} {x : Str} {g g1 : TXG} {ti ti1 : TXI} {tt tt1 : TXT}
def xLc2 (ti : TXI) (g : TXG) (tt : TXT) (ti1 : TXI) (g1 : TXG) (tt1 : TXT) (te : TX) (vs vs1 : List Nat) (fin : List D → Mem → VP → Prop) : TX := fun x ρ μ Q => ti x ρ μ fun ds μ1 => ∃ I : Nat → List D → Mem → Prop, I 0 [] μ1 ∧
  (∀ i d acc μ, ds[i]? = some d → I i acc μ → g xF (.d d) (wipeP ρ vs) μ fun ρ2 μ2 => tt xF ρ2 μ2 fun b μ3 => Br b
    (ti1 xF ρ2 μ3 fun es μ4 => ∃ I1 : Nat → List D → Mem → Prop, I1 0 acc μ4 ∧
      (∀ j e acc μ, es[j]? = some e → I1 j acc μ → g1 xF (.d e) (wipeP ρ2 vs1) μ fun ρ5 μ5 => tt1 xF ρ5 μ5 fun b μ6 => Br b (te xF ρ5 μ6 fun s μ7 => match s with
        | .d y => acc.length < sizeLine ∧ I1 (j + 1) (acc ++ [y]) μ7
        | _ => False) (I1 (j + 1) acc μ6)) ∧ ∀ acc μ, I1 es.length acc μ → I (i + 1) acc μ)
    (I (i + 1) acc μ3)) ∧ ∀ acc μ, I ds.length acc μ → fin acc μ Q
theorem PXI.pi (h : PXI X W tg iter ti) : PI X tg iter (liftI X.K W ti) := by
  obtain ⟨wi, hp, hw⟩ := h.ex
  exact ⟨fun pins s σ H R I q => hp.run pins s σ H R I (hw _ _ _ q)⟩
theorem Sim.after2 {K : PySem.W.Frag} {A A' : List Addr} {σ : L2.St} {ρ : Env'} {μ μ' : Mem} {G G' H H' : Hp} (S : Sim K A σ ρ μ G H) (p : A <+: A') (g : LeZ G G') (c : Cells K A' μ' G' H') : Sim K A' σ ρ μ' G' H' where
  toCells := c
  sl := S.sl
  at_ := fun i h => let ⟨o, e, q⟩ := S.at_ i h; ⟨o, e, q.mono p g⟩
theorem LcS.step {K : PySem.W.Frag} {A2 A' : List Addr} {G2 H2 G' H' : Hp} {Dd : Addr} {acc : List D} {ws : List V} (hd : H2 Dd = some (.lst ws)) (hr : Reps K G2 acc ws) (na : Dd ∉ A2) (gn : G2 Dd = none)
    (st : Step A2 G2 H2 A' G' H') : H' Dd = some (.lst ws) ∧ Reps K G' acc ws ∧ Dd ∉ A' ∧ G' Dd = none := by
  refine ⟨?_, hr.mono st.le, fun z => ?_, ?_⟩
  · rcases st.keep _ _ hd na with q | ⟨q, _⟩
    · exact q
    · rw [gn] at q; cases q
  · rcases st.cells _ z with q | q
    · exact na q
    · rw [hd] at q; cases q
  · cases q : G' Dd with
    | none => rfl
    | some o =>
      rcases st.new Dd (by rw [q]; simp) with z | z | ⟨_, z⟩
      · exact absurd gn z
      · rw [hd] at z; cases z
      · rw [hd] at z; cases z
theorem lc2_turns {K : PySem.W.Frag} {ds : List D} {J : It} {A1 : List Addr} {G1 H1 : Hp} {σ : L2.St} {ρ : Env'} {μ1 : Mem} {vs vs1 : List Nat} {Q : Hp → Prop} {Dd : Addr} (S : Sim K A1 σ ρ μ1 G1 H1) (hD : H1 Dd = none)
    (w : Walk J ds.length (fun H => LeZ G1 H) (YD K ds G1)) {I : Nat → List D → Mem → Prop} (i0 : I 0 [] μ1)
    (turn : ∀ i d acc μ, ds[i]? = some d → I i acc μ → g xF (.d d) (wipeP ρ vs) μ fun ρ2 μ2 => tt xF ρ2 μ2 fun b μ3 => Br b
      (ti1 xF ρ2 μ3 fun es μ4 => ∃ I1 : Nat → List D → Mem → Prop, I1 0 acc μ4 ∧
        (∀ j e acc μ, es[j]? = some e → I1 j acc μ → g1 xF (.d e) (wipeP ρ2 vs1) μ fun ρ5 μ5 => tt1 xF ρ5 μ5 fun b μ6 => Br b (te xF ρ5 μ6 fun s μ7 => match s with
          | .d y => acc.length < sizeLine ∧ I1 (j + 1) (acc ++ [y]) μ7
          | _ => False) (I1 (j + 1) acc μ6)) ∧ ∀ acc μ, I1 es.length acc μ → I (i + 1) acc μ)
      (I (i + 1) acc μ3))
    (done : ∀ acc μ, I ds.length acc μ → ∀ A' G' H' ws, Cells K A' μ G' H' → Step A1 G1 H1 A' G' H' → H' Dd = some (.lst ws) → Reps K G' acc ws → Dd ∉ A' → G' Dd = none → Q H') :
    ∃ W : Nat → Nat → Hp → Prop, (∃ m, W 0 m (upd H1 Dd (.lst []))) ∧ ∀ i m H, W i m H →
      (J.stop i H ∧ Q H) ∨ (J.go i H ∧ ∃ Nx : Hp → Prop, (∀ H', Nx H' → ∃ m', m' < m ∧ W (i + 1) m' H') ∧ ∀ x H', J.yld i H x H' → liftG K wF vs g x (L2.wipe σ vs) H' fun σ2 H2 => L2.wipe σ2 vs = L2.wipe σ vs ∧ liftT K wF tt σ2 H2 fun b H3 =>
        if b = true then liftI K wF ti1 σ2 H3 fun J1 H4 => ∃ W1 : Nat → Nat → Hp → Prop, (∃ m, W1 0 m H4) ∧ ∀ j k H, W1 j k H →
          (J1.stop j H ∧ Nx H) ∨ (J1.go j H ∧ ∃ Nx1 : Hp → Prop, (∀ H', Nx1 H' → ∃ k', k' < k ∧ W1 (j + 1) k' H') ∧ ∀ x H', J1.yld j H x H' → liftG K wF vs1 g1 x (L2.wipe σ2 vs1) H' fun σ3 H5 => L2.wipe σ3 vs1 = L2.wipe σ2 vs1 ∧ liftT K wF tt1 σ3 H5 fun b H6 =>
            if b = true then lift K wF te σ3 H6 fun y H7 => ∃ acc, H7 Dd = some (.lst acc) ∧ acc.length < sizeLine ∧ Nx1 (upd H7 Dd (.lst (acc ++ [y]))) else Nx1 H6)
        else Nx H3) := by
  refine it_gen w (fun Nx x H' => liftG K wF vs g x (L2.wipe σ vs) H' fun σ2 H2 => L2.wipe σ2 vs = L2.wipe σ vs ∧ liftT K wF tt σ2 H2 fun b H3 =>
        if b = true then liftI K wF ti1 σ2 H3 fun J1 H4 => ∃ W1 : Nat → Nat → Hp → Prop, (∃ m, W1 0 m H4) ∧ ∀ j k H, W1 j k H →
          (J1.stop j H ∧ Nx H) ∨ (J1.go j H ∧ ∃ Nx1 : Hp → Prop, (∀ H', Nx1 H' → ∃ k', k' < k ∧ W1 (j + 1) k' H') ∧ ∀ x H', J1.yld j H x H' → liftG K wF vs1 g1 x (L2.wipe σ2 vs1) H' fun σ3 H5 => L2.wipe σ3 vs1 = L2.wipe σ2 vs1 ∧ liftT K wF tt1 σ3 H5 fun b H6 =>
            if b = true then lift K wF te σ3 H6 fun y H7 => ∃ acc, H7 Dd = some (.lst acc) ∧ acc.length < sizeLine ∧ Nx1 (upd H7 Dd (.lst (acc ++ [y]))) else Nx1 H6)
        else Nx H3) (fun i H => ∃ acc μ', I i acc μ' ∧ LcS K A1 G1 H1 Dd acc μ' H) ?_ (fun i H _ ⟨acc, μ', _, ws, A', G', c, s, _⟩ => s.le.trans c.le.z) ?_ ?_
  · have gn : G1 Dd = none := S.gnone hD
    have na : Dd ∉ A1 := fun z => S.ne_of_lt z hD rfl
    refine ⟨[], μ1, i0, [], A1, G1, ⟨fun a o e => ?_, S.len, S.nd, S.free, fun k a cl h1 h2 => ?_⟩, ⟨List.prefix_refl _, LeZ.refl _, fun a o e _ => .inl ?_, fun a e => .inl e, fun a xs e => ?_, fun a e => .inl e, fun a e => ?_⟩, upd_same, .nil, na, gn⟩
    · rw [upd_ne (ne_of_none e gn)]; exact S.le a o e
    · exact (S.ok k a cl h1 h2).mono (List.prefix_refl _) (LeZ.refl _) (upd_ne (S.ne_of_lt (List.mem_of_getElem? h1) hD))
    · rw [upd_ne (ne_of_none e hD)]; exact e
    · by_cases z : a = Dd
      · rw [z, upd_same] at e; cases e
      · rw [upd_ne z] at e; exact .inr e
    · by_cases z : a = Dd
      · rw [z, upd_same]; simp
      · rw [upd_ne z]; exact e
  · rintro i x H H' hi ⟨acc, μ2, i2, ws, A2, G2, c2, s2, hd, hr, na, gn⟩ y
    obtain ⟨d, G3, e, r, c3, s3⟩ := yd_begin s2.le c2 y
    have S3 : Sim K A2 (L2.wipe σ vs) (wipeP ρ vs) μ2 G3 H' := (S.wipe vs).after (s2.trans s3) c3
    refine ⟨A2, _, μ2, G3, .d d, _, xF, S3, r, turn i d acc μ2 e i2, exF, fun ρ4 μ4 A4 σ4 G4 H4 q4 S4 s4 kp => ⟨Eq.trans kp (wipe_wipe σ vs), ?_⟩⟩
    refine ⟨A4, ρ4, μ4, G4, _, xF, S4, q4, exF, fun b μ5 A5 G5 H5 q5 c5 s5 => ?_⟩
    have s25 := (s3.trans s4).trans s5
    cases b with
    | false =>
      obtain ⟨h1, h2, h3, h4⟩ := LcS.step hd hr na gn s25
      exact ite_ff ⟨acc, μ5, q5, ws, A5, G5, c5, s2.trans s25, h1, h2, h3, h4⟩
    | true =>
      refine ite_tt ⟨A5, ρ4, μ5, G5, _, xF, S4.after s5 c5, q5, exF, fun es μ6 A6 G6 H6 J1 ⟨I1, i10, turn1, done1⟩ c6 s6 w1 => ?_⟩
      have s26 := s25.trans s6
      obtain ⟨h1, h2, h3, h4⟩ := LcS.step hd hr na gn s26
      have S6 : Sim K A6 σ4 ρ4 μ6 G6 H6 := (S4.after s5 c5).after s6 c6
      refine it_gen w1 (fun Nx1 x H' => liftG K wF vs1 g1 x (L2.wipe σ4 vs1) H' fun σ3 H5 => L2.wipe σ3 vs1 = L2.wipe σ4 vs1 ∧ liftT K wF tt1 σ3 H5 fun b H6 =>
            if b = true then lift K wF te σ3 H6 fun y H7 => ∃ acc, H7 Dd = some (.lst acc) ∧ acc.length < sizeLine ∧ Nx1 (upd H7 Dd (.lst (acc ++ [y]))) else Nx1 H6)
        (fun j H => ∃ acc μ', I1 j acc μ' ∧ ∃ ws A' G', Cells K A' μ' G' H ∧ Step A1 G1 H1 A' G' H ∧ (A6 <+: A' ∧ LeZ G6 G') ∧ H Dd = some (.lst ws) ∧ Reps K G' acc ws ∧ Dd ∉ A' ∧ G' Dd = none) ⟨acc, μ6, i10, ws, A6, G6, c6, s2.trans s26, ⟨List.prefix_refl _, LeZ.refl _⟩, h1, h2, h3, h4⟩ (fun i H _ ⟨acc, μ', _, ws, A', G', c, s, l, _⟩ => l.2.trans c.le.z) ?_ ?_
      · rintro j x Ha Hb hj ⟨acc, μ7, i7, ws, A7, G7, c7, s7, l7, hd7, hr7, na7, gn7⟩ y1
        obtain ⟨d1, G8, e1, r1, c8, s8⟩ := yd_begin l7.2 c7 y1
        have S8 : Sim K A7 (L2.wipe σ4 vs1) (wipeP ρ4 vs1) μ7 G8 Hb := (S6.wipe vs1).after2 (l7.1.trans s8.pre) (l7.2.trans s8.le) c8
        refine ⟨A7, _, μ7, G8, .d d1, _, xF, S8, r1, turn1 j d1 acc μ7 e1 i7, exF, fun ρ9 μ9 A9 σ9 G9 H9 q9 S9 s9 kp9 => ⟨Eq.trans kp9 (wipe_wipe σ4 vs1), ?_⟩⟩
        refine ⟨A9, ρ9, μ9, G9, _, xF, S9, q9, exF, fun b μ10 A10 G10 H10 q10 c10 s10 => ?_⟩
        have s710 := (s8.trans s9).trans s10
        cases b with
        | false =>
          obtain ⟨k1, k2, k3, k4⟩ := LcS.step hd7 hr7 na7 gn7 s710
          exact ite_ff ⟨acc, μ10, q10, ws, A10, G10, c10, s7.trans s710, ⟨l7.1.trans s710.pre, l7.2.trans s710.le⟩, k1, k2, k3, k4⟩
        | true =>
          refine ite_tt ⟨A10, ρ9, μ10, G10, _, xF, S9.after s10 c10, q10, exF, fun s μ11 A11 G11 H11 v q11 c11 s11 r11 => ?_⟩
          have s711 := s710.trans s11
          obtain ⟨k1, k2, k3, k4⟩ := LcS.step hd7 hr7 na7 gn7 s711
          match s, q11, r11 with
          | .d z, q11, r11 =>
            refine ⟨ws, k1, by rw [← hr7.length]; exact q11.1, acc ++ [z], μ11, q11.2, ws ++ [v], A11, G11, ?_, ?_, ⟨l7.1.trans s711.pre, l7.2.trans s711.le⟩, upd_same, k2.app (.cons r11 .nil), k3, k4⟩
            · refine ⟨fun a o e => ?_, c11.len, c11.nd, c11.free, fun k a cl e1 e2 => ?_⟩
              · rw [upd_ne (ne_of_none e k4)]; exact c11.le a o e
              · exact (c11.ok k a cl e1 e2).mono (List.prefix_refl _) (LeZ.refl _) (upd_ne fun q => k3 (by rw [← q]; exact List.mem_of_getElem? e1))
            · have st := s7.trans s711
              refine ⟨st.pre, st.le, fun a o e n => ?_, st.new, fun a xs e => ?_, st.cells, fun a e => ?_⟩
              · rw [upd_ne (ne_of_none e hD)]; exact st.keep a o e n
              · by_cases q : a = Dd
                · rw [q, upd_same] at e; cases e
                · rw [upd_ne q] at e; exact st.tups a xs e
              · by_cases q : a = Dd
                · rw [q, upd_same]; simp
                · rw [upd_ne q]; exact st.there a e
      · rintro H ⟨acc, μ7, i7, ws, A7, G7, c7, s7, l7, hd7, hr7, na7, gn7⟩
        exact ⟨acc, μ7, done1 acc μ7 i7, ws, A7, G7, c7, s7, hd7, hr7, na7, gn7⟩
  · rintro H ⟨acc, μ2, i2, ws, A2, G2, c2, s2, hd, hr, na, gn⟩
    exact done acc μ2 i2 A2 G2 H ws c2 s2 hd hr na gn
theorem px_lc2 {scope : Scope} {own : List (Str × Nat)} (vs1 : List Nat) (hc : X.calm = true) (hN : X.N.Nodup) (hi : PXI X W tg iter ti) (ok : BlkOk X.N X.env.scope scope own) (hv : ∀ i ∈ vs1, i ∈ own.map (·.2))
    (hg : ∀ (s : Shared) (H : Hp) (C : Addr) (cl : List (Str × Addr)) (fp : List Addr), PXG (X.blk s H scope (compEnvC scope cl C X.env) fp) wF (own.map (·.2)) tg g)
    (ht : ∀ (s : Shared) (H : Hp) (C : Addr) (cl : List (Str × Addr)) (fp : List Addr), PXTs (X.blk s H scope (compEnvC scope cl C X.env) fp) wF ifs tt)
    (hi1 : ∀ (s : Shared) (H : Hp) (C : Addr) (cl : List (Str × Addr)) (fp : List Addr), PXI (X.blk s H scope (compEnvC scope cl C X.env) fp) wF tg1 iter1 ti1)
    (hg1 : ∀ (s : Shared) (H : Hp) (C : Addr) (cl : List (Str × Addr)) (fp : List Addr), PXG (X.blk s H scope (compEnvC scope cl C X.env) fp) wF vs1 tg1 g1)
    (ht1 : ∀ (s : Shared) (H : Hp) (C : Addr) (cl : List (Str × Addr)) (fp : List Addr), PXTs (X.blk s H scope (compEnvC scope cl C X.env) fp) wF ifs1 tt1)
    (he : ∀ (s : Shared) (H : Hp) (C : Addr) (cl : List (Str × Addr)) (fp : List Addr), PX (X.blk s H scope (compEnvC scope cl C X.env) fp) wF elt te) (hs : ∀ x, foldedSetIterable iter X.env x = pure x := by intro _; rfl) (hs1 : ∀ env x, foldedSetIterable iter1 env x = pure x := by intro _ _; rfl) :
    PX X W (.ListComp elt [⟨tg, iter, ifs, 0⟩, ⟨tg1, iter1, ifs1, 0⟩] scope pos) (xLc2 ti g tt ti1 g1 tt1 te (own.map (·.2)) vs1 finL) := by
  obtain ⟨wi, hpi, hti⟩ := hi.ex
  refine ⟨(pe_lc2 (g := liftG X.K wF (own.map (·.2)) g) (tt := liftT X.K wF tt) (wi1 := liftI X.K wF ti1) (g1 := liftG X.K wF vs1 g1) (tt1 := liftT X.K wF tt1) (te := lift X.K wF te) hc hN hpi ok hv (fun s H C cl fp => (hg s H C cl fp).pg) (fun s H C cl fp => (ht s H C cl fp).pt) (fun s H C cl fp => (hi1 s H C cl fp).pi) (fun s H C cl fp => (hg1 s H C cl fp).pg) (fun s H C cl fp => (ht1 s H C cl fp).pt) (fun s H C cl fp => (he s H C cl fp).pe) hs hs1).imp fun σ H Q h => ?_⟩
  obtain ⟨A, ρ, μ, G, Qp, x, S, ht, hx, k⟩ := h
  refine hti _ _ _ ⟨A, ρ, μ, G, _, x, S, ht, hx, fun ds μ1 A1 G1 H1 J ⟨I, i0, turn, done⟩ c1 s1 w Dd hD => ?_⟩
  refine lc2_turns (S.after s1 c1) hD w i0 turn fun acc μ' i' A' G' H' ws c' s' hd hr na gn => ?_
  have q := done acc μ' i'
  have lg : LeZ G' (upd G' Dd (.lst ws)) := fun a o e => .inl (by rw [upd_ne (ne_of_none e gn)]; exact e)
  refine k (.d (.lst acc)) μ' A' (upd G' Dd (.lst ws)) H' (.ref Dd) q ⟨fun a o e => ?_, c'.len, c'.nd, fun a ha => ?_, fun j a cl e1 e2 => (c'.ok j a cl e1 e2).mono (List.prefix_refl _) lg rfl⟩ ?_ (Rep.lst upd_same (hr.mono lg))
  · by_cases z : a = Dd
    · rw [z] at e ⊢; rw [upd_same] at e; rw [hd]; exact e
    · rw [upd_ne z] at e; exact c'.le a o e
  · rw [upd_ne (fun z => na (by rw [← z]; exact ha))]; exact c'.free a ha
  · have st := s1.trans s'
    refine ⟨st.pre, st.le.trans lg, st.keep, fun a e => ?_, st.tups, st.cells, st.there⟩
    by_cases z : a = Dd
    · refine .inr (.inl ?_)
      cases q2 : H a with
      | none => rfl
      | some o => exact absurd (by rw [z]; exact hD) (s1.there a (by rw [q2]; simp))
    · rw [upd_ne z] at e; exact st.new a e
theorem px_lc2C {scope : Scope} {own : List (Str × Nat)} (vs1 : List Nat) (hc : X.calm = true) (hN : X.N.Nodup) (hi : PXI X W tg iter ti) (ok : BlkOk X.N X.env.scope scope own) (hv : ∀ i ∈ vs1, i ∈ own.map (·.2))
    (hg : ∀ (s : Shared) (H : Hp) (C : Addr) (cl : List (Str × Addr)) (fp : List Addr), PXG (X.blk s H scope (compEnvC scope cl C X.env) fp) wF (own.map (·.2)) tg g)
    (ht : ∀ (s : Shared) (H : Hp) (C : Addr) (cl : List (Str × Addr)) (fp : List Addr), PXTs (X.blk s H scope (compEnvC scope cl C X.env) fp) wF ifs tt)
    (hi1 : ∀ (s : Shared) (H : Hp) (C : Addr) (cl : List (Str × Addr)) (fp : List Addr), PXI (X.blk s H scope (compEnvC scope cl C X.env) fp) wF tg1 iter1 ti1)
    (hg1 : ∀ (s : Shared) (H : Hp) (C : Addr) (cl : List (Str × Addr)) (fp : List Addr), PXG (X.blk s H scope (compEnvC scope cl C X.env) fp) wF vs1 tg1 g1)
    (ht1 : ∀ (s : Shared) (H : Hp) (C : Addr) (cl : List (Str × Addr)) (fp : List Addr), PXTs (X.blk s H scope (compEnvC scope cl C X.env) fp) wF ifs1 tt1)
    (he : ∀ (s : Shared) (H : Hp) (C : Addr) (cl : List (Str × Addr)) (fp : List Addr), PX (X.blk s H scope (compEnvC scope cl C X.env) fp) wF elt te) (hs : ∀ x, foldedSetIterable iter X.env x = pure x := by intro _; rfl) (hs1 : ∀ env x, foldedSetIterable iter1 env x = pure x := by intro _ _; rfl) :
    PX X W (.ListComp elt [⟨tg, iter, ifs, 0⟩, ⟨tg1, iter1, ifs1, 0⟩] scope pos) (xLc2 ti g tt ti1 g1 tt1 te (own.map (·.2)) vs1 finC) := by
  obtain ⟨wi, hpi, hti⟩ := hi.ex
  refine ⟨(pe_lc2 (g := liftG X.K wF (own.map (·.2)) g) (tt := liftT X.K wF tt) (wi1 := liftI X.K wF ti1) (g1 := liftG X.K wF vs1 g1) (tt1 := liftT X.K wF tt1) (te := lift X.K wF te) hc hN hpi ok hv (fun s H C cl fp => (hg s H C cl fp).pg) (fun s H C cl fp => (ht s H C cl fp).pt) (fun s H C cl fp => (hi1 s H C cl fp).pi) (fun s H C cl fp => (hg1 s H C cl fp).pg) (fun s H C cl fp => (ht1 s H C cl fp).pt) (fun s H C cl fp => (he s H C cl fp).pe) hs hs1).imp fun σ H Q h => ?_⟩
  obtain ⟨A, ρ, μ, G, Qp, x, S, ht, hx, k⟩ := h
  refine hti _ _ _ ⟨A, ρ, μ, G, _, x, S, ht, hx, fun ds μ1 A1 G1 H1 J ⟨I, i0, turn, done⟩ c1 s1 w Dd hD => ?_⟩
  refine lc2_turns (S.after s1 c1) hD w i0 turn fun acc μ' i' A' G' H' ws c' s' hd hr na gn => ?_
  have q := done acc μ' i'
  have st := s1.trans s'
  refine k (.c μ'.length) (μ' ++ [.lst acc]) (A' ++ [Dd]) G' H' (.ref Dd) (show Qp (.c μ'.length) (μ' ++ [.lst acc]) from q) ⟨c'.le, by simp [c'.len], ?_, fun a ha => ?_, fun j a cl e1 e2 => ?_⟩ ⟨st.pre.trans (List.prefix_append _ _), st.le, st.keep, st.new, st.tups, fun a ha => ?_, st.there⟩ ⟨Dd, by rw [← c'.len]; simp, rfl⟩
  · refine List.nodup_append.mpr ⟨c'.nd, by simp, fun a ha b hb => ?_⟩
    simp at hb
    subst hb
    exact fun z => na (z ▸ ha)
  · rcases List.mem_append.mp ha with h | h
    · exact c'.free a h
    · simp at h; subst h; exact gn
  · rcases getElem?_append_one e1 with e1 | ⟨z1, z2⟩
    · have hk : j < μ'.length := by rw [← c'.len]; exact (List.getElem?_eq_some_iff.mp e1).1
      rw [List.getElem?_append_left hk] at e2
      exact (c'.ok j a cl e1 e2).mono (List.prefix_append _ _) (LeZ.refl _) rfl
    · subst z2
      rw [z1, c'.len, List.getElem?_append_right (Nat.le_refl _)] at e2
      simp at e2
      subst e2
      exact ⟨ws, hd, hr⟩
  · rcases List.mem_append.mp ha with h | h
    · exact st.cells a h
    · simp at h
      subst h
      refine .inr ?_
      cases q2 : H a with
      | none => rfl
      | some o => exact absurd hD (s1.there a (by rw [q2]; simp))
end
end PL
/-! The P-layer: reversed copies x[::-1] of lists and tuples; tuples repeated; upper, str. -/
namespace PL
open PySem PySem.Spec PyProof.Rows L2 HT
section
variable {prog : Program} {w : World} {A : Around} {E : Value → Shared → Prop} {s : Shared}
theorem revAdjust (n : Nat) : Builtin.Slice.sliceAdjust none none (-1) (n : Int) = ((n : Int) - 1, -1) := by
  simp [Builtin.Slice.sliceAdjust]
theorem revPlaces (n : Nat) : Builtin.Slice.slicePlaces ((n : Int) - 1) (-1) (-1) = n := by
  unfold Builtin.Slice.slicePlaces
  simp
  split <;> omega
theorem filterMap_cong {α β : Type} {f g : α → Option β} : ∀ {l : List α}, (∀ x ∈ l, f x = g x) → l.filterMap f = l.filterMap g
  | [], _ => rfl
  | x :: l, h => by
    rw [List.filterMap_cons, List.filterMap_cons, h x List.mem_cons_self, filterMap_cong fun y hy => h y (List.mem_cons_of_mem _ hy)]
theorem rev_pick (xs : Array Value) : ((List.range xs.size).filterMap fun (k : Nat) => xs[(((xs.size : Nat) : Int) - 1 + (k : Int) * (-1)).toNat]?).toArray = xs.toList.reverse.toArray := by
  congr 1
  have h : (List.range xs.size).filterMap (fun (k : Nat) => xs[(((xs.size : Nat) : Int) - 1 + (k : Int) * (-1)).toNat]?) = ((List.range xs.size).map fun k => xs.size - 1 - k).filterMap (xs[·]?) := by
    rw [List.filterMap_map]
    refine filterMap_cong fun k hk => ?_
    have hk := List.mem_range.mp hk
    show xs[_]? = xs[xs.size - 1 - k]?
    congr 1
    omega
  rw [h, PySem.W.krv_range, List.filterMap_reverse, PySem.W.krv_all]
theorem sliceApplied_rev {sl : Addr} {vs : Value} {n : Nat} {Q : Int × Int × Nat → Shared → Prop} (hs : s.heap.IsSliceOf sl .none .none vs) (ps : IsPart vs (some (-1))) (h : Q ((n : Int) - 1, -1, n) s) :
    wpAny (model prog w) A (Builtin.Slice.sliceApplied (.ref sl) (pure (n : Int))) Q E s := by
  obtain ⟨o, ho, hc, hd⟩ := id hs
  unfold Builtin.Slice.sliceApplied Builtin.Slice.sliceFields
  refine wpAny_bind (wpAny_bind (wpAny_field ho hd (x := .none) rfl (wpAny_bind (wpAny_field ho hd (x := .none) rfl (wpAny_bind (wpAny_field ho hd (x := vs) rfl (wpAny_pure ?_)))))))
  refine wpAny_bind (slicePart_ ps ?_)
  show wpAny _ _ (if ((-1 : Int) == 0) = true then _ else _) _ _ s
  rw [if_neg (by decide)]; refine wpAny_bind (slicePart_none (wpAny_bind (slicePart_none (wpAny_bind (wpAny_pure ?_)))))
  show wpAny _ _ (match Builtin.Slice.sliceAdjust none none (-1) (n : Int) with | (lo, hi) => pure (lo, (-1 : Int), Builtin.Slice.slicePlaces lo hi (-1))) _ _ s
  rw [revAdjust]
  show wpAny _ _ (pure ((n : Int) - 1, (-1 : Int), Builtin.Slice.slicePlaces ((n : Int) - 1) (-1) (-1))) _ _ s
  rw [revPlaces]; exact wpAny_pure h
theorem getItem_tuple_rev {t sl : Addr} {items : Array Value} {vs : Value} {Q : Value → Shared → Prop} (ht : IsTup s.heap t items) (hs : s.heap.IsSliceOf sl .none .none vs) (ps : IsPart vs (some (-1))) (hsz : items.size ≤ sizeLine)
    (h : Q (.ref s.heap.objs.size) { s with heap := s.heap.push { cls := .type "tuple", data := .seq items.toList.reverse.toArray } }) : wpAny (model prog w) A (getItem (.ref t) (.ref sl)) Q E s := by
  have hok : sizeOk (.seq items.toList.reverse.toArray) := by
    show items.toList.reverse.toArray.size ≤ sizeLine
    simpa using hsz
  obtain ⟨o, ho, hc, hd⟩ := id hs
  have hT : s.TypeIs (.ref sl) "slice" := ⟨o, ho, hc⟩
  unfold getItem
  try with_reducible refine wpAny_holding ?_
  first | refine wpAny_bind (wpAny_pure ?_) | skip
  refine wpAny_bind (wpAny_sequenceKey ht.typeIs (by decide) (wpAny_bind (wpAny_callSpecial?_slot (name := Str.ofString "__getitem__") ht.typeIs PyProof.Rows.slot_tuple_getitem (wpAny_call_entry PyProof.Rows.slot_tuple_getitem ht.typeIs entry_tuple_getitem ?_ (args_tuple_getitem _ _)))))
  show wpAny _ _ (Builtin.Tuple.tupleItemsOf (.ref t) >>= _) _ _ s
  refine wpAny_bind (tupleItemsOf_ ht (wpAny_bind (wpAny_typeOf hT ?_)))
  rw [if_pos (by decide)]; refine wpAny_bind (sliceApplied_rev hs ps ?_)
  have hno : ¬ ((((items.size : Nat) : Int) - 1 == 0 && (-1 : Int) == 1 && items.size == items.size) = true) := by simp
  show wpAny _ _ (if (((items.size : Nat) : Int) - 1 == 0 && (-1 : Int) == 1 && items.size == items.size) = true then _ else _) _ _ s
  rw [if_neg hno, rev_pick]
  first
    | exact wpAny_bind (m := Builtin.Tuple.tupleExact _) (wpAny_newObj_type (wpAny_pure ⟨_, rfl, wpAny_pure h⟩) hok)
    | exact wpAny_bind (m := Builtin.Tuple.tupleExact _) (wpAny_newObj_type (wpAny_bind (wpAny_pure (wpAny_pure ⟨_, rfl, wpAny_pure h⟩))) hok)
    | exact wpAny_bind (wpAny_bind (m := Builtin.Tuple.tupleExact _) (wpAny_newObj_type (wpAny_pure (wpAny_pure ⟨_, rfl, wpAny_pure h⟩)) hok))
    | exact wpAny_bind (wpAny_bind (m := Builtin.Tuple.tupleExact _) (wpAny_newObj_type (wpAny_pure ⟨_, rfl, wpAny_pure h⟩) hok))
end
/-! ### x[::-1] -/
section
variable {X : Cx} {W : WX} {a b c e o : Expr} {es : List Expr} {te ta tb to : TX} {tL : TXA} {pos p apos cpos p1 p2 p3 : Pos} {k : Nat}
def tRevA (K : PySem.W.Frag) (te : TE) : TE := fun σ H Q => te σ H fun x H1 => ∃ a xs, x = .ref a ∧ ((SqL K H1 a xs ∧ ∀ p, H1 p = none → Q (.ref p) (upd H1 p (.lst xs.reverse))) ∨ (SqT K H1 a xs ∧ ∀ p, H1 p = none → Q (.ref p) (upd H1 p (.tup xs.reverse))))
theorem pe_revA {te : TE} (he : PE X e te) : PE X (.Subscript e (.Slice none none (some (.UnaryOp .USub (.Constant (.int 1) k p1) p2)) p3) pos) (tRevA X.K te) := by
  refine ⟨fun pins s σ H Q I h => Subscript_ (thn (he.run pins s σ H _ I h) fun v s1 ⟨x, H1, I1, r1, a, xs, ex, q1⟩ => ?_)⟩
  subst ex; cases r1
  have hst : PO X (some (.UnaryOp .USub (.Constant (.int 1) k p1) p2)) (tPart (tUn (rU fun i => .int (-i)) (tC (.int 1)))) := po_some (pe_un un_neg pe_int)
  refine wpAny_Slice (thn (po_none.run pins s1 σ H1 (fun o H2 => o = none ∧ H2 = H1) I1 ⟨rfl, rfl⟩) fun vl s2 ⟨l, H2, I2, pl, el, e2⟩ => ?_)
  subst el; subst e2
  refine thn (po_none.run pins s2 σ H2 (fun o H3 => o = none ∧ H3 = H2) I2 ⟨rfl, rfl⟩) fun vu s3 ⟨u, H3, I3, pu, eu, e3⟩ => ?_
  subst eu; subst e3
  refine thn (hst.run pins s3 σ H3 (fun o H4 => o = some (-1) ∧ H4 = H3) I3 ⟨1, rfl, -1, rfl, rfl, rfl⟩) fun vs s4 ⟨o, H4, I4, ps, eo, e4⟩ => ?_
  subst eo; subst e4
  have I5 : Inv X pins σ H4 { s4 with heap := s4.heap.push { cls := .type "slice", data := .fields #[vl, vu, vs] } } := I4.kept (t' := s4.toks) fun b ob q => Heap.get?_push_of_some _ q
  show wpAny (model X.prog X.w) X.A (subscriptTail e (.Slice none none (some (.UnaryOp .USub (.Constant (.int 1) k p1) p2)) p3) (.ref a) (.ref s4.heap.objs.size)) (EP X pins σ Q) X.xe { s4 with heap := s4.heap.push { cls := .type "slice", data := .fields #[vl, vu, vs] } }
  rcases q1 with ⟨hx, q⟩ | ⟨hx, q⟩
  · obtain ⟨its, r, ht, hz⟩ := I5.list hx
    have hlen := r.length
    refine tail_any (ops := [.ref a, .ref s4.heap.objs.size]) ht.isList.typeIs (PySem.slot_list_getitem.lookup) ?_ (by with_unfolding_all rfl)
    refine wpAny_getItem_list_slice ht.isList (Heap.IsSliceOf.new _ vl vu vs) pl pu ps (by decide) ?_ (by rw [List.size_toArray]; omega)
    rw [PySem.W.krv_pick]
    exact ⟨.ref _, _, I5.laid (t' := s4.toks) (o := .lst xs.reverse) (fun b ob q => Heap.get?_push_of_some _ q) (Nat.le_refl _) ⟨by rw [List.length_reverse]; exact hz, _, 0, r.reverse, Heap.get?_push_size _ rfl⟩, rfl, q _ (I5.hok.fresh (Nat.le_refl _))⟩
  · obtain ⟨its, r, ht, hz⟩ := I5.tuple hx
    have hlen := r.length
    cases pl; cases pu
    refine tail_any (ops := [.ref a, .ref s4.heap.objs.size]) ht.typeIs (PyProof.Rows.slot_tuple_getitem.lookup) ?_ (by with_unfolding_all rfl)
    refine getItem_tuple_rev ht (Heap.IsSliceOf.new _ _ _ vs) ps (by rw [List.size_toArray]; omega) ?_
    refine ⟨.ref _, _, I5.laid (t' := s4.toks) (o := .tup xs.reverse) (fun b ob q => Heap.get?_push_of_some _ q) (Nat.le_refl _) ?_, rfl, q _ (I5.hok.fresh (Nat.le_refl _))⟩
    exact ⟨by rw [List.length_reverse]; exact hz, _, r.reverse, _, Heap.get?_push_size _ rfl, rfl, 0, rfl⟩
def xRev (te : TX) : TX := fun x ρ μ Q => te x ρ μ fun s μ1 => match s with
  | .d (.tup l) => Q (.d (.tup l.reverse)) μ1
  | .d (.ntp l) => Q (.d (.tup l.reverse)) μ1
  | s => on (lstOf s μ1) fun l => Q (.d (.lst l.reverse)) μ1
theorem px_rev (he : PX X W e te) : PX X W (.Subscript e (.Slice none none (some (.UnaryOp .USub (.Constant (.int 1) k p1) p2)) p3) pos) (xRev te) := by
  refine ⟨(pe_revA he.pe).imp fun σ H Q h => ?_⟩
  obtain ⟨A, ρ, μ, G, Qp, xp, S, ht, hx, kk⟩ := h
  refine ⟨A, ρ, μ, G, _, xp, S, ht, hx, fun s μ1 A1 G1 H1 v q c s1 r => ?_⟩
  split at q
  · obtain ⟨a, us, rfl, h1, h2⟩ := Reps.sq r
    refine ⟨a, us, rfl, .inr ⟨c.le.sqT h1, fun p hp => ?_⟩⟩
    obtain ⟨c2, s2⟩ := c.laid (o := .tup us.reverse) hp
    exact kk _ _ _ _ _ _ q c2 (s1.trans s2) (Rep.tup upd_same (h2.rev.mono s2.le))
  · obtain ⟨a, us, rfl, h1, h2⟩ := Reps.sqn r
    refine ⟨a, us, rfl, .inr ⟨c.le.sqT h1, fun p hp => ?_⟩⟩
    obtain ⟨c2, s2⟩ := c.laid (o := .tup us.reverse) hp
    exact kk _ _ _ _ _ _ q c2 (s1.trans s2) (Rep.tup upd_same (h2.rev.mono s2.le))
  · obtain ⟨l, e1, q⟩ := on_of q
    obtain ⟨a, us, rfl, h1, h2⟩ := lstOf_rep e1 c r
    refine ⟨a, us, rfl, .inl ⟨SqL.of h1, fun p hp => ?_⟩⟩
    obtain ⟨c2, s2⟩ := c.laid (o := .lst us.reverse) hp
    exact kk _ _ _ _ _ _ q c2 (s1.trans s2) (Rep.lst upd_same (h2.rev.mono s2.le))
/-! ### t * n -/
def pMulV : SV → SV → Mem → VP → Prop := fun sa sb μ Q => match sa, sb with
  | .d (.tup l), .d (.int j) => (l ≠ [] ∧ 2 ≤ j ∧ j ≤ 1000 ∧ l.length ≤ 1000) ∧ Q (.d (.tup (List.replicate j.toNat l).flatten)) μ
  | .d (.ntp l), .d (.int j) => (l ≠ [] ∧ 2 ≤ j ∧ j ≤ 1000 ∧ l.length ≤ 1000) ∧ Q (.d (.tup (List.replicate j.toNat l).flatten)) μ
  | sa, sb => pMulU sa sb μ Q
theorem pop_mulV : POp X.K (fun x y H Q => (rI CMul (fun i j => .int (i * j)) x y H Q ∨ rRep x y H Q) ∨ rRepT X.K x y H Q) pMulV := by
  intro sa sb μ A G H va vb Qp Q h c ra rb k
  unfold pMulV at h
  split at h
  · obtain ⟨a, us, rfl, h1, h2⟩ := Reps.sq ra
    cases rb
    obtain ⟨⟨g1, g2, g3, g4⟩, q⟩ := h
    refine .inr ⟨a, _, us, rfl, rfl, c.le.sqT h1, fun z => g1 (List.length_eq_zero_iff.mp (by rw [h2.length, z]; rfl)), g2, g3, by rw [← h2.length]; exact g4, fun p hp => ?_⟩
    obtain ⟨c2, s2⟩ := c.laid (o := .tup (List.replicate _ us).flatten) hp
    exact k _ _ _ _ _ _ q c2 s2 (Rep.tup upd_same ((reps_rep h2 _).mono s2.le))
  · obtain ⟨a, us, rfl, h1, h2⟩ := Reps.sqn ra
    cases rb
    obtain ⟨⟨g1, g2, g3, g4⟩, q⟩ := h
    refine .inr ⟨a, _, us, rfl, rfl, c.le.sqT h1, fun z => g1 (List.length_eq_zero_iff.mp (by rw [h2.length, z]; rfl)), g2, g3, by rw [← h2.length]; exact g4, fun p hp => ?_⟩
    obtain ⟨c2, s2⟩ := c.laid (o := .tup (List.replicate _ us).flatten) hp
    exact k _ _ _ _ _ _ q c2 s2 (Rep.tup upd_same ((reps_rep h2 _).mono s2.le))
  · exact .inl (pop_mulU _ _ μ A G H va vb Qp Q h c ra rb k)
theorem px_mulV (ha : PX X W a ta) (hb : PX X W b tb) : PX X W (.BinOp a .Mult b pos) (xOp pMulV ta tb) := px_op (op_or (op_or op_mul op_rep) op_repT) pop_mulV ha hb
/-! ### x.upper(), str(i) -/
def xUpper (to : TX) : TX := fun x ρ μ Q => to x ρ μ fun s μ1 => match s with
  | .d (.str z) => z.length ≤ 5592405 ∧ Q (.d (.str (Txt.upper z))) μ1
  | _ => False
theorem px_upper (ho : PX X W o to) (hbase : attributeBase o "upper" X.env (eval o X.env) = eval o X.env := by rfl) (hline : (apos.endLine == pos.line) = true := by rfl) : PX X W (.Call (.Attribute o "upper" apos) [] [] pos) (xUpper to) := by
  refine ⟨(pe_upper ho.pe hbase hline).imp fun σ H Q h => ?_⟩
  obtain ⟨A, ρ, μ, G, Qp, xp, S, ht, hx, kk⟩ := h
  refine ⟨A, ρ, μ, G, _, xp, S, ht, hx, fun s μ1 A1 G1 H1 v q c s1 r => ?_⟩
  split at q
  · cases r
    exact ⟨⟨_, rfl⟩, _, rfl, rfl, q.1, kk _ _ _ _ _ _ q.2 c s1 (.str _)⟩
  · exact q.elim
def pStrI : List SV → Mem → VP → Prop := fun ss μ Q => match ss with
  | [.d (.int i)] => i.natAbs.log2 < 1920 ∧ Q (.d (.str (toString i))) μ
  | _ => False
theorem pcall_strI {K : PySem.W.Frag} : PCall K (fun xs H Q => ∃ i, xs = [.int i] ∧ i.natAbs.log2 < 1920 ∧ Q (.str (toString i)) H) pStrI := by
  intro ss μ A G H vs Qp Q h c rs k
  match ss, h, rs with
  | [.d (.int i)], h, .cons r .nil => cases r; exact ⟨i, rfl, h.1, k _ _ _ _ _ _ h.2 c .refl (.str _)⟩
theorem px_strI (hg : Gl X "str") (hm : X.mg "str" = none) (ha : PXA X W [e] tL) (he : starEach [e] X.env = (false, eval e X.env) :: starEach [] X.env := by rfl) : PX X W (.Call (.Name "str" p) [e] [] pos) (xCall pStrI tL) :=
  px_callTy call_str_int pcall_strI hg hm (by decide +kernel) ha (by decide) (by decide) he rfl
end
/-! ### {k: v, ..}, keys ints and texts -/
theorem Cells.out {K : PySem.W.Frag} {A : List Addr} {μ : Mem} {G H : Hp} {p : Addr} {o : HO} (c : Cells K A μ G H) (hp : H p = none) (ho : ∀ xs, o ≠ .tup xs) : Cells K A μ G (upd H p o) ∧ Step A G H A G (upd H p o) := by
  have gn : G p = none := c.gnone hp
  refine ⟨⟨fun a u e => by rw [upd_ne (ne_of_none e gn)]; exact c.le a u e, c.len, c.nd, c.free, fun k a cl h1 h2 => (c.ok k a cl h1 h2).mono (List.prefix_refl _) (LeZ.refl _) (upd_ne (c.ne_of_lt (List.mem_of_getElem? h1) hp))⟩, ⟨List.prefix_refl _, LeZ.refl _, fun a u e _ => .inl ?_, fun a e => .inl e, fun a xs e => ?_, fun a e => .inl e, fun a e => ?_⟩⟩
  · rw [upd_ne (ne_of_none e hp)]; exact e
  · by_cases z : a = p
    · rw [z, upd_same] at e; exact absurd (Option.some.inj e) (ho xs)
    · rw [upd_ne z] at e; exact .inr e
  · by_cases z : a = p
    · rw [z, upd_same]; simp
    · rw [upd_ne z]; exact e
/-- what stands outside stays -/
theorem Step.outside {A A' : List Addr} {G G' H H' : Hp} {p : Addr} {o : HO} (st : Step A G H A' G' H') (hp : H p = some o) (nA : p ∉ A) (gn : G p = none) (nt : ∀ xs, o ≠ .tup xs) : H' p = some o ∧ p ∉ A' ∧ G' p = none := by
  refine ⟨?_, fun z => ?_, ?_⟩
  · rcases st.keep _ _ hp nA with q | ⟨q, _⟩
    · exact q
    · rw [gn] at q; cases q
  · rcases st.cells _ z with q | q
    · exact nA q
    · rw [hp] at q; cases q
  · cases q : G' p with
    | none => rfl
    | some u =>
      rcases st.new p (by rw [q]; simp) with z | z | ⟨xs, z⟩
      · exact absurd gn z
      · rw [hp] at z; cases z
      · rw [hp] at z; exact absurd (Option.some.inj z) (nt xs)
/-- what stands outside, written anew as data -/
theorem Cells.settle {K : PySem.W.Frag} {A A' : List Addr} {μ' : Mem} {G G' H H' : Hp} {p : Addr} {o o' : HO} (hp0 : H p = none) (c' : Cells K A' μ' G' H') (st : Step A G H A' G' H') (hp : H' p = some o) (na : p ∉ A') (gn : G' p = none) (nt : ∀ xs, o' ≠ .tup xs) :
    Cells K A' μ' (upd G' p o') (upd H' p o') ∧ Step A G H A' (upd G' p o') (upd H' p o') ∧ LeZ G' (upd G' p o') := by
  have lg : LeZ G' (upd G' p o') := fun a u e => .inl (by rw [upd_ne (ne_of_none e gn)]; exact e)
  refine ⟨⟨fun a u e => ?_, c'.len, c'.nd, fun a ha => ?_, fun k a cl h1 h2 => (c'.ok k a cl h1 h2).mono (List.prefix_refl _) lg (upd_ne fun z => na (by rw [← z]; exact List.mem_of_getElem? h1))⟩, ⟨st.pre, st.le.trans lg, fun a u e n => ?_, fun a e => ?_, fun a xs e => ?_, st.cells, fun a e => ?_⟩, lg⟩
  · by_cases z : a = p
    · rw [z] at e ⊢; rw [upd_same] at e ⊢; exact e
    · rw [upd_ne z] at e ⊢; exact c'.le a u e
  · rw [upd_ne fun z => na (by rw [← z]; exact ha)]; exact c'.free a ha
  · rw [upd_ne (ne_of_none e hp0)]; exact st.keep a u e n
  · by_cases z : a = p
    · exact .inr (.inl (by rw [z]; exact hp0))
    · rw [upd_ne z] at e; exact st.new a e
  · by_cases z : a = p
    · rw [z, upd_same] at e; exact absurd (Option.some.inj e) (nt xs)
    · rw [upd_ne z] at e; exact st.tups a xs e
  · by_cases z : a = p
    · rw [z, upd_same]; simp
    · rw [upd_ne z]; exact st.there a e
inductive RepPs (K : PySem.W.Frag) (G : Hp) : List (D × D) → List (V × V) → Prop
  | nil : RepPs K G [] []
  | cons {d e : D} {v w : V} {ds : List (D × D)} {vs : List (V × V)} : Rep K G d v → Rep K G e w → RepPs K G ds vs → RepPs K G ((d, e) :: ds) ((v, w) :: vs)
theorem RepPs.mono {K : PySem.W.Frag} {G G' : Hp} (l : LeZ G G') : ∀ {ds : List (D × D)} {vs : List (V × V)}, RepPs K G ds vs → RepPs K G' ds vs
  | _, _, .nil => .nil
  | _, _, .cons a b t => .cons (a.mono l) (b.mono l) (RepPs.mono l t)
theorem RepPs.length {K : PySem.W.Frag} {G : Hp} : ∀ {ds : List (D × D)} {vs : List (V × V)}, RepPs K G ds vs → ds.length = vs.length
  | _, _, .nil => rfl
  | _, _, .cons _ _ t => congrArg (· + 1) (RepPs.length t)
def xPairs : List (TX × TX) → XP → Env' → Mem → (List (D × D) → Mem → Prop) → Prop
  | [], _, _, μ, Q => Q [] μ
  | (tk, tv) :: r, x, ρ, μ, Q => tk x ρ μ fun k μ1 => tv x ρ μ1 fun v μ2 => xPairs r x ρ μ2 fun ps μ3 => match k, v with
    | .d a, .d b => Q ((a, b) :: ps) μ3
    | _, _ => False
structure PXPs (X : Cx) (W : WX) (pos : Pos) (keys : List (Option Expr)) (values : List Expr) (trs : List (TX × TX)) : Prop where
  pp : PPs X pos keys values (trs.map fun t => (lift X.K W t.1, lift X.K W t.2))
theorem pxps_nil {X : Cx} {W : WX} {pos : Pos} : PXPs X W pos [] [] [] := ⟨pps_nil⟩
theorem pxps_cons {X : Cx} {W : WX} {pos : Pos} {k v : Expr} {ks : List (Option Expr)} {vs : List Expr} {tk tv : TX} {trs : List (TX × TX)} (hk : PX X W k tk) (hv : PX X W v tv) (hr : PXPs X W pos ks vs trs) : PXPs X W pos (some k :: ks) (v :: vs) ((tk, tv) :: trs) :=
  ⟨pps_cons hk.pe hv.pe hr.pp⟩
theorem lift_pairs {K : PySem.W.Frag} {W : WX} {x : XP} {ρ : Env'} : ∀ {trs : List (TX × TX)} {A : List Addr} {μ : Mem} {G H : Hp} {σ : L2.St} {Qp : List (D × D) → Mem → Prop} {Q : List (V × V) → Hp → Prop}, Sim K A σ ρ μ G H → xPairs trs x ρ μ Qp → ExTo K W A G H x →
    (∀ ps μ' A' G' H' vs, Qp ps μ' → Cells K A' μ' G' H' → Step A G H A' G' H' → RepPs K G' ps vs → Q vs H') → tPairs (trs.map fun t => (lift K W t.1, lift K W t.2)) σ H Q
  | [], A, μ, G, H, σ, Qp, Q, S, h, hx, k => k _ _ _ _ _ _ h S.toCells .refl .nil
  | (tk, tv) :: trs, A, μ, G, H, σ, Qp, Q, S, h, hx, k => by
    refine ⟨A, ρ, μ, G, _, x, S, h, hx, fun s μ1 A1 G1 H1 v q c1 s1 r1 => ?_⟩
    refine ⟨A1, ρ, μ1, G1, _, x, S.after s1 c1, q, hx.after s1, fun s' μ2 A2 G2 H2 v' q2 c2 s2 r2 => ?_⟩
    have s12 := s1.trans s2
    refine lift_pairs (S.after s12 c2) q2 (hx.after s12) fun ps μ3 A3 G3 H3 vs q3 c3 s3 r3 => ?_
    have s23 := s2.trans s3
    match s, s', q3, r1, r2 with
    | .d a, .d b, q3, r1, r2 => exact k _ _ _ _ _ _ q3 c3 (s12.trans s3) (.cons (Rep.mono s23.le r1) (Rep.mono s3.le r2) r3)
noncomputable def mergeD : List D → List D → List (D × D) → List D × List D
  | ks, vs, [] => (ks, vs)
  | ks, vs, (k, v) :: ps => mergeD (putKs ks k) (putVs ks vs k v) ps
/-- keys that are ints and texts -/
theorem merge_rep {K : PySem.W.Frag} {G : Hp} : ∀ {ps : List (D × D)} {us : List (V × V)} {kvs : List (Key × V)} {vs : List D}, RepPs K G ps us → (∀ p ∈ ps, fitK false p.1 = true) → Reps K G vs (kvs.map Prod.snd) →
    ∃ ms : List (Key × V), us = ms.map (fun kv => (kV kv.1, kv.2)) ∧ (mergeD (kvs.map fun p => keyD p.1) vs ps).1 = (mergeK kvs ms).map (fun p => keyD p.1) ∧ Reps K G (mergeD (kvs.map fun p => keyD p.1) vs ps).2 ((mergeK kvs ms).map Prod.snd)
  | _, _, kvs, vs, .nil, _, r => ⟨[], rfl, rfl, r⟩
  | _, _, kvs, vs, @RepPs.cons _ _ d e v w ds us a b t, hf, r => by
    obtain ⟨k', rfl⟩ := fitF (hf _ List.mem_cons_self)
    obtain rfl := keyD_val a
    have e1 := put_keys (kd := keyD) (fun _ _ z => keyD_inj z) kvs k' w
    have e2 := put_vals (kd := keyD) (fun _ _ z => keyD_inj z) r k' b
    obtain ⟨ms, h1, h2, h3⟩ := merge_rep (kvs := putK kvs k' w) t (fun p hp => hf p (List.mem_cons_of_mem _ hp)) e2
    rw [e1] at h2 h3
    exact ⟨(k', w) :: ms, by rw [h1]; rfl, h2, h3⟩
def xDisp (trs : List (TX × TX)) : TX := fun x ρ μ Q => xPairs trs x ρ μ fun ps μ1 => ((∀ p ∈ ps, fitK false p.1 = true) ∧ ps.length ≤ 15) ∧ Q (.d (.dic false (mergeD [] [] ps).1 (mergeD [] [] ps).2)) μ1
theorem px_disp {X : Cx} {W : WX} {pos : Pos} {keys : List (Option Expr)} {values : List Expr} {trs : List (TX × TX)} (h : PXPs X W pos keys values trs) (hall : keys.all (·.isSome) = true := by rfl) (hl : keys.length = values.length := by rfl) (h0 : keys ≠ [] := by simp) (h15 : keys.length ≤ 15 := by decide) : PX X W (.Dict keys values pos) (xDisp trs) := by
  refine ⟨(pe_disp h.pp hall hl h0 h15).imp fun σ H Q hh => ?_⟩
  obtain ⟨A, ρ, μ, G, Qp, xp, S, ht, hx, kk⟩ := hh
  intro p hp
  obtain ⟨c1, s1⟩ := S.toCells.out (o := .dK []) hp (by intro _ z; cases z)
  have na : p ∉ A := fun z => S.ne_of_lt z hp rfl
  refine lift_pairs (S.after s1 c1) ht (hx.after s1) fun ps μ' A' G' H' vs q c s r => ?_
  obtain ⟨⟨q1, q2⟩, q3⟩ := q
  obtain ⟨h1, h2, h3⟩ := s.outside upd_same na (S.gnone hp) (by intro _ z; cases z)
  obtain ⟨ms, e1, e2, e3⟩ := merge_rep (kvs := []) r q1 .nil
  refine ⟨h1, ms, e1, ?_, ?_⟩
  · have := r.length
    have e4 : vs.length = ms.length := by rw [e1]; simp
    omega
  · obtain ⟨c2, s2, lg⟩ := Cells.settle (o' := .dK (mergeK [] ms)) hp c (s1.trans s) h1 h2 h3 (by intro _ z; cases z)
    exact kk _ _ _ _ _ _ q3 c2 s2 (Rep.dicK (.inl upd_same) e2 (e3.mono lg))
/-- {} as data -/
theorem px_disp0 {X : Cx} {W : WX} {pos : Pos} : PX X W (.Dict [] [] pos) (xC (.dic false [] [])) := by
  refine ⟨pe_dnewK.imp fun σ H Q h => ?_⟩
  obtain ⟨A, ρ, μ, G, Qp, xp, S, ht, hx, k⟩ := h
  intro p hp
  obtain ⟨c2, s2⟩ := S.toCells.laid (o := .dK []) hp
  exact k _ _ _ _ _ _ ht c2 s2 (Rep.dicK (.inl upd_same) rfl .nil)
end PL
/-! The P-layer: a, b = x, y where a name is taken into a comprehension. -/
namespace PL
open PySem PySem.Spec PyProof.Rows L2
section
variable {X : Cx} {W : WX} {a b : Expr} {tL : TXA} {pos : Pos}
theorem psx_par2 {i j : Nat} {x y : Str} {px py pt : Pos} {kt k2 pt2} (hc : X.calm = true) (hN : X.N.Nodup) (hi : X.N[i]? = some x) (hj : X.N[j]? = some y)
    (hx : Loc X.env.scope x) (hy : Loc X.env.scope y) (ha : PXA X W [a, b] tL)
    (hfx : X.fn x = true ∨ X.env.scope.names.lookup x = some .local) (hfy : X.fn y = true ∨ X.env.scope.names.lookup y = some .local)
    (hw : swappedStores [.Tuple [.Name x px, .Name y py] kt pt] (.Tuple [a, b] k2 pt2) X.env = pure none := by rfl)
    (hs : swapsWithSole [.Tuple [.Name x px, .Name y py] kt pt] (.Tuple [a, b] k2 pt2) pos.line X.env = pure false := by rfl)
    (h1 : (assignEach [.Tuple [.Name x px, .Name y py] kt pt] X.env).map (·.2) = [assign (.Tuple [.Name x px, .Name y py] kt pt) X.env] := by rfl)
    (hn : (assignEach [.Name x px, .Name y py] X.env).length = 2 := by rfl) (hst : (assignEach [.Name x px, .Name y py] X.env).findIdx? (·.1) = none := by rfl)
    (hs1 : (assignEach [.Name x px, .Name y py] X.env).map (·.2) = assign (.Name x px) X.env :: (assignEach [.Name y py] X.env).map (·.2) := by rfl)
    (hs2 : (assignEach [.Name y py] X.env).map (·.2) = assign (.Name y py) X.env :: (assignEach [] X.env).map (·.2) := by rfl) :
    PXS X W (.Assign [.Tuple [.Name x px, .Name y py] kt pt] (.Tuple [a, b] k2 pt2) pos) (xPar i j tL) := by
  refine ⟨(ps_asg (pe_tup ha.pa) (pg_tup hc (pgs_cons (pg_name hN hi hx hfx) (pgs_cons (pg_name hN hj hy hfy) pgs_nil hs2) hs1) hn hst) hs hw h1).imp fun D σ H h => ?_⟩
  obtain ⟨A, ρ, μ, G, E, S, ht, k⟩ := h
  refine ⟨A, ρ, μ, G, _, _, S, ht, k.ex, fun ss μ1 A1 G1 H1 vs q c1 s1 r1 => ?_⟩
  match ss, vs, r1, q with
  | [s, r], [v, w], .cons g1 (.cons g2 .nil), q =>
    refine ⟨by rw [sizeLine_eq]; simp, fun p hp => ?_⟩
    obtain ⟨c2, s2⟩ := c1.laid (o := .tup [v, w]) hp
    refine ⟨p, [v, w], rfl, SqT.of upd_same, rfl, v, [w], rfl, ?_⟩
    refine ⟨w, [], rfl, rfl, ?_⟩
    exact k.nx _ _ _ _ _ _ q ((((S.after s1 c1).after s2 c2).set i (g1.mono (List.prefix_refl _) s2.le)).set j (g2.mono (List.prefix_refl _) s2.le)) (s1.trans s2)
end
end PL
/-! The P-layer: + of tuples of any sort, text * n. -/
namespace PL
open PySem PySem.Spec PyProof.Rows L2
section
variable {X : Cx} {W : WX} {a b : Expr} {ta tb : TX} {pos : Pos}
/-- u + v, tuples of l and of m -/
def catT (u v : D) (l m : List D) : D := if l = [] then v else if m = [] then u else .tup (l ++ m)
def pAddV : SV → SV → Mem → VP → Prop := fun sa sb μ Q => match sa, sb with
  | .d (.ntp l), .d (.tup m) => l.length + m.length ≤ sizeLine ∧ Q (.d (catT (.ntp l) (.tup m) l m)) μ
  | .d (.tup l), .d (.ntp m) => l.length + m.length ≤ sizeLine ∧ Q (.d (catT (.tup l) (.ntp m) l m)) μ
  | .d (.ntp l), .d (.ntp m) => l.length + m.length ≤ sizeLine ∧ Q (.d (catT (.ntp l) (.ntp m) l m)) μ
  | sa, sb => pAddU sa sb μ Q
theorem catA_of {K : PySem.W.Frag} {A : List Addr} {μ : Mem} {G H : Hp} {va vb : V} {Qp : VP} {Q : VK} {u v : D} {l m : List D} {a b : Addr} {us ws : List V} (hz : l.length + m.length ≤ sizeLine) (q : Qp (.d (catT u v l m)) μ) (c : Cells K A μ G H)
    (ra : RepS K A G (.d u) va) (rb : RepS K A G (.d v) vb) (k : ∀ r μ' A' G' H' v, Qp r μ' → Cells K A' μ' G' H' → Step A G H A' G' H' → RepS K A' G' r v → Q v H') (ea : va = .ref a) (eb : vb = .ref b) (h1 : SqT K G a us) (h2 : Reps K G l us) (h3 : SqT K G b ws) (h4 : Reps K G m ws) : rCatA K va vb H Q := by
  subst ea; subst eb
  refine ⟨a, b, us, ws, rfl, rfl, c.le.sqT h1, c.le.sqT h3, by rw [← h2.length, ← h4.length]; exact hz, fun e => ?_, fun n1 e => ?_, fun n1 n2 p hp => ?_⟩
  · have hl : l = [] := List.length_eq_zero_iff.mp (by rw [h2.length, e]; rfl)
    rw [catT, if_pos hl] at q
    exact k _ _ _ _ _ _ q c .refl rb
  · have hl : l ≠ [] := fun z => n1 (List.length_eq_zero_iff.mp (by rw [← h2.length, z]; rfl))
    have hm : m = [] := List.length_eq_zero_iff.mp (by rw [h4.length, e]; rfl)
    rw [catT, if_neg hl, if_pos hm] at q
    exact k _ _ _ _ _ _ q c .refl ra
  · have hl : l ≠ [] := fun z => n1 (List.length_eq_zero_iff.mp (by rw [← h2.length, z]; rfl))
    have hm : m ≠ [] := fun z => n2 (List.length_eq_zero_iff.mp (by rw [← h4.length, z]; rfl))
    rw [catT, if_neg hl, if_neg hm] at q
    obtain ⟨c2, s2⟩ := c.laid (o := .tup (us ++ ws)) hp
    exact k _ _ _ _ _ _ q c2 s2 (Rep.tup upd_same ((h2.app h4).mono s2.le))
theorem pop_addV : POp X.K (fun x y H Q => (rI0 (fun i j => .int (i + j)) x y H Q ∨ rAddS x y H Q) ∨ (rCatA X.K x y H Q ∨ rCat x y H Q)) pAddV := by
  intro sa sb μ A G H va vb Qp Q h c ra rb k
  unfold pAddV at h
  split at h
  · obtain ⟨a, us, rfl, h1, h2⟩ := Reps.sqn ra
    obtain ⟨b, ws, rfl, h3, h4⟩ := Reps.sq rb
    exact .inr (.inl (catA_of h.1 h.2 c ra rb k rfl rfl h1 h2 h3 h4))
  · obtain ⟨a, us, rfl, h1, h2⟩ := Reps.sq ra
    obtain ⟨b, ws, rfl, h3, h4⟩ := Reps.sqn rb
    exact .inr (.inl (catA_of h.1 h.2 c ra rb k rfl rfl h1 h2 h3 h4))
  · obtain ⟨a, us, rfl, h1, h2⟩ := Reps.sqn ra
    obtain ⟨b, ws, rfl, h3, h4⟩ := Reps.sqn rb
    exact .inr (.inl (catA_of h.1 h.2 c ra rb k rfl rfl h1 h2 h3 h4))
  · exact pop_addU _ _ μ A G H va vb Qp Q h c ra rb k
theorem px_addV (ha : PX X W a ta) (hb : PX X W b tb) : PX X W (.BinOp a .Add b pos) (xOp pAddV ta tb) := px_op (op_or (op_or op_add op_add_str) (op_or op_catA op_cat)) pop_addV ha hb
/-! ### text * n -/
def rMulS : R2 := fun x y H Q => ∃ z j, x = .str z ∧ y = .int j ∧ (0 ≤ j ∧ j ≤ 1000 ∧ z.length ≤ 1000) ∧ Q (.str (Txt.mul z j)) H
theorem mulOk_of {z : Str} {j : Int} (h : 0 ≤ j ∧ j ≤ 1000 ∧ z.length ≤ 1000) : MulOk z j := by
  obtain ⟨h0, h1, h2⟩ := h
  refine ⟨by simp; omega, fun h3 _ h4 => ?_, fun h3 _ => ?_⟩
  · have : (1000 : Int) ≤ (2 ^ 63 - 1) / j := (Int.le_ediv_iff_mul_le (by omega)).mpr (by omega)
    omega
  · have : z.length * j.toNat ≤ 1000 * 1000 := Nat.mul_le_mul h2 (by omega)
    unfold Builtin.Str.tooLong
    simp only [decide_eq_false_iff_not, sizeLine_eq]
    omega
theorem op_mul_strI : OpR X (binaryOp .Mult) rMulS := by
  intro pins s σ H x y v u Q I rx ry h
  obtain ⟨i, j, rfl, rfl, hz, q⟩ := h
  obtain ⟨t, rfl⟩ := rx
  obtain ⟨t', rfl⟩ := ry
  exact SB.mul (mulOk_of hz) fun t' k => ⟨.str (Txt.mul i j), H, I.tok _, ⟨_, rfl⟩, q⟩
def pMulW : SV → SV → Mem → VP → Prop := fun sa sb μ Q => match sa, sb with
  | .d (.str z), .d (.int j) => (0 ≤ j ∧ j ≤ 1000 ∧ z.length ≤ 1000) ∧ Q (.d (.str (Txt.mul z j))) μ
  | sa, sb => pMulV sa sb μ Q
theorem pop_mulW : POp X.K (fun x y H Q => ((rI CMul (fun i j => .int (i * j)) x y H Q ∨ rRep x y H Q) ∨ rRepT X.K x y H Q) ∨ rMulS x y H Q) pMulW := by
  intro sa sb μ A G H va vb Qp Q h c ra rb k
  unfold pMulW at h
  split at h
  · cases ra; cases rb
    exact .inr ⟨_, _, rfl, rfl, h.1, k _ _ _ _ _ _ h.2 c .refl (.str _)⟩
  · exact .inl (pop_mulV _ _ μ A G H va vb Qp Q h c ra rb k)
theorem px_mulW (ha : PX X W a ta) (hb : PX X W b tb) : PX X W (.BinOp a .Mult b pos) (xOp pMulW ta tb) := px_op (op_or (op_or (op_or op_mul op_rep) op_repT) op_mul_strI) pop_mulW ha hb
end
end PL
/-! The P-layer: a + b, sorted(a), a * n as lists of one's own. -/
namespace PL
open PySem PySem.Spec PyProof.Rows L2
section
variable {X : Cx} {W : WX} {a b e : Expr} {ta tb : TX} {tL : TXA} {pos p : Pos}
def pCatLC : SV → SV → Mem → VP → Prop := fun sa sb μ Q => on (lstOf sa μ) fun l => on (lstOf sb μ) fun m => l.length + m.length ≤ sizeLine ∧ Q (.c μ.length) (μ ++ [.lst (l ++ m)])
theorem pop_catLC {K : PySem.W.Frag} : POp K rCat pCatLC := by
  intro sa sb μ A G H va vb Qp Q h c ra rb k
  obtain ⟨l, e1, h⟩ := on_of h
  obtain ⟨m, e2, hz, q⟩ := on_of h
  obtain ⟨a, us, rfl, h1, h2⟩ := lstOf_rep e1 c ra
  obtain ⟨b, ws, rfl, h3, h4⟩ := lstOf_rep e2 c rb
  refine ⟨a, b, us, ws, rfl, rfl, h1, h3, by rw [← h2.length, ← h4.length]; exact hz, fun p hp => ?_⟩
  obtain ⟨c2, s2⟩ := c.cell (o := .lst (us ++ ws)) (cl := .lst (l ++ m)) hp ⟨us ++ ws, upd_same, h2.app h4⟩
  exact k _ _ _ _ _ _ q c2 s2 ⟨p, by rw [← c.len]; simp, rfl⟩
theorem px_catLC (ha : PX X W a ta) (hb : PX X W b tb) : PX X W (.BinOp a .Add b pos) (xOp pCatLC ta tb) := px_op op_cat pop_catLC ha hb
def pRepC : SV → SV → Mem → VP → Prop := fun sa sb μ Q => match sb with
  | .d (.int j) => on (lstOf sa μ) fun l => (-(2 ^ 63) ≤ j ∧ j < 2 ^ 63 ∧ l.length * j.toNat ≤ sizeLine) ∧ Q (.c μ.length) (μ ++ [.lst (List.replicate j.toNat l).flatten])
  | _ => False
theorem pop_repC {K : PySem.W.Frag} : POp K rRep pRepC := by
  intro sa sb μ A G H va vb Qp Q h c ra rb k
  unfold pRepC at h
  split at h
  · obtain ⟨l, e1, ⟨h1, h2, h3⟩, q⟩ := on_of h
    obtain ⟨a, us, rfl, g1, g2⟩ := lstOf_rep e1 c ra
    cases rb
    refine ⟨a, _, us, rfl, rfl, g1, h1, h2, by rw [← g2.length]; exact h3, fun p hp => ?_⟩
    obtain ⟨c2, s2⟩ := c.cell (o := .lst (List.replicate _ us).flatten) (cl := .lst (List.replicate _ l).flatten) hp ⟨_, upd_same, reps_rep g2 _⟩
    exact k _ _ _ _ _ _ q c2 s2 ⟨p, by rw [← c.len]; simp, rfl⟩
  · exact h.elim
theorem px_repC (ha : PX X W a ta) (hb : PX X W b tb) : PX X W (.BinOp a .Mult b pos) (xOp pRepC ta tb) := px_op op_rep pop_repC ha hb
def pSortedC : List SV → Mem → VP → Prop := fun ss μ Q => match ss with
  | [s] => on (lstOf s μ) fun l => okSort l ∧ Q (.c μ.length) (μ ++ [.lst (srtD l)])
  | _ => False
theorem pcall_sortedC {K : PySem.W.Frag} : PCall K (rSortedD K) pSortedC := by
  intro ss μ A G H vs Qp Q h c rs k
  match ss, h, rs with
  | [s], h, .cons r .nil =>
    obtain ⟨l, e, ⟨h1, h2, h3⟩, q⟩ := on_of h
    obtain ⟨a, us, rfl, g1, g2⟩ := lstOf_rep e c r
    obtain ⟨z1, z2, z3⟩ := zip_parts g2
    have zt : (l.zip us).map (fun b => toPy b.1) = l.map toPy := by
      show (l.zip us).map (toPy ∘ Prod.fst) = _
      rw [← List.map_map, z1]
    refine ⟨a, l.zip us, rfl, by rw [z2]; exact SqL.of g1, fun b hb => ⟨rep_dp c.le 60 _ _ (h1 _ (z3 b hb).2) (z3 b hb).1, okEq_depth (h1 _ (z3 b hb).2)⟩, by rw [zt]; exact h2, by rw [zt]; exact h3, fun p hp => ?_⟩
    have ef : ((l.zip us).mergeSort (W.dataLe false fun b : D × V => toPy b.1)).map Prod.fst = srtD l := by
      unfold srtD
      refine Eq.trans (List.map_mergeSort (r := W.dataLe false fun b : D × V => toPy b.1) (s := W.dataLe false toPy) (f := Prod.fst) (fun a _ b _ => rfl)) ?_
      rw [z1]
    have rep : Reps K G (srtD l) (((l.zip us).mergeSort (W.dataLe false fun b : D × V => toPy b.1)).map Prod.snd) := by
      rw [← ef]
      exact reps_map fun t ht => (z3 t ((List.mergeSort_perm _ _).mem_iff.mp ht)).1
    obtain ⟨c2, s2⟩ := c.cell (o := .lst (((l.zip us).mergeSort (W.dataLe false fun b : D × V => toPy b.1)).map Prod.snd)) (cl := .lst (srtD l)) hp ⟨_, upd_same, rep⟩
    exact k _ _ _ _ _ _ q c2 s2 ⟨p, by rw [← c.len]; simp, rfl⟩
theorem px_sortedC (hu : X.A.units + 64 < cLine) (hg : Gl X "sorted") (hm : X.mg "sorted" = none) (ha : PXA X W [e] tL) (he : starEach [e] X.env = (false, eval e X.env) :: starEach [] X.env := by rfl) : PX X W (.Call (.Name "sorted" p) [e] [] pos) (xCall pSortedC tL) :=
  px_callB (cr_sortedD hu) pcall_sortedC hg hm (by decide +kernel) ha (by decide) (by decide) he rfl
end
end PL
/-! The F-layer: defs as functions of data and cells. -/
namespace PL
open PySem PySem.Spec PyProof.Rows L2
/-- an end: a value, an exception, nothing known -/
inductive R (α : Type) where
  | ok (a : α) (μ : Mem)
  | ex (C : Str) (fs : List (Str × D)) (μ : Mem)
  | no
abbrev M (α : Type) := Mem → R α
def R.fin {α : Type} (r : R α) (x : XP) (Q : α → Mem → Prop) : Prop := match r with
  | .ok a μ => Q a μ
  | .ex C fs μ => x C fs μ
  | .no => False
def bnd {α β : Type} (m : M α) (k : α → M β) : M β := fun μ => match m μ with
  | .ok a μ' => k a μ'
  | .ex C fs μ' => .ex C fs μ'
  | .no => .no
theorem R.mono {α : Type} {r : R α} {x : XP} {Q Q' : α → Mem → Prop} (h : r.fin x Q) (i : ∀ a μ, Q a μ → Q' a μ) : r.fin x Q' := by
  cases r with
  | ok a μ => exact i _ _ h
  | ex C fs μ => exact h
  | no => exact h
theorem fin_bnd {α β : Type} {m : M α} {k : α → M β} {μ : Mem} {x : XP} {Q : β → Mem → Prop} : (bnd m k μ).fin x Q ↔ (m μ).fin x fun a μ' => (k a μ').fin x Q := by
  unfold bnd
  cases m μ <;> exact Iff.rfl
def ret {α : Type} (a : α) : M α := fun μ => .ok a μ
open Classical in
noncomputable def grd {α : Type} (c : Prop) (m : M α) : M α := fun μ => if c then m μ else .no
theorem grd_pos {α : Type} {c : Prop} {m : M α} {μ : Mem} (h : c) : grd c m μ = m μ := if_pos h
theorem fin_grd {α : Type} {c : Prop} {m : M α} {μ : Mem} {x : XP} {Q : α → Mem → Prop} (h : (grd c m μ).fin x Q) : c ∧ (m μ).fin x Q := by
  unfold grd at h
  split at h
  · rename_i e; exact ⟨e, h⟩
  · exact h.elim
abbrev FEnv := Nat → SV
def put (ρ : FEnv) (i : Nat) (s : SV) : FEnv := fun j => if j = i then s else ρ j
def wip (ρ : FEnv) : List Nat → FEnv
  | [] => ρ
  | v :: vs => put (wip ρ vs) v .un
abbrev FX := FEnv → M SV
abbrev FT := FEnv → M Bool
abbrev FA := FEnv → M (List SV)
abbrev FI := FEnv → M (List D)
abbrev FO := FEnv → M (Option Int)
abbrev FG := SV → FEnv → M FEnv
inductive Out where
  | nx (ρ : FEnv)
  | rt (v : SV)
  | bk (ρ : FEnv)
  | ct (ρ : FEnv)
abbrev FS := FEnv → M Out
def Out.fin (n : Nat) (E : EndsP) (μ : Mem) : Out → Prop
  | .nx ρ => E.nx ⟨n, ρ⟩ μ
  | .rt v => E.rt v μ
  | .bk ρ => E.bk ⟨n, ρ⟩ μ
  | .ct ρ => E.ct ⟨n, ρ⟩ μ
def toX (n : Nat) (f : FX) : TX := fun x ρ μ Q => ρ.n = n ∧ (f ρ.f μ).fin x Q
def toT (n : Nat) (f : FT) : TXT := fun x ρ μ Q => ρ.n = n ∧ (f ρ.f μ).fin x Q
def toA (n : Nat) (f : FA) : TXA := fun x ρ μ Q => ρ.n = n ∧ (f ρ.f μ).fin x Q
def toI (n : Nat) (f : FI) : TXI := fun x ρ μ Q => ρ.n = n ∧ (f ρ.f μ).fin x Q
def toO (n : Nat) (f : FO) : TXO := fun x ρ μ Q => ρ.n = n ∧ (f ρ.f μ).fin x Q
def toG (n : Nat) (g : FG) : TXG := fun x s ρ μ Q => ρ.n = n ∧ (g s ρ.f μ).fin x fun r μ' => Q ⟨n, r⟩ μ'
def toS (n : Nat) (f : FS) : TXS := fun E ρ μ => ρ.n = n ∧ (f ρ.f μ).fin E.ex fun o μ' => o.fin n E μ'

/-! ### expressions -/
def fV (i : Nat) : FX := fun ρ μ => match ρ i with
  | .d a => .ok (.d a) μ
  | .c k => .ok (.c k) μ
  | .un => .no
def fC (d : D) : FX := fun _ => ret (.d d)
def fOp (g : SV → SV → M SV) (a b : FX) : FX := fun ρ => bnd (a ρ) fun s => bnd (b ρ) fun t => g s t
def fUn (g : SV → M SV) (a : FX) : FX := fun ρ => bnd (a ρ) g
def tr : SV → M Bool := fun s μ => match s with
  | .d (.bl b) => .ok b μ
  | _ => .no
def fT (a : FX) : FT := fun ρ => bnd (a ρ) tr
def fTAnd (a b : FT) : FT := fun ρ => bnd (a ρ) fun k => if k then b ρ else ret false
def fTOr (a b : FT) : FT := fun ρ => bnd (a ρ) fun k => if k then ret true else b ρ
def fTNot (a : FT) : FT := fun ρ => bnd (a ρ) fun k => ret (!k)
def fAnd (a b : FX) : FX := fun ρ => bnd (bnd (a ρ) tr) fun k => if k then b ρ else ret (.d (.bl false))
def fOr (a b : FX) : FX := fun ρ => bnd (bnd (a ρ) tr) fun k => if k then ret (.d (.bl true)) else b ρ
def fNot (a : FX) : FX := fun ρ => bnd (bnd (a ρ) tr) fun k => ret (.d (.bl (!k)))
def fIf (c : FT) (a b : FX) : FX := fun ρ => bnd (c ρ) fun k => if k then a ρ else b ρ
def fChain (g g' : SV → SV → M SV) (a b c : FX) : FX := fun ρ => bnd (a ρ) fun s => bnd (b ρ) fun t => bnd (bnd (g s t) tr) fun k => if k then bnd (c ρ) fun u => g' t u else ret (.d (.bl false))
def fNil : FA := fun _ => ret []
def fCons (a : FX) (r : FA) : FA := fun ρ => bnd (a ρ) fun s => bnd (r ρ) fun ss => ret (s :: ss)
def allM (o : Option (List D)) (q : List D → M SV) : M SV := match o with
  | some ds => q ds
  | none => fun _ => .no
noncomputable def fTup (t : FA) : FX := fun ρ => bnd (t ρ) fun ss => allM (allD ss) fun ds => grd (ds.length ≤ sizeLine) (ret (.d (.tup ds)))
noncomputable def fLst (t : FA) : FX := fun ρ => bnd (t ρ) fun ss => allM (allD ss) fun ds => grd (ds.length ≤ sizeLine) (ret (.d (.lst ds)))
noncomputable def fLstC (t : FA) : FX := fun ρ => bnd (t ρ) fun ss => allM (allD ss) fun ds => grd (ds.length ≤ sizeLine) fun μ => .ok (.c μ.length) (μ ++ [.lst ds])
def fCall (g : List SV → M SV) (t : FA) : FX := fun ρ => bnd (t ρ) g
def fNone : FO := fun _ => ret none
def asInt : SV → M (Option Int) := fun s μ => match s with
  | .d (.int i) => .ok (some i) μ
  | _ => .no
def fSome (a : FX) : FO := fun ρ => bnd (a ρ) asInt
def fSl (g : SV → Option Int → Option Int → M SV) (a : FX) (l h : FO) : FX := fun ρ => bnd (a ρ) fun s => bnd (l ρ) fun lo => bnd (h ρ) fun hi => g s lo hi
/-- l.m(..) -/
def fMeth (g : SV → List SV → M SV) (o : FX) (t : FA) : FX := fun ρ => bnd (o ρ) fun s => bnd (t ρ) fun ss => g s ss

/-! ### operations -/
noncomputable def addF (a b : SV) : M SV := fun μ => match a, b with
  | .d (.int i), .d (.int j) => .ok (.d (.int (i + j))) μ
  | .d (.str i), .d (.str j) => grd (i.length + j.length ≤ sizeLine) (ret (.d (.str (i ++ j)))) μ
  | .d (.tup l), .d (.tup m) => grd (l.length + m.length ≤ sizeLine) (ret (.d (.tup (l ++ m)))) μ
  | .d (.ntp l), .d (.tup m) => grd (l.length + m.length ≤ sizeLine) (ret (.d (catT (.ntp l) (.tup m) l m))) μ
  | .d (.tup l), .d (.ntp m) => grd (l.length + m.length ≤ sizeLine) (ret (.d (catT (.tup l) (.ntp m) l m))) μ
  | .d (.ntp l), .d (.ntp m) => grd (l.length + m.length ≤ sizeLine) (ret (.d (catT (.ntp l) (.ntp m) l m))) μ
  | a, b => match lstOf a μ, lstOf b μ with
    | some l, some m => grd (l.length + m.length ≤ sizeLine) (ret (.d (.lst (l ++ m)))) μ
    | _, _ => .no
def subF (a b : SV) : M SV := fun μ => match a, b with
  | .d (.int i), .d (.int j) => .ok (.d (.int (i - j))) μ
  | _, _ => .no
noncomputable def mulF (a b : SV) : M SV := fun μ => match a, b with
  | .d (.int i), .d (.int j) => grd (CMul i j) (ret (.d (.int (i * j)))) μ
  | .d (.str z), .d (.int j) => grd (0 ≤ j ∧ j ≤ 1000 ∧ z.length ≤ 1000) (ret (.d (.str (Txt.mul z j)))) μ
  | .d (.tup l), .d (.int j) => grd (l ≠ [] ∧ 2 ≤ j ∧ j ≤ 1000 ∧ l.length ≤ 1000) (ret (.d (.tup (List.replicate j.toNat l).flatten))) μ
  | .d (.ntp l), .d (.int j) => grd (l ≠ [] ∧ 2 ≤ j ∧ j ≤ 1000 ∧ l.length ≤ 1000) (ret (.d (.tup (List.replicate j.toNat l).flatten))) μ
  | a, .d (.int j) => match lstOf a μ with
    | some l => grd (-(2 ^ 63) ≤ j ∧ j < 2 ^ 63 ∧ l.length * j.toNat ≤ sizeLine) (ret (.d (.lst (List.replicate j.toNat l).flatten))) μ
    | _ => .no
  | _, _ => .no
noncomputable def modF (a b : SV) : M SV := fun μ => match a, b with
  | .d (.int i), .d (.int j) => grd (0 < j) (ret (.d (.int (i % j)))) μ
  | _, _ => .no
noncomputable def divF (a b : SV) : M SV := fun μ => match a, b with
  | .d (.int i), .d (.int j) => grd (CDiv i j) (ret (.d (.int (i / j)))) μ
  | _, _ => .no
noncomputable def powF (a b : SV) : M SV := fun μ => match a, b with
  | .d (.int i), .d (.int j) => grd (CPow i j) (ret (.d (.int (i ^ j.toNat)))) μ
  | _, _ => .no
def negF (a : SV) : M SV := fun μ => match a with
  | .d (.int i) => .ok (.d (.int (-i))) μ
  | _ => .no
noncomputable def ltF (a b : SV) : M SV := fun μ => match a, b with
  | .d (.int i), .d (.int j) => .ok (.d (.bl (decide (i < j)))) μ
  | .d (.str i), .d (.str j) => .ok (.d (.bl (decide (i.cps.toList < j.cps.toList)))) μ
  | .d x, .d y => grd (isTp x = true ∧ isTp y = true ∧ okEq x = true ∧ okEq y = true ∧ alD x y = true) (ret (.d (.bl (ltD x y)))) μ
  | _, _ => .no
noncomputable def leF (a b : SV) : M SV := fun μ => match a, b with
  | .d (.int i), .d (.int j) => .ok (.d (.bl (decide (i ≤ j)))) μ
  | .d (.str i), .d (.str j) => .ok (.d (.bl (!decide (j.cps.toList < i.cps.toList)))) μ
  | .d x, .d y => grd (isTp x = true ∧ isTp y = true ∧ okEq x = true ∧ okEq y = true ∧ alD x y = true) (ret (.d (.bl (!ltD y x)))) μ
  | _, _ => .no
noncomputable def gtF (a b : SV) : M SV := fun μ => match a, b with
  | .d (.int i), .d (.int j) => .ok (.d (.bl (decide (j < i)))) μ
  | .d (.str i), .d (.str j) => .ok (.d (.bl (decide (j.cps.toList < i.cps.toList)))) μ
  | .d x, .d y => grd (isTp x = true ∧ isTp y = true ∧ okEq x = true ∧ okEq y = true ∧ alD x y = true) (ret (.d (.bl (ltD y x)))) μ
  | _, _ => .no
noncomputable def geF (a b : SV) : M SV := fun μ => match a, b with
  | .d (.int i), .d (.int j) => .ok (.d (.bl (decide (j ≤ i)))) μ
  | .d (.str i), .d (.str j) => .ok (.d (.bl (!decide (i.cps.toList < j.cps.toList)))) μ
  | .d x, .d y => grd (isTp x = true ∧ isTp y = true ∧ okEq x = true ∧ okEq y = true ∧ alD x y = true) (ret (.d (.bl (!ltD x y)))) μ
  | _, _ => .no
def iltF (a b : SV) : M SV := fun μ => match a, b with
  | .d (.int i), .d (.int j) => .ok (.d (.bl (decide (i < j)))) μ
  | _, _ => .no
def ileF (a b : SV) : M SV := fun μ => match a, b with
  | .d (.int i), .d (.int j) => .ok (.d (.bl (decide (i ≤ j)))) μ
  | _, _ => .no
noncomputable def eqF (a b : SV) : M SV := fun μ => match a, b with
  | .d (.int i), .d (.int j) => .ok (.d (.bl (decide (i = j)))) μ
  | .d (.bl i), .d (.bl j) => .ok (.d (.bl (i == j))) μ
  | .d x, .d y => grd (okEq x = true ∧ okEq y = true) (ret (.d (.bl (deq x y)))) μ
  | _, _ => .no
noncomputable def neF (a b : SV) : M SV := fun μ => match a, b with
  | .d (.int i), .d (.int j) => .ok (.d (.bl (!decide (i = j)))) μ
  | .d (.bl i), .d (.bl j) => .ok (.d (.bl (!(i == j)))) μ
  | .d x, .d y => grd (okEq x = true ∧ okEq y = true) (ret (.d (.bl (!deq x y)))) μ
  | _, _ => .no
/-- what `in` says of a value and a thing that holds values -/
noncomputable def inO (μ : Mem) (a b : SV) : R Bool := match a, b with
  | .d k, .d (.dic t ks vs) => grd (fitK t k = true) (ret (findD ks vs k).isSome) μ
  | .d k, .d (.tup l) => grd (okEq k = true ∧ okEq (.tup l) = true) (ret (inD k l)) μ
  | .d k, .d (.ntp l) => grd (okEq k = true ∧ okEq (.ntp l) = true) (ret (inD k l)) μ
  | .d k, .d (.lst l) => grd (okEq k = true ∧ okEq (.lst l) = true) (ret (inD k l)) μ
  | .d (.str x), .d (.str z) => match x.cps.toList with
    | [c] => .ok (decide (c ∈ z.cps.toList)) μ
    | _ => .no
  | .d k, .c j => match μ[j]? with
    | some (.lst l) => grd (okEq k = true ∧ okEq (.lst l) = true) (ret (inD k l)) μ
    | some (.dK ks vs) => grd (fitK false k = true) (ret (findD ks vs k).isSome) μ
    | some (.dT ks vs) => grd (fitK true k = true) (ret (findD ks vs k).isSome) μ
    | _ => .no
  | _, _ => .no
noncomputable def inF (a b : SV) : M SV := fun μ => match inO μ a b with
  | .ok k μ' => .ok (.d (.bl k)) μ'
  | .ex C fs μ' => .ex C fs μ'
  | .no => .no
noncomputable def niF (a b : SV) : M SV := fun μ => match inO μ a b with
  | .ok k μ' => .ok (.d (.bl (!k))) μ'
  | .ex C fs μ' => .ex C fs μ'
  | .no => .no
def isNF (a : SV) : M SV := fun μ => match a with
  | .d .non => .ok (.d (.bl true)) μ
  | .d _ => .ok (.d (.bl false)) μ
  | .c _ => .ok (.d (.bl false)) μ
  | .un => .no
def notNF (a : SV) : M SV := fun μ => match a with
  | .d .non => .ok (.d (.bl false)) μ
  | .d _ => .ok (.d (.bl true)) μ
  | .c _ => .ok (.d (.bl true)) μ
  | .un => .no
def isBF (a b : SV) : M SV := fun μ => match a, b with
  | .d (.bl x), .d (.bl y) => .ok (.d (.bl (decide (x = y)))) μ
  | _, _ => .no
def notBF (a b : SV) : M SV := fun μ => match a, b with
  | .d (.bl x), .d (.bl y) => .ok (.d (.bl (!decide (x = y)))) μ
  | _, _ => .no
def ixF (a b : SV) : M SV := fun μ => match b with
  | .d (.int i) => match ixOf a μ i with
    | some d => .ok (.d d) μ
    | none => .no
  | _ => .no
noncomputable def dgetF (a b : SV) : M SV := fun μ => match b with
  | .d k => match dicOf a μ with
    | some z => grd (fitK z.1 k = true) (fun μ => match findD z.2.1 z.2.2 k with
      | some d => .ok (.d d) μ
      | none => .no) μ
    | none => .no
  | _ => .no
noncomputable def slF (a : SV) (lo hi : Option Int) : M SV := fun μ => match a with
  | .d (.tup l) => .ok (.d (.tup (cutD l lo hi))) μ
  | .d (.ntp l) => .ok (.d (cutN l lo hi)) μ
  | .d (.scr l) => .ok (.d (.lst (cutD (l.map .int) lo hi))) μ
  | .d (.str z) => grd (z.length ≤ sizeLine) (ret (.d (.str (cutS z lo hi)))) μ
  | a => match lstOf a μ with
    | some l => .ok (.d (.lst (cutD l lo hi))) μ
    | none => .no
def lenF : List SV → M SV := fun ss μ => match ss with
  | [s] => match lenOf s μ with
    | some n => .ok (.d (.int (n : Nat))) μ
    | none => .no
  | _ => .no
def isiF (k : TyK) (s : SV) : M SV := fun μ => match isKs k s μ with
  | some b => .ok (.d (.bl b)) μ
  | none => .no
def allF : List SV → M SV := fun ss μ => match ss with
  | [s] => match (lstOf s μ).bind bools with
    | some bs => .ok (.d (.bl (bs.all id))) μ
    | none => .no
  | _ => .no
def anyF : List SV → M SV := fun ss μ => match ss with
  | [s] => match (lstOf s μ).bind bools with
    | some bs => .ok (.d (.bl (bs.any id))) μ
    | none => .no
  | _ => .no
def tupF : List SV → M SV := fun ss μ => match ss with
  | [s] => match lstOf s μ with
    | some l => .ok (.d (.ntp l)) μ
    | none => match tupOf s with
      | some _ => .ok s μ
      | none => .no
  | _ => .no
def listF : List SV → M SV := fun ss μ => match ss with
  | [s] => match (lstOf s μ).or (tupOf s) with
    | some l => .ok (.d (.lst l)) μ
    | none => .no
  | _ => .no
def listCF : List SV → M SV := fun ss μ => match ss with
  | [s] => match (lstOf s μ).or (tupOf s) with
    | some l => .ok (.c μ.length) (μ ++ [.lst l])
    | none => .no
  | _ => .no
noncomputable def sortedF : List SV → M SV := fun ss μ => match ss with
  | [s] => match lstOf s μ with
    | some l => grd (okSort l) (ret (.d (.lst (srtD l)))) μ
    | none => .no
  | _ => .no
def intF : List SV → M SV := fun ss μ => match ss with
  | [.d (.int i)] => .ok (.d (.int i)) μ
  | [.d (.bl b)] => .ok (.d (.int (if b then 1 else 0))) μ
  | _ => .no
def absF : List SV → M SV := fun ss μ => match ss with
  | [.d (.int i)] => .ok (.d (.int (if i < 0 then -i else i))) μ
  | _ => .no
noncomputable def divmodF : List SV → M SV := fun ss μ => match ss with
  | [.d (.int i), .d (.int j)] => grd (CDiv i j) (ret (.d (.tup [.int (i / j), .int (i % j)]))) μ
  | _ => .no
noncomputable def maxF : List SV → M SV := fun ss μ => match ss with
  | [.d (.int i), .d (.int j)] => .ok (.d (.int (if j > i then j else i))) μ
  | [.d (.str i), .d (.str j)] => grd (okEq (.str i) = true ∧ okEq (.str j) = true) (ret (.d (if ltD (.str i) (.str j) = true then .str j else .str i))) μ
  | [.d (.tup l), .d (.tup m)] => grd (okEq (.tup l) = true ∧ okEq (.tup m) = true ∧ alP (.tup l) (.tup m) = true) (ret (.d (if ltD (.tup l) (.tup m) = true then .tup m else .tup l))) μ
  | _ => .no
noncomputable def minF : List SV → M SV := fun ss μ => match ss with
  | [.d (.int i), .d (.int j)] => .ok (.d (.int (if j < i then j else i))) μ
  | [.d (.str i), .d (.str j)] => grd (okEq (.str i) = true ∧ okEq (.str j) = true) (ret (.d (if ltD (.str j) (.str i) = true then .str j else .str i))) μ
  | [.d (.tup l), .d (.tup m)] => grd (okEq (.tup l) = true ∧ okEq (.tup m) = true ∧ alP (.tup l) (.tup m) = true) (ret (.d (if ltD (.tup m) (.tup l) = true then .tup m else .tup l))) μ
  | _ => .no
def appendF (o : SV) (ss : List SV) : M SV := fun μ => match o, ss with
  | .c k, [.d y] => match μ[k]? with
    | some (.lst l) => if l.length < sizeLine then .ok (.d .non) (μ.set k (.lst (l ++ [y]))) else .no
    | _ => .no
  | _, _ => .no
def extendF (o : SV) (ss : List SV) : M SV := fun μ => match o, ss with
  | .c k, [s] => match μ[k]?, lstOf s μ with
    | some (.lst l), some m => if l.length + m.length ≤ sizeLine then .ok (.d .non) (μ.set k (.lst (l ++ m))) else .no
    | _, _ => .no
  | _, _ => .no
def joinF (o s : SV) : M SV := fun μ => match o with
  | .d (.str a) => match (lstOf s μ).or (tupOf s) with
    | some l => match txts l with
      | some ys => if (ys.map (·.length)).sum + ys.length * a.length ≤ 16777216 then .ok (.d (.str (Txt.join a ys))) μ else .no
      | none => .no
    | none => .no
  | _ => .no
/-- the first place of y -/
def firstIx (l : List D) (y : D) : Option Nat := l.findIdx? fun z => deq z y
noncomputable def indexF (o : SV) (ss : List SV) : M SV := fun μ => match o with
  | .d (.ntp l) => match ss with
    | [.d (.str z)] => match txts l with
      | some ys => match ys.findIdx? (fun y => decide (y = z)) with
        | some j => .ok (.d (.int (j : Nat))) μ
        | none => .no
      | none => .no
    | _ => .no
  | o => match ss with
    | [.d y] => match lstOf o μ with
      | some l => grd (okEq (.lst l) = true ∧ okEq y = true) (fun μ => match firstIx l y with
        | some j => .ok (.d (.int (j : Nat))) μ
        | none => .no) μ
      | none => .no
    | _ => .no

/-! ### what is walked, targets -/
def itF (a : FX) : FI := fun ρ => bnd (a ρ) fun s μ => match s with
  | .d d => match itD d with
    | some l => .ok l μ
    | none => .no
  | _ => .no
def enumF (t : FA) : FI := fun ρ => bnd (t ρ) fun ss μ => match ss with
  | [.d (.tup l)] => .ok (enumD l) μ
  | [.d (.ntp l)] => .ok (enumD l) μ
  | [.d (.lst l)] => .ok (enumD l) μ
  | _ => .no
def zipF (t : FA) : FI := fun ρ => bnd (t ρ) fun ss μ => match ss with
  | [.d (.tup l), .d (.tup m)] => .ok (zipD l m) μ
  | [.d (.ntp l), .d (.tup m)] => .ok (zipD l m) μ
  | [.d (.tup l), .d (.ntp m)] => .ok (zipD l m) μ
  | [.d (.ntp l), .d (.ntp m)] => .ok (zipD l m) μ
  | [.d (.lst l), .d (.lst m)] => .ok (zipD l m) μ
  | _ => .no
noncomputable def rng1F (t : FA) : FI := fun ρ => bnd (t ρ) fun ss μ => match ss with
  | [.d (.int n)] => grd (-(2 ^ 62) ≤ n ∧ n < 2 ^ 62) (ret (rngD 0 n.toNat)) μ
  | _ => .no
noncomputable def rng2F (t : FA) : FI := fun ρ => bnd (t ρ) fun ss μ => match ss with
  | [.d (.int lo), .d (.int hi)] => grd (-(2 ^ 62) ≤ lo ∧ lo < 2 ^ 62 ∧ -(2 ^ 62) ≤ hi ∧ hi < 2 ^ 62) (ret (rngD lo (hi - lo).toNat)) μ
  | _ => .no
def gN (i : Nat) : FG := fun s ρ => ret (put ρ i s)
def gAll : List FG → List D → FEnv → M FEnv
  | [], [], ρ => ret ρ
  | g :: gs, d :: ds, ρ => bnd (g (.d d) ρ) fun ρ' => gAll gs ds ρ'
  | _, _, _ => fun _ => .no
def gT (gs : List FG) : FG := fun s ρ => match s with
  | .d (.tup ds) => if ds.length = gs.length then gAll gs ds ρ else fun _ => .no
  | _ => fun _ => .no
/-- l[i] = .. -/
def gSub (o i : FX) : FG := fun s ρ => bnd (o ρ) fun so => bnd (i ρ) fun si μ => match so, si, s with
  | .c k, .d (.int i), .d v => match μ[k]? with
    | some (.lst l) => match ixN l.length i with
      | some j => .ok ρ (μ.set k (.lst (l.set j v)))
      | none => .no
    | _ => .no
  | _, _, _ => .no

/-! ### statements -/
def fSkip : FS := fun ρ => ret (.nx ρ)
def fSeq (t u : FS) : FS := fun ρ => bnd (t ρ) fun o => match o with
  | .nx ρ' => u ρ'
  | o => ret o
def fBrk : FS := fun ρ => ret (.bk ρ)
def fCnt : FS := fun ρ => ret (.ct ρ)
def fExpr (a : FX) : FS := fun ρ => bnd (a ρ) fun _ => ret (.nx ρ)
def fRet (a : FX) : FS := fun ρ => bnd (a ρ) fun s => ret (.rt s)
def fRetN : FS := fun _ => ret (.rt (.d .non))
def fIfS (c : FT) (t u : FS) : FS := fun ρ => bnd (c ρ) fun k => if k then t ρ else u ρ
def fNever : FS := fun _ _ => .no
def fAsg (a : FX) (g : FG) : FS := fun ρ => bnd (a ρ) fun s => bnd (g s ρ) fun ρ' => ret (.nx ρ')
def fPar (i j : Nat) (t : FA) : FS := fun ρ => bnd (t ρ) fun ss => match ss with
  | [s, r] => ret (.nx (put (put ρ i s) j r))
  | _ => fun _ => .no
noncomputable def dputF (so si s : SV) : M Unit := fun μ => match so, si, s with
  | .c k, .d key, .d v => match μ[k]? with
    | some (.dK ks vs) => grd (fitK false key = true ∧ ks.length < sizeLine) (fun μ => .ok () (μ.set k (.dK (putKs ks key) (putVs ks vs key v)))) μ
    | some (.dT ks vs) => grd (fitK true key = true ∧ ks.length < sizeLine) (fun μ => .ok () (μ.set k (.dT (putKs ks key) (putVs ks vs key v)))) μ
    | _ => .no
  | _, _, _ => .no
noncomputable def fDPut (o i e : FX) : FS := fun ρ => bnd (e ρ) fun s => bnd (o ρ) fun so => bnd (i ρ) fun si => bnd (dputF so si s) fun _ => ret (.nx ρ)
def fNewK : FX := fun _ μ => .ok (.c μ.length) (μ ++ [.dK [] []])
def fNewT : FX := fun _ μ => .ok (.c μ.length) (μ ++ [.dT [] []])
/-- the turns of a for -/
def fLoop (step : SV → FS) : List D → FS
  | [], ρ => ret (.nx ρ)
  | d :: ds, ρ => bnd (step (.d d) ρ) fun o => match o with
    | .nx ρ' => fLoop step ds ρ'
    | .ct ρ' => fLoop step ds ρ'
    | .bk ρ' => ret (.nx ρ')
    | .rt v => ret (.rt v)
def fFor (it : FI) (g : FG) (b : FS) : FS := fun ρ => bnd (it ρ) fun ds => fLoop (fun d ρ => bnd (g d ρ) b) ds ρ
def wLoop (c : FT) (b : FS) : Nat → FS
  | 0, _ => fun _ => .no
  | n + 1, ρ => bnd (c ρ) fun k => if k then bnd (b ρ) fun o => match o with
      | .nx ρ' => wLoop c b n ρ'
      | .ct ρ' => wLoop c b n ρ'
      | .bk ρ' => ret (.nx ρ')
      | .rt v => ret (.rt v)
    else ret (.nx ρ)
open Classical in
noncomputable def fWhile (c : FT) (b : FS) : FS := fun ρ μ => if h : ∃ n, wLoop c b n ρ μ ≠ .no then wLoop c b (choose h) ρ μ else .no
/-- the turns of a comprehension -/
def cLoop (step : D → M (Option SV)) : List D → M (List D)
  | [], μ => .ok [] μ
  | d :: ds, μ => match step d μ with
    | .ok none μ' => cLoop step ds μ'
    | .ok (some (.d y)) μ' => match cLoop step ds μ' with
      | .ok r μ2 => .ok (y :: r) μ2
      | _ => .no
    | _ => .no
def cStep (g : FG) (c : FT) (e : FX) (vs : List Nat) (ρ : FEnv) (d : D) : M (Option SV) := bnd (g (.d d) (wip ρ vs)) fun ρ2 => bnd (c ρ2) fun k => if k then bnd (e ρ2) fun s => ret (some s) else ret none
def fYes : FT := fun _ => ret true
def finLF : List D → M SV := fun acc => ret (.d (.lst acc))
def finCF : List D → M SV := fun acc μ => .ok (.c μ.length) (μ ++ [.lst acc])
noncomputable def fLc (fin : List D → M SV) (it : FI) (g : FG) (c : FT) (e : FX) (vs : List Nat) : FX := fun ρ => bnd (it ρ) fun ds => grd (ds.length ≤ sizeLine) (bnd (cLoop (cStep g c e vs ρ) ds) fin)
/-- two generators -/
def cLoop2 (step : D → M (Option (List D))) : List D → M (List D)
  | [], μ => .ok [] μ
  | d :: ds, μ => match step d μ with
    | .ok none μ' => cLoop2 step ds μ'
    | .ok (some l) μ' => match cLoop2 step ds μ' with
      | .ok r μ2 => .ok (l ++ r) μ2
      | _ => .no
    | _ => .no
def cStep2 (g : FG) (c : FT) (it1 : FI) (g1 : FG) (c1 : FT) (e : FX) (vs vs1 : List Nat) (ρ : FEnv) (d : D) : M (Option (List D)) := bnd (g (.d d) (wip ρ vs)) fun ρ2 => bnd (c ρ2) fun k =>
  if k then bnd (it1 ρ2) fun es => bnd (cLoop (cStep g1 c1 e vs1 ρ2) es) fun l => ret (some l) else ret none
/-- the list stays small -/
noncomputable def fLc2 (fin : List D → M SV) (it : FI) (g : FG) (c : FT) (it1 : FI) (g1 : FG) (c1 : FT) (e : FX) (vs vs1 : List Nat) : FX := fun ρ => bnd (it ρ) fun ds => bnd (cLoop2 (cStep2 g c it1 g1 c1 e vs vs1 ρ) ds) fun l => grd (l.length ≤ sizeLine) (fin l)

/-! ### defs -/
/-- a cell that a call may take -/
def flC {α : Type} (c : Cell) (r : R α) : R α := match c with
  | .dC _ _ => .no
  | .inC _ _ _ => .no
  | _ => r
def flR {α : Type} : Mem → R α → R α
  | [], r => r
  | c :: cs, r => flC c (flR cs r)
open Classical in
noncomputable def callM (f : List SV → M SV) (ss : List SV) : M SV := fun μ => if (cellsOf ss).Nodup then flR (picked μ (cellsOf ss)) (match f (relab 0 ss) (picked μ (cellsOf ss)) with
    | .ok (.d d) μ' => flR (μ'.take (cellsOf ss).length) (.ok (.d d) (merge μ (cellsOf ss) μ'))
    | .ok (.c j) μ' => flR (μ'.take (cellsOf ss).length) (if j < (cellsOf ss).length then .ok (.c ((cellsOf ss).getD j 0)) (merge μ (cellsOf ss) μ') else flC (μ'.getD j nocell) (.ok (.c μ.length) (merge μ (cellsOf ss) μ' ++ [μ'.getD j nocell])))
    | .ok .un _ => .no
    | .ex C fs μ' => flR (μ'.take (cellsOf ss).length) (.ex C fs (merge μ (cellsOf ss) μ'))
    | .no => .no)
  else .no
/-- .. a new list or dict is data from here on -/
noncomputable def callMF (f : List SV → M SV) (ss : List SV) : M SV := fun μ => grd (cellsOf ss).Nodup (fun μ => flR (picked μ (cellsOf ss)) (match f (relab 0 ss) (picked μ (cellsOf ss)) with
    | .ok (.d d) μ' => flR (μ'.take (cellsOf ss).length) (.ok (.d d) (merge μ (cellsOf ss) μ'))
    | .ok (.c j) μ' => flR (μ'.take (cellsOf ss).length) (match frzS (cellsOf ss).length μ' 3 (.c j) with
      | some d => .ok (.d d) (merge μ (cellsOf ss) μ')
      | none => .no)
    | .ok .un _ => .no
    | .ex C fs μ' => flR (μ'.take (cellsOf ss).length) (.ex C fs (merge μ (cellsOf ss) μ'))
    | .no => .no)) μ
def fstart (as : List SV) : FEnv := fun i => as.getD i .un
def fDef (k : Nat) (b : FS) : List SV → M SV := fun as μ => if as.length = k then match b (fstart as) μ with
    | .ok (.nx _) μ' => .ok (.d .non) μ'
    | .ok (.rt v) μ' => .ok v μ'
    | .ok _ _ => .no
    | .ex C fs μ' => .ex C fs μ'
    | .no => .no
  else .no
def pF (f : List SV → M SV) : PSp := fun x as μ Q => (f as μ).fin x Q
/-- keywords -/
def permM (perm : List Nat) (f : List SV → M SV) (n m : Nat) (t tk : FA) : FX := fun ρ => bnd (t ρ) fun ss => bnd (tk ρ) fun zs => if ss.length = n ∧ zs.length = m then f (permG .un perm ss zs) else fun _ => .no
end PL
/-! The F-layer: the rules, read as functions. -/
namespace PL
open PySem PySem.Spec PyProof.Rows L2 RZ
section
variable {X : Cx} {W : WX} {a b c e o i tg iter elt tg1 iter1 : Expr} {es ifs ifs1 : List Expr} {t : TX} {tt : TXT} {tA : TXA} {tS : TXS} {n : Nat} {fa fb fc fe fo fi : FX} {ft fu : FT} {fl fk : FA} {pos p apos cpos tpos p2 pos' ppos : Pos} {x : Str} {st : Stmt} {rest : List Stmt} {kk : Nat} {elts : List Expr}
theorem PX.to (h : PX X W e t) (i : ∀ x ρ μ Q, toX n fa x ρ μ Q → t x ρ μ Q) : PX X W e (toX n fa) :=
  ⟨h.pe.imp fun σ H Q ⟨A, ρ, μ, G, Qp, xp, S, ht, hx, k⟩ => ⟨A, ρ, μ, G, Qp, xp, S, i _ _ _ _ ht, hx, k⟩⟩
theorem PXT.to (h : PXT X W e tt) (i : ∀ x ρ μ Q, toT n ft x ρ μ Q → tt x ρ μ Q) : PXT X W e (toT n ft) :=
  ⟨h.pt.imp fun σ H Q ⟨A, ρ, μ, G, Qp, xp, S, ht, hx, k⟩ => ⟨A, ρ, μ, G, Qp, xp, S, i _ _ _ _ ht, hx, k⟩⟩
theorem PXW.to (h : PXW X W e tt) (i : ∀ x ρ μ Q, toT n ft x ρ μ Q → tt x ρ μ Q) : PXW X W e (toT n ft) :=
  ⟨h.pw.imp fun σ H Q ⟨A, ρ, μ, G, Qp, xp, S, ht, hx, k⟩ => ⟨A, ρ, μ, G, Qp, xp, S, i _ _ _ _ ht, hx, k⟩⟩
theorem PXTs.to (h : PXTs X W es tt) (i : ∀ x ρ μ Q, toT n ft x ρ μ Q → tt x ρ μ Q) : PXTs X W es (toT n ft) :=
  ⟨h.pt.imp fun σ H Q ⟨A, ρ, μ, G, Qp, xp, S, ht, hx, k⟩ => ⟨A, ρ, μ, G, Qp, xp, S, i _ _ _ _ ht, hx, k⟩⟩
theorem PXA.to (h : PXA X W es tA) (i : ∀ x ρ μ Q, toA n fl x ρ μ Q → tA x ρ μ Q) : PXA X W es (toA n fl) :=
  ⟨h.pa.imp fun σ H Q ⟨A, ρ, μ, G, Qp, xp, S, ht, hx, k⟩ => ⟨A, ρ, μ, G, Qp, xp, S, i _ _ _ _ ht, hx, k⟩⟩
theorem PXK.to {kws : List Keyword} (h : PXK X W kws tA) (i : ∀ x ρ μ Q, toA n fl x ρ μ Q → tA x ρ μ Q) : PXK X W kws (toA n fl) :=
  ⟨h.pk.imp fun σ H Q ⟨A, ρ, μ, G, Qp, xp, S, ht, hx, k⟩ => ⟨A, ρ, μ, G, Qp, xp, S, i _ _ _ _ ht, hx, k⟩⟩
theorem PXO.to {e : Option Expr} {t : TXO} {f : FO} (h : PXO X W e t) (i : ∀ x ρ μ Q, toO n f x ρ μ Q → t x ρ μ Q) : PXO X W e (toO n f) :=
  ⟨h.po.imp fun σ H Q ⟨A, ρ, μ, G, Qp, xp, S, ht, hx, k⟩ => ⟨A, ρ, μ, G, Qp, xp, S, i _ _ _ _ ht, hx, k⟩⟩
theorem PXG.to {own : List Nat} {t : TXG} {f : FG} (h : PXG X W own e t) (i : ∀ x s ρ μ Q, toG n f x s ρ μ Q → t x s ρ μ Q) : PXG X W own e (toG n f) :=
  ⟨h.pg.imp fun v σ H Q ⟨A, ρ, μ, G, s, Qp, xp, S, r, ht, hx, k⟩ => ⟨A, ρ, μ, G, s, Qp, xp, S, r, i _ _ _ _ _ ht, hx, k⟩⟩
def toGs (n : Nat) (gs : List FG) : TXGs := fun x ds ρ μ Q => ρ.n = n ∧ (gAll gs ds ρ.f μ).fin x fun r μ' => Q ⟨n, r⟩ μ'
theorem PXGs.to {own : List Nat} {t : TXGs} {gs : List FG} (h : PXGs X W own es t) (i : ∀ x s ρ μ Q, toGs n gs x s ρ μ Q → t x s ρ μ Q) : PXGs X W own es (toGs n gs) :=
  ⟨h.pg.imp fun v σ H Q ⟨A, ρ, μ, G, s, Qp, xp, S, r, ht, hx, k⟩ => ⟨A, ρ, μ, G, s, Qp, xp, S, r, i _ _ _ _ _ ht, hx, k⟩⟩
theorem PXI.to {ti : TXI} {f : FI} (h : PXI X W tg iter ti) (i : ∀ x ρ μ Q, toI n f x ρ μ Q → ti x ρ μ Q) : PXI X W tg iter (toI n f) := by
  obtain ⟨wi, hp, hw⟩ := h.ex
  exact ⟨wi, hp, fun σ H R ⟨A, ρ, μ, G, Qp, xp, S, ht, hx, k⟩ => hw _ _ _ ⟨A, ρ, μ, G, Qp, xp, S, i _ _ _ _ ht, hx, k⟩⟩
theorem PXS.to {f : FS} (h : PXS X W st tS) (i : ∀ E ρ μ, toS n f E ρ μ → tS E ρ μ) : PXS X W st (toS n f) :=
  ⟨h.ps.imp fun D σ H ⟨A, ρ, μ, G, E, S, ht, k⟩ => ⟨A, ρ, μ, G, E, S, i _ _ _ ht, k⟩⟩
theorem PXSs.to {f : FS} (h : PXSs X W rest tS) (i : ∀ E ρ μ, toS n f E ρ μ → tS E ρ μ) : PXSs X W rest (toS n f) :=
  ⟨h.ps.imp fun D σ H ⟨A, ρ, μ, G, E, S, ht, k⟩ => ⟨A, ρ, μ, G, E, S, i _ _ _ ht, k⟩⟩
/-! ### names, constants -/
theorem pf_name (i : Nat) {x : Str} {pos : Pos} (hN : X.N[i]? = some x := by rfl) (hn : i < n := by decide) (hv : Vis X.env.scope x := by first | exact Or.inl rfl | exact Or.inr (Or.inl rfl) | exact Or.inr (Or.inr rfl)) (hd : (x == ("__debug__" : Str)) = false := by decide)
    (hcd : (x == ("__classdict__" : Str)) = false := by decide) : PX X W (.Name x pos) (toX n (fV i)) :=
  (px_name i hN hv hd hcd).to fun x ρ μ Q ⟨h, q⟩ => by
    refine ⟨by rw [h]; exact hn, ?_⟩
    unfold fV at q
    split at q
    · rename_i e; first | exact q | (rw [e]; exact q)
    · rename_i e; first | exact q | (rw [e]; exact q)
    · exact q.elim
theorem pf_c {d : D} (h : PX X W e (xC d)) : PX X W e (toX n (fC d)) := h.to fun x ρ μ Q ⟨_, q⟩ => q
/-! ### operations -/
theorem to_op {P : SV → SV → Mem → VP → Prop} {g : SV → SV → M SV} (hg : ∀ sa sb μ x Q, (g sa sb μ).fin x Q → P sa sb μ Q) (x : XP) (ρ : Env') (μ : Mem) (Q : VP) (h : toX n (fOp g fa fb) x ρ μ Q) : xOp P (toX n fa) (toX n fb) x ρ μ Q := by
  obtain ⟨hn, h⟩ := h
  exact ⟨hn, R.mono (fin_bnd.mp h) fun s μ1 h1 => ⟨hn, R.mono (fin_bnd.mp h1) fun t μ2 h2 => hg _ _ _ _ _ h2⟩⟩
theorem pf_op {P : SV → SV → Mem → VP → Prop} {g : SV → SV → M SV} (h : PX X W e (xOp P (toX n fa) (toX n fb))) (hg : ∀ sa sb μ x Q, (g sa sb μ).fin x Q → P sa sb μ Q) : PX X W e (toX n (fOp g fa fb)) := h.to (to_op hg)
theorem pf_opT {P : SV → SV → Mem → VP → Prop} {g : SV → SV → M SV} (h : PXT X W e (xTest (xOp P (toX n fa) (toX n fb)))) (hg : ∀ sa sb μ x Q, (g sa sb μ).fin x Q → P sa sb μ Q) : PXT X W e (toT n (fT (fOp g fa fb))) :=
  h.to fun x ρ μ Q h => by
    obtain ⟨hn, h⟩ := h
    refine to_op hg x ρ μ _ ⟨hn, R.mono (fin_bnd.mp h) fun s μ1 h1 => ?_⟩
    match s, h1 with
    | .d (.bl k), h1 => exact h1
theorem ok_add : ∀ sa sb μ x Q, (addF sa sb μ).fin x Q → pAddV sa sb μ Q := by
  intro sa sb μ x Q h
  unfold addF at h
  split at h
  · exact h
  · exact fin_grd h
  · exact fin_grd h
  · exact fin_grd h
  · exact fin_grd h
  · exact fin_grd h
  · rename_i h1 h2 h3 h4 h5 h6
    split at h
    · rename_i l m e1 e2
      have key : on (lstOf sa μ) fun l => on (lstOf sb μ) fun m => l.length + m.length ≤ sizeLine ∧ Q (.d (.lst (l ++ m))) μ := by
        rw [e1, e2]; exact fin_grd h
      cases sa with
      | un => exact key
      | c k => exact key
      | d a =>
        cases a <;> first | (cases e1; done) | skip
        all_goals (cases sb with
          | un => cases e2
          | c k => exact key
          | d b => cases b <;> first | (cases e2; done) | exact key)
    · exact h.elim
theorem ok_sub : ∀ sa sb μ x Q, (subF sa sb μ).fin x Q → pSubU sa sb μ Q := by
  intro sa sb μ x Q h
  unfold subF at h
  unfold pSubU
  split at h
  · exact h
  · exact h.elim
theorem ok_mul : ∀ sa sb μ x Q, (mulF sa sb μ).fin x Q → pMulW sa sb μ Q := by
  intro sa sb μ x Q h
  unfold mulF at h
  unfold pMulW pMulV pMulU
  split at h
  · exact fin_grd h
  · exact fin_grd h
  · exact fin_grd h
  · exact fin_grd h
  · rename_i j h1 h2 h3 h4
    have key : on (lstOf sa μ) fun l => (-(2 ^ 63) ≤ j ∧ j < 2 ^ 63 ∧ l.length * j.toNat ≤ sizeLine) ∧ Q (.d (.lst (List.replicate j.toNat l).flatten)) μ := by
      split at h
      · rename_i l e; rw [e]; exact fin_grd h
      · exact h.elim
    cases sa with
    | un => exact key
    | c k => exact key
    | d d => cases d <;> first | exact (h1 _ rfl).elim | exact (h2 _ rfl).elim | exact (h3 _ rfl).elim | exact (h4 _ rfl).elim | exact key
  · exact h.elim
theorem ok_mod : ∀ sa sb μ x Q, (modF sa sb μ).fin x Q → pModU sa sb μ Q := by
  intro sa sb μ x Q h
  unfold modF at h
  unfold pModU
  split at h
  · exact fin_grd h
  · exact h.elim
theorem ok_div : ∀ sa sb μ x Q, (divF sa sb μ).fin x Q → pDiv sa sb μ Q := by
  intro sa sb μ x Q h
  unfold divF at h
  unfold pDiv pII
  split at h
  · exact fin_grd h
  · exact h.elim
theorem ok_pow : ∀ sa sb μ x Q, (powF sa sb μ).fin x Q → pPow sa sb μ Q := by
  intro sa sb μ x Q h
  unfold powF at h
  unfold pPow pII
  split at h
  · exact fin_grd h
  · exact h.elim
theorem ok_lt : ∀ sa sb μ x Q, (ltF sa sb μ).fin x Q → pLtV sa sb μ Q := by
  intro sa sb μ x Q h
  unfold pLtV
  split
  · exact h
  · exact h
  · rename_i h1 h2
    unfold ltF at h
    split at h
    · rename_i e1 e2; injection e1 with e1; injection e2 with e2; exact (h1 _ _ e1 e2).elim
    · rename_i e1 e2; injection e1 with e1; injection e2 with e2; exact (h2 _ _ e1 e2).elim
    · rename_i e1 e2
      injection e1 with e1; injection e2 with e2
      subst e1; subst e2
      exact fin_grd h
    · exact h.elim
  · unfold ltF at h
    split at h
    · rename_i h4; exact (h4 _ _ rfl rfl).elim
    · rename_i h4; exact (h4 _ _ rfl rfl).elim
    · rename_i h4; exact (h4 _ _ rfl rfl).elim
    · exact h.elim
theorem ok_le : ∀ sa sb μ x Q, (leF sa sb μ).fin x Q → pLeV sa sb μ Q := by
  intro sa sb μ x Q h
  unfold pLeV
  split
  · exact h
  · exact h
  · rename_i h1 h2
    unfold leF at h
    split at h
    · rename_i e1 e2; injection e1 with e1; injection e2 with e2; exact (h1 _ _ e1 e2).elim
    · rename_i e1 e2; injection e1 with e1; injection e2 with e2; exact (h2 _ _ e1 e2).elim
    · rename_i e1 e2
      injection e1 with e1; injection e2 with e2
      subst e1; subst e2
      exact fin_grd h
    · exact h.elim
  · unfold leF at h
    split at h
    · rename_i h4; exact (h4 _ _ rfl rfl).elim
    · rename_i h4; exact (h4 _ _ rfl rfl).elim
    · rename_i h4; exact (h4 _ _ rfl rfl).elim
    · exact h.elim
theorem ok_gt : ∀ sa sb μ x Q, (gtF sa sb μ).fin x Q → pGtV sa sb μ Q := by
  intro sa sb μ x Q h
  unfold pGtV
  split
  · exact h
  · exact h
  · rename_i h1 h2
    unfold gtF at h
    split at h
    · rename_i e1 e2; injection e1 with e1; injection e2 with e2; exact (h1 _ _ e1 e2).elim
    · rename_i e1 e2; injection e1 with e1; injection e2 with e2; exact (h2 _ _ e1 e2).elim
    · rename_i e1 e2
      injection e1 with e1; injection e2 with e2
      subst e1; subst e2
      exact fin_grd h
    · exact h.elim
  · unfold gtF at h
    split at h
    · rename_i h4; exact (h4 _ _ rfl rfl).elim
    · rename_i h4; exact (h4 _ _ rfl rfl).elim
    · rename_i h4; exact (h4 _ _ rfl rfl).elim
    · exact h.elim
theorem ok_ge : ∀ sa sb μ x Q, (geF sa sb μ).fin x Q → pGeV sa sb μ Q := by
  intro sa sb μ x Q h
  unfold pGeV
  split
  · exact h
  · exact h
  · rename_i h1 h2
    unfold geF at h
    split at h
    · rename_i e1 e2; injection e1 with e1; injection e2 with e2; exact (h1 _ _ e1 e2).elim
    · rename_i e1 e2; injection e1 with e1; injection e2 with e2; exact (h2 _ _ e1 e2).elim
    · rename_i e1 e2
      injection e1 with e1; injection e2 with e2
      subst e1; subst e2
      exact fin_grd h
    · exact h.elim
  · unfold geF at h
    split at h
    · rename_i h4; exact (h4 _ _ rfl rfl).elim
    · rename_i h4; exact (h4 _ _ rfl rfl).elim
    · rename_i h4; exact (h4 _ _ rfl rfl).elim
    · exact h.elim
theorem ok_ilt : ∀ sa sb μ x Q, (iltF sa sb μ).fin x Q → pLt sa sb μ Q := by
  intro sa sb μ x Q h
  unfold iltF at h
  unfold pLt pI0
  split at h <;> first | exact h | exact h.elim
theorem ok_ile : ∀ sa sb μ x Q, (ileF sa sb μ).fin x Q → pLe sa sb μ Q := by
  intro sa sb μ x Q h
  unfold ileF at h
  unfold pLe pI0
  split at h <;> first | exact h | exact h.elim
theorem ok_eq : ∀ sa sb μ x Q, (eqF sa sb μ).fin x Q → pEqU sa sb μ Q := by
  intro sa sb μ x Q h
  unfold pEqU
  split
  · exact h
  · exact h
  · rename_i h1 h2
    unfold eqF at h
    split at h
    · rename_i e1 e2; injection e1 with e1; injection e2 with e2; exact (h1 _ _ e1 e2).elim
    · rename_i e1 e2; injection e1 with e1; injection e2 with e2; exact (h2 _ _ e1 e2).elim
    · rename_i e1 e2
      injection e1 with e1; injection e2 with e2
      subst e1; subst e2
      exact fin_grd h
    · exact h.elim
  · unfold eqF at h
    split at h
    · rename_i h4; exact (h4 _ _ rfl rfl).elim
    · rename_i h4; exact (h4 _ _ rfl rfl).elim
    · rename_i h4; exact (h4 _ _ rfl rfl).elim
    · exact h.elim
theorem ok_ne : ∀ sa sb μ x Q, (neF sa sb μ).fin x Q → pNeU sa sb μ Q := by
  intro sa sb μ x Q h
  unfold pNeU
  split
  · exact h
  · exact h
  · rename_i h1 h2
    unfold neF at h
    split at h
    · rename_i e1 e2; injection e1 with e1; injection e2 with e2; exact (h1 _ _ e1 e2).elim
    · rename_i e1 e2; injection e1 with e1; injection e2 with e2; exact (h2 _ _ e1 e2).elim
    · rename_i e1 e2
      injection e1 with e1; injection e2 with e2
      subst e1; subst e2
      exact fin_grd h
    · exact h.elim
  · unfold neF at h
    split at h
    · rename_i h4; exact (h4 _ _ rfl rfl).elim
    · rename_i h4; exact (h4 _ _ rfl rfl).elim
    · rename_i h4; exact (h4 _ _ rfl rfl).elim
    · exact h.elim
theorem ok_in : ∀ sa sb μ x Q, (inF sa sb μ).fin x Q → pInU sa sb μ Q := by
  intro sa sb μ x Q h
  have h : (inO μ sa sb).fin x fun k μ' => Q (.d (.bl k)) μ' := by
    unfold inF at h
    cases e : inO μ sa sb <;> rw [e] at h <;> exact h
  unfold inO at h
  unfold pInU
  split at h
  · exact fin_grd h
  · exact fin_grd h
  · exact fin_grd h
  · exact fin_grd h
  · rename_i x z _
    split at h
    · rename_i c e
      refine ⟨c, ?_, h⟩
      cases x with
      | mk cps => simp only at e; congr 1; exact Array.toList_inj.mp (by simpa using e)
    · exact h.elim
  · split at h
    · rename_i e; first | exact fin_grd h | (simp only [e]; exact fin_grd h)
    · rename_i e; first | exact fin_grd h | (simp only [e]; exact fin_grd h)
    · rename_i e; first | exact fin_grd h | (simp only [e]; exact fin_grd h)
    · exact h.elim
  · exact h.elim
theorem ok_ni : ∀ sa sb μ x Q, (niF sa sb μ).fin x Q → pNiU sa sb μ Q := by
  intro sa sb μ x Q h
  have h : (inO μ sa sb).fin x fun k μ' => Q (.d (.bl (!k))) μ' := by
    unfold niF at h
    cases e : inO μ sa sb <;> rw [e] at h <;> exact h
  unfold inO at h
  unfold pNiU
  split at h
  · exact fin_grd h
  · exact fin_grd h
  · exact fin_grd h
  · exact fin_grd h
  · rename_i x z _
    split at h
    · rename_i c e
      refine ⟨c, ?_, h⟩
      cases x with
      | mk cps => simp only at e; congr 1; exact Array.toList_inj.mp (by simpa using e)
    · exact h.elim
  · split at h
    · rename_i e; first | exact fin_grd h | (simp only [e]; exact fin_grd h)
    · rename_i e; first | exact fin_grd h | (simp only [e]; exact fin_grd h)
    · rename_i e; first | exact fin_grd h | (simp only [e]; exact fin_grd h)
    · exact h.elim
  · exact h.elim
theorem ok_isB : ∀ sa sb μ x Q, (isBF sa sb μ).fin x Q → pIsB false sa sb μ Q := by
  intro sa sb μ x Q h
  unfold isBF at h
  unfold pIsB
  split at h <;> first | exact h | exact h.elim
theorem ok_notB : ∀ sa sb μ x Q, (notBF sa sb μ).fin x Q → pIsB true sa sb μ Q := by
  intro sa sb μ x Q h
  unfold notBF at h
  unfold pIsB
  split at h <;> first | exact h | exact h.elim
theorem ok_ix : ∀ sa sb μ x Q, (ixF sa sb μ).fin x Q → pIx sa sb μ Q := by
  intro sa sb μ x Q h
  unfold ixF at h
  unfold pIx
  split at h
  · split at h
    · rename_i e; show on _ _; rw [e]; exact h
    · exact h.elim
  · exact h.elim
theorem ok_dget : ∀ sa sb μ x Q, (dgetF sa sb μ).fin x Q → pDGet sa sb μ Q := by
  intro sa sb μ x Q h
  unfold dgetF at h
  unfold pDGet
  split at h
  · split at h
    · rename_i e
      show on _ _
      rw [e]
      obtain ⟨h1, h2⟩ := fin_grd h
      refine ⟨h1, ?_⟩
      split at h2
      · rename_i e2; rw [e2]; exact h2
      · exact h2.elim
    · exact h.elim
  · exact h.elim
variable (ha : PX X W a (toX n fa)) (hb : PX X W b (toX n fb)) (hc : PX X W c (toX n fc))
include ha hb
theorem pf_add : PX X W (.BinOp a .Add b pos) (toX n (fOp addF fa fb)) := pf_op (px_addV ha hb) ok_add
theorem pf_sub : PX X W (.BinOp a .Sub b pos) (toX n (fOp subF fa fb)) := pf_op (px_subU ha hb) ok_sub
theorem pf_mul : PX X W (.BinOp a .Mult b pos) (toX n (fOp mulF fa fb)) := pf_op (px_mulW ha hb) ok_mul
theorem pf_mod : PX X W (.BinOp a .Mod b pos) (toX n (fOp modF fa fb)) := pf_op (px_modU ha hb) ok_mod
theorem pf_div : PX X W (.BinOp a .FloorDiv b pos) (toX n (fOp divF fa fb)) := pf_op (px_divI ha hb) ok_div
theorem pf_pow : PX X W (.BinOp a .Pow b pos) (toX n (fOp powF fa fb)) := pf_op (px_powI ha hb) ok_pow
theorem pf_lt (hu : X.A.units + 64 < cLine) : PX X W (.Compare a [.Lt] [b] pos) (toX n (fOp ltF fa fb)) := pf_op (px_ltV hu ha hb) ok_lt
theorem pf_le (hu : X.A.units + 64 < cLine) : PX X W (.Compare a [.LtE] [b] pos) (toX n (fOp leF fa fb)) := pf_op (px_leV hu ha hb) ok_le
theorem pf_gt (hu : X.A.units + 64 < cLine) : PX X W (.Compare a [.Gt] [b] pos) (toX n (fOp gtF fa fb)) := pf_op (px_gtV hu ha hb) ok_gt
theorem pf_ge (hu : X.A.units + 64 < cLine) : PX X W (.Compare a [.GtE] [b] pos) (toX n (fOp geF fa fb)) := pf_op (px_geV hu ha hb) ok_ge
theorem pf_eq (hu : X.A.units + 64 < cLine) : PX X W (.Compare a [.Eq] [b] pos) (toX n (fOp eqF fa fb)) := pf_op (px_eqU hu ha hb) ok_eq
theorem pf_ne (hu : X.A.units + 64 < cLine) : PX X W (.Compare a [.NotEq] [b] pos) (toX n (fOp neF fa fb)) := pf_op (px_neU hu ha hb) ok_ne
theorem pf_in (hu : X.A.units + 64 < cLine) (hm : behindInMarks .In b = false := by first | exact nomark _ | rfl) : PX X W (.Compare a [.In] [b] pos) (toX n (fOp inF fa fb)) := pf_op (px_inU hu ha hb hm) ok_in
theorem pf_notin (hu : X.A.units + 64 < cLine) (hm : behindInMarks .NotIn b = false := by first | exact nomark _ | rfl) : PX X W (.Compare a [.NotIn] [b] pos) (toX n (fOp niF fa fb)) := pf_op (px_notinU hu ha hb hm) ok_ni
theorem pf_isB (hm : behindInMarks .Is b = false := by first | exact nomark _ | rfl) : PX X W (.Compare a [.Is] [b] pos) (toX n (fOp isBF fa fb)) := pf_op (px_isB ha hb hm) ok_isB
theorem pf_notB (hm : behindInMarks .IsNot b = false := by first | exact nomark _ | rfl) : PX X W (.Compare a [.IsNot] [b] pos) (toX n (fOp notBF fa fb)) := pf_op (px_notB ha hb hm) ok_notB
theorem pft_lt (hu : X.A.units + 64 < cLine) : PXT X W (.Compare a [.Lt] [b] pos) (toT n (fT (fOp ltF fa fb))) := pf_opT (pxt_ltV hu ha hb) ok_lt
theorem pft_le (hu : X.A.units + 64 < cLine) : PXT X W (.Compare a [.LtE] [b] pos) (toT n (fT (fOp leF fa fb))) := pf_opT (pxt_leV hu ha hb) ok_le
theorem pft_gt (hu : X.A.units + 64 < cLine) : PXT X W (.Compare a [.Gt] [b] pos) (toT n (fT (fOp gtF fa fb))) := pf_opT (pxt_gtV hu ha hb) ok_gt
theorem pft_ge (hu : X.A.units + 64 < cLine) : PXT X W (.Compare a [.GtE] [b] pos) (toT n (fT (fOp geF fa fb))) := pf_opT (pxt_geV hu ha hb) ok_ge
theorem pft_eq (hu : X.A.units + 64 < cLine) : PXT X W (.Compare a [.Eq] [b] pos) (toT n (fT (fOp eqF fa fb))) := pf_opT (pxt_eqU hu ha hb) ok_eq
theorem pft_ne (hu : X.A.units + 64 < cLine) : PXT X W (.Compare a [.NotEq] [b] pos) (toT n (fT (fOp neF fa fb))) := pf_opT (pxt_neU hu ha hb) ok_ne
theorem pft_in (hu : X.A.units + 64 < cLine) (hm : behindInMarks .In b = false := by first | exact nomark _ | rfl) : PXT X W (.Compare a [.In] [b] pos) (toT n (fT (fOp inF fa fb))) := pf_opT (pxt_inU hu ha hb hm) ok_in
theorem pft_notin (hu : X.A.units + 64 < cLine) (hm : behindInMarks .NotIn b = false := by first | exact nomark _ | rfl) : PXT X W (.Compare a [.NotIn] [b] pos) (toT n (fT (fOp niF fa fb))) := pf_opT (pxt_notinU hu ha hb hm) ok_ni
theorem pft_isB (hm : behindInMarks .Is b = false := by first | exact nomark _ | rfl) : PXT X W (.Compare a [.Is] [b] pos) (toT n (fT (fOp isBF fa fb))) := pf_opT (pxt_isB ha hb hm) ok_isB
theorem pft_notB (hm : behindInMarks .IsNot b = false := by first | exact nomark _ | rfl) : PXT X W (.Compare a [.IsNot] [b] pos) (toT n (fT (fOp notBF fa fb))) := pf_opT (pxt_notB ha hb hm) ok_notB
theorem pf_ix (hs : PlainIx b := by intro _ _; rfl) : PX X W (.Subscript a b pos) (toX n (fOp ixF fa fb)) := pf_op (px_ix ha hb hs) ok_ix
theorem pf_dget (hu : X.A.units + 1 < cLine) (hs : NoSl b := by intro _ _; rfl) : PX X W (.Subscript a b pos) (toX n (fOp dgetF fa fb)) := pf_op (px_dget hu ha hb hs) ok_dget
include hc
theorem to_chain {P P' : SV → SV → Mem → VP → Prop} {g g' : SV → SV → M SV} (hg : ∀ sa sb μ x Q, (g sa sb μ).fin x Q → P sa sb μ Q) (hg' : ∀ sa sb μ x Q, (g' sa sb μ).fin x Q → P' sa sb μ Q) (x : XP) (ρ : Env') (μ : Mem) (Q : VP) (h : toX n (fChain g g' fa fb fc) x ρ μ Q) : xChain P P' (toX n fa) (toX n fb) (toX n fc) x ρ μ Q := by
  obtain ⟨hn, h⟩ := h
  refine ⟨hn, R.mono (fin_bnd.mp h) fun s μ1 h1 => ⟨hn, R.mono (fin_bnd.mp h1) fun t μ2 h2 => hg _ _ _ _ _ (R.mono (fin_bnd.mp (fin_bnd.mp h2)) fun z μ3 h3 => ?_)⟩⟩
  match z, h3 with
  | .d (.bl true), h3 => exact ⟨hn, R.mono (fin_bnd.mp h3) fun u μ4 h4 => hg' _ _ _ _ _ h4⟩
  | .d (.bl false), h3 => exact h3
end
section
variable {X : Cx} {W : WX} {a b c e o i tg iter elt tg1 iter1 : Expr} {es ifs ifs1 : List Expr} {t : TX} {tt : TXT} {tA : TXA} {tS : TXS} {n : Nat} {fa fb fc fe fo fi : FX} {ft fu : FT} {fl fk : FA} {pos p apos cpos tpos p2 pos' ppos : Pos} {x : Str} {st : Stmt} {rest : List Stmt} {kk : Nat} {elts : List Expr}
theorem to_test {f : FX} {t : TX} (i : ∀ x ρ μ Q, toX n f x ρ μ Q → t x ρ μ Q) (x : XP) (ρ : Env') (μ : Mem) (Q : Bool → Mem → Prop) (h : toT n (fT f) x ρ μ Q) : xTest t x ρ μ Q := by
  obtain ⟨hn, h⟩ := h
  refine i _ _ _ _ ⟨hn, R.mono (fin_bnd.mp h) fun s μ1 h1 => ?_⟩
  match s, h1 with
  | .d (.bl k), h1 => exact h1
section
variable (ha : PX X W a (toX n fa)) (hb : PX X W b (toX n fb)) (hc : PX X W c (toX n fc))
include ha hb hc
theorem pf_ltlt (hm : lastMarks [.Lt, .Lt] [b, c] = false := by with_unfolding_all rfl) : PX X W (.Compare a [.Lt, .Lt] [b, c] pos) (toX n (fChain iltF iltF fa fb fc)) := (px_ltltI ha hb hc hm).to (to_chain ha hb hc ok_ilt ok_ilt)
theorem pf_lelt (hm : lastMarks [.LtE, .Lt] [b, c] = false := by with_unfolding_all rfl) : PX X W (.Compare a [.LtE, .Lt] [b, c] pos) (toX n (fChain ileF iltF fa fb fc)) := (px_leltI ha hb hc hm).to (to_chain ha hb hc ok_ile ok_ilt)
theorem pf_lele (hm : lastMarks [.LtE, .LtE] [b, c] = false := by with_unfolding_all rfl) : PX X W (.Compare a [.LtE, .LtE] [b, c] pos) (toX n (fChain ileF ileF fa fb fc)) := (px_leleI ha hb hc hm).to (to_chain ha hb hc ok_ile ok_ile)
theorem pf_ltle (hm : lastMarks [.Lt, .LtE] [b, c] = false := by with_unfolding_all rfl) : PX X W (.Compare a [.Lt, .LtE] [b, c] pos) (toX n (fChain iltF ileF fa fb fc)) := (px_chain op_lt (pop_I0 fun _ _ _ => .bl _) op_le (pop_I0 fun _ _ _ => .bl _) ha hb hc hm).to (to_chain ha hb hc ok_ilt ok_ile)
theorem pft_ltlt (hm : lastMarks [.Lt, .Lt] [b, c] = false := by with_unfolding_all rfl) : PXT X W (.Compare a [.Lt, .Lt] [b, c] pos) (toT n (fT (fChain iltF iltF fa fb fc))) := (pxt_ltltI ha hb hc hm).to (to_test (to_chain ha hb hc ok_ilt ok_ilt))
theorem pft_lelt (hm : lastMarks [.LtE, .Lt] [b, c] = false := by with_unfolding_all rfl) : PXT X W (.Compare a [.LtE, .Lt] [b, c] pos) (toT n (fT (fChain ileF iltF fa fb fc))) := (pxt_leltI ha hb hc hm).to (to_test (to_chain ha hb hc ok_ile ok_ilt))
theorem pft_lele (hm : lastMarks [.LtE, .LtE] [b, c] = false := by with_unfolding_all rfl) : PXT X W (.Compare a [.LtE, .LtE] [b, c] pos) (toT n (fT (fChain ileF ileF fa fb fc))) := (pxt_leleI ha hb hc hm).to (to_test (to_chain ha hb hc ok_ile ok_ile))
theorem pft_ltle (hm : lastMarks [.Lt, .LtE] [b, c] = false := by with_unfolding_all rfl) : PXT X W (.Compare a [.Lt, .LtE] [b, c] pos) (toT n (fT (fChain iltF ileF fa fb fc))) := (pxt_chain op_lt (pop_I0 fun _ _ _ => .bl _) op_le (pop_I0 fun _ _ _ => .bl _) ha hb hc hm).to (to_test (to_chain ha hb hc ok_ilt ok_ile))
end
end
end PL
/-! The F-layer: tests, arguments, calls of built-ins, what is walked, targets. -/
namespace PL
open PySem PySem.Spec PyProof.Rows L2 RZ
section
variable {X : Cx} {W : WX} {a b c e o i tg iter elt tg1 iter1 : Expr} {es ifs ifs1 : List Expr} {t : TX} {tt : TXT} {tA : TXA} {tS : TXS} {n : Nat} {fa fb fc fe fo fi : FX} {ft fu : FT} {fl fk : FA} {pos p apos cpos tpos p2 pos' ppos : Pos} {x : Str} {st : Stmt} {rest : List Stmt} {kk : Nat} {elts : List Expr} {nm : Option Str} {kpos : Pos} {kws : List Keyword}
/-! ### and, or, not, if -/
theorem pft_val (h : PX X W e (toX n fa)) (he : ∀ whole, isTrue e X.env whole = (do let v ← whole; standAt e.pos; holding [v] (truthy v)) := by intro _; rfl) : PXT X W e (toT n (fT fa)) :=
  (pxt_val h he).to (to_test fun _ _ _ _ h => h)
theorem pft_isN {j pos'} (ha : PX X W a (toX n fa)) : PXT X W (.Compare a [.Is] [.Constant .none j pos'] pos) (toT n (fT (fUn isNF fa))) :=
  (pxt_isN ha).to fun x ρ μ Q ⟨hn, h⟩ => ⟨hn, R.mono (fin_bnd.mp (fin_bnd.mp h)) fun s μ1 h1 => by
    cases s with
    | un => exact h1
    | c k => exact h1
    | d d => cases d <;> exact h1⟩
theorem pft_notN {j pos'} (ha : PX X W a (toX n fa)) : PXT X W (.Compare a [.IsNot] [.Constant .none j pos'] pos) (toT n (fT (fUn notNF fa))) :=
  (pxt_notN ha).to fun x ρ μ Q ⟨hn, h⟩ => ⟨hn, R.mono (fin_bnd.mp (fin_bnd.mp h)) fun s μ1 h1 => by
    cases s with
    | un => exact h1
    | c k => exact h1
    | d d => cases d <;> exact h1⟩
theorem pf_isN {j pos'} (ha : PX X W a (toX n fa)) : PX X W (.Compare a [.Is] [.Constant .none j pos'] pos) (toX n (fUn isNF fa)) :=
  (px_isN ha).to fun x ρ μ Q ⟨hn, h⟩ => ⟨hn, R.mono (fin_bnd.mp h) fun s μ1 h1 => by
    cases s with
    | un => exact h1
    | c k => exact h1
    | d d => cases d <;> exact h1⟩
theorem pf_notN {j pos'} (ha : PX X W a (toX n fa)) : PX X W (.Compare a [.IsNot] [.Constant .none j pos'] pos) (toX n (fUn notNF fa)) :=
  (px_notN ha).to fun x ρ μ Q ⟨hn, h⟩ => ⟨hn, R.mono (fin_bnd.mp h) fun s μ1 h1 => by
    cases s with
    | un => exact h1
    | c k => exact h1
    | d d => cases d <;> exact h1⟩
theorem pfw_and1 (ha : PXT X W a (toT n ft)) : PXW X W (.BoolOp .And [a] pos) (toT n ft) := pxw_and1 ha
theorem pfw_or1 (ha : PXT X W a (toT n ft)) : PXW X W (.BoolOp .Or [a] pos) (toT n ft) := pxw_or1 ha
theorem pfw_and (ha : PXT X W a (toT n ft)) (hb : PXW X W (.BoolOp .And (b :: es) pos) (toT n fu)) : PXW X W (.BoolOp .And (a :: b :: es) pos) (toT n (fTAnd ft fu)) :=
  (pxw_and ha hb).to fun x ρ μ Q ⟨hn, h⟩ => ⟨hn, R.mono (fin_bnd.mp h) fun k μ1 h1 => by
    cases k with
    | true => exact ⟨hn, h1⟩
    | false => exact h1⟩
theorem pfw_or (ha : PXT X W a (toT n ft)) (hb : PXW X W (.BoolOp .Or (b :: es) pos) (toT n fu)) : PXW X W (.BoolOp .Or (a :: b :: es) pos) (toT n (fTOr ft fu)) :=
  (pxw_or ha hb).to fun x ρ μ Q ⟨hn, h⟩ => ⟨hn, R.mono (fin_bnd.mp h) fun k μ1 h1 => by
    cases k with
    | true => exact h1
    | false => exact ⟨hn, h1⟩⟩
theorem pft_not (ha : PXT X W a (toT n ft)) : PXT X W (.UnaryOp .Not a pos) (toT n (fTNot ft)) :=
  (pxt_not ha).to fun x ρ μ Q ⟨hn, h⟩ => ⟨hn, R.mono (fin_bnd.mp h) fun k μ1 h1 => h1⟩
theorem pf_one {op} (h : PX X W a (toX n fa)) : PX X W (.BoolOp op [a] pos) (toX n fa) := px_one h
theorem pf_and (ha : PX X W a (toX n fa)) (hb : PX X W (.BoolOp .And (b :: es) pos) (toX n fb)) : PX X W (.BoolOp .And (a :: b :: es) pos) (toX n (fAnd fa fb)) :=
  (px_and ha hb).to fun x ρ μ Q ⟨hn, h⟩ => ⟨hn, R.mono (fin_bnd.mp (fin_bnd.mp h)) fun s μ1 h1 => by
    match s, h1 with
    | .d (.bl true), h1 => exact ⟨hn, h1⟩
    | .d (.bl false), h1 => exact h1⟩
theorem pf_or (ha : PX X W a (toX n fa)) (hb : PX X W (.BoolOp .Or (b :: es) pos) (toX n fb)) : PX X W (.BoolOp .Or (a :: b :: es) pos) (toX n (fOr fa fb)) :=
  (px_or ha hb).to fun x ρ μ Q ⟨hn, h⟩ => ⟨hn, R.mono (fin_bnd.mp (fin_bnd.mp h)) fun s μ1 h1 => by
    match s, h1 with
    | .d (.bl true), h1 => exact h1
    | .d (.bl false), h1 => exact ⟨hn, h1⟩⟩
theorem pf_not (ha : PX X W a (toX n fa)) : PX X W (.UnaryOp .Not a pos) (toX n (fNot fa)) :=
  (px_not ha).to fun x ρ μ Q ⟨hn, h⟩ => ⟨hn, R.mono (fin_bnd.mp (fin_bnd.mp h)) fun s μ1 h1 => by
    match s, h1 with
    | .d (.bl k), h1 => exact h1⟩
theorem pf_neg (ha : PX X W a (toX n fa)) : PX X W (.UnaryOp .USub a pos) (toX n (fUn negF fa)) :=
  (px_neg ha).to fun x ρ μ Q ⟨hn, h⟩ => ⟨hn, R.mono (fin_bnd.mp h) fun s μ1 h1 => by
    unfold negF at h1
    split at h1 <;> first | exact h1 | exact h1.elim⟩
theorem pf_if (hc : PXT X W c (toT n ft)) (ha : PX X W a (toX n fa)) (hb : PX X W b (toX n fb)) : PX X W (.IfExp c a b pos) (toX n (fIf ft fa fb)) :=
  (px_if hc ha hb).to fun x ρ μ Q ⟨hn, h⟩ => ⟨hn, R.mono (fin_bnd.mp h) fun k μ1 h1 => by
    cases k with
    | true => exact ⟨hn, h1⟩
    | false => exact ⟨hn, h1⟩⟩
/-! ### arguments, displays, calls of built-ins -/
theorem pfa_nil : PXA X W [] (toA n fNil) := pxa_nil.to fun x ρ μ Q ⟨hn, h⟩ => h
theorem pfa_cons (ha : PX X W e (toX n fa)) (hr : PXA X W es (toA n fl)) (hs : starEach (e :: es) X.env = (false, eval e X.env) :: starEach es X.env := by rfl) : PXA X W (e :: es) (toA n (fCons fa fl)) :=
  (pxa_cons ha hr hs).to fun x ρ μ Q ⟨hn, h⟩ => ⟨hn, R.mono (fin_bnd.mp h) fun s μ1 h1 => ⟨hn, R.mono (fin_bnd.mp h1) fun ss μ2 h2 => h2⟩⟩
theorem pfk_nil : PXK X W [] (toA n fNil) := pxk_nil.to fun x ρ μ Q ⟨hn, h⟩ => h
theorem pfk_cons (ha : PX X W e (toX n fa)) (hr : PXK X W kws (toA n fl)) : PXK X W (⟨nm, e, kpos⟩ :: kws) (toA n (fCons fa fl)) :=
  (pxk_cons ha hr).to fun x ρ μ Q ⟨hn, h⟩ => ⟨hn, R.mono (fin_bnd.mp h) fun s μ1 h1 => ⟨hn, R.mono (fin_bnd.mp h1) fun ss μ2 h2 => h2⟩⟩
theorem fin_allM {o : Option (List D)} {q : List D → M SV} {μ : Mem} {x : XP} {Q : VP} (h : (allM o q μ).fin x Q) : ∃ ds, o = some ds ∧ (q ds μ).fin x Q := by
  cases o with
  | none => exact h.elim
  | some ds => exact ⟨ds, rfl, h⟩
theorem pf_tup {x1} (h : PXA X W es (toA n fl)) : PX X W (.Tuple es x1 pos) (toX n (fTup fl)) :=
  (px_tup h).to fun x ρ μ Q ⟨hn, h⟩ => ⟨hn, R.mono (fin_bnd.mp h) fun ss μ1 h1 => by
    obtain ⟨ds, e, h2⟩ := fin_allM h1
    rw [e]; exact fin_grd h2⟩
theorem pf_lst (h : PXA X W es (toA n fl)) : PX X W (.List es pos) (toX n (fLst fl)) :=
  (px_lst h).to fun x ρ μ Q ⟨hn, h⟩ => ⟨hn, R.mono (fin_bnd.mp h) fun ss μ1 h1 => by
    obtain ⟨ds, e, h2⟩ := fin_allM h1
    rw [e]; exact fin_grd h2⟩
theorem pf_lstC (h : PXA X W es (toA n fl)) : PX X W (.List es pos) (toX n (fLstC fl)) :=
  (px_lstC h).to fun x ρ μ Q ⟨hn, h⟩ => ⟨hn, R.mono (fin_bnd.mp h) fun ss μ1 h1 => by
    obtain ⟨ds, e, h2⟩ := fin_allM h1
    rw [e]; exact fin_grd h2⟩
theorem pf_call {P : List SV → Mem → VP → Prop} {g : List SV → M SV} (h : PX X W e (xCall P (toA n fl))) (hg : ∀ ss μ x Q, (g ss μ).fin x Q → P ss μ Q) : PX X W e (toX n (fCall g fl)) :=
  h.to fun x ρ μ Q ⟨hn, h⟩ => ⟨hn, R.mono (fin_bnd.mp h) fun ss μ1 h1 => hg _ _ _ _ h1⟩
theorem ok_len : ∀ ss μ x Q, (lenF ss μ).fin x Q → pLen ss μ Q := by
  intro ss μ x Q h
  unfold lenF at h
  unfold pLen
  split at h
  · split at h
    · rename_i e; show on _ _; rw [e]; exact h
    · exact h.elim
  · exact h.elim
theorem ok_all : ∀ ss μ x Q, (allF ss μ).fin x Q → pAll ss μ Q := by
  intro ss μ x Q h
  unfold allF at h
  unfold pAll
  split at h
  · split at h
    · rename_i e; show on _ _; rw [e]; exact h
    · exact h.elim
  · exact h.elim
theorem ok_any : ∀ ss μ x Q, (anyF ss μ).fin x Q → pAny ss μ Q := by
  intro ss μ x Q h
  unfold anyF at h
  unfold pAny
  split at h
  · split at h
    · rename_i e; show on _ _; rw [e]; exact h
    · exact h.elim
  · exact h.elim
theorem ok_tup : ∀ ss μ x Q, (tupF ss μ).fin x Q → pTupN ss μ Q := by
  intro ss μ x Q h
  unfold tupF at h
  unfold pTupN
  split at h
  · split at h
    · rename_i e; first | exact h | (simp only [e]; exact h)
    · rename_i e
      try simp only [e]
      split at h
      · rename_i e2; rw [e2]; exact ⟨rfl, h⟩
      · exact h.elim
  · exact h.elim
theorem ok_list : ∀ ss μ x Q, (listF ss μ).fin x Q → pListOf false ss μ Q := by
  intro ss μ x Q h
  unfold listF at h
  unfold pListOf
  split at h
  · split at h
    · rename_i e; show on _ _; rw [e]; exact h
    · exact h.elim
  · exact h.elim
theorem ok_listC : ∀ ss μ x Q, (listCF ss μ).fin x Q → pListOf true ss μ Q := by
  intro ss μ x Q h
  unfold listCF at h
  unfold pListOf
  split at h
  · split at h
    · rename_i e; show on _ _; rw [e]; exact h
    · exact h.elim
  · exact h.elim
theorem ok_sorted : ∀ ss μ x Q, (sortedF ss μ).fin x Q → pSorted ss μ Q := by
  intro ss μ x Q h
  unfold sortedF at h
  unfold pSorted
  split at h
  · split at h
    · rename_i e; show on _ _; rw [e]; exact fin_grd h
    · exact h.elim
  · exact h.elim
theorem ok_int : ∀ ss μ x Q, (intF ss μ).fin x Q → pInt ss μ Q := by
  intro ss μ x Q h
  unfold intF at h
  unfold pInt
  split at h <;> first | exact h | exact h.elim
theorem ok_abs : ∀ ss μ x Q, (absF ss μ).fin x Q → pAbs ss μ Q := by
  intro ss μ x Q h
  unfold absF at h
  unfold pAbs
  split at h <;> first | exact h | exact h.elim
theorem ok_divmod : ∀ ss μ x Q, (divmodF ss μ).fin x Q → pDivmod ss μ Q := by
  intro ss μ x Q h
  unfold divmodF at h
  unfold pDivmod
  split at h <;> first | exact fin_grd h | exact h.elim
theorem ok_max : ∀ ss μ x Q, (maxF ss μ).fin x Q → pmaxU ss μ Q := by
  intro ss μ x Q h
  unfold maxF at h
  unfold pmaxU
  split at h <;> first | exact h | exact fin_grd h | exact h.elim
theorem ok_min : ∀ ss μ x Q, (minF ss μ).fin x Q → pminU ss μ Q := by
  intro ss μ x Q h
  unfold minF at h
  unfold pminU
  split at h <;> first | exact h | exact fin_grd h | exact h.elim
section
variable (hl : PXA X W [e] (toA n fl)) (he : starEach [e] X.env = (false, eval e X.env) :: starEach [] X.env := by rfl)
theorem pf_len (hg : Gl X "len") (hm : X.mg "len" = none) (hl : PXA X W [e] (toA n fl)) (he : starEach [e] X.env = (false, eval e X.env) :: starEach [] X.env := by rfl) : PX X W (.Call (.Name "len" p) [e] [] pos) (toX n (fCall lenF fl)) := pf_call (px_len hg hm hl he) ok_len
theorem pf_all (hc : X.calm = true) (hg : Gl X "all") (hm : X.mg "all" = none) (hl : PXA X W [e] (toA n fl)) (he : starEach [e] X.env = (false, eval e X.env) :: starEach [] X.env := by rfl) : PX X W (.Call (.Name "all" p) [e] [] pos) (toX n (fCall allF fl)) := pf_call (px_all hc hg hm hl he) ok_all
theorem pf_any (hc : X.calm = true) (hg : Gl X "any") (hm : X.mg "any" = none) (hl : PXA X W [e] (toA n fl)) (he : starEach [e] X.env = (false, eval e X.env) :: starEach [] X.env := by rfl) : PX X W (.Call (.Name "any" p) [e] [] pos) (toX n (fCall anyF fl)) := pf_call (px_any hc hg hm hl he) ok_any
theorem pf_tuple (hg : Gl X "tuple") (hm : X.mg "tuple" = none) (hl : PXA X W [e] (toA n fl)) (he : starEach [e] X.env = (false, eval e X.env) :: starEach [] X.env := by rfl) : PX X W (.Call (.Name "tuple" p) [e] [] pos) (toX n (fCall tupF fl)) := pf_call (px_tupleN hg hm hl he) ok_tup
theorem pf_list (hg : Gl X "list") (hm : X.mg "list" = none) (hl : PXA X W [e] (toA n fl)) (he : starEach [e] X.env = (false, eval e X.env) :: starEach [] X.env := by rfl) : PX X W (.Call (.Name "list" p) [e] [] pos) (toX n (fCall listF fl)) := pf_call (px_list false hg hm hl he) ok_list
theorem pf_listC (hg : Gl X "list") (hm : X.mg "list" = none) (hl : PXA X W [e] (toA n fl)) (he : starEach [e] X.env = (false, eval e X.env) :: starEach [] X.env := by rfl) : PX X W (.Call (.Name "list" p) [e] [] pos) (toX n (fCall listCF fl)) := pf_call (px_list true hg hm hl he) ok_listC
theorem pf_sorted (hu : X.A.units + 64 < cLine) (hg : Gl X "sorted") (hm : X.mg "sorted" = none) (hl : PXA X W [e] (toA n fl)) (he : starEach [e] X.env = (false, eval e X.env) :: starEach [] X.env := by rfl) : PX X W (.Call (.Name "sorted" p) [e] [] pos) (toX n (fCall sortedF fl)) := pf_call (px_sorted hu hg hm hl he) ok_sorted
theorem pf_intc (hg : Gl X "int") (hm : X.mg "int" = none) (hl : PXA X W [e] (toA n fl)) (he : starEach [e] X.env = (false, eval e X.env) :: starEach [] X.env := by rfl) : PX X W (.Call (.Name "int" p) [e] [] pos) (toX n (fCall intF fl)) := pf_call (px_intc hg hm hl he) ok_int
theorem pf_abs (hg : Gl X "abs") (hm : X.mg "abs" = none) (hl : PXA X W [e] (toA n fl)) (he : starEach [e] X.env = (false, eval e X.env) :: starEach [] X.env := by rfl) : PX X W (.Call (.Name "abs" p) [e] [] pos) (toX n (fCall absF fl)) := pf_call (px_abs hg hm hl he) ok_abs
end
theorem pf_divmod (hg : Gl X "divmod") (hm : X.mg "divmod" = none) (hl : PXA X W [a, b] (toA n fl)) (he : starEach [a, b] X.env = (false, eval a X.env) :: starEach [b] X.env := by rfl) (hpl : (backTo pos (starEach [b] X.env)).any (·.1) = false := by rfl) : PX X W (.Call (.Name "divmod" p) [a, b] [] pos) (toX n (fCall divmodF fl)) := pf_call (px_divmod hg hm hl he hpl) ok_divmod
theorem pf_max (hu : X.A.units + 64 < cLine) (hc : X.calm = true) (hg : Gl X "max") (hm : X.mg "max" = none) (hl : PXA X W [a, b] (toA n fl)) (he : starEach [a, b] X.env = (false, eval a X.env) :: starEach [b] X.env := by rfl) (hpl : (backTo pos (starEach [b] X.env)).any (·.1) = false := by rfl) : PX X W (.Call (.Name "max" p) [a, b] [] pos) (toX n (fCall maxF fl)) := pf_call (px_maxU hu hc hg hm hl he hpl) ok_max
theorem pf_min (hu : X.A.units + 64 < cLine) (hc : X.calm = true) (hg : Gl X "min") (hm : X.mg "min" = none) (hl : PXA X W [a, b] (toA n fl)) (he : starEach [a, b] X.env = (false, eval a X.env) :: starEach [b] X.env := by rfl) (hpl : (backTo pos (starEach [b] X.env)).any (·.1) = false := by rfl) : PX X W (.Call (.Name "min" p) [a, b] [] pos) (toX n (fCall minF fl)) := pf_call (px_minU hu hc hg hm hl he hpl) ok_min
theorem pf_isiK (k : TyK) {x : Str} {px' : Pos} (hg : Gl X "isinstance") (hm : X.mg "isinstance" = none) (hg2 : Gl X x) (hm2 : X.mg x = none) (hv : bootBuiltins x = some (.type k.nm)) (ha : PX X W a (toX n fa))
    (hn : x ≠ "__name__" := by decide) (hd : (x == ("__debug__" : Str)) = false := by decide)
    (he : starEach [a, .Name x px'] X.env = (false, eval a X.env) :: starEach [.Name x px'] X.env := by rfl) (he2 : starEach [.Name x px'] X.env = (false, eval (.Name x px') X.env) :: starEach [] X.env := by rfl) (hpl : (backTo pos (starEach [.Name x px'] X.env)).any (·.1) = false := by rfl) : PX X W (.Call (.Name "isinstance" p) [a, .Name x px'] [] pos) (toX n (fUn (isiF k) fa)) :=
  (px_isiK k hg hm hg2 hm2 hv ha hn hd he he2 hpl).to fun x ρ μ Q ⟨hn, h⟩ => ⟨hn, R.mono (fin_bnd.mp h) fun s μ1 h1 => by
    unfold isiF at h1
    unfold pIsK
    split at h1
    · rename_i e; rw [e]; exact h1
    · exact h1.elim⟩
/-! ### slices -/
theorem pfo_none : PXO X W none (toO n fNone) := pxo_none.to fun x ρ μ Q ⟨hn, h⟩ => h
theorem pfo_some (h : PX X W e (toX n fa)) : PXO X W (some e) (toO n (fSome fa)) :=
  (pxo_some h).to fun x ρ μ Q ⟨hn, h⟩ => ⟨hn, R.mono (fin_bnd.mp h) fun s μ1 h1 => by
    unfold asInt at h1
    split at h1 <;> first | exact h1 | exact h1.elim⟩
theorem pf_sl {lo hi : Option Expr} {f1 f2 : FO} (ha : PX X W a (toX n fa)) (hl : PXO X W lo (toO n f1)) (hh : PXO X W hi (toO n f2)) : PX X W (.Subscript a (.Slice lo hi none p2) pos) (toX n (fSl slF fa f1 f2)) :=
  (px_slV ha hl hh).to fun x ρ μ Q ⟨hn, h⟩ => ⟨hn, R.mono (fin_bnd.mp h) fun s μ1 h1 => ⟨hn, R.mono (fin_bnd.mp h1) fun l μ2 h2 => ⟨hn, R.mono (fin_bnd.mp h2) fun r μ3 h3 => by
    unfold slF at h3
    unfold pSlV
    split at h3
    · exact h3
    · exact h3
    · exact h3
    · exact fin_grd h3
    · rename_i g1 g2 g3 g4
      split at h3
      · rename_i e
        first
          | (split <;> first | exact (g1 _ rfl).elim | exact (g2 _ rfl).elim | exact (g3 _ rfl).elim | exact (g4 _ rfl).elim | (rw [e]; exact h3))
          | (rw [e]; exact h3)
      · exact h3.elim⟩⟩⟩
/-! ### methods -/
/-- the receiver is a list before the arguments are read and behind them -/
def fMethL (g : SV → List SV → M SV) (o : FX) (t : FA) : FX := fun ρ => bnd (o ρ) fun s μ => if (lstOf s μ).isSome = true then bnd (t ρ) (fun ss => g s ss) μ else .no
theorem pf_lmeth {P : SV → List SV → Mem → VP → Prop} {g : SV → List SV → M SV} (h : PX X W e (xMeth P (toX n fo) (toA n fl))) (hg : ∀ so ss μ x Q, (g so ss μ).fin x Q → P so ss μ Q) : PX X W e (toX n (fMethL g fo fl)) :=
  h.to fun x ρ μ Q ⟨hn, h⟩ => ⟨hn, R.mono (fin_bnd.mp h) fun s μ1 h1 => by
    split at h1
    · rename_i e
      exact ⟨e, hn, R.mono (fin_bnd.mp h1) fun ss μ2 h2 => hg _ _ _ _ _ h2⟩
    · exact h1.elim⟩
theorem ok_append : ∀ so ss μ x Q, (appendF so ss μ).fin x Q → pAppend so ss μ Q := by
  intro so ss μ x Q h
  unfold appendF at h
  unfold pAppend
  split at h
  · split at h
    · rename_i e
      try simp only [e]
      split at h
      · rename_i e2; exact ⟨e2, h⟩
      · exact h.elim
    · exact h.elim
  · exact h.elim
theorem ok_extend : ∀ so ss μ x Q, (extendF so ss μ).fin x Q → pExtend so ss μ Q := by
  intro so ss μ x Q h
  unfold extendF at h
  unfold pExtend
  split at h
  · split at h
    · rename_i e e1
      simp only [e, e1]
      split at h
      · rename_i e2; exact ⟨e2, h⟩
      · exact h.elim
    · exact h.elim
  · exact h.elim
theorem pf_append (ho : PX X W o (toX n fo)) (ha : PXA X W [e] (toA n fl)) (hbase : attributeBase o "append" X.env (eval o X.env) = eval o X.env := by rfl)
    (hfew : ((backTo cpos (starEach [e] X.env)).all (fun x => !x.1) && (backToKw cpos (keywordEach [] X.env)).all (fun x => x.1.isSome)
      && decide ([e].length + ([] : List Keyword).length + (if ([] : List Keyword).isEmpty then 0 else 1) < 30)) = true := by rfl)
    (hline : (apos.endLine == cpos.line) = true := by rfl) (hs : starEach [e] X.env = (false, eval e X.env) :: starEach [] X.env := by rfl) : PX X W (.Call (.Attribute o "append" apos) [e] [] cpos) (toX n (fMethL appendF fo fl)) :=
  pf_lmeth (px_append ho ha hbase hfew hline hs) ok_append
theorem pf_extend (ho : PX X W o (toX n fo)) (ha : PXA X W [e] (toA n fl)) (hbase : attributeBase o "extend" X.env (eval o X.env) = eval o X.env := by rfl)
    (hfew : ((backTo cpos (starEach [e] X.env)).all (fun x => !x.1) && (backToKw cpos (keywordEach [] X.env)).all (fun x => x.1.isSome)
      && decide ([e].length + ([] : List Keyword).length + (if ([] : List Keyword).isEmpty then 0 else 1) < 30)) = true := by rfl)
    (hline : (apos.endLine == cpos.line) = true := by rfl) (hs : starEach [e] X.env = (false, eval e X.env) :: starEach [] X.env := by rfl) : PX X W (.Call (.Attribute o "extend" apos) [e] [] cpos) (toX n (fMethL extendF fo fl)) :=
  pf_lmeth (px_extend ho ha hbase hfew hline hs) ok_extend
theorem ok_join {sa sb : SV} {μ : Mem} {x : XP} {Q : VP} (h : (joinF sa sb μ).fin x Q) : ∃ a l ys, sa = .d (.str a) ∧ (lstOf sb μ).or (tupOf sb) = some l ∧ txts l = some ys ∧ ((ys.map (·.length)).sum + ys.length * a.length ≤ 16777216) ∧ Q (.d (.str (Txt.join a ys))) μ := by
  unfold joinF at h
  split at h
  · split at h
    · rename_i e1
      split at h
      · rename_i e2
        split at h
        · rename_i e3; exact ⟨_, _, _, rfl, e1, e2, e3, h⟩
        · exact h.elim
      · exact h.elim
    · exact h.elim
  · exact h.elim
/-- a join: the text first -/
def fJoin (fo fe : FX) : FX := fun ρ => bnd (fo ρ) fun so => match so with
  | .d (.str a) => bnd (fe ρ) fun s => joinF (.d (.str a)) s
  | _ => fun _ => .no
theorem pf_join (ho : PX X W o (toX n fo)) (he : PX X W e (toX n fe)) (hs : starEach [e] X.env = [(false, eval e X.env)] := by rfl) (hbase : attributeBase o "join" X.env (eval o X.env) = eval o X.env := by rfl) (hline : (apos.endLine == pos.line) = true := by rfl) :
    PX X W (.Call (.Attribute o "join" apos) [e] [] pos) (toX n (fJoin fo fe)) :=
  (px_join ho he hs hbase hline).to fun x ρ μ Q ⟨hn, h⟩ => ⟨hn, R.mono (fin_bnd.mp h) fun s μ1 h1 => by
    split at h1
    · refine ⟨hn, R.mono (fin_bnd.mp h1) fun z μ2 h2 => ?_⟩
      obtain ⟨a, l, ys, e0, e1, e2, e3, q⟩ := ok_join h2
      cases e0
      rw [e1]
      show on (txts l) _
      rw [e2]
      exact ⟨e3, q⟩
    · exact h1.elim⟩
theorem findIdx_first {α : Type} {p : α → Bool} : ∀ {l : List α} {j : Nat}, l.findIdx? p = some j → (∃ z, l[j]? = some z ∧ p z = true) ∧ ∀ m z, m < j → l[m]? = some z → p z = false := by
  intro l j h
  obtain ⟨h1, h2, h3⟩ := List.findIdx?_eq_some_iff_getElem.mp h
  refine ⟨⟨l[j], List.getElem?_eq_getElem h1, h2⟩, fun m z hm hz => ?_⟩
  have hl : m < l.length := by omega
  rw [List.getElem?_eq_getElem hl] at hz
  cases hz
  have := h3 m hm
  simpa using this
theorem pf_index (hu : X.A.units + 65 < cLine) (ho : PX X W o (toX n fo)) (ha : PXA X W [e] (toA n fl)) (h : PX X W (.Call (.Attribute o "index" apos) [e] [] cpos) (xIndex (toX n fo) (toA n fl))) : PX X W (.Call (.Attribute o "index" apos) [e] [] cpos) (toX n (fun ρ => bnd (fo ρ) fun s μ => match s with
    | .d (.ntp _) => bnd (fl ρ) (indexF s) μ
    | _ => if (lstOf s μ).isSome = true then bnd (fl ρ) (indexF s) μ else .no)) :=
  h.to fun x ρ μ Q ⟨hn, h⟩ => ⟨hn, R.mono (fin_bnd.mp h) fun s μ1 h1 => by
    split at h1
    · refine ⟨hn, R.mono (fin_bnd.mp h1) fun ss μ2 h2 => ?_⟩
      unfold indexF at h2
      simp only at h2
      split at h2
      · split at h2
        · rename_i e1
          show on _ _
          rw [e1]
          split at h2
          · rename_i j e2
            obtain ⟨⟨z, g1, g2⟩, g3⟩ := findIdx_first e2
            refine ⟨j, by rw [g1, of_decide_eq_true g2], fun m hm q => ?_, h2⟩
            have := g3 m _ hm q
            simp at this
          · exact h2.elim
        · exact h2.elim
      · exact h2.elim
    · rename_i hs
      split at h1
      · rename_i e0
        try (split; · rename_i l; exact (hs l rfl).elim)
        · refine ⟨e0, hn, R.mono (fin_bnd.mp h1) fun ss μ2 h2 => ?_⟩
          unfold indexF at h2
          split at h2
          · exact (hs _ rfl).elim
          · split at h2
            · split at h2
              · rename_i e1
                show on _ _
                rw [e1]
                obtain ⟨g1, g2⟩ := fin_grd h2
                split at g2
                · rename_i j e2
                  obtain ⟨⟨z, k1, k2⟩, k3⟩ := findIdx_first e2
                  exact ⟨g1.1, g1.2, j, ⟨z, k1, k2, fun m z' hm q => k3 m z' hm q⟩, g2⟩
                · exact g2.elim
              · exact h2.elim
            · exact h2.elim
      · exact h1.elim⟩
/-! ### what is walked -/
theorem pfi_U (he : PX X W e (toX n fe)) : PXI X W tg e (toI n (itF fe)) :=
  (pxi_U he).to fun x ρ μ Q ⟨hn, h⟩ => ⟨hn, R.mono (fin_bnd.mp h) fun s μ1 h1 => by
    split at h1
    · split at h1
      · rename_i e; show on _ _; rw [e]; exact h1
      · exact h1.elim
    · exact h1.elim⟩
theorem pfi_enum (hg : Gl X "enumerate") (hm : X.mg "enumerate" = none) (ha : PXA X W [e] (toA n fl)) (hs : starEach [e] X.env = [(false, eval e X.env)] := by rfl) : PXI X W (.Tuple elts kk tpos) (.Call (.Name "enumerate" p) [e] [] pos) (toI n (enumF fl)) :=
  (pxi_enumU hg hm ha hs).to fun x ρ μ Q ⟨hn, h⟩ => ⟨hn, R.mono (fin_bnd.mp h) fun s μ1 h1 => by
    split at h1 <;> first | exact h1 | exact h1.elim⟩
theorem pfi_zip (hg : Gl X "zip") (hm : X.mg "zip" = none) (ha : PXA X W [a, b] (toA n fl)) (hs : starEach [a, b] X.env = (false, eval a X.env) :: starEach [b] X.env := by rfl) (hpl : (backTo pos (starEach [b] X.env)).any (·.1) = false := by rfl) : PXI X W (.Tuple elts kk tpos) (.Call (.Name "zip" p) [a, b] [] pos) (toI n (zipF fl)) :=
  (pxi_zipU hg hm ha hs hpl).to fun x ρ μ Q ⟨hn, h⟩ => ⟨hn, R.mono (fin_bnd.mp h) fun s μ1 h1 => by
    split at h1 <;> first | exact h1 | exact h1.elim⟩
theorem pfi_range1 (hg : Gl X "range") (hm : X.mg "range" = none) (ha : PXA X W [a] (toA n fl)) (hs : starEach [a] X.env = [(false, eval a X.env)] := by rfl) : PXI X W tg (.Call (.Name "range" p) [a] [] pos) (toI n (rng1F fl)) :=
  (pxi_range1 hg hm ha hs).to fun x ρ μ Q ⟨hn, h⟩ => ⟨hn, R.mono (fin_bnd.mp h) fun s μ1 h1 => by
    split at h1 <;> first | exact fin_grd h1 | exact h1.elim⟩
theorem pfi_range2 (hg : Gl X "range") (hm : X.mg "range" = none) (ha : PXA X W [a, b] (toA n fl)) (hs : starEach [a, b] X.env = [(false, eval a X.env), (false, eval b X.env)] := by rfl) (hs2 : starEach [b] X.env = [(false, eval b X.env)] := by rfl) : PXI X W tg (.Call (.Name "range" p) [a, b] [] pos) (toI n (rng2F fl)) :=
  (pxi_range2 hg hm ha hs hs2).to fun x ρ μ Q ⟨hn, h⟩ => ⟨hn, R.mono (fin_bnd.mp h) fun s μ1 h1 => by
    split at h1 <;> first | exact fin_grd h1 | exact h1.elim⟩
/-! ### targets -/
theorem set_put (ρ : Env') (i : Nat) (s : SV) (h : ρ.n = n) : (⟨n, put ρ.f i s⟩ : Env') = ρ.set i s := by
  cases ρ; subst h; rfl
theorem pfg_name {i : Nat} {own : List Nat} {x : Str} (ho : i ∈ own) (hN : X.N.Nodup) (hi : X.N[i]? = some x) (hx : Loc X.env.scope x) (hf : X.fn x = true ∨ X.env.scope.names.lookup x = some .local := by first | exact .inl rfl | exact .inr rfl | assumption) : PXG X W own (.Name x pos) (toG n (gN i)) :=
  (pxg_name ho hN hi hx hf).to fun x s ρ μ Q ⟨hn, h⟩ => by
    show Q (ρ.set _ s) μ
    rw [← set_put ρ _ s hn]; exact h
variable {gs : List FG} {g g1 : FG} {own : List Nat}
theorem pfgs_nil : PXGs X W own [] (toGs n []) := pxgs_nil.to fun x ds ρ μ Q ⟨hn, h⟩ => by
  cases ds with
  | nil => cases ρ; subst hn; exact h
  | cons d ds => exact h.elim
theorem pfgs_cons (h1 : PXG X W own e (toG n g)) (h2 : PXGs X W own es (toGs n gs)) (hs : (assignEach (e :: es) X.env).map (·.2) = assign e X.env :: (assignEach es X.env).map (·.2) := by rfl) : PXGs X W own (e :: es) (toGs n (g :: gs)) :=
  (pxgs_cons h1 h2 hs).to fun x ds ρ μ Q ⟨hn, h⟩ => by
    cases ds with
    | nil => exact h.elim
    | cons d ds => exact ⟨hn, R.mono (fin_bnd.mp h) fun r μ1 h1 => ⟨rfl, h1⟩⟩
theorem pfg_tup {k : Nat} (hc : X.calm = true) (h : PXGs X W own es (toGs n gs)) (hn : (assignEach es X.env).length = gs.length := by rfl) (hst : (assignEach es X.env).findIdx? (·.1) = none := by rfl) : PXG X W own (.Tuple es k pos) (toG n (gT gs)) :=
  (pxg_tup hc h hn hst).to fun x s ρ μ Q ⟨hn, h⟩ => by
    unfold gT at h
    split at h
    · split at h
      · rename_i e; exact ⟨e, hn, h⟩
      · exact h.elim
    · exact h.elim
theorem pfg_sub (ho : PX X W o (toX n fo)) (hi : PX X W i (toX n fi))
    (ha : ∀ v, assign (.Subscript o i pos) X.env v = (do
      let ov ← holding [v] (eval o X.env)
      let iv ← holding [v, ov] (eval i X.env)
      standAt pos
      holding [v, ov, iv] (setItem ov iv v)
      release [v, ov, iv] []) := by intro _; rfl) : PXG X W own (.Subscript o i pos) (toG n (gSub fo fi)) :=
  (pxg_sub ho hi ha).to fun x s ρ μ Q ⟨hn, h⟩ => ⟨hn, R.mono (fin_bnd.mp h) fun so μ1 h1 => ⟨hn, R.mono (fin_bnd.mp h1) fun si μ2 h2 => by
    have e : (⟨n, ρ.f⟩ : Env') = ρ := by cases ρ; subst hn; rfl
    split at h2
    · split at h2
      · rename_i e1
        try simp only [e1]
        split at h2
        · rename_i e2; rw [e2]; rw [← e]; exact h2
        · exact h2.elim
      · exact h2.elim
    · exact h2.elim⟩⟩
end
end PL
/-! The F-layer: statements, loops, comprehensions, defs. -/
namespace PL
open PySem PySem.Spec PyProof.Rows L2 RZ
section
variable {X : Cx} {W : WX} {a b c e o i tg iter elt tg1 iter1 : Expr} {es ifs ifs1 : List Expr} {n : Nat} {fa fb fc fe fo fi : FX} {ft fu : FT} {fl fk : FA} {pos p apos cpos tpos p2 pos' ppos : Pos} {x : Str} {st : Stmt} {rest : List Stmt} {s u : FS} {g g1 : FG} {it it1 : FI} {own : List Nat}
theorem env_eq (ρ : Env') (h : ρ.n = n) : (⟨n, ρ.f⟩ : Env') = ρ := by cases ρ; subst h; rfl
theorem pfss_nil : PXSs X W [] (toS n fSkip) := pss_nil'.to fun E ρ μ ⟨hn, h⟩ => by
  show E.nx ρ μ
  rw [← env_eq ρ hn]; exact h
theorem pfs_pass : PXS X W (.Pass pos) (toS n fSkip) := psx_pass.to fun E ρ μ ⟨hn, h⟩ => by
  show E.nx ρ μ
  rw [← env_eq ρ hn]; exact h
theorem pfs_break : PXS X W (.Break pos) (toS n fBrk) := psx_break.to fun E ρ μ ⟨hn, h⟩ => by
  show E.bk ρ μ
  rw [← env_eq ρ hn]; exact h
theorem pfs_continue : PXS X W (.Continue pos) (toS n fCnt) := psx_continue.to fun E ρ μ ⟨hn, h⟩ => by
  show E.ct ρ μ
  rw [← env_eq ρ hn]; exact h
theorem pfss_cons (h1 : PXS X W st (toS n s)) (h2 : PXSs X W rest (toS n u)) : PXSs X W (st :: rest) (toS n (fSeq s u)) :=
  (pxs_cons h1 h2).to fun E ρ μ ⟨hn, h⟩ => ⟨hn, R.mono (fin_bnd.mp h) fun o μ1 h1 => by
    cases o with
    | nx ρ' => exact ⟨rfl, h1⟩
    | rt v => exact h1
    | bk ρ' => exact h1
    | ct ρ' => exact h1⟩
theorem pfss_one (h1 : PXS X W st (toS n s)) : PXSs X W [st] (toS n s) := pxs_one h1
theorem pfs_expr (he : PX X W e (toX n fe)) (hs : swapsWith e none pos.line X.env = pure false := by rfl) : PXS X W (.Expr e pos) (toS n (fExpr fe)) :=
  (psx_expr he hs).to fun E ρ μ ⟨hn, h⟩ => ⟨hn, R.mono (fin_bnd.mp h) fun _ μ1 h1 => by
    show E.nx ρ μ1
    rw [← env_eq ρ hn]; exact h1⟩
theorem pfs_ret (he : PX X W e (toX n fe)) : PXS X W (.Return (some e) pos) (toS n (fRet fe)) :=
  (psx_ret he).to fun E ρ μ ⟨hn, h⟩ => ⟨hn, R.mono (fin_bnd.mp h) fun _ μ1 h1 => h1⟩
theorem pfs_retN : PXS X W (.Return none pos) (toS n fRetN) := psx_retN.to fun E ρ μ ⟨hn, h⟩ => h
theorem pfs_if {c : Expr} {a b : List Stmt} (hc : PXT X W c (toT n ft)) (ha : PXSs X W a (toS n s)) (hb : PXSs X W b (toS n u)) : PXS X W (.If c a b pos) (toS n (fIfS ft s u)) :=
  (psx_if hc ha hb).to fun E ρ μ ⟨hn, h⟩ => ⟨hn, R.mono (fin_bnd.mp h) fun k μ1 h1 => by
    cases k with
    | true => exact ⟨hn, h1⟩
    | false => exact ⟨hn, h1⟩⟩
theorem pfs_never : PXS X W st (toS n fNever) := psx_never.to fun E ρ μ ⟨_, h⟩ => h
theorem pfss_never {sts : List Stmt} : PXSs X W sts (toS n fNever) := pxs_never.to fun E ρ μ ⟨_, h⟩ => h
theorem pfs_asg {tg : Expr} (he : PX X W e (toX n fe)) (hg : PXG X W own tg (toG n g)) (hs : swapsWithSole [tg] e pos.line X.env = pure false := by rfl) (hw : swappedStores [tg] e X.env = pure none := by rfl)
    (h1 : (assignEach [tg] X.env).map (·.2) = [assign tg X.env] := by rfl) : PXS X W (.Assign [tg] e pos) (toS n (fAsg fe g)) :=
  (psx_asg he hg hs hw h1).to fun E ρ μ ⟨hn, h⟩ => ⟨hn, R.mono (fin_bnd.mp h) fun z μ1 h1 => ⟨hn, R.mono (fin_bnd.mp h1) fun r μ2 h2 => h2⟩⟩
theorem to_set {i : Nat} {t : TX} (j : ∀ x ρ μ Q, toX n fe x ρ μ Q → t x ρ μ Q) (E : EndsP) (ρ : Env') (μ : Mem) (h : toS n (fAsg fe (gN i)) E ρ μ) : xAsg t (xName i) E ρ μ := by
  obtain ⟨hn, h⟩ := h
  refine j _ _ _ _ ⟨hn, R.mono (fin_bnd.mp h) fun z μ1 h1 => ?_⟩
  show E.nx (ρ.set i z) μ1
  rw [← set_put ρ _ z hn]; exact h1
theorem pfs_set {i : Nat} {x : Str} {pos' : Pos} (hN : X.N.Nodup) (hi : X.N[i]? = some x) (hx : Loc X.env.scope x) (he : PX X W e (toX n fe)) (hs : swapsWith e (some (.Name x pos')) pos.line X.env = pure false := by rfl) (hf : X.fn x = true ∨ X.env.scope.names.lookup x = some .local := by first | exact .inl rfl | exact .inr rfl | assumption) :
    PXS X W (.Assign [.Name x pos'] e pos) (toS n (fAsg fe (gN i))) :=
  (psx_set hN hi hx he hs hf).to (to_set fun _ _ _ _ h => h)
theorem pfs_par {i j : Nat} {x y : Str} {px py pt : Pos} {kt k2 pt2} (hc : X.calm = true) (hN : X.N.Nodup) (hi : X.N[i]? = some x) (hj : X.N[j]? = some y) (hij : i ≠ j)
    (hx : X.env.scope.names.lookup x = some .local) (hy : X.env.scope.names.lookup y = some .local) (ha : PXA X W [a, b] (toA n fl))
    (hw : swappedStores [.Tuple [.Name x px, .Name y py] kt pt] (.Tuple [a, b] k2 pt2) X.env = pure (some [x, y]))
    (hs : swapsWithSole [.Tuple [.Name x px, .Name y py] kt pt] (.Tuple [a, b] k2 pt2) pos.line X.env = pure false := by rfl) :
    PXS X W (.Assign [.Tuple [.Name x px, .Name y py] kt pt] (.Tuple [a, b] k2 pt2) pos) (toS n (fPar i j fl)) :=
  (psx_par hc hN hi hj hij hx hy ha hw hs).to fun E ρ μ ⟨hn, h⟩ => ⟨hn, R.mono (fin_bnd.mp h) fun ss μ1 h1 => by
    split at h1
    · rename_i s r
      show E.nx ((ρ.set i s).set j r) μ1
      rw [← set_put (n := n) (ρ.set i s) j r hn]
      exact h1
    · exact h1.elim⟩
theorem pfs_dput (hu : X.A.units + 1 < cLine) (ho : PX X W o (toX n fo)) (hi : PX X W i (toX n fi)) (he : PX X W e (toX n fe)) (hs : swapsWith e (some (.Subscript o i pos')) pos.line X.env = pure false := by rfl) : PXS X W (.Assign [.Subscript o i pos'] e pos) (toS n (fDPut fo fi fe)) :=
  (psx_dput hu ho hi he hs).to fun E ρ μ ⟨hn, h⟩ => ⟨hn, R.mono (fin_bnd.mp h) fun s μ1 h1 => ⟨hn, R.mono (fin_bnd.mp h1) fun so μ2 h2 => ⟨hn, R.mono (fin_bnd.mp h2) fun si μ3 h3 => by
    have e := env_eq ρ hn
    have h3 := fin_bnd.mp h3
    unfold dputF at h3
    unfold dputS
    split at h3
    · split at h3
      · rename_i e1; simp only [e1]; have h4 := fin_grd h3; exact ⟨h4.1, by rw [← e]; exact h4.2⟩
      · rename_i e1; simp only [e1]; have h4 := fin_grd h3; exact ⟨h4.1, by rw [← e]; exact h4.2⟩
      · exact h3.elim
    · exact h3.elim⟩⟩⟩
theorem pf_newK : PX X W (.Dict [] [] pos) (toX n fNewK) := px_newK.to fun x ρ μ Q ⟨_, h⟩ => h
theorem pf_newT : PX X W (.Dict [] [] pos) (toX n fNewT) := px_newT.to fun x ρ μ Q ⟨_, h⟩ => h
/-! ### for, while -/
theorem drop_at {α : Type} {l : List α} {i : Nat} {d : α} (h : l[i]? = some d) : l.drop i = d :: l.drop (i + 1) := by
  obtain ⟨h1, h2⟩ := List.getElem?_eq_some_iff.mp h
  rw [List.drop_eq_getElem_cons h1, h2]
theorem pfs_for {body : List Stmt} (hp : PassesOwn (model X.prog X.w) X.A X.env X.xe) (hc : X.calm = true) (hi : PXI X W tg iter (toI n it)) (hg : PXG X W own tg (toG n g)) (hb : PXSs X W body (toS n s))
    (hs : ∀ x, foldedSetIterable iter X.env x = pure x := by intro _; rfl) : PXS X W (.For tg iter body [] pos) (toS n (fFor it g s)) :=
  (psx_for hp hc hi hg hb hs).to fun E ρ μ ⟨hn, h⟩ => ⟨hn, R.mono (fin_bnd.mp h) fun ds μ1 h1 => by
    refine ⟨fun i ρ μ => ρ.n = n ∧ (fLoop (fun d ρ => bnd (g d ρ) s) (ds.drop i) ρ.f μ).fin E.ex fun o μ' => o.fin n E μ', ⟨hn, h1⟩, ?_, ?_⟩
    · rintro i d ρ μ hd ⟨hn, h2⟩
      rw [drop_at hd] at h2
      have h3 := fin_bnd.mp (fin_bnd.mp h2)
      refine ⟨hn, R.mono h3 fun r μ2 h4 => ⟨rfl, R.mono h4 fun o μ3 h5 => ?_⟩⟩
      cases o with
      | nx ρ' => exact ⟨rfl, h5⟩
      | rt v => exact h5
      | bk ρ' => exact h5
      | ct ρ' => exact ⟨rfl, h5⟩
    · rintro ρ μ ⟨hn, h2⟩
      rw [List.drop_length] at h2
      rw [← env_eq ρ hn]; exact h2⟩
theorem pfs_while {c : Expr} {body : List Stmt} (hp : PassesOwn (model X.prog X.w) X.A X.env X.xe) (hc : PXT X W c (toT n ft)) (hb : PXSs X W body (toS n s)) : PXS X W (.While c body [] pos) (toS n (fWhile ft s)) :=
  (psx_while hp hc hb).to fun E ρ μ ⟨hn, h⟩ => by
    unfold fWhile at h
    split at h
    · rename_i hz
      refine ⟨fun m ρ μ => ρ.n = n ∧ (wLoop ft s m ρ.f μ).fin E.ex fun o μ' => o.fin n E μ', ⟨_, hn, h⟩, ?_⟩
      rintro m ρ μ ⟨hn, h2⟩
      cases m with
      | zero => exact h2.elim
      | succ m =>
        refine ⟨hn, R.mono (fin_bnd.mp h2) fun k μ1 h3 => ?_⟩
        cases k with
        | false => show E.nx ρ μ1; rw [← env_eq ρ hn]; exact h3
        | true =>
          refine ⟨hn, R.mono (fin_bnd.mp h3) fun o μ2 h4 => ?_⟩
          cases o with
          | nx ρ' => exact ⟨m, Nat.lt_succ_self m, rfl, h4⟩
          | rt v => exact h4
          | bk ρ' => exact h4
          | ct ρ' => exact ⟨m, Nat.lt_succ_self m, rfl, h4⟩
    · exact h.elim
/-! ### comprehensions -/
theorem wip_eq (ρ : Env') : ∀ vs : List Nat, wipeP ρ vs = ⟨ρ.n, wip ρ.f vs⟩
  | [] => rfl
  | v :: vs => by
    show (wipeP ρ vs).set v .un = _
    rw [wip_eq ρ vs]; rfl
theorem pfts_nil : PXTs X W [] (toT n fYes) := pxts_nil.to fun x ρ μ Q ⟨_, h⟩ => h
theorem pfts_one {c : Expr} (h : PXT X W c (toT n ft)) : PXTs X W [c] (toT n ft) := pxts_one h
/-- what is left of a comprehension -/
def cEnd (fin : List D → Mem → VP → Prop) (Q : VP) (acc : List D) : R (List D) → Prop
  | .ok r μ => fin (acc ++ r) μ Q
  | _ => False
theorem to_lc {fin : List D → Mem → VP → Prop} {finF : List D → M SV} (hf : ∀ l μ x Q, (finF l μ).fin x Q → fin l μ Q) {vs : List Nat} (x : XP) (ρ : Env') (μ : Mem) (Q : VP) (h : toX n (fLc finF it g ft fe vs) x ρ μ Q) : xLc (toI n it) (toG n g) (toT n ft) (toX n fe) vs fin x ρ μ Q := by
  obtain ⟨hn, h⟩ := h
  refine ⟨hn, R.mono (fin_bnd.mp h) fun ds μ1 h1 => ?_⟩
  obtain ⟨hz, h1⟩ := fin_grd h1
  refine ⟨hz, fun i acc μ => cEnd fin Q acc (cLoop (cStep g ft fe vs ρ.f) (ds.drop i) μ), ?_, ?_, ?_⟩
  · show cEnd fin Q [] (cLoop (cStep g ft fe vs ρ.f) ds μ1)
    have h1 := fin_bnd.mp h1
    have nx : ∀ (l : List D) (μ : Mem) C fs μ', cLoop (cStep g ft fe vs ρ.f) l μ ≠ .ex C fs μ' := by
      intro l
      induction l with
      | nil => intro μ C fs μ' q; cases q
      | cons d l ih =>
        intro μ C fs μ' q
        unfold cLoop at q
        split at q
        · exact ih _ _ _ _ q
        · split at q <;> cases q
        · cases q
    cases e : cLoop (cStep g ft fe vs ρ.f) ds μ1 with
    | ok r μ2 => rw [e] at h1; exact hf _ _ _ _ h1
    | ex C fs μ2 => exact absurd e (nx _ _ _ _ _)
    | no => rw [e] at h1; exact h1.elim
  · rintro i d acc μ hd h2
    rw [drop_at hd] at h2
    unfold cLoop at h2
    have key : (cStep g ft fe vs ρ.f d μ).fin xF fun o μ' => match o with
        | none => cEnd fin Q acc (cLoop (cStep g ft fe vs ρ.f) (ds.drop (i + 1)) μ')
        | some (.d y) => cEnd fin Q (acc ++ [y]) (cLoop (cStep g ft fe vs ρ.f) (ds.drop (i + 1)) μ')
        | _ => False := by
      split at h2
      · rename_i e; rw [e]; exact h2
      · rename_i y μ2 e
        rw [e]
        show cEnd fin Q (acc ++ [y]) _
        split at h2
        · rename_i e2; rw [e2]; unfold cEnd at h2 ⊢; simpa using h2
        · exact h2.elim
      · exact h2.elim
    unfold cStep at key
    rw [wip_eq]
    refine ⟨hn, R.mono (fin_bnd.mp key) fun ρ2 μ2 h3 => ⟨rfl, R.mono (fin_bnd.mp h3) fun k μ3 h4 => ?_⟩⟩
    cases k with
    | false => exact h4
    | true =>
      refine ⟨rfl, R.mono (fin_bnd.mp h4) fun z μ4 h5 => ?_⟩
      match z, h5 with
      | .d y, h5 => exact h5
  · intro acc μ h2
    rw [List.drop_length] at h2
    unfold cLoop cEnd at h2
    simpa using h2
section
variable {scope : Scope} {own : List (Str × Nat)}
theorem pf_lc (hc : X.calm = true) (hN : X.N.Nodup) (hi : PXI X W tg iter (toI n it)) (ok : BlkOk X.N X.env.scope scope own)
    (hg : ∀ (s : Shared) (H : Hp) (C : Addr) (cl : List (Str × Addr)) (fp : List Addr), PXG (X.blk s H scope (compEnvC scope cl C X.env) fp) wF (own.map (·.2)) tg (toG n g))
    (ht : ∀ (s : Shared) (H : Hp) (C : Addr) (cl : List (Str × Addr)) (fp : List Addr), PXTs (X.blk s H scope (compEnvC scope cl C X.env) fp) wF ifs (toT n ft))
    (he : ∀ (s : Shared) (H : Hp) (C : Addr) (cl : List (Str × Addr)) (fp : List Addr), PX (X.blk s H scope (compEnvC scope cl C X.env) fp) wF elt (toX n fe)) (hs : ∀ x, foldedSetIterable iter X.env x = pure x := by intro _; rfl) :
    PX X W (.ListComp elt [⟨tg, iter, ifs, 0⟩] scope pos) (toX n (fLc finLF it g ft fe (own.map (·.2)))) := (px_lc hc hN hi ok hg ht he hs).to (to_lc fun _ _ _ _ h => h)
theorem pf_lcC (hc : X.calm = true) (hN : X.N.Nodup) (hi : PXI X W tg iter (toI n it)) (ok : BlkOk X.N X.env.scope scope own)
    (hg : ∀ (s : Shared) (H : Hp) (C : Addr) (cl : List (Str × Addr)) (fp : List Addr), PXG (X.blk s H scope (compEnvC scope cl C X.env) fp) wF (own.map (·.2)) tg (toG n g))
    (ht : ∀ (s : Shared) (H : Hp) (C : Addr) (cl : List (Str × Addr)) (fp : List Addr), PXTs (X.blk s H scope (compEnvC scope cl C X.env) fp) wF ifs (toT n ft))
    (he : ∀ (s : Shared) (H : Hp) (C : Addr) (cl : List (Str × Addr)) (fp : List Addr), PX (X.blk s H scope (compEnvC scope cl C X.env) fp) wF elt (toX n fe)) (hs : ∀ x, foldedSetIterable iter X.env x = pure x := by intro _; rfl) :
    PX X W (.ListComp elt [⟨tg, iter, ifs, 0⟩] scope pos) (toX n (fLc finCF it g ft fe (own.map (·.2)))) := (px_lcC hc hN hi ok hg ht he hs).to (to_lc fun _ _ _ _ h => h)
theorem pfs_setLc {i : Nat} {y : Str} {py : Pos} (hc : X.calm = true) (hN : X.N.Nodup) (hy : X.N[i]? = some y) (hyl : X.env.scope.names.lookup y = some .local)
    (hsw : swapsWith (.ListComp elt [⟨tg, iter, ifs, 0⟩] scope p) (some (.Name y py)) pos.line X.env = pure true) (hi : PXI X W tg iter (toI n it)) (ok : BlkOk X.N X.env.scope scope own)
    (hg : ∀ (s : Shared) (H : Hp) (C : Addr) (cl : List (Str × Addr)) (fp : List Addr), PXG (X.blk s H scope (compEnvC scope cl C X.env) fp) wF (own.map (·.2)) tg (toG n g))
    (ht : ∀ (s : Shared) (H : Hp) (C : Addr) (cl : List (Str × Addr)) (fp : List Addr), PXTs (X.blk s H scope (compEnvC scope cl C X.env) fp) wF ifs (toT n ft))
    (he : ∀ (s : Shared) (H : Hp) (C : Addr) (cl : List (Str × Addr)) (fp : List Addr), PX (X.blk s H scope (compEnvC scope cl C X.env) fp) wF elt (toX n fe)) (hs : ∀ x, foldedSetIterable iter X.env x = pure x := by intro _; rfl) :
    PXS X W (.Assign [.Name y py] (.ListComp elt [⟨tg, iter, ifs, 0⟩] scope p) pos) (toS n (fAsg (fLc finLF it g ft fe (own.map (·.2))) (gN i))) :=
  (psx_setLc hc hN hy hyl hsw hi ok hg ht he hs).to (to_set (to_lc fun _ _ _ _ h => h))
theorem pfs_setLcC {i : Nat} {y : Str} {py : Pos} (hc : X.calm = true) (hN : X.N.Nodup) (hy : X.N[i]? = some y) (hyl : X.env.scope.names.lookup y = some .local)
    (hsw : swapsWith (.ListComp elt [⟨tg, iter, ifs, 0⟩] scope p) (some (.Name y py)) pos.line X.env = pure true) (hi : PXI X W tg iter (toI n it)) (ok : BlkOk X.N X.env.scope scope own)
    (hg : ∀ (s : Shared) (H : Hp) (C : Addr) (cl : List (Str × Addr)) (fp : List Addr), PXG (X.blk s H scope (compEnvC scope cl C X.env) fp) wF (own.map (·.2)) tg (toG n g))
    (ht : ∀ (s : Shared) (H : Hp) (C : Addr) (cl : List (Str × Addr)) (fp : List Addr), PXTs (X.blk s H scope (compEnvC scope cl C X.env) fp) wF ifs (toT n ft))
    (he : ∀ (s : Shared) (H : Hp) (C : Addr) (cl : List (Str × Addr)) (fp : List Addr), PX (X.blk s H scope (compEnvC scope cl C X.env) fp) wF elt (toX n fe)) (hs : ∀ x, foldedSetIterable iter X.env x = pure x := by intro _; rfl) :
    PXS X W (.Assign [.Name y py] (.ListComp elt [⟨tg, iter, ifs, 0⟩] scope p) pos) (toS n (fAsg (fLc finCF it g ft fe (own.map (·.2))) (gN i))) :=
  (psx_setLcC hc hN hy hyl hsw hi ok hg ht he hs).to (to_set (to_lc fun _ _ _ _ h => h))
end
theorem nx_cLoop (step : D → M (Option SV)) : ∀ (l : List D) (μ : Mem) C fs μ', cLoop step l μ ≠ .ex C fs μ' := by
  intro l
  induction l with
  | nil => intro μ C fs μ' q; cases q
  | cons d l ih =>
    intro μ C fs μ' q
    unfold cLoop at q
    split at q
    · exact ih _ _ _ _ q
    · split at q <;> cases q
    · cases q
theorem nx_cLoop2 (step : D → M (Option (List D))) : ∀ (l : List D) (μ : Mem) C fs μ', cLoop2 step l μ ≠ .ex C fs μ' := by
  intro l
  induction l with
  | nil => intro μ C fs μ' q; cases q
  | cons d l ih =>
    intro μ C fs μ' q
    unfold cLoop2 at q
    split at q
    · exact ih _ _ _ _ q
    · split at q <;> cases q
    · cases q
/-- what is left of a comprehension with two generators -/
def cEnd2 (fin : List D → Mem → VP → Prop) (Q : VP) (acc : List D) : R (List D) → Prop
  | .ok r μ => acc.length + r.length ≤ sizeLine ∧ fin (acc ++ r) μ Q
  | _ => False
theorem cEnd2_app {fin : List D → Mem → VP → Prop} {Q : VP} {acc l : List D} {r : List D} {μ : Mem} (h : cEnd2 fin Q acc (.ok (l ++ r) μ)) : cEnd2 fin Q (acc ++ l) (.ok r μ) := by
  obtain ⟨h1, h2⟩ := h
  refine ⟨by simp at h1 ⊢; omega, by simpa using h2⟩
theorem to_lc2 {fin : List D → Mem → VP → Prop} {finF : List D → M SV} (hf : ∀ l μ x Q, (finF l μ).fin x Q → fin l μ Q) {vs vs1 : List Nat} (x : XP) (ρ : Env') (μ : Mem) (Q : VP) (h : toX n (fLc2 finF it g ft it1 g1 fu fe vs vs1) x ρ μ Q) : xLc2 (toI n it) (toG n g) (toT n ft) (toI n it1) (toG n g1) (toT n fu) (toX n fe) vs vs1 fin x ρ μ Q := by
  obtain ⟨hn, h⟩ := h
  refine ⟨hn, R.mono (fin_bnd.mp h) fun ds μ1 h1 => ?_⟩
  refine ⟨fun i acc μ => cEnd2 fin Q acc (cLoop2 (cStep2 g ft it1 g1 fu fe vs vs1 ρ.f) (ds.drop i) μ), ?_, ?_, ?_⟩
  · show cEnd2 fin Q [] (cLoop2 (cStep2 g ft it1 g1 fu fe vs vs1 ρ.f) ds μ1)
    have h1 := fin_bnd.mp h1
    cases e : cLoop2 (cStep2 g ft it1 g1 fu fe vs vs1 ρ.f) ds μ1 with
    | ok r μ2 => rw [e] at h1; have h2 := fin_grd h1; exact ⟨by simpa using h2.1, hf _ _ _ _ h2.2⟩
    | ex C fs μ2 => exact absurd e (nx_cLoop2 _ _ _ _ _ _)
    | no => rw [e] at h1; exact h1.elim
  · rintro i d acc μ hd h2
    rw [drop_at hd] at h2
    unfold cLoop2 at h2
    have key : (cStep2 g ft it1 g1 fu fe vs vs1 ρ.f d μ).fin xF fun o μ' => match o with
        | none => cEnd2 fin Q acc (cLoop2 (cStep2 g ft it1 g1 fu fe vs vs1 ρ.f) (ds.drop (i + 1)) μ')
        | some l => cEnd2 fin Q (acc ++ l) (cLoop2 (cStep2 g ft it1 g1 fu fe vs vs1 ρ.f) (ds.drop (i + 1)) μ') ∧ acc.length + l.length ≤ sizeLine := by
      split at h2
      · rename_i e; rw [e]; exact h2
      · rename_i l μ2 e
        rw [e]
        show cEnd2 fin Q (acc ++ l) _ ∧ _
        split at h2
        · rename_i e2; rw [e2]; exact ⟨cEnd2_app h2, by have := h2.1; simp at this; omega⟩
        · exact h2.elim
      · exact h2.elim
    unfold cStep2 at key
    rw [wip_eq]
    refine ⟨hn, R.mono (fin_bnd.mp key) fun ρ2 μ2 h3 => ⟨rfl, R.mono (fin_bnd.mp h3) fun k μ3 h4 => ?_⟩⟩
    cases k with
    | false => exact h4
    | true =>
      refine ⟨rfl, R.mono (fin_bnd.mp h4) fun es μ4 h5 => ?_⟩
      have h6 := fin_bnd.mp h5
      refine ⟨fun j acc' μ => ∃ r μ', cLoop (cStep g1 fu fe vs1 ρ2) (es.drop j) μ = .ok r μ' ∧ cEnd2 fin Q (acc' ++ r) (cLoop2 (cStep2 g ft it1 g1 fu fe vs vs1 ρ.f) (ds.drop (i + 1)) μ') ∧ acc'.length + r.length ≤ sizeLine, ?_, ?_, ?_⟩
      · show ∃ r μ', cLoop _ es μ4 = _ ∧ _
        cases e : cLoop (cStep g1 fu fe vs1 ρ2) es μ4 with
        | ok r μ5 => rw [e] at h6; exact ⟨r, μ5, rfl, h6⟩
        | ex C fs μ5 => exact absurd e (nx_cLoop _ _ _ _ _ _)
        | no => rw [e] at h6; exact h6.elim
      · rintro j d' acc' μ5 hd' ⟨r, μ6, e6, h7, h8⟩
        rw [drop_at hd'] at e6
        unfold cLoop at e6
        have key2 : (cStep g1 fu fe vs1 ρ2 d' μ5).fin xF fun o μ' => match o with
            | none => ∃ r μ2, cLoop (cStep g1 fu fe vs1 ρ2) (es.drop (j + 1)) μ' = .ok r μ2 ∧ cEnd2 fin Q (acc' ++ r) (cLoop2 (cStep2 g ft it1 g1 fu fe vs vs1 ρ.f) (ds.drop (i + 1)) μ2) ∧ acc'.length + r.length ≤ sizeLine
            | some (.d y) => acc'.length < sizeLine ∧ ∃ r μ2, cLoop (cStep g1 fu fe vs1 ρ2) (es.drop (j + 1)) μ' = .ok r μ2 ∧ cEnd2 fin Q ((acc' ++ [y]) ++ r) (cLoop2 (cStep2 g ft it1 g1 fu fe vs vs1 ρ.f) (ds.drop (i + 1)) μ2) ∧ (acc' ++ [y]).length + r.length ≤ sizeLine
            | _ => False := by
          split at e6
          · rename_i e; rw [e]; exact ⟨r, μ6, e6, h7, h8⟩
          · rename_i y μ7 e
            rw [e]
            split at e6
            · rename_i r2 μ8 e8
              cases e6
              refine ⟨by simp at h8; omega, r2, μ6, e8, by simpa using h7, by simp at h8 ⊢; omega⟩
            · cases e6
          · cases e6
        unfold cStep at key2
        rw [wip_eq]
        refine ⟨rfl, R.mono (fin_bnd.mp key2) fun ρ5 μ7 h9 => ⟨rfl, R.mono (fin_bnd.mp h9) fun k μ8 h10 => ?_⟩⟩
        cases k with
        | false => exact h10
        | true =>
          refine ⟨rfl, R.mono (fin_bnd.mp h10) fun z μ9 h11 => ?_⟩
          match z, h11 with
          | .d y, h11 => exact h11
      · rintro acc' μ5 ⟨r, μ6, e6, h7, _⟩
        rw [List.drop_length] at e6
        unfold cLoop at e6
        cases e6
        simpa using h7
  · intro acc μ h2
    rw [List.drop_length] at h2
    unfold cLoop2 cEnd2 at h2
    simpa using h2.2
section
variable {scope : Scope} {own : List (Str × Nat)}
theorem pf_lc2 (vs1 : List Nat) (hc : X.calm = true) (hN : X.N.Nodup) (hi : PXI X W tg iter (toI n it)) (ok : BlkOk X.N X.env.scope scope own) (hv : ∀ i ∈ vs1, i ∈ own.map (·.2))
    (hg : ∀ (s : Shared) (H : Hp) (C : Addr) (cl : List (Str × Addr)) (fp : List Addr), PXG (X.blk s H scope (compEnvC scope cl C X.env) fp) wF (own.map (·.2)) tg (toG n g))
    (ht : ∀ (s : Shared) (H : Hp) (C : Addr) (cl : List (Str × Addr)) (fp : List Addr), PXTs (X.blk s H scope (compEnvC scope cl C X.env) fp) wF ifs (toT n ft))
    (hi1 : ∀ (s : Shared) (H : Hp) (C : Addr) (cl : List (Str × Addr)) (fp : List Addr), PXI (X.blk s H scope (compEnvC scope cl C X.env) fp) wF tg1 iter1 (toI n it1))
    (hg1 : ∀ (s : Shared) (H : Hp) (C : Addr) (cl : List (Str × Addr)) (fp : List Addr), PXG (X.blk s H scope (compEnvC scope cl C X.env) fp) wF vs1 tg1 (toG n g1))
    (ht1 : ∀ (s : Shared) (H : Hp) (C : Addr) (cl : List (Str × Addr)) (fp : List Addr), PXTs (X.blk s H scope (compEnvC scope cl C X.env) fp) wF ifs1 (toT n fu))
    (he : ∀ (s : Shared) (H : Hp) (C : Addr) (cl : List (Str × Addr)) (fp : List Addr), PX (X.blk s H scope (compEnvC scope cl C X.env) fp) wF elt (toX n fe)) (hs : ∀ x, foldedSetIterable iter X.env x = pure x := by intro _; rfl) (hs1 : ∀ env x, foldedSetIterable iter1 env x = pure x := by intro _ _; rfl) :
    PX X W (.ListComp elt [⟨tg, iter, ifs, 0⟩, ⟨tg1, iter1, ifs1, 0⟩] scope pos) (toX n (fLc2 finLF it g ft it1 g1 fu fe (own.map (·.2)) vs1)) := (px_lc2 vs1 hc hN hi ok hv hg ht hi1 hg1 ht1 he hs hs1).to (to_lc2 fun _ _ _ _ h => h)
theorem pf_lc2C (vs1 : List Nat) (hc : X.calm = true) (hN : X.N.Nodup) (hi : PXI X W tg iter (toI n it)) (ok : BlkOk X.N X.env.scope scope own) (hv : ∀ i ∈ vs1, i ∈ own.map (·.2))
    (hg : ∀ (s : Shared) (H : Hp) (C : Addr) (cl : List (Str × Addr)) (fp : List Addr), PXG (X.blk s H scope (compEnvC scope cl C X.env) fp) wF (own.map (·.2)) tg (toG n g))
    (ht : ∀ (s : Shared) (H : Hp) (C : Addr) (cl : List (Str × Addr)) (fp : List Addr), PXTs (X.blk s H scope (compEnvC scope cl C X.env) fp) wF ifs (toT n ft))
    (hi1 : ∀ (s : Shared) (H : Hp) (C : Addr) (cl : List (Str × Addr)) (fp : List Addr), PXI (X.blk s H scope (compEnvC scope cl C X.env) fp) wF tg1 iter1 (toI n it1))
    (hg1 : ∀ (s : Shared) (H : Hp) (C : Addr) (cl : List (Str × Addr)) (fp : List Addr), PXG (X.blk s H scope (compEnvC scope cl C X.env) fp) wF vs1 tg1 (toG n g1))
    (ht1 : ∀ (s : Shared) (H : Hp) (C : Addr) (cl : List (Str × Addr)) (fp : List Addr), PXTs (X.blk s H scope (compEnvC scope cl C X.env) fp) wF ifs1 (toT n fu))
    (he : ∀ (s : Shared) (H : Hp) (C : Addr) (cl : List (Str × Addr)) (fp : List Addr), PX (X.blk s H scope (compEnvC scope cl C X.env) fp) wF elt (toX n fe)) (hs : ∀ x, foldedSetIterable iter X.env x = pure x := by intro _; rfl) (hs1 : ∀ env x, foldedSetIterable iter1 env x = pure x := by intro _ _; rfl) :
    PX X W (.ListComp elt [⟨tg, iter, ifs, 0⟩, ⟨tg1, iter1, ifs1, 0⟩] scope pos) (toX n (fLc2 finCF it g ft it1 g1 fu fe (own.map (·.2)) vs1)) := (px_lc2C vs1 hc hN hi ok hv hg ht hi1 hg1 ht1 he hs hs1).to (to_lc2 fun _ _ _ _ h => h)
end
/-! ### calls of defs -/
theorem ndP_in {ks : List Nat} {A : Prop} (nd : ks.Nodup) (h : A) : ndP ks A := by
  match ks with
  | [] => exact h
  | [_] => exact h
  | _ :: _ :: _ => exact ⟨nd, h⟩
theorem flC_fin {α : Type} {c : Cell} {r : R α} {x : XP} {Q : α → Mem → Prop} (h : (flC c r).fin x Q) : flat1 c = true ∧ r.fin x Q := by
  cases c <;> first | exact ⟨rfl, h⟩ | exact h.elim
theorem flR_fin {α : Type} {r : R α} {x : XP} {Q : α → Mem → Prop} : ∀ {cs : Mem}, (flR cs r).fin x Q → flP cs (r.fin x Q)
  | [], h => h
  | c :: cs, h => ⟨(flC_fin h).1, flR_fin (flC_fin h).2⟩
theorem flP_mono {A B : Prop} (i : A → B) : ∀ {cs : Mem}, flP cs A → flP cs B
  | [], h => i h
  | _ :: _, ⟨h1, h2⟩ => ⟨h1, flP_mono i h2⟩
theorem callM_ok {f : List SV → M SV} {ss : List SV} {μ : Mem} {x : XP} {Q : VP} (h : (callM f ss μ).fin x Q) : callP (pF f) x ss μ Q := by
  unfold callM at h
  split at h
  · rename_i nd
    refine ndP_in nd (flP_mono (fun h => ?_) (flR_fin h))
    show (f (relab 0 ss) (picked μ (cellsOf ss))).fin _ _
    split at h
    · rename_i e; rw [e]; exact flR_fin h
    · rename_i e
      rw [e]
      refine flP_mono (fun h => ?_) (flR_fin h)
      split at h
      · rename_i hj; show (if _ then _ else _); rw [if_pos hj]; exact h
      · rename_i hj; show (if _ then _ else _); rw [if_neg hj]; exact flC_fin h
    · exact h.elim
    · rename_i e; rw [e]; exact flR_fin h
    · exact h.elim
  · exact h.elim
theorem callMF_ok {f : List SV → M SV} {ss : List SV} {μ : Mem} {x : XP} {Q : VP} (h : (callMF f ss μ).fin x Q) : callPF (pF f) x ss μ Q := by
  unfold callMF at h
  obtain ⟨nd, h⟩ := fin_grd h
  refine ndP_in nd (flP_mono (fun h => ?_) (flR_fin h))
  show (f (relab 0 ss) (picked μ (cellsOf ss))).fin _ _
  split at h
  · rename_i e; rw [e]; exact flR_fin h
  · rename_i e
    rw [e]
    refine flP_mono (fun h => ?_) (flR_fin h)
    split at h
    · rename_i e2
      show on _ _
      rw [e2]; exact h
    · exact h.elim
  · exact h.elim
  · rename_i e; rw [e]; exact flR_fin h
  · exact h.elim
variable {k k' : Nat} {ps : List Str} {f : List SV → M SV} {kws : List Keyword}
theorem pf_user (h : Has X.prog X.w X.K X.mg X.base k x ps (pF f)) (tk : Takes X W) (hr : Room k' X.A) (hle : k ≤ k') (hg : Gl X x) (ha : PXA X W (e :: es) (toA n fl)) (hdb : (x == ("__debug__" : Str)) = false := by decide) (he : starEach (e :: es) X.env = (false, eval e X.env) :: starEach es X.env := by rfl) (hpl : (backTo pos (starEach es X.env)).any (·.1) = false := by rfl) :
    PX X W (.Call (.Name x ppos) (e :: es) [] pos) (toX n (fCall (callM f) fl)) :=
  (px_callH h tk hr hle hg ha hdb he hpl).to fun x ρ μ Q ⟨hn, h⟩ => ⟨hn, R.mono (fin_bnd.mp h) fun ss μ1 h1 => callM_ok h1⟩
theorem pf_userF (h : Has X.prog X.w X.K X.mg X.base k x ps (pF f)) (tk : Takes X W) (hr : Room k' X.A) (hle : k ≤ k') (hg : Gl X x) (ha : PXA X W (e :: es) (toA n fl)) (hdb : (x == ("__debug__" : Str)) = false := by decide) (he : starEach (e :: es) X.env = (false, eval e X.env) :: starEach es X.env := by rfl) (hpl : (backTo pos (starEach es X.env)).any (·.1) = false := by rfl) :
    PX X W (.Call (.Name x ppos) (e :: es) [] pos) (toX n (fCall (callMF f) fl)) :=
  (px_callHF h tk hr hle hg ha hdb he hpl).to fun x ρ μ Q ⟨hn, h⟩ => ⟨hn, R.mono (fin_bnd.mp h) fun ss μ1 h1 => callMF_ok h1⟩
theorem pf_userK {nn : Nat} {ks : List Str} {perm : List Nat} {st : Stmt} (h : HasK X.prog X.w X.K X.mg X.base k x st ps (pF f)) (tk : Takes X W) (hr : Room k' X.A) (hle : k ≤ k') (hg : Gl X x)
    (hb : BindK x ps nn ks perm st) (ha : PXA X W (e :: es) (toA n fl)) (hkw : PXK X W kws (toA n fk)) (hall : (backToKw pos (keywordEach kws X.env)).all (·.1.isSome) = true := by rfl) (hks : (backToKw pos (keywordEach kws X.env)).filterMap (·.1) = ks := by rfl)
    (hdb : (x == ("__debug__" : Str)) = false := by decide) (he : starEach (e :: es) X.env = (false, eval e X.env) :: starEach es X.env := by rfl)
    (hpl : ((backTo pos (starEach (e :: es) X.env)).any (·.1) || (backToKw pos (keywordEach kws X.env)).any (·.1.isNone)) = false := by rfl) : PX X W (.Call (.Name x ppos) (e :: es) kws pos) (toX n (permM perm (callM f) nn ks.length fl fk)) :=
  (px_callHK h tk hr hle hg hb ha hkw hall hks hdb he hpl).to fun x ρ μ Q ⟨hn, h⟩ => ⟨hn, R.mono (fin_bnd.mp h) fun ss μ1 h1 => ⟨hn, R.mono (fin_bnd.mp h1) fun zs μ2 h2 => by
    split at h2
    · rename_i e1; exact ⟨e1, callM_ok h2⟩
    · exact h2.elim⟩⟩
theorem pf_userK0 {ks : List Str} {perm : List Nat} {st : Stmt} (h : HasK X.prog X.w X.K X.mg X.base k x st ps (pF f)) (tk : Takes X W) (hr : Room k' X.A) (hle : k ≤ k') (hg : Gl X x)
    (hb : BindK x ps 0 ks perm st) (hkw : PXK X W kws (toA n fk)) (hall : (backToKw pos (keywordEach kws X.env)).all (·.1.isSome) = true := by rfl) (hks : (backToKw pos (keywordEach kws X.env)).filterMap (·.1) = ks := by rfl)
    (hdb : (x == ("__debug__" : Str)) = false := by decide)
    (hpl : ((backTo pos (starEach [] X.env)).any (·.1) || (backToKw pos (keywordEach kws X.env)).any (·.1.isNone)) = false := by rfl) : PX X W (.Call (.Name x ppos) [] kws pos) (toX n (permM perm (callM f) 0 ks.length fNil fk)) :=
  (px_callHK0 h tk hr hle hg hb hkw hall hks hdb hpl).to fun x ρ μ Q ⟨hn, h⟩ => by
    have h1 : (bnd (fk ρ.f) (fun zs => if ([] : List SV).length = 0 ∧ zs.length = ks.length then callM f (permG .un perm [] zs) else fun _ => .no) μ).fin x Q := h
    refine ⟨hn, R.mono (fin_bnd.mp h1) fun zs μ2 h2 => ?_⟩
    split at h2
    · rename_i e1; exact ⟨e1, callM_ok h2⟩
    · exact h2.elim
end
/-! ### defs -/
section
variable {P : Program} {w : World} {K : PySem.W.Frag} {mg : Str → Option Value} {base : Heap}
theorem has_f {x : Str} {st : Stmt} {N ps : List Str} {k n q : Nat} {b : FS} (D : Def K mg x st) (S : FnScope N ps (defScope st)) (B : BindN x st ps) (hn : N.length = n) (hq : ps.length = q) (hl : q ≤ n)
    (hb : ∀ (f : Addr) (cdv : Value) (A : Around) (outer : List Env) (s : Shared) (H : Hp) (E : XK), Room k (A.deeper (envOfC x (defScope st) s.heap.objs.size f cdv)) →
      PXSs (cxOf (L2.CX P w) P w K mg base N x (defScope st) f cdv A outer s H E) (fun cls d _ H => E cls d H) (defBody st) (toS n b)) : Has P w K mg base (k + 1) x ps (pF (fDef q b)) := by
  refine has_p D S B (fun x as μ Q h => ?_) hb fun x as μ Q h => ?_
  · unfold pF fDef at h
    split at h
    · rename_i e; exact e.trans hq.symm
    · exact h.elim
  · unfold pF fDef at h
    split at h
    · rename_i e
      refine ⟨by show as.length + (N.length - as.length) = n; rw [hn, e]; omega, ?_⟩
      show (b (fstart as) μ).fin x _
      split at h
      · rename_i e2; rw [e2]; exact h
      · rename_i e2; rw [e2]; exact h
      · exact h.elim
      · rename_i e2; rw [e2]; exact h
      · exact h.elim
    · exact h.elim
/-- a def that is called less deep than told -/
theorem has_no {x : Str} {st : Stmt} {ps : List Str} {k : Nat} (D : Def K mg x st) (B : BindN x st ps) : Has P w K mg base k x ps (pF fun _ _ => .no) :=
  (Has.never D B).imp fun _ _ _ _ h => h
end
end PL
/-! The F-layer: more calls. -/
namespace PL
open PySem PySem.Spec PyProof.Rows L2 RZ
theorem hu65_of {k : Nat} {A : Around} (r : Room k A) : A.units + 65 < cLine := by have := r.un; omega
section
variable {X : Cx} {W : WX} {a b c e o i tg iter elt tg1 iter1 : Expr} {es ifs ifs1 : List Expr} {n : Nat} {fa fb fc fe fo fi : FX} {ft fu : FT} {fl fk : FA} {pos p apos cpos tpos p2 pos' ppos : Pos} {x : Str} {st : Stmt} {rest : List Stmt} {s u : FS} {g g1 : FG} {it it1 : FI} {own : List Nat}
/-- x.index(y) -/
noncomputable def fIndex (fo : FX) (fl : FA) : FX := fun ρ => bnd (fo ρ) fun s μ => match s with
    | .d (.ntp _) => bnd (fl ρ) (indexF s) μ
    | _ => if (lstOf s μ).isSome = true then bnd (fl ρ) (indexF s) μ else .no
theorem pf_index' (hu : X.A.units + 65 < cLine) (ho : PX X W o (toX n fo)) (ha : PXA X W [e] (toA n fl)) (hbase : attributeBase o "index" X.env (eval o X.env) = eval o X.env := by rfl)
    (hfew : ((backTo cpos (starEach [e] X.env)).all (fun x => !x.1) && (backToKw cpos (keywordEach [] X.env)).all (fun x => x.1.isSome)
      && decide ([e].length + ([] : List Keyword).length + (if ([] : List Keyword).isEmpty then 0 else 1) < 30)) = true := by rfl)
    (hline : (apos.endLine == cpos.line) = true := by rfl) (hs : starEach [e] X.env = (false, eval e X.env) :: starEach [] X.env := by rfl) (hplain : (backTo cpos (starEach [] X.env)).any (·.1) = false := by rfl) :
    PX X W (.Call (.Attribute o "index" apos) [e] [] cpos) (toX n (fIndex fo fl)) :=
  pf_index hu ho ha (px_index hu ho ha hbase hfew hline hs hplain)
/-! ### calls of a local name that holds a def -/
abbrev Tab := Str → Option (List SV → M SV)
def tab0 : Tab := fun _ => none
def tabC (x : Str) (f : List SV → M SV) (T : Tab) : Tab := fun y => if y = x then some f else T y
noncomputable def fLocal (i : Nat) (T : Tab) (fl : FA) : FX := fun ρ => match ρ i with
  | .d (.fn f) => match T f with
    | some p => bnd (fl ρ) (callM p)
    | none => fun _ => .no
  | _ => fun _ => .no
/-- all of the table at level k -/
def TabOk (P : Program) (w : World) (K : PySem.W.Frag) (mg : Str → Option Value) (base : Heap) (k : Nat) (T : Tab) : Prop := ∀ f p, T f = some p → HeldP P w K mg base k (He.ga K f) (pF p)
theorem HeldP.up {P : Program} {w : World} {K : PySem.W.Frag} {mg : Str → Option Value} {base : Heap} {k k' : Nat} {f : Addr} {p : PSp} (h : HeldP P w K mg base k f p) (le : k ≤ k') : HeldP P w K mg base k' f p := by
  obtain ⟨fd, ps, F, r⟩ := h.ex
  exact ⟨fd, ps, ⟨F.1, fun A outer s H args us vs Q E hr e b r z => F.run A outer s H args us vs Q E (hr.mono le) e b r z⟩, r⟩
theorem tabOk0 {P : Program} {w : World} {K : PySem.W.Frag} {mg : Str → Option Value} {base : Heap} {k : Nat} : TabOk P w K mg base k tab0 := fun _ _ h => by cases h
theorem tabOkC {P : Program} {w : World} {K : PySem.W.Frag} {mg : Str → Option Value} {base : Heap} {k k' : Nat} {x : Str} {ps : List Str} {f : List SV → M SV} {T : Tab} (h : Has P w K mg base k' x ps (pF f)) (le : k' ≤ k) (t : TabOk P w K mg base k T) : TabOk P w K mg base k (tabC x f T) := by
  intro y p e
  unfold tabC at e
  split at e
  · rename_i q
    subst q
    cases e
    exact h.held.up le
  · exact t y p e
theorem pf_local {i k k' : Nat} {T : Tab} (tk : Takes X W) (hT : TabOk X.prog X.w X.K X.mg X.base k T) (hr : Room k' X.A) (hle : k ≤ k') (hN : X.N[i]? = some x) (hn : i < n) (hv : Vis X.env.scope x) (ha : PXA X W (e :: es) (toA n fl))
    (hdb : (x == ("__debug__" : Str)) = false := by decide) (hcd : (x == ("__classdict__" : Str)) = false := by decide)
    (he : starEach (e :: es) X.env = (false, eval e X.env) :: starEach es X.env := by rfl) (hpl : (backTo pos (starEach es X.env)).any (·.1) = false := by rfl) : PX X W (.Call (.Name x ppos) (e :: es) [] pos) (toX n (fLocal i T fl)) :=
  (px_local (T := fun f => (T f).map pF) tk (fun f p h => by
    obtain ⟨q, h1, rfl⟩ := Option.map_eq_some_iff.mp h
    exact hT f q h1) (hr.mono hle) hN hv ha hdb hcd he hpl).to fun x ρ μ Q ⟨hn', h⟩ => by
    refine ⟨by rw [hn']; exact hn, ?_⟩
    have h : (fLocal i T fl ρ.f μ).fin x Q := h
    unfold fLocal at h
    cases e1 : ρ.f i with
    | un => rw [e1] at h; exact h.elim
    | c k => rw [e1] at h; exact h.elim
    | d dd =>
      rw [e1] at h
      cases dd with
      | fn f =>
        cases e2 : T f with
        | none => simp only [e2] at h; exact h.elim
        | some p =>
          simp only [e2] at h
          show on ((T f).map pF) _
          rw [e2]
          exact ⟨hn', R.mono (fin_bnd.mp h) fun ss μ1 h1 => callM_ok h1⟩
      | _ => exact h.elim
end
end PL
/-! The F-layer: how it is evaluated by simp. -/
namespace PL
open PySem PySem.Spec PyProof.Rows L2
/-- what simp leaves alone: another argument hangs on it -/
class TgC (u : Type) : Type where
instance : TgC Unit := ⟨⟩
@[reducible] def TgU {α : Sort _} (_ : α) : Type := Unit
/-- what follows a value -/
def bR {α β : Type} (r : R α) (k : α → M β) [TgC (TgU k)] : R β := match r with
  | .ok a μ => k a μ
  | .ex C fs μ => .ex C fs μ
  | .no => .no
@[simp ↓] theorem bR_ok {α β : Type} {a : α} {μ : Mem} {k : α → M β} {t : TgC (TgU k)} : @bR α β (.ok a μ) k t = k a μ := rfl
@[simp] theorem bR_ex {α β : Type} {C : Str} {fs : List (Str × D)} {μ : Mem} {k : α → M β} {t : TgC (TgU k)} : @bR α β (.ex C fs μ) k t = .ex C fs μ := rfl
@[simp] theorem bR_no {α β : Type} {k : α → M β} {t : TgC (TgU k)} : @bR α β .no k t = .no := rfl
@[simp ↓] theorem bnd_s {α β : Type} {m : M α} {k : α → M β} {μ : Mem} : bnd m k μ = bR (m μ) k := by unfold bnd bR; cases m μ <;> rfl
@[simp ↓] theorem ret_s {α : Type} {a : α} {μ : Mem} : ret a μ = .ok a μ := rfl
theorem bR_k {α β : Type} {r : R α} {k k' : α → M β} (h : k = k') : bR r k = bR r k' := by subst h; rfl
theorem bR_ite {α β : Type} {c : Prop} [Decidable c] {a b : R α} {k : α → M β} : bR (if c then a else b) k = if c then bR a k else bR b k := by split <;> rfl
@[simp] theorem put_same {ρ : FEnv} {i : Nat} {s : SV} : put ρ i s i = s := if_pos rfl
theorem put_at {ρ : FEnv} {i j : Nat} {s : SV} : put ρ i s j = if j = i then s else ρ j := rfl
@[simp] theorem put_ne {ρ : FEnv} {i j : Nat} {s : SV} (h : j ≠ i) : put ρ i s j = ρ j := if_neg h
@[simp] theorem fstart_s {as : List SV} {i : Nat} : fstart as i = as.getD i .un := rfl
@[simp] theorem wip_nil {ρ : FEnv} : wip ρ [] = ρ := rfl
@[simp] theorem wip_cons {ρ : FEnv} {v : Nat} {vs : List Nat} : wip ρ (v :: vs) = put (wip ρ vs) v .un := rfl
/-- a slot's value -/
def vR (s : SV) (μ : Mem) : R SV := match s with
  | .d a => .ok (.d a) μ
  | .c k => .ok (.c k) μ
  | .un => .no
@[simp ↓] theorem fV_s {i : Nat} {ρ : FEnv} {μ : Mem} : fV i ρ μ = vR (ρ i) μ := rfl
@[simp] theorem vR_d {a : D} {μ : Mem} : vR (.d a) μ = .ok (.d a) μ := rfl
@[simp] theorem vR_c {k : Nat} {μ : Mem} : vR (.c k) μ = .ok (.c k) μ := rfl
@[simp ↓] theorem fC_s {d : D} {ρ : FEnv} {μ : Mem} : fC d ρ μ = .ok (.d d) μ := rfl
@[simp ↓] theorem fOp_s {g : SV → SV → M SV} {a b : FX} {ρ : FEnv} {μ : Mem} : fOp g a b ρ μ = bR (a ρ μ) fun s => bnd (b ρ) fun t => g s t := bnd_s
@[simp ↓] theorem fUn_s {g : SV → M SV} {a : FX} {ρ : FEnv} {μ : Mem} : fUn g a ρ μ = bR (a ρ μ) g := bnd_s
@[simp] theorem tr_s {b : Bool} {μ : Mem} : tr (.d (.bl b)) μ = .ok b μ := rfl
@[simp ↓] theorem fT_s {a : FX} {ρ : FEnv} {μ : Mem} : fT a ρ μ = bR (a ρ μ) tr := bnd_s
/-- the one or the other -/
def kI {α : Type} (b : Bool) (m m' : M α) [TgC (TgU m)] [TgC (TgU m')] (μ : Mem) : R α := if b = true then m μ else m' μ
@[simp ↓] theorem kI_t {α : Type} {m m' : M α} {μ : Mem} {t : TgC (TgU m)} {t' : TgC (TgU m')} : @kI α true m m' t t' μ = m μ := rfl
@[simp ↓] theorem kI_f {α : Type} {m m' : M α} {μ : Mem} {t : TgC (TgU m)} {t' : TgC (TgU m')} : @kI α false m m' t t' μ = m' μ := rfl
theorem kI_split {α : Type} {b : Bool} {m m' : M α} {μ : Mem} : kI b m m' μ = if b = true then m μ else m' μ := rfl
@[simp ↓] theorem fTAnd_s {a b : FT} {ρ : FEnv} {μ : Mem} : fTAnd a b ρ μ = bR (a ρ μ) fun k => kI k (b ρ) (ret false) := by
  unfold fTAnd; rw [bnd_s]; refine bR_k ?_; funext k μ; unfold kI; split <;> rfl
@[simp ↓] theorem fTOr_s {a b : FT} {ρ : FEnv} {μ : Mem} : fTOr a b ρ μ = bR (a ρ μ) fun k => kI k (ret true) (b ρ) := by
  unfold fTOr; rw [bnd_s]; refine bR_k ?_; funext k μ; unfold kI; split <;> rfl
@[simp ↓] theorem fTNot_s {a : FT} {ρ : FEnv} {μ : Mem} : fTNot a ρ μ = bR (a ρ μ) fun k => ret (!k) := bnd_s
@[simp ↓] theorem fAnd_s {a b : FX} {ρ : FEnv} {μ : Mem} : fAnd a b ρ μ = bR (bR (a ρ μ) tr) fun k => kI k (b ρ) (ret (.d (.bl false))) := by
  unfold fAnd; rw [bnd_s, bnd_s]; refine bR_k ?_; funext k μ; unfold kI; split <;> rfl
@[simp ↓] theorem fOr_s {a b : FX} {ρ : FEnv} {μ : Mem} : fOr a b ρ μ = bR (bR (a ρ μ) tr) fun k => kI k (ret (.d (.bl true))) (b ρ) := by
  unfold fOr; rw [bnd_s, bnd_s]; refine bR_k ?_; funext k μ; unfold kI; split <;> rfl
@[simp ↓] theorem fNot_s {a : FX} {ρ : FEnv} {μ : Mem} : fNot a ρ μ = bR (bR (a ρ μ) tr) fun k => ret (.d (.bl (!k))) := by unfold fNot; rw [bnd_s, bnd_s]
@[simp ↓] theorem fIf_s {c : FT} {a b : FX} {ρ : FEnv} {μ : Mem} : fIf c a b ρ μ = bR (c ρ μ) fun k => kI k (a ρ) (b ρ) := by
  unfold fIf; rw [bnd_s]; refine bR_k ?_; funext k μ; unfold kI; split <;> rfl
@[simp ↓] theorem fChain_s {g g' : SV → SV → M SV} {a b c : FX} {ρ : FEnv} {μ : Mem} : fChain g g' a b c ρ μ = bR (a ρ μ) fun s => bnd (b ρ) fun t => bnd (bnd (g s t) tr) fun k => kI k (bnd (c ρ) fun u => g' t u) (ret (.d (.bl false))) := by
  unfold fChain; rw [bnd_s]; refine bR_k ?_; funext s; congr; funext t; congr; funext k μ; unfold kI; split <;> rfl
@[simp ↓] theorem fNil_s {ρ : FEnv} {μ : Mem} : fNil ρ μ = .ok [] μ := rfl
@[simp ↓] theorem fCons_s {a : FX} {r : FA} {ρ : FEnv} {μ : Mem} : fCons a r ρ μ = bR (a ρ μ) fun s => bnd (r ρ) fun ss => ret (s :: ss) := bnd_s
@[simp] theorem allD_nil : allD [] = some [] := rfl
@[simp] theorem allD_cons {x : D} {r : List SV} : allD (.d x :: r) = (allD r).map (x :: ·) := rfl
@[simp] theorem allM_some {ds : List D} {q : List D → M SV} {μ : Mem} : allM (some ds) q μ = q ds μ := rfl
/-- a guard -/
@[simp ↓] theorem grd_s {α : Type} {c : Prop} {m : M α} {μ : Mem} (h : c) : grd c m μ = m μ := if_pos h
@[simp] theorem fTup_s {t : FA} {ρ : FEnv} {μ : Mem} : fTup t ρ μ = bR (t ρ μ) fun ss => allM (allD ss) fun ds => grd (ds.length ≤ sizeLine) (ret (.d (.tup ds))) := bnd_s
@[simp] theorem fLst_s {t : FA} {ρ : FEnv} {μ : Mem} : fLst t ρ μ = bR (t ρ μ) fun ss => allM (allD ss) fun ds => grd (ds.length ≤ sizeLine) (ret (.d (.lst ds))) := bnd_s
@[simp] theorem fLstC_s {t : FA} {ρ : FEnv} {μ : Mem} : fLstC t ρ μ = bR (t ρ μ) fun ss => allM (allD ss) fun ds => grd (ds.length ≤ sizeLine) fun μ => .ok (.c μ.length) (μ ++ [.lst ds]) := bnd_s
@[simp ↓] theorem fCall_s {g : List SV → M SV} {t : FA} {ρ : FEnv} {μ : Mem} : fCall g t ρ μ = bR (t ρ μ) g := bnd_s
@[simp ↓] theorem fNone_s {ρ : FEnv} {μ : Mem} : fNone ρ μ = .ok none μ := rfl
@[simp] theorem asInt_s {i : Int} {μ : Mem} : asInt (.d (.int i)) μ = .ok (some i) μ := rfl
@[simp ↓] theorem fSome_s {a : FX} {ρ : FEnv} {μ : Mem} : fSome a ρ μ = bR (a ρ μ) asInt := bnd_s
@[simp ↓] theorem fSl_s {g : SV → Option Int → Option Int → M SV} {a : FX} {l h : FO} {ρ : FEnv} {μ : Mem} : fSl g a l h ρ μ = bR (a ρ μ) fun s => bnd (l ρ) fun lo => bnd (h ρ) fun hi => g s lo hi := bnd_s
/-! ### statements -/
/-- what follows a statement -/
def sK (u : FS) [TgC (TgU u)] (o : Out) : M Out := match o with
  | .nx ρ => u ρ
  | o => ret o
@[simp ↓] theorem sK_nx {u : FS} {ρ : FEnv} {μ : Mem} {t : TgC (TgU u)} : @sK u t (.nx ρ) μ = u ρ μ := rfl
@[simp ↓] theorem sK_rt {u : FS} {v : SV} {μ : Mem} {t : TgC (TgU u)} : @sK u t (.rt v) μ = .ok (.rt v) μ := rfl
@[simp ↓] theorem sK_bk {u : FS} {ρ : FEnv} {μ : Mem} {t : TgC (TgU u)} : @sK u t (.bk ρ) μ = .ok (.bk ρ) μ := rfl
@[simp ↓] theorem sK_ct {u : FS} {ρ : FEnv} {μ : Mem} {t : TgC (TgU u)} : @sK u t (.ct ρ) μ = .ok (.ct ρ) μ := rfl
@[simp ↓] theorem fSeq_s {t u : FS} {ρ : FEnv} {μ : Mem} : fSeq t u ρ μ = bR (t ρ μ) (sK u) := by
  unfold fSeq; rw [bnd_s]; first | done | rfl | (congr; done) | (congr; funext o; cases o <;> rfl)
@[simp ↓] theorem fSkip_s {ρ : FEnv} {μ : Mem} : fSkip ρ μ = .ok (.nx ρ) μ := rfl
@[simp ↓] theorem fBrk_s {ρ : FEnv} {μ : Mem} : fBrk ρ μ = .ok (.bk ρ) μ := rfl
@[simp ↓] theorem fCnt_s {ρ : FEnv} {μ : Mem} : fCnt ρ μ = .ok (.ct ρ) μ := rfl
@[simp ↓] theorem fExpr_s {a : FX} {ρ : FEnv} {μ : Mem} : fExpr a ρ μ = bR (a ρ μ) fun _ => ret (.nx ρ) := bnd_s
@[simp ↓] theorem fRet_s {a : FX} {ρ : FEnv} {μ : Mem} : fRet a ρ μ = bR (a ρ μ) fun s => ret (.rt s) := bnd_s
@[simp ↓] theorem fRetN_s {ρ : FEnv} {μ : Mem} : fRetN ρ μ = .ok (.rt (.d .non)) μ := rfl
@[simp ↓] theorem fIfS_s {c : FT} {a b : FS} {ρ : FEnv} {μ : Mem} : fIfS c a b ρ μ = bR (c ρ μ) fun k => kI k (a ρ) (b ρ) := by
  unfold fIfS; rw [bnd_s]; refine bR_k ?_; funext k μ; unfold kI; split <;> rfl
@[simp] theorem fNever_s {ρ : FEnv} {μ : Mem} : fNever ρ μ = .no := rfl
@[simp ↓] theorem fAsg_s {a : FX} {g : FG} {ρ : FEnv} {μ : Mem} : fAsg a g ρ μ = bR (a ρ μ) fun s => bnd (g s ρ) fun ρ' => ret (.nx ρ') := bnd_s
@[simp ↓] theorem gN_s {i : Nat} {s : SV} {ρ : FEnv} {μ : Mem} : gN i s ρ μ = .ok (put ρ i s) μ := rfl
@[simp] theorem gT_s {gs : List FG} {ds : List D} {ρ : FEnv} {μ : Mem} (h : ds.length = gs.length) : gT gs (.d (.tup ds)) ρ μ = gAll gs ds ρ μ := by simp only [gT, h, if_true]
@[simp] theorem gAll_nil {ρ : FEnv} {μ : Mem} : gAll [] [] ρ μ = .ok ρ μ := rfl
@[simp] theorem gAll_cons {g : FG} {gs : List FG} {d : D} {ds : List D} {ρ : FEnv} {μ : Mem} : gAll (g :: gs) (d :: ds) ρ μ = bR (g (.d d) ρ μ) fun ρ' => gAll gs ds ρ' := bnd_s
def parK (i j : Nat) (ρ : FEnv) (ss : List SV) : M Out := match ss with
  | [s, r] => ret (.nx (put (put ρ i s) j r))
  | _ => fun _ => .no
@[simp] theorem parK_s {i j : Nat} {ρ : FEnv} {s r : SV} {μ : Mem} : parK i j ρ [s, r] μ = .ok (.nx (put (put ρ i s) j r)) μ := rfl
@[simp ↓] theorem fPar_s {i j : Nat} {t : FA} {ρ : FEnv} {μ : Mem} : fPar i j t ρ μ = bR (t ρ μ) (parK i j ρ) := by
  unfold fPar; rw [bnd_s]; rfl
@[simp ↓] theorem fDPut_s {o i e : FX} {ρ : FEnv} {μ : Mem} : fDPut o i e ρ μ = bR (e ρ μ) fun s => bnd (o ρ) fun so => bnd (i ρ) fun si => bnd (dputF so si s) fun _ => ret (.nx ρ) := bnd_s
@[simp ↓] theorem fNewK_s {ρ : FEnv} {μ : Mem} : fNewK ρ μ = .ok (.c μ.length) (μ ++ [.dK [] []]) := rfl
@[simp ↓] theorem fNewT_s {ρ : FEnv} {μ : Mem} : fNewT ρ μ = .ok (.c μ.length) (μ ++ [.dT [] []]) := rfl
def lK (step : SV → FS) (ds : List D) [TgC (TgU step)] [TgC (TgU ds)] (o : Out) : M Out := match o with
  | .nx ρ' => fLoop step ds ρ'
  | .ct ρ' => fLoop step ds ρ'
  | .bk ρ' => ret (.nx ρ')
  | .rt v => ret (.rt v)
@[simp ↓] theorem lK_nx {step : SV → FS} {ds : List D} {ρ : FEnv} {μ : Mem} {t : TgC (TgU step)} {t' : TgC (TgU ds)} : @lK step ds t t' (.nx ρ) μ = fLoop step ds ρ μ := rfl
@[simp ↓] theorem lK_ct {step : SV → FS} {ds : List D} {ρ : FEnv} {μ : Mem} {t : TgC (TgU step)} {t' : TgC (TgU ds)} : @lK step ds t t' (.ct ρ) μ = fLoop step ds ρ μ := rfl
@[simp ↓] theorem lK_bk {step : SV → FS} {ds : List D} {ρ : FEnv} {μ : Mem} {t : TgC (TgU step)} {t' : TgC (TgU ds)} : @lK step ds t t' (.bk ρ) μ = .ok (.nx ρ) μ := rfl
@[simp ↓] theorem lK_rt {step : SV → FS} {ds : List D} {v : SV} {μ : Mem} {t : TgC (TgU step)} {t' : TgC (TgU ds)} : @lK step ds t t' (.rt v) μ = .ok (.rt v) μ := rfl
@[simp] theorem fLoop_nil {step : SV → FS} {ρ : FEnv} {μ : Mem} : fLoop step [] ρ μ = .ok (.nx ρ) μ := rfl
theorem fLoop_cons {step : SV → FS} {d : D} {ds : List D} {ρ : FEnv} {μ : Mem} : fLoop step (d :: ds) ρ μ = bR (step (.d d) ρ μ) (lK step ds) := by
  unfold fLoop; rw [bnd_s]; first | done | rfl | (congr; done) | (congr; funext o; cases o <;> rfl)
/-- the body of a for -/
def bF (g : FG) (b : FS) : SV → FS := fun d ρ => bnd (g d ρ) b
@[simp ↓] theorem bF_s {g : FG} {b : FS} {s : SV} {ρ : FEnv} {μ : Mem} : bF g b s ρ μ = bR (g s ρ μ) b := bnd_s
@[simp ↓] theorem fFor_s {it : FI} {g : FG} {b : FS} {ρ : FEnv} {μ : Mem} : fFor it g b ρ μ = bR (it ρ μ) fun ds => fLoop (bF g b) ds ρ := bnd_s
def wK (c : FT) (b : FS) (n : Nat) (o : Out) : M Out := match o with
  | .nx ρ' => wLoop c b n ρ'
  | .ct ρ' => wLoop c b n ρ'
  | .bk ρ' => ret (.nx ρ')
  | .rt v => ret (.rt v)
theorem wLoop_s {c : FT} {b : FS} {n : Nat} {ρ : FEnv} {μ : Mem} : wLoop c b (n + 1) ρ μ = bR (c ρ μ) fun k => kI k (bnd (b ρ) (wK c b n)) (ret (.nx ρ)) := by
  unfold wLoop; rw [bnd_s]; refine bR_k ?_; funext k μ; unfold kI; split
  · simp only [if_true, bnd_s]; first | done | rfl | (congr; done) | (congr; funext o; cases o <;> rfl)
  · rename_i h; first | done | rfl | (simp only [h]; rfl)
theorem wLoop_mono {c : FT} {b : FS} : ∀ {n m : Nat} {ρ : FEnv} {μ : Mem}, n ≤ m → wLoop c b n ρ μ ≠ .no → wLoop c b m ρ μ = wLoop c b n ρ μ
  | 0, _, _, _, _, h => absurd rfl h
  | n + 1, m, ρ, μ, le, h => by
    obtain ⟨m, rfl⟩ : ∃ k, m = k + 1 := ⟨m - 1, by omega⟩
    rw [wLoop_s] at h
    rw [wLoop_s, wLoop_s]
    cases e : c ρ μ with
    | ex C fs μ1 => rfl
    | no => rfl
    | ok k μ1 =>
      cases k with
      | false => rfl
      | true =>
        rw [e] at h
        simp only [bR_ok, kI_t, bnd_s] at h ⊢
        cases e2 : b ρ μ1 with
        | ex C fs μ2 => rfl
        | no => rfl
        | ok o μ2 =>
          rw [e2] at h
          simp only [bR_ok] at h ⊢
          cases o with
          | nx ρ' => exact wLoop_mono (by omega) h
          | ct ρ' => exact wLoop_mono (by omega) h
          | bk ρ' => rfl
          | rt v => rfl
theorem fWhile_of {c : FT} {b : FS} {n : Nat} {ρ : FEnv} {μ : Mem} {r : R Out} (h : wLoop c b n ρ μ = r) (hr : r ≠ .no) : fWhile c b ρ μ = r := by
  have hz : ∃ n, wLoop c b n ρ μ ≠ .no := ⟨n, by rw [h]; exact hr⟩
  unfold fWhile
  rw [dif_pos hz]
  have h2 := Classical.choose_spec hz
  generalize Classical.choose hz = m at h2 ⊢
  rcases Nat.le_total n m with le | le
  · rw [wLoop_mono le (by rw [h]; exact hr), h]
  · rw [← wLoop_mono le h2, h]
/-! ### comprehensions -/
@[simp] theorem fYes_s {ρ : FEnv} {μ : Mem} : fYes ρ μ = .ok true μ := rfl
@[simp ↓] theorem cStep_s {g : FG} {c : FT} {e : FX} {vs : List Nat} {ρ : FEnv} {d : D} {μ : Mem} : cStep g c e vs ρ d μ = bR (g (.d d) (wip ρ vs) μ) fun ρ2 => bnd (c ρ2) fun k => kI k (bnd (e ρ2) fun s => ret (some s)) (ret none) := by
  unfold cStep; rw [bnd_s]; refine bR_k ?_; funext ρ2; congr; funext k μ; unfold kI; split <;> rfl
@[simp ↓] theorem cStep2_s {g : FG} {c : FT} {it1 : FI} {g1 : FG} {c1 : FT} {e : FX} {vs vs1 : List Nat} {ρ : FEnv} {d : D} {μ : Mem} : cStep2 g c it1 g1 c1 e vs vs1 ρ d μ = bR (g (.d d) (wip ρ vs) μ) fun ρ2 => bnd (c ρ2) fun k => kI k (bnd (it1 ρ2) fun es => bnd (cLoop (cStep g1 c1 e vs1 ρ2) es) fun l => ret (some l)) (ret none) := by
  unfold cStep2; rw [bnd_s]; refine bR_k ?_; funext ρ2; congr; funext k μ; unfold kI; split <;> rfl
@[simp] theorem finLF_s {acc : List D} {μ : Mem} : finLF acc μ = .ok (.d (.lst acc)) μ := rfl
@[simp] theorem finCF_s {acc : List D} {μ : Mem} : finCF acc μ = .ok (.c μ.length) (μ ++ [.lst acc]) := rfl
@[simp ↓] theorem fLc_s {fin : List D → M SV} {it : FI} {g : FG} {c : FT} {e : FX} {vs : List Nat} {ρ : FEnv} {μ : Mem} : fLc fin it g c e vs ρ μ = bR (it ρ μ) fun ds => grd (ds.length ≤ sizeLine) (bnd (cLoop (cStep g c e vs ρ) ds) fin) := bnd_s
@[simp ↓] theorem fLc2_s {fin : List D → M SV} {it : FI} {g : FG} {c : FT} {it1 : FI} {g1 : FG} {c1 : FT} {e : FX} {vs vs1 : List Nat} {ρ : FEnv} {μ : Mem} : fLc2 fin it g c it1 g1 c1 e vs vs1 ρ μ = bR (it ρ μ) fun ds => bnd (cLoop2 (cStep2 g c it1 g1 c1 e vs vs1 ρ) ds) fun l => grd (l.length ≤ sizeLine) (fin l) := bnd_s
@[simp] theorem cLoop_nil {step : D → M (Option SV)} {μ : Mem} : cLoop step [] μ = .ok [] μ := rfl
def cK (step : D → M (Option SV)) (ds : List D) (o : Option SV) : M (List D) := fun μ' => match o with
  | none => cLoop step ds μ'
  | some (.d y) => match cLoop step ds μ' with
    | .ok r μ2 => .ok (y :: r) μ2
    | _ => .no
  | _ => .no
theorem cLoop_cons {step : D → M (Option SV)} {d : D} {ds : List D} {μ : Mem} {o : Option SV} {μ' : Mem} (h : step d μ = .ok o μ') : cLoop step (d :: ds) μ = cK step ds o μ' := by
  show (match step d μ with
    | .ok none μ' => cLoop step ds μ'
    | .ok (some (.d y)) μ' => _
    | _ => .no) = _
  rw [h]
  cases o with
  | none => rfl
  | some s => cases s <;> rfl
/-- a comprehension without a condition, of what leaves the cells alone -/
theorem cLoop_map {step : D → M (Option SV)} {μ : Mem} (f : D → D) : ∀ {ds : List D}, (∀ d ∈ ds, step d μ = .ok (some (.d (f d))) μ) → cLoop step ds μ = .ok (ds.map f) μ
  | [], _ => rfl
  | d :: ds, h => by
    rw [cLoop_cons (h d List.mem_cons_self)]
    show (match cLoop step ds μ with
      | .ok r μ2 => R.ok (f d :: r) μ2
      | _ => .no) = _
    rw [cLoop_map f fun x hx => h x (List.mem_cons_of_mem _ hx)]
    rfl
/-- .. with a condition -/
theorem cLoop_filter {step : D → M (Option SV)} {μ : Mem} (f : D → Option D) : ∀ {ds : List D}, (∀ d ∈ ds, step d μ = .ok ((f d).map .d) μ) → cLoop step ds μ = .ok (ds.filterMap f) μ
  | [], _ => rfl
  | d :: ds, h => by
    rw [cLoop_cons (h d List.mem_cons_self)]
    have ih := cLoop_filter f (ds := ds) fun x hx => h x (List.mem_cons_of_mem _ hx)
    cases e : f d with
    | none => simp only [Option.map_none, cK, List.filterMap_cons, e]; exact ih
    | some y => simp only [Option.map_some, cK, List.filterMap_cons, e, ih]
/-- .. over typed things -/
theorem cLoop_mapT {α : Type} {step : D → M (Option SV)} {μ : Mem} {l : List α} {en : α → D} (f : α → D) (h : ∀ a ∈ l, step (en a) μ = .ok (some (.d (f a))) μ) : cLoop step (l.map en) μ = .ok (l.map f) μ := by
  induction l with
  | nil => rfl
  | cons a l ih =>
    rw [List.map_cons, cLoop_cons (h a List.mem_cons_self)]
    show (match cLoop step (l.map en) μ with
      | .ok r μ2 => R.ok (f a :: r) μ2
      | _ => .no) = _
    rw [ih fun x hx => h x (List.mem_cons_of_mem _ hx)]
    rfl
theorem cLoop_filterT {α : Type} {step : D → M (Option SV)} {μ : Mem} {l : List α} {en : α → D} (f : α → Option D) (h : ∀ a ∈ l, step (en a) μ = .ok ((f a).map .d) μ) : cLoop step (l.map en) μ = .ok (l.filterMap f) μ := by
  induction l with
  | nil => rfl
  | cons a l ih =>
    rw [List.map_cons, cLoop_cons (h a List.mem_cons_self)]
    have ih := ih fun x hx => h x (List.mem_cons_of_mem _ hx)
    cases e : f a with
    | none => simp only [Option.map_none, cK, List.filterMap_cons, e]; exact ih
    | some y => simp only [Option.map_some, cK, List.filterMap_cons, e, ih]
/-- two generators, over typed things -/
theorem cLoop2_mapT {α : Type} {step : D → M (Option (List D))} {μ : Mem} {l : List α} {en : α → D} (f : α → List D) (h : ∀ a ∈ l, step (en a) μ = .ok (some (f a)) μ) : cLoop2 step (l.map en) μ = .ok (l.flatMap f) μ := by
  induction l with
  | nil => rfl
  | cons a l ih =>
    show (match step (en a) μ with
      | .ok none μ' => cLoop2 step (l.map en) μ'
      | .ok (some l') μ' => _
      | _ => .no) = _
    rw [h a List.mem_cons_self]
    show (match cLoop2 step (l.map en) μ with
      | .ok r μ2 => R.ok (f a ++ r) μ2
      | _ => .no) = _
    rw [ih fun x hx => h x (List.mem_cons_of_mem _ hx)]
    rfl
/-! ### defs, calls -/
/-- what a def hands back -/
def oR (r : R Out) : R SV := match r with
  | .ok (.nx _) μ' => .ok (.d .non) μ'
  | .ok (.rt v) μ' => .ok v μ'
  | .ok _ _ => .no
  | .ex C fs μ' => .ex C fs μ'
  | .no => .no
@[simp] theorem oR_nx {ρ : FEnv} {μ : Mem} : oR (.ok (.nx ρ) μ) = .ok (.d .non) μ := rfl
@[simp] theorem oR_rt {v : SV} {μ : Mem} : oR (.ok (.rt v) μ) = .ok v μ := rfl
@[simp] theorem oR_ex {C : Str} {fs : List (Str × D)} {μ : Mem} : oR (.ex C fs μ) = .ex C fs μ := rfl
@[simp ↓] theorem fDef_s {k : Nat} {b : FS} {as : List SV} {μ : Mem} (h : as.length = k) : fDef k b as μ = oR (b (fstart as) μ) := by
  unfold fDef; rw [if_pos h]; rfl
@[simp ↓] theorem flR_nil {α : Type} {r : R α} : flR [] r = r := rfl
@[simp ↓] theorem flR_cons {α : Type} {c : Cell} {cs : Mem} {r : R α} : flR (c :: cs) r = flC c (flR cs r) := rfl
@[simp ↓] theorem flC_lst {α : Type} {l : List D} {r : R α} : flC (.lst l) r = r := rfl
@[simp ↓] theorem flC_dK {α : Type} {k l : List D} {r : R α} : flC (.dK k l) r = r := rfl
@[simp ↓] theorem flC_dT {α : Type} {k l : List D} {r : R α} : flC (.dT k l) r = r := rfl
@[simp ↓] theorem flC_ins {α : Type} {C : Str} {n : List Str} {l : List D} {r : R α} : flC (.ins C n l) r = r := rfl
@[simp] theorem nocell_s : nocell = .lst [] := rfl
/-- what a call hands back -/
def callR (μ : Mem) (ks : List Nat) (r : R SV) : R SV := match r with
    | .ok (.d d) μ' => flR (μ'.take ks.length) (.ok (.d d) (merge μ ks μ'))
    | .ok (.c j) μ' => flR (μ'.take ks.length) (if j < ks.length then .ok (.c (ks.getD j 0)) (merge μ ks μ') else flC (μ'.getD j nocell) (.ok (.c μ.length) (merge μ ks μ' ++ [μ'.getD j nocell])))
    | .ok .un _ => .no
    | .ex C fs μ' => flR (μ'.take ks.length) (.ex C fs (merge μ ks μ'))
    | .no => .no
@[simp] theorem callR_d {μ μ' : Mem} {ks : List Nat} {d : D} : callR μ ks (.ok (.d d) μ') = flR (μ'.take ks.length) (.ok (.d d) (merge μ ks μ')) := rfl
@[simp] theorem callR_c {μ μ' : Mem} {ks : List Nat} {j : Nat} : callR μ ks (.ok (.c j) μ') = flR (μ'.take ks.length) (if j < ks.length then .ok (.c (ks.getD j 0)) (merge μ ks μ') else flC (μ'.getD j nocell) (.ok (.c μ.length) (merge μ ks μ' ++ [μ'.getD j nocell]))) := rfl
@[simp] theorem callR_ex {μ μ' : Mem} {ks : List Nat} {C : Str} {fs : List (Str × D)} : callR μ ks (.ex C fs μ') = flR (μ'.take ks.length) (.ex C fs (merge μ ks μ')) := rfl
/-- .. of a def whose cells are told apart -/
def ndR {α : Type} (ks : List Nat) (r : R α) : R α := match ks with
  | [] => r
  | [_] => r
  | ks => if ks.Nodup then r else .no
@[simp ↓] theorem ndR_nil {α : Type} {r : R α} : ndR [] r = r := rfl
@[simp ↓] theorem ndR_one {α : Type} {r : R α} {k : Nat} : ndR [k] r = r := rfl
theorem ndR_two {α : Type} {r : R α} {k j : Nat} {ks : List Nat} (h : (k :: j :: ks).Nodup) : ndR (k :: j :: ks) r = r := if_pos h
theorem ndR_eq {α : Type} {ks : List Nat} {r : R α} : ndR ks r = if ks.Nodup then r else .no := by
  match ks with
  | [] => simp
  | [_] => simp
  | _ :: _ :: _ => rfl
@[simp ↓] theorem callM_s {f : List SV → M SV} {ss : List SV} {μ : Mem} : callM f ss μ = ndR (cellsOf ss) (flR (picked μ (cellsOf ss)) (callR μ (cellsOf ss) (f (relab 0 ss) (picked μ (cellsOf ss))))) := by
  rw [ndR_eq]; unfold callM
  by_cases h : (cellsOf ss).Nodup
  · rw [if_pos h, if_pos h]; rfl
  · rw [if_neg h, if_neg h]
def callRF (μ : Mem) (ks : List Nat) (r : R SV) : R SV := match r with
    | .ok (.d d) μ' => flR (μ'.take ks.length) (.ok (.d d) (merge μ ks μ'))
    | .ok (.c j) μ' => flR (μ'.take ks.length) (match frzS ks.length μ' 3 (.c j) with
      | some d => .ok (.d d) (merge μ ks μ')
      | none => .no)
    | .ok .un _ => .no
    | .ex C fs μ' => flR (μ'.take ks.length) (.ex C fs (merge μ ks μ'))
    | .no => .no
@[simp] theorem callRF_d {μ μ' : Mem} {ks : List Nat} {d : D} : callRF μ ks (.ok (.d d) μ') = flR (μ'.take ks.length) (.ok (.d d) (merge μ ks μ')) := rfl
theorem callRF_c {μ μ' : Mem} {ks : List Nat} {j : Nat} {d : D} (h : frzS ks.length μ' 3 (.c j) = some d) : callRF μ ks (.ok (.c j) μ') = flR (μ'.take ks.length) (.ok (.d d) (merge μ ks μ')) := by
  unfold callRF; simp only [h]
theorem frzS_lst {n0 j n : Nat} {μ : Mem} {l : List D} (hj : n0 ≤ j) (h : μ[j]? = some (.lst l)) : frzS n0 μ n (.c j) = some (.lst l) := by
  unfold frzS; simp only [if_pos hj, h]
@[simp ↓] theorem callMF_s {f : List SV → M SV} {ss : List SV} {μ : Mem} : callMF f ss μ = ndR (cellsOf ss) (flR (picked μ (cellsOf ss)) (callRF μ (cellsOf ss) (f (relab 0 ss) (picked μ (cellsOf ss))))) := by
  rw [ndR_eq]; unfold callMF grd
  by_cases h : (cellsOf ss).Nodup
  · rw [if_pos h, if_pos h]; rfl
  · rw [if_neg h, if_neg h]
@[simp] theorem cellsOf_nil : cellsOf [] = [] := rfl
@[simp] theorem cellsOf_c {k : Nat} {r : List SV} : cellsOf (.c k :: r) = k :: cellsOf r := rfl
@[simp] theorem cellsOf_d {d : D} {r : List SV} : cellsOf (.d d :: r) = cellsOf r := rfl
@[simp] theorem relab_nil {n : Nat} : relab n [] = [] := rfl
@[simp] theorem relab_c {n k : Nat} {r : List SV} : relab n (.c k :: r) = .c n :: relab (n + 1) r := rfl
@[simp] theorem relab_d {n : Nat} {d : D} {r : List SV} : relab n (.d d :: r) = .d d :: relab n r := rfl
@[simp] theorem picked_nil {μ : Mem} : picked μ [] = [] := rfl
@[simp] theorem picked_cons {μ : Mem} {k : Nat} {ks : List Nat} : picked μ (k :: ks) = μ.getD k nocell :: picked μ ks := rfl
@[simp] theorem merge_nil {μ cs : Mem} : merge μ [] cs = μ := by cases cs <;> rfl
@[simp] theorem merge_cons {μ cs : Mem} {k : Nat} {ks : List Nat} {c : Cell} : merge μ (k :: ks) (c :: cs) = merge (μ.set k c) ks cs := rfl
def permK (perm : List Nat) (f : List SV → M SV) (n m : Nat) (ss zs : List SV) : M SV := if ss.length = n ∧ zs.length = m then f (permG .un perm ss zs) else fun _ => .no
@[simp] theorem permK_s {perm : List Nat} {f : List SV → M SV} {n m : Nat} {ss zs : List SV} {μ : Mem} (h : ss.length = n) (h2 : zs.length = m) : permK perm f n m ss zs μ = f (permG .un perm ss zs) μ := by unfold permK; rw [if_pos ⟨h, h2⟩]
@[simp ↓] theorem permM_s {perm : List Nat} {f : List SV → M SV} {n m : Nat} {t tk : FA} {ρ : FEnv} {μ : Mem} : permM perm f n m t tk ρ μ = bR (t ρ μ) fun ss => bnd (tk ρ) fun zs => permK perm f n m ss zs := bnd_s
@[simp] theorem permG_nil {us ws : List SV} : permG SV.un [] us ws = [] := rfl
@[simp] theorem permG_cons {i : Nat} {perm : List Nat} {us ws : List SV} : permG SV.un (i :: perm) us ws = (us ++ ws).getD i .un :: permG SV.un perm us ws := rfl
@[simp] theorem tabC_same {x : Str} {f : List SV → M SV} {T : Tab} : tabC x f T x = some f := if_pos rfl
noncomputable def lcK (T : Tab) (fl : FA) (ρ : FEnv) (s : SV) : M SV := match s with
  | .d (.fn f) => match T f with
    | some p => bnd (fl ρ) (callM p)
    | none => fun _ => .no
  | _ => fun _ => .no
@[simp ↓] theorem fLocal_s {i : Nat} {T : Tab} {fl : FA} {ρ : FEnv} {μ : Mem} : fLocal i T fl ρ μ = lcK T fl ρ (ρ i) μ := rfl
theorem lcK_fn {T : Tab} {fl : FA} {ρ : FEnv} {f : Str} {p : List SV → M SV} {μ : Mem} (h : T f = some p) : lcK T fl ρ (.d (.fn f)) μ = bR (fl ρ μ) (callM p) := by
  unfold lcK; simp only [h]; exact bnd_s
/-! ### operations -/
section
variable {i j : Int} {x y : Str} {l m : List D} {μ : Mem} {b b' : Bool} {k : Nat} {d : D}
@[simp] theorem addF_i : addF (.d (.int i)) (.d (.int j)) μ = .ok (.d (.int (i + j))) μ := rfl
@[simp] theorem addF_s : addF (.d (.str x)) (.d (.str y)) μ = grd (x.length + y.length ≤ sizeLine) (ret (.d (.str (x ++ y)))) μ := rfl
@[simp] theorem addF_t : addF (.d (.tup l)) (.d (.tup m)) μ = grd (l.length + m.length ≤ sizeLine) (ret (.d (.tup (l ++ m)))) μ := rfl
@[simp] theorem addF_l : addF (.d (.lst l)) (.d (.lst m)) μ = grd (l.length + m.length ≤ sizeLine) (ret (.d (.lst (l ++ m)))) μ := rfl
@[simp] theorem subF_i : subF (.d (.int i)) (.d (.int j)) μ = .ok (.d (.int (i - j))) μ := rfl
@[simp] theorem mulF_i : mulF (.d (.int i)) (.d (.int j)) μ = grd (CMul i j) (ret (.d (.int (i * j)))) μ := rfl
@[simp] theorem modF_i : modF (.d (.int i)) (.d (.int j)) μ = grd (0 < j) (ret (.d (.int (i % j)))) μ := rfl
@[simp] theorem divF_i : divF (.d (.int i)) (.d (.int j)) μ = grd (CDiv i j) (ret (.d (.int (i / j)))) μ := rfl
@[simp] theorem powF_i : powF (.d (.int i)) (.d (.int j)) μ = grd (CPow i j) (ret (.d (.int (i ^ j.toNat)))) μ := rfl
@[simp] theorem negF_i : negF (.d (.int i)) μ = .ok (.d (.int (-i))) μ := rfl
@[simp] theorem ltF_i : ltF (.d (.int i)) (.d (.int j)) μ = .ok (.d (.bl (decide (i < j)))) μ := rfl
@[simp] theorem ltF_s : ltF (.d (.str x)) (.d (.str y)) μ = .ok (.d (.bl (decide (x.cps.toList < y.cps.toList)))) μ := rfl
@[simp] theorem leF_i : leF (.d (.int i)) (.d (.int j)) μ = .ok (.d (.bl (decide (i ≤ j)))) μ := rfl
@[simp] theorem leF_s : leF (.d (.str x)) (.d (.str y)) μ = .ok (.d (.bl (!decide (y.cps.toList < x.cps.toList)))) μ := rfl
@[simp] theorem gtF_i : gtF (.d (.int i)) (.d (.int j)) μ = .ok (.d (.bl (decide (j < i)))) μ := rfl
@[simp] theorem gtF_s : gtF (.d (.str x)) (.d (.str y)) μ = .ok (.d (.bl (decide (y.cps.toList < x.cps.toList)))) μ := rfl
@[simp] theorem geF_i : geF (.d (.int i)) (.d (.int j)) μ = .ok (.d (.bl (decide (j ≤ i)))) μ := rfl
@[simp] theorem geF_s : geF (.d (.str x)) (.d (.str y)) μ = .ok (.d (.bl (!decide (x.cps.toList < y.cps.toList)))) μ := rfl
theorem ltF_t {u v : D} (hu : isTp u = true) (hv : isTp v = true) : ltF (.d u) (.d v) μ = grd (isTp u = true ∧ isTp v = true ∧ okEq u = true ∧ okEq v = true ∧ alD u v = true) (ret (.d (.bl (ltD u v)))) μ := by
  cases u <;> simp [isTp] at hu <;> cases v <;> simp [isTp] at hv <;> rfl
theorem leF_t {u v : D} (hu : isTp u = true) (hv : isTp v = true) : leF (.d u) (.d v) μ = grd (isTp u = true ∧ isTp v = true ∧ okEq u = true ∧ okEq v = true ∧ alD u v = true) (ret (.d (.bl (!ltD v u)))) μ := by
  cases u <;> simp [isTp] at hu <;> cases v <;> simp [isTp] at hv <;> rfl
theorem gtF_t {u v : D} (hu : isTp u = true) (hv : isTp v = true) : gtF (.d u) (.d v) μ = grd (isTp u = true ∧ isTp v = true ∧ okEq u = true ∧ okEq v = true ∧ alD u v = true) (ret (.d (.bl (ltD v u)))) μ := by
  cases u <;> simp [isTp] at hu <;> cases v <;> simp [isTp] at hv <;> rfl
@[simp] theorem iltF_i : iltF (.d (.int i)) (.d (.int j)) μ = .ok (.d (.bl (decide (i < j)))) μ := rfl
@[simp] theorem ileF_i : ileF (.d (.int i)) (.d (.int j)) μ = .ok (.d (.bl (decide (i ≤ j)))) μ := rfl
@[simp] theorem eqF_i : eqF (.d (.int i)) (.d (.int j)) μ = .ok (.d (.bl (decide (i = j)))) μ := rfl
@[simp] theorem eqF_b : eqF (.d (.bl b)) (.d (.bl b')) μ = .ok (.d (.bl (b == b'))) μ := rfl
@[simp] theorem neF_i : neF (.d (.int i)) (.d (.int j)) μ = .ok (.d (.bl (!decide (i = j)))) μ := rfl
@[simp] theorem neF_b : neF (.d (.bl b)) (.d (.bl b')) μ = .ok (.d (.bl (!(b == b')))) μ := rfl
theorem eqF_d {u v : D} (hu : okEq u = true) (hv : okEq v = true) : eqF (.d u) (.d v) μ = .ok (.d (.bl (deq u v))) μ := by
  unfold eqF
  split
  · rename_i e1 e2; injection e1 with e1; injection e2 with e2; subst e1; subst e2; rw [deq_int]
  · rename_i e1 e2; injection e1 with e1; injection e2 with e2; subst e1; subst e2; rw [deq_bl]
  · rename_i e1 e2; injection e1 with e1; injection e2 with e2; subst e1; subst e2; exact grd_pos ⟨hu, hv⟩
  · rename_i h; exact (h _ _ rfl rfl).elim
theorem neF_d {u v : D} (hu : okEq u = true) (hv : okEq v = true) : neF (.d u) (.d v) μ = .ok (.d (.bl (!deq u v))) μ := by
  unfold neF
  split
  · rename_i e1 e2; injection e1 with e1; injection e2 with e2; subst e1; subst e2; rw [deq_int]
  · rename_i e1 e2; injection e1 with e1; injection e2 with e2; subst e1; subst e2; rw [deq_bl]
  · rename_i e1 e2; injection e1 with e1; injection e2 with e2; subst e1; subst e2; exact grd_pos ⟨hu, hv⟩
  · rename_i h; exact (h _ _ rfl rfl).elim
@[simp] theorem isNF_non : isNF (.d .non) μ = .ok (.d (.bl true)) μ := rfl
@[simp] theorem isNF_bl : isNF (.d (.bl b)) μ = .ok (.d (.bl false)) μ := rfl
@[simp] theorem isNF_int : isNF (.d (.int i)) μ = .ok (.d (.bl false)) μ := rfl
@[simp] theorem isNF_str : isNF (.d (.str x)) μ = .ok (.d (.bl false)) μ := rfl
@[simp] theorem isNF_tup : isNF (.d (.tup l)) μ = .ok (.d (.bl false)) μ := rfl
@[simp] theorem isNF_ntp : isNF (.d (.ntp l)) μ = .ok (.d (.bl false)) μ := rfl
@[simp] theorem isNF_lst : isNF (.d (.lst l)) μ = .ok (.d (.bl false)) μ := rfl
@[simp] theorem isNF_c : isNF (.c k) μ = .ok (.d (.bl false)) μ := rfl
@[simp] theorem notNF_non : notNF (.d .non) μ = .ok (.d (.bl false)) μ := rfl
@[simp] theorem notNF_bl : notNF (.d (.bl b)) μ = .ok (.d (.bl true)) μ := rfl
@[simp] theorem notNF_int : notNF (.d (.int i)) μ = .ok (.d (.bl true)) μ := rfl
@[simp] theorem notNF_str : notNF (.d (.str x)) μ = .ok (.d (.bl true)) μ := rfl
@[simp] theorem notNF_tup : notNF (.d (.tup l)) μ = .ok (.d (.bl true)) μ := rfl
@[simp] theorem notNF_ntp : notNF (.d (.ntp l)) μ = .ok (.d (.bl true)) μ := rfl
@[simp] theorem notNF_lst : notNF (.d (.lst l)) μ = .ok (.d (.bl true)) μ := rfl
@[simp] theorem notNF_c : notNF (.c k) μ = .ok (.d (.bl true)) μ := rfl
@[simp] theorem isBF_b : isBF (.d (.bl b)) (.d (.bl b')) μ = .ok (.d (.bl (decide (b = b')))) μ := rfl
@[simp] theorem notBF_b : notBF (.d (.bl b)) (.d (.bl b')) μ = .ok (.d (.bl (!decide (b = b')))) μ := rfl
/-- what comes at an index -/
def oD (o : Option D) (μ : Mem) : R SV := match o with
  | some d => .ok (.d d) μ
  | none => .no
@[simp] theorem oD_some : oD (some d) μ = .ok (.d d) μ := rfl
@[simp] theorem ixF_s {a : SV} : ixF a (.d (.int i)) μ = oD (ixOf a μ i) μ := by
  show (match ixOf a μ i with | some d => _ | none => _) = _
  cases ixOf a μ i <;> rfl
@[simp] theorem ixOf_t : ixOf (.d (.tup l)) μ i = atI l i := rfl
@[simp] theorem ixOf_n : ixOf (.d (.ntp l)) μ i = atI l i := rfl
@[simp] theorem ixOf_l : ixOf (.d (.lst l)) μ i = atI l i := rfl
@[simp] theorem ixOf_sc {z : List Int} : ixOf (.d (.scr z)) μ i = (atI z i).map .int := rfl
theorem ixOf_c (h : μ[k]? = some (.lst l)) : ixOf (.c k) μ i = atI l i := by simp only [ixOf, h]
theorem lstOf_c (h : μ[k]? = some (.lst l)) : lstOf (.c k) μ = some l := by simp only [lstOf, h]
@[simp] theorem atI_zero {α : Type} {a : α} {r : List α} : atI (a :: r) 0 = some a := by
  have := atI_nat (l := a :: r) (i := 0); simpa using this
@[simp] theorem atI_one {α : Type} {a a' : α} {r : List α} : atI (a :: a' :: r) 1 = some a' := by
  have := atI_nat (l := a :: a' :: r) (i := 1); simpa using this
@[simp] theorem atI_two {α : Type} {a a' a2 : α} {r : List α} : atI (a :: a' :: a2 :: r) 2 = some a2 := by
  have := atI_nat (l := a :: a' :: a2 :: r) (i := 2); simpa using this
@[simp] theorem atI_three {α : Type} {a a' a2 a3 : α} {r : List α} : atI (a :: a' :: a2 :: a3 :: r) 3 = some a3 := by
  have := atI_nat (l := a :: a' :: a2 :: a3 :: r) (i := 3); simpa using this
@[simp] theorem atI_n {α : Type} {r : List α} {n : Nat} : atI r (n : Int) = r[n]? := atI_nat
@[simp] theorem lenOf_t : lenOf (.d (.tup l)) μ = some l.length := rfl
@[simp] theorem lenOf_n : lenOf (.d (.ntp l)) μ = some l.length := rfl
@[simp] theorem lenOf_l : lenOf (.d (.lst l)) μ = some l.length := rfl
@[simp] theorem lenOf_sc {z : List Int} : lenOf (.d (.scr z)) μ = some z.length := rfl
theorem lenOf_c (h : μ[k]? = some (.lst l)) : lenOf (.c k) μ = some l.length := by simp only [lenOf, h]
theorem lenOf_str (h : x.length ≤ 16777216) : lenOf (.d (.str x)) μ = some x.length := by simp only [lenOf, if_pos (show x.length ≤ sizeLine by rw [sizeLine_eq]; exact h)]
@[simp] theorem strD_length : (strD x).length = x.length := by simp [strD, Str.length]
def oN (o : Option Nat) (μ : Mem) : R SV := match o with
  | some n => .ok (.d (.int (n : Nat))) μ
  | none => .no
@[simp] theorem oN_some {n : Nat} : oN (some n) μ = .ok (.d (.int n)) μ := rfl
@[simp] theorem lenF_s {s : SV} : lenF [s] μ = oN (lenOf s μ) μ := by
  show (match lenOf s μ with | some n => _ | none => _) = _
  cases lenOf s μ <;> rfl
def oB (o : Option Bool) (μ : Mem) : R SV := match o with
  | some n => .ok (.d (.bl n)) μ
  | none => .no
@[simp] theorem oB_some : oB (some b) μ = .ok (.d (.bl b)) μ := rfl
@[simp] theorem isiF_s {t : TyK} {s : SV} : isiF t s μ = oB (isKs t s μ) μ := by
  show (match isKs t s μ with | some n => _ | none => _) = _
  cases isKs t s μ <;> rfl
@[simp] theorem isKs_d {t : TyK} : isKs t (.d d) μ = isK t d := rfl
def oL (f : List Bool → Bool) (o : Option (List Bool)) (μ : Mem) : R SV := match o with
  | some bs => .ok (.d (.bl (f bs))) μ
  | none => .no
@[simp] theorem oL_some {f : List Bool → Bool} {bs : List Bool} : oL f (some bs) μ = .ok (.d (.bl (f bs))) μ := rfl
@[simp] theorem allF_s {s : SV} : allF [s] μ = oL (·.all id) ((lstOf s μ).bind bools) μ := by
  show (match (lstOf s μ).bind bools with | some n => _ | none => _) = _
  cases (lstOf s μ).bind bools <;> rfl
@[simp] theorem anyF_s {s : SV} : anyF [s] μ = oL (·.any id) ((lstOf s μ).bind bools) μ := by
  show (match (lstOf s μ).bind bools with | some n => _ | none => _) = _
  cases (lstOf s μ).bind bools <;> rfl
@[simp] theorem lstOf_l : lstOf (.d (.lst l)) μ = some l := rfl
@[simp] theorem lstOf_t : lstOf (.d (.tup l)) μ = none := rfl
@[simp] theorem lstOf_n : lstOf (.d (.ntp l)) μ = none := rfl
@[simp] theorem tupOf_t : tupOf (.d (.tup l)) = some l := rfl
@[simp] theorem tupOf_n : tupOf (.d (.ntp l)) = some l := rfl
@[simp] theorem bools_map_s {α : Type} (g : α → Bool) (l : List α) : bools (l.map fun d => .bl (g d)) = some (l.map g) := bools_map g l
@[simp] theorem tupF_l : tupF [.d (.lst l)] μ = .ok (.d (.ntp l)) μ := rfl
@[simp] theorem tupF_t : tupF [.d (.tup l)] μ = .ok (.d (.tup l)) μ := rfl
@[simp] theorem tupF_n : tupF [.d (.ntp l)] μ = .ok (.d (.ntp l)) μ := rfl
theorem tupF_c (h : μ[k]? = some (.lst l)) : tupF [.c k] μ = .ok (.d (.ntp l)) μ := by simp only [tupF, lstOf, h]
@[simp] theorem listF_l : listF [.d (.lst l)] μ = .ok (.d (.lst l)) μ := rfl
@[simp] theorem listF_t : listF [.d (.tup l)] μ = .ok (.d (.lst l)) μ := rfl
@[simp] theorem listF_n : listF [.d (.ntp l)] μ = .ok (.d (.lst l)) μ := rfl
theorem listF_c (h : μ[k]? = some (.lst l)) : listF [.c k] μ = .ok (.d (.lst l)) μ := by simp only [listF, lstOf, h]; rfl
@[simp] theorem listCF_l : listCF [.d (.lst l)] μ = .ok (.c μ.length) (μ ++ [.lst l]) := rfl
@[simp] theorem listCF_t : listCF [.d (.tup l)] μ = .ok (.c μ.length) (μ ++ [.lst l]) := rfl
@[simp] theorem listCF_n : listCF [.d (.ntp l)] μ = .ok (.c μ.length) (μ ++ [.lst l]) := rfl
@[simp] theorem sortedF_l : sortedF [.d (.lst l)] μ = grd (okSort l) (ret (.d (.lst (srtD l)))) μ := rfl
theorem sortedF_c (h : μ[k]? = some (.lst l)) : sortedF [.c k] μ = grd (okSort l) (ret (.d (.lst (srtD l)))) μ := by simp only [sortedF, lstOf, h]
@[simp] theorem intF_i : intF [.d (.int i)] μ = .ok (.d (.int i)) μ := rfl
@[simp] theorem intF_b : intF [.d (.bl b)] μ = .ok (.d (.int (if b then 1 else 0))) μ := rfl
@[simp] theorem absF_i : absF [.d (.int i)] μ = .ok (.d (.int (if i < 0 then -i else i))) μ := rfl
@[simp] theorem divmodF_i : divmodF [.d (.int i), .d (.int j)] μ = grd (CDiv i j) (ret (.d (.tup [.int (i / j), .int (i % j)]))) μ := rfl
@[simp] theorem maxF_i : maxF [.d (.int i), .d (.int j)] μ = .ok (.d (.int (if j > i then j else i))) μ := rfl
@[simp] theorem minF_i : minF [.d (.int i), .d (.int j)] μ = .ok (.d (.int (if j < i then j else i))) μ := rfl
@[simp] theorem fMethL_s {g : SV → List SV → M SV} {o : FX} {t : FA} {ρ : FEnv} : fMethL g o t ρ μ = bR (o ρ μ) fun s μ => if (lstOf s μ).isSome = true then bnd (t ρ) (fun ss => g s ss) μ else .no := bnd_s
theorem appendF_c {y : D} (h : μ[k]? = some (.lst l)) (hz : l.length < sizeLine) : appendF (.c k) [.d y] μ = .ok (.d .non) (μ.set k (.lst (l ++ [y]))) := by
  unfold appendF; simp only [h, hz, if_true]
def iD (o : Option (List D)) (μ : Mem) : R (List D) := match o with
  | some l => .ok l μ
  | none => .no
@[simp] theorem iD_some : iD (some l) μ = .ok l μ := rfl
def itK (s : SV) (μ : Mem) : R (List D) := match s with
  | .d d => iD (itD d) μ
  | _ => .no
@[simp] theorem itK_s : itK (.d d) μ = iD (itD d) μ := rfl
@[simp ↓] theorem itF_s {a : FX} {ρ : FEnv} : itF a ρ μ = bR (a ρ μ) itK := by
  unfold itF; rw [bnd_s]; congr
@[simp] theorem itD_t : itD (.tup l) = some l := rfl
@[simp] theorem itD_n : itD (.ntp l) = some l := rfl
@[simp] theorem itD_l : itD (.lst l) = some l := rfl
@[simp] theorem itD_s : itD (.scr z) = some (z.map .int) := rfl
@[simp] theorem itD_str : itD (.str x) = some (strD x) := rfl
@[simp] theorem itD_dic {t : Bool} {ks vs : List D} : itD (.dic t ks vs) = some ks := rfl
def enK (ss : List SV) (μ : Mem) : R (List D) := match ss with
  | [.d (.tup l)] => .ok (enumD l) μ
  | [.d (.ntp l)] => .ok (enumD l) μ
  | [.d (.lst l)] => .ok (enumD l) μ
  | _ => .no
@[simp] theorem enK_t : enK [.d (.tup l)] μ = .ok (enumD l) μ := rfl
@[simp] theorem enK_n : enK [.d (.ntp l)] μ = .ok (enumD l) μ := rfl
@[simp] theorem enK_l : enK [.d (.lst l)] μ = .ok (enumD l) μ := rfl
@[simp ↓] theorem enumF_s {t : FA} {ρ : FEnv} : enumF t ρ μ = bR (t ρ μ) enK := bnd_s
def ziK (ss : List SV) (μ : Mem) : R (List D) := match ss with
  | [.d (.tup l), .d (.tup m)] => .ok (zipD l m) μ
  | [.d (.ntp l), .d (.tup m)] => .ok (zipD l m) μ
  | [.d (.tup l), .d (.ntp m)] => .ok (zipD l m) μ
  | [.d (.ntp l), .d (.ntp m)] => .ok (zipD l m) μ
  | [.d (.lst l), .d (.lst m)] => .ok (zipD l m) μ
  | _ => .no
@[simp] theorem ziK_tt : ziK [.d (.tup l), .d (.tup m)] μ = .ok (zipD l m) μ := rfl
@[simp] theorem ziK_nt : ziK [.d (.ntp l), .d (.tup m)] μ = .ok (zipD l m) μ := rfl
@[simp] theorem ziK_tn : ziK [.d (.tup l), .d (.ntp m)] μ = .ok (zipD l m) μ := rfl
@[simp] theorem ziK_nn : ziK [.d (.ntp l), .d (.ntp m)] μ = .ok (zipD l m) μ := rfl
@[simp] theorem ziK_ll : ziK [.d (.lst l), .d (.lst m)] μ = .ok (zipD l m) μ := rfl
@[simp ↓] theorem zipF_s {t : FA} {ρ : FEnv} : zipF t ρ μ = bR (t ρ μ) ziK := bnd_s
noncomputable def r1K (ss : List SV) (μ : Mem) : R (List D) := match ss with
  | [.d (.int n)] => grd (-(2 ^ 62) ≤ n ∧ n < 2 ^ 62) (ret (rngD 0 n.toNat)) μ
  | _ => .no
@[simp] theorem r1K_s : r1K [.d (.int i)] μ = grd (-(2 ^ 62) ≤ i ∧ i < 2 ^ 62) (ret (rngD 0 i.toNat)) μ := rfl
@[simp ↓] theorem rng1F_s {t : FA} {ρ : FEnv} : rng1F t ρ μ = bR (t ρ μ) r1K := bnd_s
noncomputable def r2K (ss : List SV) (μ : Mem) : R (List D) := match ss with
  | [.d (.int lo), .d (.int hi)] => grd (-(2 ^ 62) ≤ lo ∧ lo < 2 ^ 62 ∧ -(2 ^ 62) ≤ hi ∧ hi < 2 ^ 62) (ret (rngD lo (hi - lo).toNat)) μ
  | _ => .no
@[simp] theorem r2K_s : r2K [.d (.int i), .d (.int j)] μ = grd (-(2 ^ 62) ≤ i ∧ i < 2 ^ 62 ∧ -(2 ^ 62) ≤ j ∧ j < 2 ^ 62) (ret (rngD i (j - i).toNat)) μ := rfl
@[simp ↓] theorem rng2F_s {t : FA} {ρ : FEnv} : rng2F t ρ μ = bR (t ρ μ) r2K := bnd_s
@[simp] theorem slF_t {lo hi : Option Int} : slF (.d (.tup l)) lo hi μ = .ok (.d (.tup (cutD l lo hi))) μ := rfl
@[simp] theorem slF_n {lo hi : Option Int} : slF (.d (.ntp l)) lo hi μ = .ok (.d (cutN l lo hi)) μ := rfl
@[simp] theorem slF_l {lo hi : Option Int} : slF (.d (.lst l)) lo hi μ = .ok (.d (.lst (cutD l lo hi))) μ := rfl
@[simp] theorem slF_sc {lo hi : Option Int} {z : List Int} : slF (.d (.scr z)) lo hi μ = .ok (.d (.lst (cutD (z.map .int) lo hi))) μ := rfl
@[simp ↓] theorem gSub_s {o i : FX} {s : SV} {ρ : FEnv} : gSub o i s ρ μ = bR (o ρ μ) fun so => bnd (i ρ) fun si μ => match so, si, s with
  | .c k, .d (.int i), .d v => match μ[k]? with
    | some (.lst l) => match ixN l.length i with
      | some j => .ok ρ (μ.set k (.lst (l.set j v)))
      | none => .no
    | _ => .no
  | _, _, _ => .no := bnd_s
end
end PL
/-! The F-layer: reversed copies, upper, str, displays of dicts. -/
namespace PL
open PySem PySem.Spec PyProof.Rows L2 RZ
section
variable {X : Cx} {W : WX} {a b c e o i tg iter elt tg1 iter1 : Expr} {es ifs ifs1 : List Expr} {n : Nat} {fa fb fc fe fo fi : FX} {ft fu : FT} {fl fk : FA} {pos p apos cpos tpos p1 p2 p3 pos' ppos : Pos} {x : Str} {st : Stmt} {rest : List Stmt} {s u : FS} {g g1 : FG} {it it1 : FI} {own : List Nat} {kk : Nat}
def revF (s : SV) : M SV := fun μ => match s with
  | .d (.tup l) => .ok (.d (.tup l.reverse)) μ
  | .d (.ntp l) => .ok (.d (.tup l.reverse)) μ
  | s => match lstOf s μ with
    | some l => .ok (.d (.lst l.reverse)) μ
    | none => .no
@[simp] theorem revF_t {l : List D} {μ : Mem} : revF (.d (.tup l)) μ = .ok (.d (.tup l.reverse)) μ := rfl
@[simp] theorem revF_n {l : List D} {μ : Mem} : revF (.d (.ntp l)) μ = .ok (.d (.tup l.reverse)) μ := rfl
@[simp] theorem revF_l {l : List D} {μ : Mem} : revF (.d (.lst l)) μ = .ok (.d (.lst l.reverse)) μ := rfl
theorem revF_c {l : List D} {μ : Mem} {k : Nat} (h : μ[k]? = some (.lst l)) : revF (.c k) μ = .ok (.d (.lst l.reverse)) μ := by simp only [revF, lstOf, h]
theorem pf_rev (he : PX X W e (toX n fe)) : PX X W (.Subscript e (.Slice none none (some (.UnaryOp .USub (.Constant (.int 1) kk p1) p2)) p3) pos) (toX n (fUn revF fe)) :=
  (px_rev he).to fun x ρ μ Q ⟨hn, h⟩ => ⟨hn, R.mono (fin_bnd.mp h) fun s μ1 h1 => by
    unfold revF at h1
    split at h1
    · exact h1
    · exact h1
    · rename_i g1 g2
      split at h1
      · rename_i l e
        first
          | (split <;> first | exact (g1 _ rfl).elim | exact (g2 _ rfl).elim | (rw [e]; exact h1))
          | (rw [e]; exact h1)
      · exact h1.elim⟩
def upperF (s : SV) : M SV := fun μ => match s with
  | .d (.str z) => if z.length ≤ 5592405 then .ok (.d (.str (Txt.upper z))) μ else .no
  | _ => .no
@[simp] theorem upperF_s {z : Str} {μ : Mem} : upperF (.d (.str z)) μ = if z.length ≤ 5592405 then .ok (.d (.str (Txt.upper z))) μ else .no := rfl
theorem pf_upper (ho : PX X W o (toX n fo)) (hbase : attributeBase o "upper" X.env (eval o X.env) = eval o X.env := by rfl) (hline : (apos.endLine == pos.line) = true := by rfl) : PX X W (.Call (.Attribute o "upper" apos) [] [] pos) (toX n (fUn upperF fo)) :=
  (px_upper ho hbase hline).to fun x ρ μ Q ⟨hn, h⟩ => ⟨hn, R.mono (fin_bnd.mp h) fun s μ1 h1 => by
    unfold upperF at h1
    split at h1
    · split at h1
      · rename_i q; exact ⟨q, h1⟩
      · exact h1.elim
    · exact h1.elim⟩
def strF (ss : List SV) : M SV := fun μ => match ss with
  | [.d (.int i)] => if i.natAbs.log2 < 1920 then .ok (.d (.str (toString i))) μ else .no
  | _ => .no
@[simp] theorem strF_i {i : Int} {μ : Mem} : strF [.d (.int i)] μ = if i.natAbs.log2 < 1920 then .ok (.d (.str (toString i))) μ else .no := rfl
theorem pf_str (hg : Gl X "str") (hm : X.mg "str" = none) (hl : PXA X W [e] (toA n fl)) (he : starEach [e] X.env = (false, eval e X.env) :: starEach [] X.env := by rfl) : PX X W (.Call (.Name "str" p) [e] [] pos) (toX n (fCall strF fl)) :=
  pf_call (px_strI hg hm hl he) fun ss μ x Q h => by
    unfold strF at h
    unfold pStrI
    split at h
    · split at h
      · rename_i q; exact ⟨q, h⟩
      · exact h.elim
    · exact h.elim
/-! ### dict displays -/
abbrev FPs := FEnv → M (List (D × D))
def fpNil : FPs := fun _ => ret []
def pairM (k v : SV) (ps : List (D × D)) : M (List (D × D)) := fun μ => match k, v with
  | .d a, .d b => .ok ((a, b) :: ps) μ
  | _, _ => .no
@[simp] theorem pairM_s {a b : D} {ps : List (D × D)} {μ : Mem} : pairM (.d a) (.d b) ps μ = .ok ((a, b) :: ps) μ := rfl
def fpCons (k v : FX) (r : FPs) : FPs := fun ρ => bnd (k ρ) fun a => bnd (v ρ) fun b => bnd (r ρ) fun ps => pairM a b ps
noncomputable def fDisp (r : FPs) : FX := fun ρ => bnd (r ρ) fun ps => grd ((∀ p ∈ ps, fitK false p.1 = true) ∧ ps.length ≤ 15) (ret (.d (.dic false (mergeD [] [] ps).1 (mergeD [] [] ps).2)))
@[simp ↓] theorem fpNil_s {ρ : FEnv} {μ : Mem} : fpNil ρ μ = .ok [] μ := rfl
@[simp ↓] theorem fpCons_s {k v : FX} {r : FPs} {ρ : FEnv} {μ : Mem} : fpCons k v r ρ μ = bR (k ρ μ) fun a => bnd (v ρ) fun b => bnd (r ρ) fun ps => pairM a b ps := bnd_s
@[simp ↓] theorem fDisp_s {r : FPs} {ρ : FEnv} {μ : Mem} : fDisp r ρ μ = bR (r ρ μ) fun ps => grd ((∀ p ∈ ps, fitK false p.1 = true) ∧ ps.length ≤ 15) (ret (.d (.dic false (mergeD [] [] ps).1 (mergeD [] [] ps).2))) := bnd_s
structure PFPs (X : Cx) (W : WX) (pos : Pos) (keys : List (Option Expr)) (values : List Expr) (n : Nat) (r : FPs) : Prop where
  ex : ∃ trs, PXPs X W pos keys values trs ∧ ∀ x ρ μ Q, ρ.n = n → (r ρ.f μ).fin x Q → xPairs trs x ρ μ Q
theorem pfps_nil : PFPs X W pos [] [] n fpNil := ⟨[], pxps_nil, fun x ρ μ Q hn h => h⟩
theorem pfps_cons {k v : Expr} {ks : List (Option Expr)} {vs : List Expr} {fk fv : FX} {r : FPs} (hk : PX X W k (toX n fk)) (hv : PX X W v (toX n fv)) (hr : PFPs X W pos ks vs n r) : PFPs X W pos (some k :: ks) (v :: vs) n (fpCons fk fv r) := by
  obtain ⟨trs, h1, h2⟩ := hr.ex
  refine ⟨_, pxps_cons hk hv h1, fun x ρ μ Q hn h => ⟨hn, R.mono (fin_bnd.mp h) fun s μ1 q1 => ⟨hn, R.mono (fin_bnd.mp q1) fun s' μ2 q2 => h2 _ _ _ _ hn (R.mono (fin_bnd.mp q2) fun ps μ3 q3 => ?_)⟩⟩⟩
  unfold pairM at q3
  split at q3
  · exact q3
  · exact q3.elim
theorem pf_disp {keys : List (Option Expr)} {values : List Expr} {r : FPs} (h : PFPs X W pos keys values n r) (hall : keys.all (·.isSome) = true := by rfl) (hl : keys.length = values.length := by rfl) (h0 : keys ≠ [] := by simp) (h15 : keys.length ≤ 15 := by decide) : PX X W (.Dict keys values pos) (toX n (fDisp r)) := by
  obtain ⟨trs, h1, h2⟩ := h.ex
  exact (px_disp h1 hall hl h0 h15).to fun x ρ μ Q ⟨hn, q⟩ => h2 _ _ _ _ hn (R.mono (fin_bnd.mp q) fun ps μ1 q1 => fin_grd q1)
end
end PL
/-! The F-layer: a, b = x, y where a name is taken into a comprehension. -/
namespace PL
open PySem PySem.Spec PyProof.Rows L2 RZ
section
variable {X : Cx} {W : WX} {a b : Expr} {fl : FA} {n : Nat} {pos : Pos}
theorem pfs_par2 {i j : Nat} {x y : Str} {px py pt : Pos} {kt k2 pt2} (hc : X.calm = true) (hN : X.N.Nodup) (hi : X.N[i]? = some x) (hj : X.N[j]? = some y)
    (hx : Loc X.env.scope x) (hy : Loc X.env.scope y) (ha : PXA X W [a, b] (toA n fl))
    (hfx : X.fn x = true ∨ X.env.scope.names.lookup x = some .local) (hfy : X.fn y = true ∨ X.env.scope.names.lookup y = some .local)
    (hw : swappedStores [.Tuple [.Name x px, .Name y py] kt pt] (.Tuple [a, b] k2 pt2) X.env = pure none := by rfl)
    (hs : swapsWithSole [.Tuple [.Name x px, .Name y py] kt pt] (.Tuple [a, b] k2 pt2) pos.line X.env = pure false := by rfl)
    (h1 : (assignEach [.Tuple [.Name x px, .Name y py] kt pt] X.env).map (·.2) = [assign (.Tuple [.Name x px, .Name y py] kt pt) X.env] := by rfl)
    (hn : (assignEach [.Name x px, .Name y py] X.env).length = 2 := by rfl) (hst : (assignEach [.Name x px, .Name y py] X.env).findIdx? (·.1) = none := by rfl)
    (hs1 : (assignEach [.Name x px, .Name y py] X.env).map (·.2) = assign (.Name x px) X.env :: (assignEach [.Name y py] X.env).map (·.2) := by rfl)
    (hs2 : (assignEach [.Name y py] X.env).map (·.2) = assign (.Name y py) X.env :: (assignEach [] X.env).map (·.2) := by rfl) :
    PXS X W (.Assign [.Tuple [.Name x px, .Name y py] kt pt] (.Tuple [a, b] k2 pt2) pos) (toS n (fPar i j fl)) :=
  (psx_par2 hc hN hi hj hx hy ha hfx hfy hw hs h1 hn hst hs1 hs2).to fun E ρ μ ⟨hn, h⟩ => ⟨hn, R.mono (fin_bnd.mp h) fun ss μ1 h1 => by
    split at h1
    · rename_i s r
      show E.nx ((ρ.set i s).set j r) μ1
      rw [← set_put (n := n) (ρ.set i s) j r hn]
      exact h1
    · exact h1.elim⟩
end
end PL
/-! The F-layer: a + b, sorted(a), a * n as lists of one's own. -/
namespace PL
open PySem PySem.Spec PyProof.Rows L2 RZ
section
variable {X : Cx} {W : WX} {a b e : Expr} {fa fb : FX} {fl : FA} {n : Nat} {pos p : Pos}
noncomputable def addCF (s t : SV) : M SV := fun μ => match lstOf s μ, lstOf t μ with
  | some l, some m => grd (l.length + m.length ≤ sizeLine) (fun μ => .ok (.c μ.length) (μ ++ [.lst (l ++ m)])) μ
  | _, _ => .no
theorem ok_addC : ∀ sa sb μ x Q, (addCF sa sb μ).fin x Q → pCatLC sa sb μ Q := by
  intro sa sb μ x Q h
  unfold addCF at h
  unfold pCatLC
  split at h
  · rename_i l m e1 e2; rw [e1, e2]; exact fin_grd h
  · exact h.elim
theorem pf_addC (ha : PX X W a (toX n fa)) (hb : PX X W b (toX n fb)) : PX X W (.BinOp a .Add b pos) (toX n (fOp addCF fa fb)) := pf_op (px_catLC ha hb) ok_addC
noncomputable def mulCF (s t : SV) : M SV := fun μ => match t with
  | .d (.int j) => match lstOf s μ with
    | some l => grd (-(2 ^ 63) ≤ j ∧ j < 2 ^ 63 ∧ l.length * j.toNat ≤ sizeLine) (fun μ => .ok (.c μ.length) (μ ++ [.lst (List.replicate j.toNat l).flatten])) μ
    | none => .no
  | _ => .no
theorem ok_mulC : ∀ sa sb μ x Q, (mulCF sa sb μ).fin x Q → pRepC sa sb μ Q := by
  intro sa sb μ x Q h
  unfold mulCF at h
  unfold pRepC
  split at h
  · split at h
    · rename_i l e; rw [e]; exact fin_grd h
    · exact h.elim
  · exact h.elim
theorem pf_mulC (ha : PX X W a (toX n fa)) (hb : PX X W b (toX n fb)) : PX X W (.BinOp a .Mult b pos) (toX n (fOp mulCF fa fb)) := pf_op (px_repC ha hb) ok_mulC
noncomputable def sortedCF : List SV → M SV := fun ss μ => match ss with
  | [s] => match lstOf s μ with
    | some l => grd (okSort l) (fun μ => .ok (.c μ.length) (μ ++ [.lst (srtD l)])) μ
    | none => .no
  | _ => .no
theorem ok_sortedC : ∀ ss μ x Q, (sortedCF ss μ).fin x Q → pSortedC ss μ Q := by
  intro ss μ x Q h
  unfold sortedCF at h
  unfold pSortedC
  split at h
  · split at h
    · rename_i l e; show on _ _; rw [e]; exact fin_grd h
    · exact h.elim
  · exact h.elim
theorem pf_sortedC (hu : X.A.units + 64 < cLine) (hg : Gl X "sorted") (hm : X.mg "sorted" = none) (hl : PXA X W [e] (toA n fl)) (he : starEach [e] X.env = (false, eval e X.env) :: starEach [] X.env := by rfl) : PX X W (.Call (.Name "sorted" p) [e] [] pos) (toX n (fCall sortedCF fl)) := pf_call (px_sortedC hu hg hm hl he) ok_sortedC
section
variable {l m : List D} {μ : Mem} {j : Int} {k i : Nat}
@[simp] theorem addCF_l : addCF (.d (.lst l)) (.d (.lst m)) μ = grd (l.length + m.length ≤ sizeLine) (fun μ => .ok (.c μ.length) (μ ++ [.lst (l ++ m)])) μ := rfl
theorem addCF_cl (h : μ[k]? = some (.lst l)) : addCF (.c k) (.d (.lst m)) μ = grd (l.length + m.length ≤ sizeLine) (fun μ => .ok (.c μ.length) (μ ++ [.lst (l ++ m)])) μ := by simp only [addCF, lstOf, h]
theorem addF_cl (h : μ[k]? = some (.lst l)) : addF (.c k) (.d (.lst m)) μ = grd (l.length + m.length ≤ sizeLine) (ret (.d (.lst (l ++ m)))) μ := by simp only [addF, lstOf, h]
theorem addF_cc (h : μ[k]? = some (.lst l)) (h2 : μ[i]? = some (.lst m)) : addF (.c k) (.c i) μ = grd (l.length + m.length ≤ sizeLine) (ret (.d (.lst (l ++ m)))) μ := by simp only [addF, lstOf, h, h2]
theorem addCF_cc (h : μ[k]? = some (.lst l)) (h2 : μ[i]? = some (.lst m)) : addCF (.c k) (.c i) μ = grd (l.length + m.length ≤ sizeLine) (fun μ => .ok (.c μ.length) (μ ++ [.lst (l ++ m)])) μ := by simp only [addCF, lstOf, h, h2]
@[simp] theorem mulCF_l : mulCF (.d (.lst l)) (.d (.int j)) μ = grd (-(2 ^ 63) ≤ j ∧ j < 2 ^ 63 ∧ l.length * j.toNat ≤ sizeLine) (fun μ => .ok (.c μ.length) (μ ++ [.lst (List.replicate j.toNat l).flatten])) μ := rfl
@[simp] theorem sortedCF_l : sortedCF [.d (.lst l)] μ = grd (okSort l) (fun μ => .ok (.c μ.length) (μ ++ [.lst (srtD l)])) μ := rfl
theorem sortedCF_c (h : μ[k]? = some (.lst l)) : sortedCF [.c k] μ = grd (okSort l) (fun μ => .ok (.c μ.length) (μ ++ [.lst (srtD l)])) μ := by simp only [sortedCF, lstOf, h]
end
end
end PL
/-! The P-layer: dicts whose values are lists of one's own; attributes. -/
namespace PL
open PySem PySem.Spec PyProof.Rows L2
open Classical in
noncomputable def findS : List D → List SV → D → Option SV
  | k :: ks, v :: vs, x => if k = x then some v else findS ks vs x
  | _, _, _ => none
open Classical in
noncomputable def putSs (ks : List D) (vs : List SV) (k : D) (v : SV) : List SV := if k ∈ ks then List.zipWith (fun k' v' => if k' = k then v else v') ks vs else vs ++ [v]
section
variable {κ : Type} [DecidableEq κ] {kd : κ → D} {K : PySem.W.Frag} {A : List Addr} {G : Hp}
theorem findS_rep (inj : ∀ a b, kd a = kd b → a = b) (k : κ) : ∀ {kvs : List (κ × V)} {vs : List SV}, RepsS K A G vs (kvs.map Prod.snd) → ∀ v, valV kvs k = some v → ∃ d, findS (kvs.map fun p => kd p.1) vs (kd k) = some d ∧ RepS K A G d v
  | [], _, .nil, v, h => by cases h
  | p :: kvs, _, .cons r t, v, h => by
    by_cases e : p.1 = k
    · rw [valV_pos e] at h
      cases h
      exact ⟨_, by simp only [List.map_cons, findS]; rw [if_pos (by rw [e])], r⟩
    · have e' : ¬ kd p.1 = kd k := fun z => e (inj _ _ z)
      rw [valV_neg e] at h
      obtain ⟨d, q, r'⟩ := findS_rep inj k t v h
      exact ⟨d, by simp only [List.map_cons, findS]; rw [if_neg e']; exact q, r'⟩
theorem findS_none (inj : ∀ a b, kd a = kd b → a = b) (k : κ) : ∀ {kvs : List (κ × V)} {vs : List SV}, RepsS K A G vs (kvs.map Prod.snd) → valV kvs k = none → findS (kvs.map fun p => kd p.1) vs (kd k) = none
  | [], _, .nil, h => rfl
  | p :: kvs, _, .cons r t, h => by
    by_cases e : p.1 = k
    · rw [valV_pos e] at h; cases h
    · have e' : ¬ kd p.1 = kd k := fun z => e (inj _ _ z)
      rw [valV_neg e] at h
      simp only [List.map_cons, findS]; rw [if_neg e']; exact findS_none inj k t h
theorem put_valsS (inj : ∀ a b, kd a = kd b → a = b) {kvs : List (κ × V)} {vs : List SV} (r : RepsS K A G vs (kvs.map Prod.snd)) (k : κ) {d : SV} {v : V} (rv : RepS K A G d v) : RepsS K A G (putSs (kvs.map fun p => kd p.1) vs (kd k) d) ((putK kvs k v).map Prod.snd) := by
  unfold putK putSs
  by_cases h : (kvs.any fun kv => decide (kv.1 = k)) = true
  · rw [if_pos h, if_pos ((any_mem inj k kvs).mp h)]
    clear h
    induction kvs generalizing vs with
    | nil => cases r; exact .nil
    | cons p kvs ih =>
      cases r with
      | cons r t =>
        refine .cons ?_ (ih t)
        show RepS K A G (@ite SV (kd p.1 = kd k) (Classical.propDecidable _) d _) (if p.1 = k then (p.1, v) else p).2
        by_cases e : p.1 = k
        · rw [if_pos e, if_pos (by rw [e])]; exact rv
        · rw [if_neg e, if_neg (fun z => e (inj _ _ z))]; exact r
  · rw [if_neg h, if_neg (fun z => h ((any_mem inj k kvs).mpr z)), List.map_append]
    exact r.app (.cons rv .nil)
end
section
variable {X : Cx} {W : WX} {a b c e o i : Expr} {ta tb tc te to ti : TX} {tL : TXA} {pos apos cpos pos' : Pos}
def xNewC : TX := fun _ _ μ Q => Q (.c μ.length) (μ ++ [.dC [] []])
theorem px_newC : PX X W (.Dict [] [] pos) xNewC := by
  refine ⟨pe_dnewT.imp fun σ H Q h => ?_⟩
  obtain ⟨A, ρ, μ, G, Qp, xp, S, ht, hx, k⟩ := h
  intro p hp
  obtain ⟨c2, s2⟩ := S.toCells.cell (o := .dT []) (cl := .dC [] []) hp ⟨[], upd_same, rfl, .nil⟩
  exact k _ _ _ _ _ _ ht c2 s2 ⟨p, by rw [← S.len]; simp, rfl⟩
def pCGet : SV → SV → Mem → VP → Prop := fun sd sk μ Q => match sd, sk with
  | .c j, .d k => match μ[j]? with
    | some (.dC ks vs) => fitK true k = true ∧ on (findS ks vs k) fun s => Q s μ
    | _ => False
  | _, _ => False
theorem pop_cget {K : PySem.W.Frag} : POp K rDGet pCGet := by
  intro sa sb μ A G H va vb Qp Q h c ra rb k
  match sa, sb, h, ra, rb with
  | .c j, .d key, h, ⟨a, ha, hva⟩, rb =>
    subst hva
    unfold pCGet at h
    simp only at h
    split at h
    · rename_i ks vs hk
      obtain ⟨hf, h⟩ := h
      obtain ⟨s, hs, q⟩ := on_of h
      obtain ⟨kvs, h1, rfl, h3⟩ := c.ok _ _ _ ha hk
      obtain ⟨k', rfl⟩ := fitT hf
      obtain ⟨b, rfl, hb⟩ := tupKey_val c.le rb
      have inj : ∀ a b : List Key, D.tup (a.map keyD) = .tup (b.map keyD) → a = b := fun _ _ z => tupKey_inj z
      cases e : valV kvs k' with
      | none => rw [findS_none (kd := fun ks : List Key => D.tup (ks.map keyD)) inj k' h3 e] at hs; cases hs
      | some v =>
        obtain ⟨s', e1, r⟩ := findS_rep (kd := fun ks : List Key => D.tup (ks.map keyD)) inj k' h3 v e
        have e2 : s' = s := Option.some.inj (e1.symm.trans hs)
        subst e2
        exact ⟨a, v, rfl, .inr ⟨kvs, k', b, .inl h1, rfl, hb, e.symm⟩, k _ _ _ _ _ _ q c .refl r⟩
    · exact h.elim
theorem px_cget (hu : X.A.units + 1 < cLine) (ha : PX X W a ta) (hb : PX X W b tb) (hs : NoSl b := by intro _ _; rfl) : PX X W (.Subscript a b pos) (xOp pCGet ta tb) :=
  ⟨(pe_dget hu ha.pe hb.pe hs).imp fun _ _ _ h => lift_op pop_cget h⟩
/-- d[k] = v, d a dict whose values may be cells -/
def cputS (so si s : SV) (μ : Mem) (q : Mem → Prop) : Prop := match so, si with
  | .c k, .d key => match μ[k]? with
    | some (.dC ks vs) => (fitK true key = true ∧ ks.length < sizeLine ∧ s ≠ .un) ∧ q (μ.set k (.dC (putKs ks key) (putSs ks vs key s)))
    | _ => False
  | _, _ => False
def xCPut (to ti te : TX) : TXS := fun E ρ μ => te E.ex ρ μ fun s μ1 => to E.ex ρ μ1 fun so μ2 => ti E.ex ρ μ2 fun si μ3 => cputS so si s μ3 fun μ4 => E.nx ρ μ4
theorem cput_of {K : PySem.W.Frag} {A : List Addr} {μ : Mem} {G H : Hp} {so si s : SV} {vo vi v : V} {q : Mem → Prop} (h : cputS so si s μ q) (c : Cells K A μ G H) (r1 : RepS K A G so vo) (r2 : RepS K A G si vi) (r : RepS K A G s v) :
    ∃ a H' μ', vo = .ref a ∧ DPut H a vi v H' ∧ q μ' ∧ Cells K A μ' G H' ∧ Step A G H A G H' := by
  match so, si, h, r1, r2 with
  | .c kk, .d key, h, ⟨a, ha, hvo⟩, r2 =>
    subst hvo
    simp only [cputS] at h
    split at h
    · rename_i ks vs hk
      obtain ⟨⟨hf, hz, hn⟩, h⟩ := h
      obtain ⟨kvs, h1, rfl, h3⟩ := c.ok _ _ _ ha hk
      obtain ⟨k', rfl⟩ := fitT hf
      obtain ⟨b, rfl, hb⟩ := tupKey_val c.le r2
      obtain ⟨c3, s3⟩ := c.write (o := .dT (putK kvs k' v)) (cl := .dC (putKs (kvs.map fun p => .tup (p.1.map keyD)) (.tup (k'.map keyD))) (putSs (kvs.map fun p => .tup (p.1.map keyD)) vs (.tup (k'.map keyD)) s)) ha
        ⟨_, upd_same, (put_keys (kd := fun ks : List Key => D.tup (ks.map keyD)) (fun _ _ z => tupKey_inj z) kvs k' v).symm, put_valsS (kd := fun ks : List Key => D.tup (ks.map keyD)) (fun _ _ z => tupKey_inj z) h3 k' r⟩
      exact ⟨a, _, _, rfl, .inr ⟨kvs, k', b, h1, rfl, hb, by simpa using hz, rfl⟩, h, c3, s3⟩
    · exact h.elim
theorem psx_cput (hu : X.A.units + 1 < cLine) (ho : PX X W o to) (hi : PX X W i ti) (he : PX X W e te) (hs : swapsWith e (some (.Subscript o i pos')) pos.line X.env = pure false := by rfl) : PXS X W (.Assign [.Subscript o i pos'] e pos) (xCPut to ti te) := by
  refine ⟨(ps_dput hu ho.pe hi.pe he.pe hs).imp fun D σ H h => ?_⟩
  obtain ⟨A, ρ, μ, G, E, S, ht, k⟩ := h
  refine ⟨A, ρ, μ, G, _, _, S, ht, k.ex, fun s μ1 A1 G1 H1 v q c1 s1 r1 => ?_⟩
  refine ⟨A1, ρ, μ1, G1, _, _, S.after s1 c1, q, k.ex.after s1, fun so μ2 A2 G2 H2 vo q2 c2 s2 r2 => ?_⟩
  have s12 := s1.trans s2
  refine ⟨A2, ρ, μ2, G2, _, _, S.after s12 c2, q2, k.ex.after s12, fun si μ3 A3 G3 H3 vi q3 c3 s3 r3 => ?_⟩
  have s13 := s12.trans s3
  have s23 := s2.trans s3
  obtain ⟨a, H', μ', rfl, g, q4, c4, s4⟩ := cput_of q3 c3 (r2.mono s3.pre s3.le) r3 (r1.mono s23.pre s23.le)
  exact ⟨a, H', rfl, g, k.nx _ _ _ _ _ _ q4 (S.after (s13.trans s4) c4) (s13.trans s4)⟩
/-! ### attributes -/
def findF {α : Type} (f : Str) : List Str → List α → Option α
  | n :: ns, v :: vs => if f == n then some v else findF f ns vs
  | _, _ => none
def putFn (f : Str) : List Str → List Str
  | [] => [f]
  | g :: r => if g = f then g :: r else g :: putFn f r
def putFv {α : Type} (f : Str) (v : α) : List Str → List α → List α
  | [], _ => [v]
  | g :: r, x :: xs => if g = f then v :: xs else x :: putFv f v r xs
  | _ :: _, [] => []
theorem findF_look {f : Str} : ∀ {fs : List (Str × V)}, fs.lookup f = findF f (fs.map Prod.fst) (fs.map Prod.snd)
  | [] => rfl
  | (g, v) :: fs => by
    rw [List.lookup_cons]
    simp only [List.map_cons, findF]
    cases f == g with
    | true => rfl
    | false => exact findF_look
theorem findF_reps {K : PySem.W.Frag} {A : List Addr} {G : Hp} {f : Str} : ∀ {ns : List Str} {vs : List SV} {us : List V} {s : SV}, RepsS K A G vs us → findF f ns vs = some s → ∃ v, findF f ns us = some v ∧ RepS K A G s v
  | [], _, _, _, _, h => by simp [findF] at h
  | n :: ns, _, _, _, .nil, h => by simp [findF] at h
  | n :: ns, _, _, s, .cons r t, h => by
    unfold findF at h ⊢
    cases e : f == n with
    | true => rw [e] at h; simp only [if_true] at h ⊢; cases h; exact ⟨_, rfl, r⟩
    | false => rw [e] at h; simp only [Bool.false_eq_true, if_false] at h ⊢; exact findF_reps t h
theorem findF_repd {K : PySem.W.Frag} {G : Hp} {f : Str} : ∀ {ns : List Str} {vs : List D} {us : List V} {s : D}, Reps K G vs us → findF f ns vs = some s → ∃ v, findF f ns us = some v ∧ Rep K G s v
  | [], _, _, _, _, h => by simp [findF] at h
  | n :: ns, _, _, _, .nil, h => by simp [findF] at h
  | n :: ns, _, _, s, .cons r t, h => by
    unfold findF at h ⊢
    cases e : f == n with
    | true => rw [e] at h; simp only [if_true] at h ⊢; cases h; exact ⟨_, rfl, r⟩
    | false => rw [e] at h; simp only [Bool.false_eq_true, if_false] at h ⊢; exact findF_repd t h
theorem putFn_eq {f : Str} {v : V} : ∀ fs : List (Str × V), putFn f (fs.map Prod.fst) = (putF f v fs).map Prod.fst
  | [] => rfl
  | (g, x) :: fs => by
    simp only [List.map_cons, putFn, putF]
    by_cases h : g = f
    · rw [if_pos h, if_pos h]; rfl
    · rw [if_neg h, if_neg h, putFn_eq fs]; rfl
theorem putFv_reps {K : PySem.W.Frag} {A : List Addr} {G : Hp} {f : Str} {s : SV} {v : V} (r : RepS K A G s v) : ∀ {fs : List (Str × V)} {vs : List SV}, RepsS K A G vs (fs.map Prod.snd) → RepsS K A G (putFv f s (fs.map Prod.fst) vs) ((putF f v fs).map Prod.snd)
  | [], _, .nil => .cons r .nil
  | (g, x) :: fs, _, .cons q t => by
    simp only [List.map_cons, putFv, putF]
    by_cases h : g = f
    · rw [if_pos h, if_pos h]; exact .cons r t
    · rw [if_neg h, if_neg h]; exact .cons q (putFv_reps r t)
/-- o.f -/
def xAttr (C : Str) (f : Str) (te : TX) : TX := fun x ρ μ Q => te x ρ μ fun s μ1 => match s with
  | .d (.obj C' ns vs) => C' = C ∧ on (findF f ns vs) fun d => Q (.d d) μ1
  | .c j => match μ1[j]? with
    | some (.inC C' ns vs) => C' = C ∧ on (findF f ns vs) fun s => Q s μ1
    | _ => False
  | _ => False
theorem px_attr {C f : Str} (hC : Cls X.K (He.ga X.K C)) (hN : NoAttr X.K (He.ga X.K C) f) (he : PX X W e te) (hb : attributeBase e f X.env (eval e X.env) = eval e X.env := by rfl) : PX X W (.Attribute e f pos) (xAttr C f te) := by
  refine ⟨(pe_fld he.pe hb).imp fun σ H Q h => ?_⟩
  obtain ⟨A, ρ, μ, G, Qp, xp, S, ht, hx, k⟩ := h
  refine ⟨A, ρ, μ, G, _, xp, S, ht, hx, fun s μ1 A1 G1 H1 v q c1 s1 r1 => ?_⟩
  match s, q, r1 with
  | .d (.obj C' ns vs), q1, r1 =>
    obtain ⟨hc, q2⟩ := q1
    subst hc
    obtain ⟨d, hd, q3⟩ := on_of q2
    cases r1 with
    | obj h hn hs =>
      subst hn
      obtain ⟨u, e1, r⟩ := findF_repd hs hd
      exact ⟨_, _, _, _, u, rfl, c1.le _ _ h, hC, hN, findF_look.trans e1, k (.d d) _ _ _ _ _ q3 c1 s1 r⟩
  | .c j, q1, ⟨a, ha, hv⟩ =>
    subst hv
    simp only at q1
    split at q1
    · rename_i C' ns vs hk
      obtain ⟨hc, q2⟩ := q1
      subst hc
      obtain ⟨s, hs, q3⟩ := on_of q2
      obtain ⟨dx, fs, h1, h2, h3⟩ := c1.ok _ _ _ ha hk
      subst h2
      obtain ⟨u, e1, r⟩ := findF_reps h3 hs
      exact ⟨_, _, _, _, u, rfl, h1, hC, hN, findF_look.trans e1, k _ _ _ _ _ _ q3 c1 s1 r⟩
    · exact q1.elim
/-- o.f = e, o an instance of one's own -/
def xFld (C f : Str) (to te : TX) : TXS := fun E ρ μ => te E.ex ρ μ fun s μ1 => to E.ex ρ μ1 fun so μ2 => match so with
  | .c j => match μ2[j]? with
    | some (.inC C' ns vs) => (C' = C ∧ ns.length < 1000 ∧ s ≠ .un) ∧ E.nx ρ (μ2.set j (.inC C (putFn f ns) (putFv f s ns vs)))
    | _ => False
  | _ => False
theorem psx_fld {C f : Str} (hC : Cls X.K (He.ga X.K C)) (hN : NoAttr X.K (He.ga X.K C) f) (ho : PX X W o to) (he : PX X W e te) (hs : swapsWith e (some (.Attribute o f pos')) pos.line X.env = pure false := by rfl) : PXS X W (.Assign [.Attribute o f pos'] e pos) (xFld C f to te) := by
  refine ⟨(ps_fld ho.pe he.pe hs).imp fun D σ H h => ?_⟩
  obtain ⟨A, ρ, μ, G, E, S, ht, k⟩ := h
  refine ⟨A, ρ, μ, G, _, _, S, ht, k.ex, fun s μ1 A1 G1 H1 v q c1 s1 r1 => ?_⟩
  refine ⟨A1, ρ, μ1, G1, _, _, S.after s1 c1, q, k.ex.after s1, fun so μ2 A2 G2 H2 vo q2 c2 s2 r2 => ?_⟩
  have s12 := s1.trans s2
  match so, q2, r2 with
  | .c j, q, ⟨a, ha, hv⟩ =>
    subst hv
    simp only at q
    split at q
    · rename_i C' ns vs hk
      obtain ⟨⟨hc, hz, hn⟩, q⟩ := q
      subst hc
      obtain ⟨dx, fs, h1, h2, h3⟩ := c2.ok _ _ _ ha hk
      subst h2
      obtain ⟨c3, s3⟩ := c2.write (o := .ins (He.ga X.K C') dx (putF f v fs)) (cl := .inC C' (putFn f (fs.map Prod.fst)) (putFv f s (fs.map Prod.fst) vs)) ha
        ⟨dx, _, upd_same, putFn_eq fs, putFv_reps (r1.mono s2.pre s2.le) h3⟩
      exact ⟨a, _, dx, fs, rfl, h1, hC, hN, by simpa using hz, k.nx _ _ _ _ _ _ q (S.after (s12.trans s3) c3) (s12.trans s3)⟩
    · exact q.elim
end
end PL
/-! The P-layer: instances made, methods of instances that are data. -/
namespace PL
open PySem PySem.Spec PyProof.Rows L2
/-- the method m of the class C stands -/
structure MDef (K : PySem.W.Frag) (C m qual : Str) (st : Stmt) : Prop where
  ex : ∃ fd, FunD K m qual (defArgs st) (defBody st) (defScope st) [] [] (He.fAd K (C, some m)) fd
/-- .. and keeps p -/
structure HasM (P : Program) (w : World) (K : PySem.W.Frag) (mg : Str → Option Value) (base : Heap) (k : Nat) (C m : Str) (ps : List Str) (p : PSp) : Prop where
  ex : ∃ fd, FnOk P w K mg base (L2.CX P w) k (He.fAd K (C, some m)) fd ps (low K p) ∧ Binds K fd ps []
theorem _root_.L2.FunD.funM {K : PySem.W.Frag} {x qual : Str} {st : Stmt} {f : Addr} {fd : FuncData} (F : FunD K x qual (defArgs st) (defBody st) (defScope st) [] [] f fd) : Fun K x qual st f fd := by
  obtain ⟨oc, od, dV, kV, doc, pm, an, cdv, ct, osl, rfl, lk, hcd, hD, hK⟩ := F.ex
  rcases hD with ⟨_, rfl⟩ | ⟨e, _⟩
  · exact ⟨⟨oc, od, kV, doc, pm, an, cdv, ct, osl, rfl, lk, hcd⟩, F.kp⟩
  · exact absurd rfl e
def BindM (m qual : Str) (st : Stmt) (ps : List Str) : Prop := ∀ (kV doc pm : Value) (an : Option Addr) (cdv ct : Value) (us : List Value), us.length = ps.length → bindArgs (PySem.W.fnOf m qual (defArgs st) (defBody st) (defScope st) .none kV doc pm an cdv ct) ⟨us, []⟩ = pure (ps.zip us)
section
variable {P : Program} {w : World} {K : PySem.W.Frag} {mg : Str → Option Value} {base : Heap}
theorem hasM_p {C m qual : Str} {st : Stmt} {N ps : List Str} {k : Nat} {p : PSp} {t : TXS} (D : MDef K C m qual st) (S : FnScope N ps (defScope st)) (B : BindM m qual st ps) (len : ∀ x as μ Q, p x as μ Q → as.length = ps.length)
    (hb : ∀ (f : Addr) (cdv : Value) (A : Around) (outer : List Env) (s : Shared) (H : Hp) (E : XK), Room k (A.deeper (envOfC qual (defScope st) s.heap.objs.size f cdv)) →
      PXSs (cxOf (L2.CX P w) P w K mg base N qual (defScope st) f cdv A outer s H E) (fun cls d _ H => E cls d H) (defBody st) t)
    (hp : ∀ x as μ Q, p x as μ Q → t { nx := fun _ μ => Q (.d .non) μ, rt := Q, ex := x } (startP N.length as) μ) : HasM P w K mg base (k + 1) C m ps p := by
  obtain ⟨fd, F⟩ := D.ex
  exact ⟨fd, fn_p F.funM S len hp (hb _), FunD.bindsN F B⟩
end
/-- C(..): the new instance is data behind its __init__ -/
def callPM (C : Str) (p : PSp) (ss : List SV) (μ : Mem) (Q : VP) : Prop := cellsOf ss = [] ∧
  p (fun _ _ _ => False) (.c 0 :: ss) [.inC C [] []] fun r μ' => r = .d .non ∧ on (frzS 0 μ' 3 (.c 0)) fun d => Q (.d d) μ
theorem flat_reps {K : PySem.W.Frag} {A B : List Addr} {G : Hp} : ∀ {ss : List SV} {vs : List V}, cellsOf ss = [] → RepsS K A G ss vs → RepsS K B G ss vs
  | [], _, _, .nil => .nil
  | .d x :: ss, _, h, .cons r t => .cons r (flat_reps h t)
  | .un :: ss, _, h, .cons r t => .cons r (flat_reps h t)
  | .c k :: ss, _, h, _ => by simp [cellsOf] at h
theorem make_low {K : PySem.W.Frag} {C : Str} {p : PSp} {ss : List SV} {vs : List V} {A : List Addr} {μ : Mem} {G H : Hp} {Qp : VP} {Q : VK} {E : XK} {x dx : Addr} (h : callPM C p ss μ Qp) (c : Cells K A μ G H) (r : RepsS K A G ss vs) (hx : H x = none) (hd : H dx = none) (ne : dx ≠ x)
    (k : ∀ r μ' A' G' H' v, Qp r μ' → Cells K A' μ' G' H' → Step A G H A' G' H' → RepS K A' G' r v → Q v H') :
    low K p (.ref x :: vs) (upd (upd H dx (.own x)) x (.ins (He.ga K C) dx [])) (fun v H2 => v = .non ∧ Q (.ref x) H2) E := by
  obtain ⟨fl, h⟩ := h
  have gx := c.gnone hx
  have gd := c.gnone hd
  have e0 : ∀ a, a ≠ x → a ≠ dx → upd (upd H dx (.own x)) x (.ins (He.ga K C) dx []) a = H a := fun a h1 h2 => by rw [upd_ne h1, upd_ne h2]
  have cN : Cells K [x] [.inC C [] []] G (upd (upd H dx (.own x)) x (.ins (He.ga K C) dx [])) := by
    refine ⟨fun a o e => ?_, rfl, by simp, fun a ha => ?_, fun i a cl h1 h2 => ?_⟩
    · rw [e0 a (ne_of_none e gx) (ne_of_none e gd)]; exact c.le a o e
    · simp at ha; subst ha; exact gx
    · cases i with
      | zero => simp at h1 h2; subst h1; subst h2; exact ⟨dx, [], upd_same, rfl, .nil⟩
      | succ i => simp at h1
  refine ⟨[x], .c 0 :: ss, [.inC C [] []], G, _, _, cN, .cons ⟨x, rfl, rfl⟩ (flat_reps fl r), h, fun _ _ _ _ _ _ _ z => z.elim, fun r' μ' A' G' H' v q c' s' rr => ?_⟩
  obtain ⟨hr, q⟩ := q
  subst hr
  obtain ⟨d, hd', q⟩ := on_of q
  cases rr
  refine ⟨rfl, ?_⟩
  have hA0 : A'[0]? = some x := by
    obtain ⟨B, rfl⟩ := s'.pre; rfl
  obtain ⟨G2, g1, g2, g3, g4, g5⟩ := (show Cells K ([] ++ A') μ' G' H' from c').frz
  have hrep := frzS_rep (A := []) (B := A') c' g1 g4 3 (.c 0) (.ref x) d hd' ⟨x, hA0, rfl⟩
  have hasH : ∀ a ∈ A, H a ≠ none := fun a ha z => c.ne_of_lt ha z rfl
  have hn : ∀ a, upd (upd H dx (.own x)) x (.ins (He.ga K C) dx []) a = none → H a = none := fun a e => by
    by_cases z : a = x
    · rw [z]; exact hx
    · by_cases z2 : a = dx
      · rw [z2]; exact hd
      · rw [← e0 a z z2]; exact e
  have fresh : ∀ a ∈ A', H a = none := fun a ha => by
    rcases s'.cells a ha with z | z
    · simp at z; rw [z]; exact hx
    · exact hn a z
  have nA : ∀ a ∈ A, a ∉ A' := fun a ha z => hasH a ha (fresh a z)
  have nx : ∀ a ∈ A, a ≠ x ∧ a ≠ dx := fun a ha => ⟨c.ne_of_lt ha hx, c.ne_of_lt ha hd⟩
  have gA : ∀ a ∈ A, G' a = none := fun a ha => by
    cases q : G' a with
    | none => rfl
    | some o =>
      rcases s'.new a (by rw [q]; simp) with z | z | ⟨xs, z⟩
      · exact absurd (c.free a ha) z
      · exact absurd (hn a z) (hasH a ha)
      · rw [e0 a (nx a ha).1 (nx a ha).2] at z
        obtain ⟨i, hi⟩ := List.mem_iff_getElem?.mp ha
        have hl : i < μ.length := by rw [← c.len]; exact (List.getElem?_eq_some_iff.mp hi).1
        exact absurd z (c.ok i a _ hi (List.getElem?_eq_getElem hl)).notup
  have keepA : ∀ a ∈ A, H' a = H a := fun a ha => by
    cases e : H a with
    | none => exact absurd e (hasH a ha)
    | some o =>
      rcases s'.keep a o (by rw [e0 a (nx a ha).1 (nx a ha).2]; exact e) (by simp; exact (nx a ha).1) with z | ⟨z, _⟩
      · exact z
      · rw [c.free a ha] at z; cases z
  refine k (.d d) μ A G2 H' (.ref x) q ⟨g2, c.len, c.nd, fun a ha => by rw [g5 a (nA a ha)]; exact gA a ha, fun i a cl h1 h2 => (c.ok i a cl h1 h2).mono (List.prefix_refl _) (s'.le.trans g1) (keepA a (List.mem_of_getElem? h1))⟩ ⟨List.prefix_refl _, s'.le.trans g1, fun a o e n => ?_, fun a e => ?_, fun a xs e => ?_, fun a ha => .inl ha, fun a e => ?_⟩ hrep
  · exact s'.keep a o (by rw [e0 a (ne_of_none e hx) (ne_of_none e hd)]; exact e) (by simp; exact ne_of_none e hx)
  · rcases g3 a e with z | z
    · rcases s'.new a z with z | z | ⟨xs, z⟩
      · exact .inl z
      · exact .inr (.inl (hn a z))
      · by_cases y : a = x
        · rw [y, upd_same] at z; cases z
        · by_cases y2 : a = dx
          · rw [y2, upd_ne ne, upd_same] at z; cases z
          · rw [e0 a y y2] at z; exact .inr (.inr ⟨xs, z⟩)
    · exact .inr (.inl (fresh a z))
  · rcases s'.tups a xs e with z | z
    · exact .inl (hn a z)
    · by_cases y : a = x
      · rw [y, upd_same] at z; cases z
      · by_cases y2 : a = dx
        · rw [y2, upd_ne ne, upd_same] at z; cases z
        · rw [e0 a y y2] at z; exact .inr z
  · refine s'.there a fun z => e (hn a z)
section
variable {X : Cx} {W : WX} {a b c e o : Expr} {es : List Expr} {ta tb te to : TX} {tL : TXA} {pos apos ppos : Pos} {ps : List Str} {p : PSp} {k k' : Nat} {C m : Str}
def xMake (C : Str) (p : PSp) (t : TXA) : TX := fun x ρ μ Q => t x ρ μ fun ss μ1 => callPM C p ss μ1 Q
theorem px_make (h : HasM X.prog X.w X.K X.mg X.base k C "__init__" ps p) (M : Mk X.K (He.ga X.K C) (He.fAd X.K (C, some "__init__"))) (hm : X.mg C = some (.ref (He.ga X.K C))) (tk : Takes X W) (hr : Room k' X.A) (hle : k + 1 ≤ k') (hg : Gl X C)
    (ha : PXA X W (e :: es) tL) (hdb : (C == ("__debug__" : Str)) = false := by decide) (he : starEach (e :: es) X.env = (false, eval e X.env) :: starEach es X.env := by rfl) (hpl : (backTo pos (starEach es X.env)).any (·.1) = false := by rfl) :
    PX X W (.Call (.Name C ppos) (e :: es) [] pos) (xMake C p tL) := by
  obtain ⟨fd, F, hb⟩ := h.ex
  refine ⟨(pe_make M F (hr.mono hle) hg hm hb .nil (E := fun cls d H' => ∀ σ, W cls d σ H') (passes_call tk fun _ _ σ _ h => h σ) ha.pa hdb he hpl).imp fun σ H Q h => ?_⟩
  obtain ⟨A, ρ, μ, G, Qp, xp, S, ht, hx, kk⟩ := h
  refine ⟨A, ρ, μ, G, _, xp, S, ht, hx, fun ss μ1 A1 G1 H1 vs q c1 s1 r1 => ?_⟩
  intro x dx nx nd ne
  show low X.K p (V.ref x :: (vs ++ [])) _ _ _
  rw [List.append_nil]
  exact make_low q c1 r1 nx nd ne fun r μ' A' G' H' v q3 c3 s3 r3 => kk r μ' A' G' H' v q3 c3 (s1.trans s3) r3
theorem findF_none {K : PySem.W.Frag} {G : Hp} {f : Str} : ∀ {ns : List Str} {vs : List D} {us : List V}, ns.length = vs.length → Reps K G vs us → findF f ns vs = none → findF f ns us = none
  | [], _, _, _, _, _ => by simp [findF]
  | n :: ns, _, _, hl, .nil, h => by simp at hl
  | n :: ns, _, _, hl, .cons r t, h => by
    unfold findF at h ⊢
    cases e : f == n with
    | true => rw [e] at h; simp at h
    | false => rw [e] at h; simp only [Bool.false_eq_true, if_false] at h ⊢; exact findF_none (by simpa using hl) t h
/-- o.m(..), o data -/
def xMethO (F : Bool) (C m : Str) (p : PSp) (to : TX) (t : TXA) : TX := fun x ρ μ Q => to x ρ μ fun s μ1 => match s with
  | .d (.obj C' ns vs) => (C' = C ∧ findF m ns vs = none) ∧ t x ρ μ1 fun ss μ2 => if F = true then callPF p x (s :: ss) μ2 Q else callP p x (s :: ss) μ2 Q
  | _ => False
theorem obj_len {K : PySem.W.Frag} {G : Hp} {C : Str} {ns : List Str} {vs : List D} {v : V} (r : Rep K G (.obj C ns vs) v) : ∃ a dx fs, v = .ref a ∧ G a = some (.ins (He.ga K C) dx fs) ∧ ns = fs.map Prod.fst ∧ Reps K G vs (fs.map Prod.snd) := by
  cases r with
  | obj h hn hs => exact ⟨_, _, _, rfl, h, hn, hs⟩
theorem px_meth {F : Bool} {pl : Sem Bool} (h : HasM X.prog X.w X.K X.mg X.base k C m ps p) (hC : Cls X.K (He.ga X.K C)) (hM : Meth X.K (He.ga X.K C) m (He.fAd X.K (C, some m))) (tk : Takes X W) (hr : Room k' X.A) (hle : k ≤ k') (ho : PX X W o to)
    (ha : PXA X W (e :: es) tL) (hst : starEach (e :: es) X.env = (false, eval e X.env) :: starEach es X.env := by rfl) (hpl : (backTo pos (starEach es X.env)).any (·.1) = false := by rfl)
    (ht : eval (.Call (.Attribute o m apos) (e :: es) [] pos) X.env = (do
      let ov ← eval o X.env
      standAt apos.atName
      let (f, first) ← holding [ov] (getMethod ov m pl)
      callWith pos f first (backTo pos (starEach (e :: es) X.env)) (backToKw pos (keywordEach [] X.env))) := by rfl) :
    PX X W (.Call (.Attribute o m apos) (e :: es) [] pos) (xMethO F C m p to tL) := by
  obtain ⟨fd, Fn, hb⟩ := h.ex
  refine ⟨(pe_meth (pl := pl) ho.pe hC hM Fn (hr.mono hle) hb .nil (E := fun cls d H' => ∀ σ, W cls d σ H') (passes_call tk fun _ _ σ _ h => h σ) ha.pa hst hpl ht).imp fun σ H Q h => ?_⟩
  obtain ⟨A, ρ, μ, G, Qp, xp, S, ht, hx, kk⟩ := h
  refine ⟨A, ρ, μ, G, _, xp, S, ht, hx, fun s μ1 A1 G1 H1 v q c1 s1 r1 => ?_⟩
  match s, q, r1 with
  | .d (.obj C' ns vs), q1, r1 =>
    obtain ⟨⟨hc, hn⟩, qq⟩ := q1
    subst hc
    obtain ⟨a, dx, fs, rfl, ha', hns, hvs⟩ := obj_len (K := X.K) (G := G1) r1
    refine ⟨a, dx, fs, rfl, c1.le _ _ ha', ?_, A1, ρ, μ1, G1, _, xp, S.after s1 c1, qq, hx.after s1, fun ss μ2 A2 G2 H2 us q2 c2 s2 r2 => ?_⟩
    · rw [findF_look, ← hns]
      exact findF_none (by rw [hns, List.length_map, hvs.length, List.length_map]) hvs hn
    · have s12 := s1.trans s2
      have r3 : RepsS X.K A2 G2 (.d (.obj C' ns vs) :: ss) (V.ref a :: us) := .cons (RepS.mono s2.pre s2.le (s := .d (.obj C' ns vs)) r1) r2
      show low X.K p (V.ref a :: (us ++ [])) _ _ _
      rw [List.append_nil]
      cases F with
      | true => exact call_lowF q2 c2 r3 (hx.after s12) fun r μ' A' G' H' v q3 c3 s3 r3 => kk r μ' A' G' H' v q3 c3 (s12.trans s3) r3
      | false => exact call_low q2 c2 r3 (hx.after s12) fun r μ' A' G' H' v q3 c3 s3 r3 => kk r μ' A' G' H' v q3 c3 (s12.trans s3) r3
end
end PL
/-! The P-layer: list(zip(t, u)) of two tuples. -/
namespace PL
open PySem PySem.Spec PyProof.Rows L2 RZ
section
variable {P : Program} {w : World} {A : Around} {E : Value → Shared → Prop} {s : Shared} {z TI TO i1 i2 l1 l2 T : Addr} {f : Bool} {oT : Obj} {k m : Nat} {xs ys : Array Value} {Q : Option Value → Shared → Prop}
/-- a draw from a zip whose pair is kept by others: a pair is made anew -/
theorem zh_draw {x y : Value} (D : ZipApart z TI TO i1 i2 l1 l2) (hz : IsZipHeld s.heap z TI TO T f) (hT : s.heap.get? T = some oT) (hp : IsPair s.heap TI (.ref i1) (.ref i2))
    (a1 : s.heap.IsTupleIter i1 l1 k) (a2 : s.heap.IsTupleIter i2 l2 m) (b1 : s.heap.IsTuple l1 xs) (b2 : s.heap.IsTuple l2 ys) (e1 : xs[k]? = some x) (e2 : ys[m]? = some y)
    (q : ∀ g, IsZipHeld g z TI TO T true → g.IsTupleIter i1 l1 (k + 1) → g.IsTupleIter i2 l2 (m + 1) → IsPair g s.heap.objs.size x y → (∀ c o, c ∉ [z, i1, i2] → s.heap.get? c = some o → g.get? c = some o) →
      Q (some (.ref s.heap.objs.size)) { s with heap := g }) : wpAny (model P w) A (pyNext (.ref z)) Q E s := by
  unfold pyNext
  refine wpAny_bind (wpAny_attempt (wpAny_callSpecial?_slot (name := Str.ofString "__next__") ⟨_, hz, rfl⟩ F.slot_zip_next (wpAny_call_entry (Q := fun v s' => wpAny (model P w) A (pure (some v)) Q E s') F.slot_zip_next ⟨_, hz, rfl⟩ F.entry_zip_next ?_ (F.args_zip_next_1 _))))
  show wpAny (model P w) A.in1 (field (.ref z) 2 >>= _) _ _ s
  refine wpAny_bind (wpAny_field hz rfl (x := .bool false) rfl ?_)
  show wpAny (model P w) A.in1 (field (.ref z) 3 >>= _) _ _ s
  refine wpAny_bind (wpAny_field hz rfl (x := .ref TI) rfl (wpAny_bind (wpAny_seqItems hp rfl ?_)))
  show wpAny (model P w) A.in1 (Builtin.SmallTypes.ownedTupleIsFree (.ref z) >>= _) _ _ s
  refine wpAny_bind (wpAny_tupleHeld_zip hz hT fun g0 z0 t0 => ?_)
  simp only [Bool.false_eq_true, if_false]
  refine wpAny_bind ?_
  rw [← Array.forIn_toList]
  simp only [List.forIn_cons, List.forIn_nil]
  refine wpAny_bind (wpAny_bind (wpAny_holding ?_))
  show wpAny (model P w) A.in1 (Builtin.SmallTypes.nextOf (.ref i1) >>= _) _ _ _
  refine wpAny_bind (nextOf_tuple_item (s := { s with heap := g0 }) (a1.extBut t0.extBut D.i1z) (b1.extBut t0.extBut D.l1z) e1 fun g1 c1 t1 => wpAny_pure (wpAny_pure (wpAny_bind (wpAny_bind (wpAny_holding ?_)))))
  show wpAny (model P w) A.in1 (Builtin.SmallTypes.nextOf (.ref i2) >>= _) _ _ _
  refine wpAny_bind (nextOf_tuple_item (s := { s with heap := g1 }) ((a2.extBut t0.extBut D.i2z).extBut t1.extBut D.i12.symm) ((b2.extBut t0.extBut D.l2z).extBut t1.extBut D.l2i1) e2 fun g2 c2 t2 => wpAny_pure (wpAny_pure (wpAny_pure ?_)))
  show wpAny (model P w) A.in1 (newTuple [x, y] >>= _) _ _ _
  have hs : g2.objs.size = s.heap.objs.size := t2.1.trans (t1.1.trans t0.1)
  refine wpAny_bind (wpAny_newTuple (wpAny_pure ⟨.ref g2.objs.size, rfl, wpAny_pure ?_⟩))
  rw [hs]
  have old : ∀ c o, c ∉ [z, i1, i2] → s.heap.get? c = some o → g2.get? c = some o := fun c o hc e => by
    simp only [List.mem_cons, List.not_mem_nil, or_false, not_or] at hc
    exact t2.extBut _ _ hc.2.2 (t1.extBut _ _ hc.2.1 (t0.extBut _ _ hc.1 e))
  refine q _ (Heap.get?_push_of_some _ (t2.extBut _ _ D.i2z.symm (t1.extBut _ _ D.i1z.symm z0))) ((c1.extBut t2.extBut D.i12).at fun o e => Heap.get?_push_of_some _ e) (c2.at fun o e => Heap.get?_push_of_some _ e) ?_ fun c o hc e => Heap.get?_push_of_some _ (old c o hc e)
  have := Heap.get?_push_size g2 (o := { cls := .type "tuple", data := .seq #[x, y] }) rfl
  rw [hs] at this
  exact this
/-- the end of such a zip -/
theorem zh_stop (hh : A.handled = none) (D : ZipApart z TI TO i1 i2 l1 l2) (hz : IsZipHeld s.heap z TI TO T f) (hT : s.heap.get? T = some oT) (hp : IsPair s.heap TI (.ref i1) (.ref i2))
    (a1 : s.heap.IsTupleIter i1 l1 k) (a2 : s.heap.IsTupleIter i2 l2 m) (b1 : s.heap.IsTuple l1 xs) (b2 : s.heap.IsTuple l2 ys) (he : xs[k]? = none ∨ ys[m]? = none)
    (q : ∀ g, (∀ c o, c ∉ [z, i1, i2] → s.heap.get? c = some o → g.get? c = some o) → Q none { s with heap := g }) : wpAny (model P w) A (pyNext (.ref z)) Q E s := by
  unfold pyNext
  have ty : s.TypeIs (.ref z) "zip" := ⟨_, hz, rfl⟩
  refine wpAny_bind (wpAny_attempt (wpAny_callSpecial?_slot (name := Str.ofString "__next__") ty F.slot_zip_next (wpAny_call_entry F.slot_zip_next ty F.entry_zip_next ?_ (F.args_zip_next_1 _))))
  have raised : ∀ (g : Heap) (e : Addr), (∀ c o, c ∉ [z, i1, i2] → s.heap.get? c = some o → g.get? c = some o) → (∃ o, g.get? e = some o ∧ o.cls = .type "StopIteration") → wpAny (model P w) A (isInstance (.ref e) (.type "StopIteration") >>= fun b => if b = true then pure none else throw (.ref e)) Q E { s with heap := g } := fun g e kp ⟨o, eo, ec⟩ =>
    wpAny_bind (wpAny_isInstance (T := "StopIteration") (b := true) ⟨o, eo, ec⟩ isSubtype_stop (wpAny_pure (q g kp)))
  show wpAny (model P w) A.in1 (field (.ref z) 2 >>= _) _ _ s
  refine wpAny_bind (wpAny_field hz rfl (x := .bool false) rfl ?_)
  show wpAny (model P w) A.in1 (field (.ref z) 3 >>= _) _ _ s
  refine wpAny_bind (wpAny_field hz rfl (x := .ref TI) rfl (wpAny_bind (wpAny_seqItems hp rfl ?_)))
  show wpAny (model P w) A.in1 (Builtin.SmallTypes.ownedTupleIsFree (.ref z) >>= _) _ _ s
  refine wpAny_bind (wpAny_tupleHeld_zip hz hT fun g0 z0 t0 => ?_)
  simp only [Bool.false_eq_true, if_false]
  refine wpAny_bind ?_
  rw [← Array.forIn_toList]
  simp only [List.forIn_cons, List.forIn_nil]
  refine wpAny_bind (wpAny_bind (wpAny_holding ?_))
  show wpAny (model P w) A.in1 (Builtin.SmallTypes.nextOf (.ref i1) >>= _) _ _ _
  cases e1 : xs[k]? with
  | none =>
    exact wpAny_bind (nextOf_tuple_end (s := { s with heap := g0 }) hh (a1.extBut t0.extBut D.i1z) (b1.extBut t0.extBut D.l1z) e1 fun g1 e t1 ee => raised g1 e (fun c o hc eo => by
      simp only [List.mem_cons, List.not_mem_nil, or_false, not_or] at hc
      exact t1 _ _ hc.2.1 (t0.extBut _ _ hc.1 eo)) ee)
  | some x =>
    have e2 : ys[m]? = none := he.resolve_left (by rw [e1]; exact nofun)
    refine wpAny_bind (nextOf_tuple_item (s := { s with heap := g0 }) (a1.extBut t0.extBut D.i1z) (b1.extBut t0.extBut D.l1z) e1 fun g1 c1 t1 => wpAny_pure (wpAny_pure (wpAny_bind (wpAny_bind (wpAny_holding ?_)))))
    show wpAny (model P w) A.in1 (Builtin.SmallTypes.nextOf (.ref i2) >>= _) _ _ _
    exact wpAny_bind (nextOf_tuple_end (s := { s with heap := g1 }) hh ((a2.extBut t0.extBut D.i2z).extBut t1.extBut D.i12.symm) ((b2.extBut t0.extBut D.l2z).extBut t1.extBut D.l2i1) e2 fun g2 e t2 ee => raised g2 e (fun c o hc eo => by
      simp only [List.mem_cons, List.not_mem_nil, or_false, not_or] at hc
      exact t2 _ _ hc.2.2 (t1.extBut _ _ hc.2.1 (t0.extBut _ _ hc.1 eo))) ee)
end
/-- such a zip: nothing given out yet, or its first pair still held -/
def ZSt (z TI TO i1 i2 a b : Addr) (k : Nat) (ts : List Addr) (h : Heap) : Prop :=
  IsPair h TI (.ref i1) (.ref i2) ∧ h.IsTupleIter i1 a k ∧ h.IsTupleIter i2 b k ∧ match ts with
    | [] => IsZip h z TI TO .none ∧ ∃ u v, IsPair h TO u v
    | T :: _ => ∃ f, IsZipHeld h z TI TO T f
theorem ZSt.keep {z TI TO i1 i2 a b : Addr} {k : Nat} {ts : List Addr} {h g : Heap} (Z : ZSt z TI TO i1 i2 a b k ts h) (kp : ∀ c ∈ [z, TI, TO, i1, i2], ∀ o, h.get? c = some o → g.get? c = some o) : ZSt z TI TO i1 i2 a b k ts g := by
  obtain ⟨p, x, y, w⟩ := Z
  refine ⟨kp TI (by simp) _ p, x.at fun o => kp i1 (by simp) o, y.at fun o => kp i2 (by simp) o, ?_⟩
  cases ts with
  | nil =>
    obtain ⟨w1, u, v, w2⟩ := w
    exact ⟨kp z (by simp) _ w1, u, v, kp TO (by simp) _ w2⟩
  | cons T r =>
    obtain ⟨f, w⟩ := w
    exact ⟨f, kp z (by simp) _ w⟩
/-- the list's own loop over it -/
theorem lz_loop {X : Cx} {pins : List (Addr × Obj)} {σ : L2.St} {A : Around} {R : Result → Shared → Prop} {z TI TO i1 i2 a b l : Addr} {xs ys : List V} {n : Nat} {res : Value} (hh : A.handled = none) (D : ZipApart z TI TO i1 i2 a b) (hl : l ∉ [z, TI, TO, i1, i2])
    (hn : n = min xs.length ys.length) (hz : n ≤ sizeLine) (W : Nat → List Addr → Hp → Prop)
    (hW : ∀ i ts H, W i ts H → ts.length = i ∧ SqT X.K H a xs ∧ SqT X.K H b ys ∧ H l = some (.lst (ts.map V.ref)) ∧ ∀ T ∈ ts, ∃ u, H T = some (.tup u))
    (hs : ∀ i ts H T x y, W i ts H → xs[i]? = some x → ys[i]? = some y → H T = none → W (i + 1) (ts ++ [T]) (upd (upd H T (.tup [x, y])) l (.lst ((ts ++ [T]).map V.ref))))
    (hR : ∀ ts H s', W n ts H → Inv X pins σ H s' → R (.ok (.ret res)) s') : ∀ (k i : Nat) (ts : List Addr) (H : Hp) (s : Shared), n - i = k → i ≤ n → W i ts H → Inv X pins σ H s → ZSt z TI TO i1 i2 a b i ts s.heap →
    (∀ c ∈ [z, TI, TO, i1, i2], FpOk X pins H c ∧ c < s.heap.objs.size) → codeAny (model X.prog X.w) A (.builtin "list.extend.loop" ⟨[.ref l, .ref z, res], []⟩) R s := by
  intro k
  induction k with
  | zero =>
    intro i ts H s hk hi w I Z hf
    obtain ⟨e0, qx, qy, el, et⟩ := hW i ts H w
    have hin : i = n := by omega
    obtain ⟨us, r1, p1, _⟩ := I.tuple qx
    obtain ⟨vs, r2, p2, _⟩ := I.tuple qy
    obtain ⟨hp, a1, a2, zz⟩ := Z
    have hend : us.toArray[i]? = none ∨ vs.toArray[i]? = none := by
      have := r1.length; have := r2.length
      simp only [List.getElem?_toArray, List.getElem?_eq_none_iff]
      omega
    have fin : ∀ g : Heap, (∀ c o, c ∉ [z, TI, TO, i1, i2] → s.heap.get? c = some o → g.get? c = some o) → R (.ok (.ret res)) { s with heap := g } := fun g kp =>
      hR ts H _ (hin ▸ w) (I.turnedL (t' := s.toks) (ch := [z, TI, TO, i1, i2]) (fun c o hc e => kp c o hc e) fun c hc => (hf c hc).1)
    refine codeAny_builtin F.entry_extend_loop ?_
    rw [Around.under_plainId F.plain_extend_loop _]
    refine wpAny_bind (m := pyNext (.ref z)) ?_
    cases ts with
    | nil =>
      obtain ⟨z1, u, v, z2⟩ := zz
      exact pyNext_zipT_end hh D z1 hp z2 a1 a2 p1 p2 hend fun g kp => wpAny_pure (fin g fun c o hc e => kp c o (fun q => hc (by simp [q])) (fun q => hc (by simp [q])) (fun q => hc (by simp [q])) (fun q => hc (by simp [q])) e)
    | cons T r =>
      obtain ⟨f, z1⟩ := zz
      obtain ⟨u, eT⟩ := et T (by simp)
      obtain ⟨_, _, _, oT, gT, _⟩ := I.hok T _ eT
      exact zh_stop hh D z1 gT hp a1 a2 p1 p2 hend fun g kp => wpAny_pure (fin g fun c o hc e => kp c o (fun q => hc (by
        simp only [List.mem_cons, List.not_mem_nil, or_false] at q ⊢
        rcases q with q | q | q <;> simp [q])) e)
  | succ k ih =>
    intro i ts H s hk hi w I Z hf
    obtain ⟨e0, qx, qy, el, et⟩ := hW i ts H w
    obtain ⟨us, r1, p1, _⟩ := I.tuple qx
    obtain ⟨vs, r2, p2, _⟩ := I.tuple qy
    obtain ⟨hp, a1, a2, zz⟩ := Z
    obtain ⟨x, ex⟩ : ∃ x, xs[i]? = some x := ⟨_, List.getElem?_eq_getElem (by omega)⟩
    obtain ⟨y, ey⟩ : ∃ y, ys[i]? = some y := ⟨_, List.getElem?_eq_getElem (by omega)⟩
    obtain ⟨u, eu, ru⟩ := r1.get ex
    obtain ⟨v, ev, rv⟩ := r2.get ey
    have eu' : us.toArray[i]? = some u := by rw [List.getElem?_toArray]; exact eu
    have ev' : vs.toArray[i]? = some v := by rw [List.getElem?_toArray]; exact ev
    have nT : H s.heap.objs.size = none := I.fresh
    have ln : l ≠ s.heap.objs.size := fun q => by rw [q, nT] at el; cases el
    -- the turn, once the pair is there
    have turn : ∀ g : Heap, ZSt z TI TO i1 i2 a b (i + 1) (ts ++ [s.heap.objs.size]) g → IsPair g s.heap.objs.size u v → (∀ c o, c ∉ [z, TI, TO, i1, i2] → s.heap.get? c = some o → g.get? c = some o) → (∀ c, c < s.heap.objs.size → c < g.objs.size) →
        wpAny (model X.prog X.w) A.in1 (updateSeq l (·.push (.ref s.heap.objs.size)) >>= fun _ => again (.builtin "list.extend.loop" ⟨[.ref l, .ref z, res], []⟩)) (fun fin s' => match fin with | .done f => R (.ok f) s' | .again c' => c'.quiet = true ∧ codeAny (model X.prog X.w) A c' R s') (fun e s' => R (.error e) s') { s with heap := g } := fun g Z2 gp kp big => by
      have I1 : Inv X pins σ (upd H s.heap.objs.size (.tup [x, y])) { s with heap := g } := I.turnedNew (t' := s.toks) (ch := [z, TI, TO, i1, i2]) (fun c o hc e => kp c o hc e) (fun c hc => (hf c hc).1) (Nat.le_refl _)
        ⟨by show 2 ≤ sizeLine; decide, [u, v], .cons ru (.cons rv .nil), _, gp, rfl, _, rfl⟩
      have el1 : upd H s.heap.objs.size (.tup [x, y]) l = some (.lst (ts.map V.ref)) := by rw [upd_ne ln]; exact el
      obtain ⟨_, its, m, rl, hlen, gl⟩ := I1.lstM el1
      have hz2 : (ts.map V.ref).length < sizeLine := by rw [List.length_map, e0]; omega
      refine wpAny_bind (wpAny_updateSeq gl rfl (wpAny_pure ⟨plainId_quiet F.plain_extend_loop _, ?_⟩) (by rw [List.size_toArray, ← hlen]; omega) (by rw [Array.size_push, List.size_toArray, ← hlen]; omega))
      have I2 := I1.lset (t' := s.toks) (its' := its ++ [.ref s.heap.objs.size]) (ys := (ts ++ [s.heap.objs.size]).map V.ref) el1 gl (f := (·.push (.ref s.heap.objs.size))) (by simp) (by
        rw [List.map_append]
        exact rl.append (.cons rfl .nil)) (by rw [List.length_map, List.length_append, List.length_singleton, e0]; omega)
      refine ih (i + 1) _ _ _ (by omega) (by omega) (hs i ts H _ x y w ex ey nT) I2 (Z2.keep fun c hc o e => (Heap.get?_update_other _ _ (fun q : l = c => hl (q ▸ hc))).trans e) fun c hc => ⟨⟨?_, (hf c hc).1.2⟩, ?_⟩
      · rw [upd_ne (fun q => hl (by rw [← q]; exact hc)), upd_ne (Nat.ne_of_lt (hf c hc).2)]
        exact (hf c hc).1.1
      · show c < (g.update l _).objs.size
        rw [Heap.size_update]
        exact big c (hf c hc).2
    refine codeAny_builtin F.entry_extend_loop ?_
    rw [Around.under_plainId F.plain_extend_loop _]
    refine wpAny_bind (m := pyNext (.ref z)) ?_
    cases ts with
    | nil =>
      obtain ⟨z1, u0, v0, z2⟩ := zz
      refine pyNext_zipT_item D z1 hp z2 a1 a2 p1 p2 eu' ev' fun g z3 z4 c1 c2 gp gs kp => turn g ⟨?_, c1, c2, false, z3⟩ gp (fun c o hc e => kp c o (fun q => hc (by simp [q])) (fun q => hc (by simp [q])) (fun q => hc (by simp [q])) (fun q => hc (by simp [q])) e) fun c hc => by omega
      exact kp _ _ D.TIz D.TITO D.TIi1 D.TIi2 hp
    | cons T r =>
      obtain ⟨f, z1⟩ := zz
      obtain ⟨u0, eT⟩ := et T (by simp)
      obtain ⟨_, _, _, oT, gT, _⟩ := I.hok T _ eT
      refine zh_draw D z1 gT hp a1 a2 p1 p2 eu' ev' fun g z3 c1 c2 gp kp => turn g ⟨?_, c1, c2, true, z3⟩ gp (fun c o hc e => kp c o (fun q => hc (by
        simp only [List.mem_cons, List.not_mem_nil, or_false] at q ⊢
        rcases q with q | q | q <;> simp [q])) e) fun c hc => by
          have q : s.heap.objs.size < g.objs.size := Heap.lt_size gp
          exact Nat.lt_trans hc q
      exact kp _ _ (by simp [D.TIz, D.TIi1, D.TIi2]) hp
theorem zip_no_len : typeLookup (.type "zip") "__len__" = pure none := by rw [typeLookup_type, builtinLookup_eq_fast]; kernel_rfl
theorem zip_no_hint : typeLookup (.type "zip") "__length_hint__" = pure none := by rw [typeLookup_type, builtinLookup_eq_fast]; kernel_rfl
/-- list(z), z such a zip of which nothing is drawn -/
theorem call_lz {X : Cx} {pins : List (Addr × Obj)} {σ : L2.St} {A : Around} {E : Value → Shared → Prop} {s : Shared} {H : Hp} {Q : Value → Shared → Prop} {z TI TO i1 i2 a b : Addr} {xs ys : List V} {n : Nat} (hh : A.handled = none) (D : ZipApart z TI TO i1 i2 a b)
    (hn : n = min xs.length ys.length) (hz : n ≤ sizeLine) (W : Nat → List Addr → Hp → Prop) (I : Inv X pins σ H s) (Z : ZSt z TI TO i1 i2 a b 0 [] s.heap) (hf : ∀ c ∈ [z, TI, TO, i1, i2], FpOk X pins H c ∧ c < s.heap.objs.size)
    (h0 : W 0 [] (upd H s.heap.objs.size (.lst [])))
    (hW : ∀ i ts J, W i ts J → ts.length = i ∧ SqT X.K J a xs ∧ SqT X.K J b ys ∧ J s.heap.objs.size = some (.lst (ts.map V.ref)) ∧ ∀ T ∈ ts, ∃ u, J T = some (.tup u))
    (hs : ∀ i ts J T x y, W i ts J → xs[i]? = some x → ys[i]? = some y → J T = none → W (i + 1) (ts ++ [T]) (upd (upd J T (.tup [x, y])) s.heap.objs.size (.lst ((ts ++ [T]).map V.ref))))
    (hQ : ∀ ts J s', W n ts J → Inv X pins σ J s' → Q (.ref s.heap.objs.size) s') : wpAny (model X.prog X.w) A (call (.type "list") [.ref z]) Q E s := by
  refine callType_codes (Q₁ := fun o t => o = .ref s.heap.objs.size ∧ t = { s with heap := s.heap.push { cls := .type "list", data := .seq #[] } }) F.called_list (F.typeCall_list_1 _) F.entry_list_init (code_list_new _ ⟨rfl, rfl⟩) fun o t ht => ?_
  obtain ⟨rfl, rfl⟩ := ht
  have I1 : Inv X pins σ (upd H s.heap.objs.size (.lst [])) { s with heap := s.heap.push { cls := .type "list", data := .seq #[] } } := I.lnew (its := []) (t' := s.toks) .nil (Nat.zero_le _)
  have l1 : (s.heap.push { cls := .type "list", data := .seq #[] }).get? s.heap.objs.size = some { cls := .type "list", data := .seq #[] } := Heap.get?_push_size _ rfl
  have nl : s.heap.objs.size ∉ [z, TI, TO, i1, i2] := fun q => Nat.lt_irrefl _ (hf _ q).2
  refine ⟨⟨_, l1, rfl⟩, F.args_list_init_2 _ _, ?_⟩
  show wpAny (model X.prog X.w) A.in1.in1 (Builtin.List.listItems (.ref s.heap.objs.size) >>= fun old => Builtin.List.listUpdate (.ref s.heap.objs.size) (fun _ => #[]) >>= fun _ => letGo old.toList.reverse >>= fun _ => Builtin.List.listExtendWith (.ref s.heap.objs.size) (.ref z) .none) _ _ _
  unfold Builtin.List.listItems
  refine wpAny_bind (wpAny_bind (wpAny_seqItems l1 rfl (wpAny_pure (wpAny_bind (wpAny_updateSeq l1 rfl (wpAny_bind (wpAny_letGo ?_)))))))
  have I2 := I1.lset (t' := s.toks) (ys := []) (its' := []) upd_same l1 (f := fun _ => #[]) rfl .nil (Nat.zero_le _)
  have l2 := PySem.IsL.update l1 (fun _ => #[])
  generalize hg : (s.heap.push { cls := .type "list", data := .seq #[] }).update s.heap.objs.size (Obj.mapSeq fun _ => #[]) = g at I2 l2
  have kg : ∀ c o, c < s.heap.objs.size → s.heap.get? c = some o → g.get? c = some o := fun c o hc e => by
    rw [← hg]
    exact (Heap.get?_update_other _ _ (Nat.ne_of_gt hc)).trans (Heap.get?_push_of_some _ e)
  have Zg : ZSt z TI TO i1 i2 a b 0 [] g := Z.keep fun c hc o e => kg c o (hf c hc).2 e
  have tz : ∀ (t : Nat), ({ s with heap := g, toks := t } : Shared).TypeIs (.ref z) "zip" := fun t => ⟨_, Zg.2.2.2.1, rfl⟩
  unfold Builtin.List.listExtendWith
  refine wpAny_bind (wpAny_typeOf (tz s.toks) ?_)
  have e1 : Builtin.List.listSameRef (.ref s.heap.objs.size) (.ref z) = false := by
    have : s.heap.objs.size ≠ z := fun q => nl (by simp [q])
    simp [Builtin.List.listSameRef, this]
  have e2 : (Value.type "zip" == Value.type "list") = false := by decide
  have e3 : (Value.type "zip" == Value.type "tuple") = false := by decide
  simp only [e1, e2, e3, Bool.or_false, Bool.false_eq_true, if_false]
  refine wpAny_bind (wpAny_pyIter_zip Zg.2.2.2.1 (wpAny_bind (wpAny_holding ?_)))
  unfold Builtin.List.listLengthHint
  refine wpAny_bind (wpAny_specialOf (tz s.toks) zip_no_len ?_)
  show wpAny (model X.prog X.w) A.in1.in1 (specialOf (Value.ref z) (Str.ofString "__length_hint__") >>= _) _ _ _
  refine wpAny_bind (wpAny_specialOf (tz s.toks) zip_no_hint (wpAny_pure ?_))
  show wpAny (model X.prog X.w) A.in1.in1 (rule "list.extend.makes-room" >>= fun _ => (updateSeq s.heap.objs.size (·.push .none) >>= fun _ => updateSeq s.heap.objs.size (·.pop)) >>= fun _ => again (.builtin "list.extend.loop" ⟨[.ref s.heap.objs.size, .ref z, .none], []⟩)) _ _ _
  refine wpAny_bind (wpAny_rule (wpAny_bind (wpAny_bind (wpAny_updateSeq l2 rfl ?_))))
  have I3 := I2.lset (t' := s.toks) (ys := [.non]) (its' := [.none]) upd_same l2 (f := (·.push .none)) rfl (.cons rfl .nil) (by show 1 ≤ sizeLine; decide)
  have l3 := PySem.IsL.update l2 (·.push .none)
  refine wpAny_updateSeq l3 rfl (wpAny_pure ⟨plainId_quiet F.plain_extend_loop _, ?_⟩)
  have I4 := I3.lset (t' := s.toks) (ys := []) (its' := []) upd_same l3 (f := (·.pop)) rfl .nil (Nat.zero_le _)
  have up : ∀ (J : Hp) (u v : HO), upd (upd J s.heap.objs.size u) s.heap.objs.size v = upd J s.heap.objs.size v := fun J u v => by
    funext c
    unfold upd
    split <;> simp_all
  rw [up, up, up] at I4
  refine lz_loop (A := A.in1) hh D nl hn hz W hW hs (fun ts J s' w V => ⟨rfl, hQ ts J s' w V⟩) n 0 [] _ _ rfl (Nat.zero_le _) h0 I4 (Zg.keep fun c hc o e => (Heap.get?_update_other _ _ (fun q => nl (by rw [q]; exact hc))).trans ((Heap.get?_update_other _ _ (fun q => nl (by rw [q]; exact hc))).trans e)) fun c hc => ⟨⟨?_, (hf c hc).1.2⟩, ?_⟩
  · rw [upd_ne (fun q => nl (by rw [← q]; exact hc))]
    exact (hf c hc).1.1
  · show c < ((g.update _ _).update _ _).objs.size
    rw [Heap.size_update, Heap.size_update, ← hg, Heap.size_update, Heap.size_push]
    exact Nat.lt_succ_of_lt (hf c hc).2
end PL
/-! The P-layer: list(zip(t, u)) of two tuples: the rule. -/
namespace PL
open PySem PySem.Spec PyProof.Rows L2 RZ
/-- l the new list; W what holds while it grows -/
def tLZ (K : PySem.W.Frag) (ta : TA) : TE := fun σ H Q => ta σ H fun vs H1 => ∃ a b xs ys, vs = [.ref a, .ref b] ∧ SqT K H1 a xs ∧ SqT K H1 b ys ∧ ∀ l, H1 l = none → ∃ W : Nat → List Addr → Hp → Prop, W 0 [] (upd H1 l (.lst [])) ∧
  (∀ i ts J, W i ts J → ts.length = i ∧ SqT K J a xs ∧ SqT K J b ys ∧ J l = some (.lst (ts.map V.ref)) ∧ ∀ T ∈ ts, ∃ u, J T = some (.tup u)) ∧
  (∀ i ts J T x y, W i ts J → xs[i]? = some x → ys[i]? = some y → J T = none → W (i + 1) (ts ++ [T]) (upd (upd J T (.tup [x, y])) l (.lst ((ts ++ [T]).map V.ref)))) ∧
  ∀ ts J, W (min xs.length ys.length) ts J → Q (.ref l) J
theorem pe_lzip {X : Cx} {e e2 : Expr} {ta : TA} {p p2 pos pos2 : Pos} (hc : X.calm = true) (hg : Gl X "list") (hm : X.mg "list" = none) (hg2 : Gl X "zip") (hm2 : X.mg "zip" = none) (ha : PA X [e, e2] ta)
    (hs : starEach [e, e2] X.env = (false, eval e X.env) :: starEach [e2] X.env := by rfl) (hpl : (backTo pos (starEach [e2] X.env)).any (·.1) = false := by rfl) :
    PE X (.Call (.Name "list" p2) [.Call (.Name "zip" p) [e, e2] [] pos] [] pos2) (tLZ X.K ta) := by
  refine ⟨fun pins s σ H Q I h => ?_⟩
  refine Call_ (ld_blt I hg hm PyProof.Rows.boot_list (PyProof.Rows.callWith_type1 ?_ rfl rfl))
  refine Calls.spliced_cons ?_
  refine Call_ (ld_blt I hg2 hm2 PyProof.Rows.boot_zip (PyProof.Rows.callWith_type1 (thn (ha.run pos pins s σ H _ I h) fun us s1 ⟨vs, H1, I1, r1, q1⟩ => ?_) hs hpl))
  obtain ⟨a, b, xs, ys, ev, hx, hy, q⟩ := q1
  subst ev
  have hus : us = [.ref a, .ref b] := by
    cases r1 with
    | cons r rr => cases rr with
      | cons r' rr =>
        cases rr
        cases r
        cases r'
        rfl
  subst hus
  obtain ⟨its, rv, p1, l1⟩ := I1.tuple hx
  obtain ⟨its2, rv2, p2, l2⟩ := I1.tuple hy
  obtain ⟨o1, ho1, _⟩ := id p1
  obtain ⟨o2, ho2, _⟩ := id p2
  refine call_zipT (show s1.heap.IsTuple a its.toArray from p1) (show s1.heap.IsTuple b its2.toArray from p2) fun g z1 z2 z3 a1 a2 sz kp => ?_
  have I2 : Inv X pins σ H1 { s1 with heap := g } := I1.kept (t' := s1.toks) kp
  refine Calls.spliced_nil ?_
  have nl : H1 g.objs.size = none := I2.fresh
  obtain ⟨W, w0, w1, w2, w3⟩ := q _ nl
  refine call_lz (s := { s1 with heap := g }) (I.ok.hd hc) (PySem.W.ktu_apart s1.heap.objs.size a b (Heap.lt_size ho1) (Heap.lt_size ho2)) rfl (by omega) W I2 ⟨z2, a1, a2, z1, _, _, z3⟩ (fun c hcm => ?_) w0 w1 w2 fun ts J s' w V => ⟨.ref g.objs.size, J, V, rfl, w3 ts J w⟩
  have hle : ∃ j, j < 5 ∧ c = s1.heap.objs.size + j := by
    simp only [List.mem_cons, List.not_mem_nil, or_false] at hcm
    rcases hcm with q | q | q | q | q
    · exact ⟨4, by decide, q⟩
    · exact ⟨2, by decide, q⟩
    · exact ⟨3, by decide, q⟩
    · exact ⟨0, by decide, q⟩
    · exact ⟨1, by decide, q⟩
  obtain ⟨j, hj, rfl⟩ := hle
  have up : s1.heap.objs.size ≤ s1.heap.objs.size + j := Nat.le_add_right _ _
  refine ⟨I1.fpOk up (I1.hok.fresh up), ?_⟩
  show s1.heap.objs.size + j < g.objs.size
  rw [sz]
  exact Nat.add_lt_add_left hj _
/-- what stands outside, changed there -/
theorem Cells.reout {K : PySem.W.Frag} {A A' : List Addr} {μ' : Mem} {G G' H H' : Hp} {p : Addr} {o' : HO} (hp0 : H p = none) (c : Cells K A' μ' G' H') (st : Step A G H A' G' H') (na : p ∉ A') (gn : G' p = none) (nt : ∀ xs, o' ≠ .tup xs) :
    Cells K A' μ' G' (upd H' p o') ∧ Step A G H A' G' (upd H' p o') := by
  refine ⟨⟨fun a u e => (upd_ne (ne_of_none e gn)).trans (c.le a u e), c.len, c.nd, c.free, fun k a cl h1 h2 => (c.ok k a cl h1 h2).mono (List.prefix_refl _) (LeZ.refl _) (upd_ne fun z => na (z ▸ List.mem_of_getElem? h1))⟩, st.pre, st.le, fun a u e n => ?_, st.new, fun a xs e => ?_, st.cells, fun a e => ?_⟩
  · rw [upd_ne (ne_of_none e hp0)]
    exact st.keep a u e n
  · by_cases q : a = p
    · subst q
      exact absurd (Option.some.inj (upd_same.symm.trans e)) (nt xs)
    · exact st.tups a xs (by rwa [upd_ne q] at e)
  · by_cases q : a = p
    · subst q
      rw [upd_same]
      exact nofun
    · rw [upd_ne q]
      exact st.there a e
theorem sqT_new {K : PySem.W.Frag} {J : Hp} {a L : Addr} {o : HO} {xs : List V} (h : SqT K J a xs) (n : J L = none) : SqT K (upd J L o) a xs :=
  Le.sqT (fun b u e => by rw [upd_ne (ne_of_none e n)]; exact e) h
theorem sqT_lst {K : PySem.W.Frag} {J : Hp} {a L : Addr} {o : HO} {xs ys : List V} (h : SqT K J a xs) (n : J L = some (.lst ys)) : SqT K (upd J L o) a xs := by
  have ne : ∀ u, J a = some u → (∀ zs, u ≠ .lst zs) → upd J L o a = some u := fun u e z => by
    rw [upd_ne fun q => z ys (by rw [q, n] at e; exact (Option.some.inj e).symm)]
    exact e
  rcases h with (h | ⟨o', h⟩) | h
  · exact .inl (.inl (ne _ h fun _ => nofun))
  · exact .inl (.inr ⟨o', ne _ h fun _ => nofun⟩)
  · exact .inr h
def xLZip (t : TXA) : TX := fun x ρ μ Q => t x ρ μ fun ss μ1 => match ss with
  | [s, s'] => on (tupOf s) fun l => on (tupOf s') fun m => Q (.d (.lst (zipD l m))) μ1
  | _ => False
section
variable {X : Cx} {W : WX} {a b : Expr} {tL : TXA} {pos pos2 p p2 : Pos}
theorem px_lzip (hc : X.calm = true) (hg : Gl X "list") (hm : X.mg "list" = none) (hg2 : Gl X "zip") (hm2 : X.mg "zip" = none) (ha : PXA X W [a, b] tL)
    (hs : starEach [a, b] X.env = (false, eval a X.env) :: starEach [b] X.env := by rfl) (hpl : (backTo pos (starEach [b] X.env)).any (·.1) = false := by rfl) :
    PX X W (.Call (.Name "list" p2) [.Call (.Name "zip" p) [a, b] [] pos] [] pos2) (xLZip tL) := by
  refine ⟨(pe_lzip hc hg hm hg2 hm2 ha.pa hs hpl).imp fun σ H Q h => ?_⟩
  obtain ⟨A, ρ, μ, G, Qp, x, S, ht, hx, k⟩ := h
  refine ⟨A, ρ, μ, G, _, x, S, ht, hx, fun ss μ1 A1 G1 H1 vs q c1 s1 r1 => ?_⟩
  match ss, q, r1 with
  | [s, s'], q, .cons (v := v) r (.cons (v := v') r' .nil) =>
    obtain ⟨l, e1, q⟩ := on_of q
    obtain ⟨m, e2, q⟩ := on_of q
    obtain ⟨u, us, rfl, h1, h2⟩ := tupOf_rep e1 c1 r
    obtain ⟨w, ws, rfl, h3, h4⟩ := tupOf_rep e2 c1 r'
    refine ⟨u, w, us, ws, rfl, h1, h3, fun L hL => ?_⟩
    have gL : G1 L = none := c1.gnone hL
    obtain ⟨c2, s2⟩ := c1.out (o := .lst []) hL (fun _ => nofun)
    have nA : L ∉ A1 := fun z => c1.ne_of_lt z hL rfl
    refine ⟨fun i ts J => ∃ G', Cells X.K A1 μ1 G' J ∧ Step A1 G1 H1 A1 G' J ∧ J L = some (.lst (ts.map V.ref)) ∧ G' L = none ∧ ts.length = i ∧ Reps X.K G' ((zipD l m).take i) (ts.map V.ref) ∧ (∀ T ∈ ts, ∃ z, J T = some (.tup z)) ∧ SqT X.K J u us ∧ SqT X.K J w ws,
      ⟨G1, c2, s2, upd_same, gL, rfl, .nil, (fun _ z => nomatch z), ?_, ?_⟩, fun i ts J z => ?_, fun i ts J T y y' z ey ey' eT => ?_, fun ts J z => ?_⟩
    · exact sqT_new h1 hL
    · exact sqT_new h3 hL
    · obtain ⟨G', _, _, z1, _, z2, _, z3, z4, z5⟩ := z
      exact ⟨z2, z4, z5, z1, z3⟩
    · obtain ⟨G', c3, s3, z1, z0, z2, z6, z3, z4, z5⟩ := z
      have nT : L ≠ T := fun e => by rw [e, eT] at z1; cases z1
      obtain ⟨c4, s4⟩ := c3.laid (o := .tup [y, y']) eT
      have s34 := s3.trans s4
      have gn : upd G' T (.tup [y, y']) L = none := (upd_ne nT).trans z0
      obtain ⟨c5, s5⟩ := Cells.reout (o' := .lst ((ts ++ [T]).map V.ref)) hL c4 s34 nA gn (fun _ => nofun)
      obtain ⟨d, ed, rd⟩ := h2.get ey
      obtain ⟨e, ee, re⟩ := h4.get ey'
      have t1 : upd J T (.tup [y, y']) L = some (.lst (ts.map V.ref)) := (upd_ne nT).trans z1
      refine ⟨_, c5, s5, upd_same, gn, by rw [List.length_append, z2]; rfl, ?_, fun T' hT' => ?_, sqT_lst (sqT_new z4 eT) t1, sqT_lst (sqT_new z5 eT) t1⟩
      · rw [List.take_succ, zipD_at ed ee, List.map_append]
        exact (z6.mono s4.le).app (.cons (Rep.tup upd_same (.cons (rd.mono s34.le) (.cons (re.mono s34.le) .nil))) .nil)
      · rcases List.mem_append.mp hT' with q | q
        · obtain ⟨zs, e'⟩ := z3 T' q
          refine ⟨zs, ?_⟩
          have nL : T' ≠ L := fun q' => by rw [q', z1] at e'; cases e'
          rw [upd_ne nL, upd_ne (ne_of_none e' eT)]
          exact e'
        · rw [List.mem_singleton.mp q]
          exact ⟨_, by rw [upd_ne (Ne.symm nT), upd_same]⟩
    · obtain ⟨G', c3, s3, z1, z0, z2, z6, z3, z4, z5⟩ := z
      have hl : (zipD l m).length = min us.length ws.length := by rw [zipD_length, h2.length, h4.length]
      rw [← hl, List.take_length] at z6
      obtain ⟨c4, s4, g4⟩ := Cells.settle (o' := .lst (ts.map V.ref)) hL c3 s3 z1 nA z0 (fun _ => nofun)
      have hJ : upd J L (.lst (ts.map V.ref)) = J := by
        funext d
        by_cases e : d = L
        · rw [e, upd_same, z1]
        · rw [upd_ne e]
      rw [hJ] at c4 s4
      exact k _ _ _ _ _ _ q c4 (s1.trans s4) (Rep.lst upd_same (z6.mono g4))
end
end PL
/-! The P-layer: dict(zip(t, u)) of two tuples. -/
namespace PL
open PySem PySem.Spec PyProof.Rows L2 RZ
/-- what a zip of two tuples is while a dict at d is filled from it -/
def ZD (z TI TO i1 i2 a b d : Addr) (xs ys : Array Value) (i : Nat) (h : Heap) : Prop :=
  (∃ ts, ZSt z TI TO i1 i2 a b i ts h ∧ ∀ T r, ts = T :: r → T ≠ d ∧ ∃ o, h.get? T = some o ∧ T ∉ [z, TO, i1, i2]) ∧ h.IsTuple a xs ∧ h.IsTuple b ys
theorem zd_src {P : Program} {w : World} {A : Around} {z TI TO i1 i2 a b d : Addr} {xs ys : Array Value} (hh : A.handled = none) (D : ZipApart z TI TO i1 i2 a b) (hd : d ∉ [z, TI, TO, i1, i2, a, b]) :
    PairSrc P w A z d [z, TO, i1, i2] (min xs.size ys.size) (fun i k v => xs[i]? = some k ∧ ys[i]? = some v) (ZD z TI TO i1 i2 a b d xs ys) := by
  have cell : ∀ c ∈ [z, TI, TO, i1, i2, a, b], c ≠ d := fun c hc e => hd (e ▸ hc)
  refine ⟨fun q => hd ?_, fun i h h' st kp => ?_, fun i s Q E hi st dl q => ?_, fun s Q E st q => ?_⟩
  · simp only [List.mem_cons, List.not_mem_nil, or_false] at q ⊢
    rcases q with q | q | q | q <;> simp [q]
  · obtain ⟨⟨ts, Z, ht⟩, p1, p2⟩ := st
    refine ⟨⟨ts, Z.keep fun c hc o e => kp c o (cell c ?_) e, fun T r e => ?_⟩, p1.at fun o e => kp a o (cell a (by simp)) e, p2.at fun o e => kp b o (cell b (by simp)) e⟩
    · simp only [List.mem_cons, List.not_mem_nil, or_false] at hc ⊢
      rcases hc with q | q | q | q | q <;> simp [q]
    · obtain ⟨nd, o, go, nz⟩ := ht T r e
      exact ⟨nd, o, kp T o nd go, nz⟩
  · obtain ⟨⟨ts, ⟨hp, a1, a2, zz⟩, ht⟩, p1, p2⟩ := st
    have ex : xs[i]? = some (xs[i]'(by omega)) := Array.getElem?_eq_getElem _
    have ey : ys[i]? = some (ys[i]'(by omega)) := Array.getElem?_eq_getElem _
    have new : ∀ c o, s.heap.get? c = some o → s.heap.objs.size ≠ c := fun c o e => Nat.ne_of_gt (Heap.lt_size e)
    have n1 : s.heap.objs.size ≠ i1 := let ⟨o, e, _⟩ := a1; new _ o e
    have n2 : s.heap.objs.size ≠ i2 := let ⟨o, e, _⟩ := a2; new _ o e
    cases ts with
    | nil =>
      obtain ⟨z1, u, v, z2⟩ := zz
      refine pyNext_zipT_item D z1 hp z2 a1 a2 p1 p2 ex ey fun g z3 z4 c1 c2 gp gs kp => q s.heap.objs.size _ _ g s.toks ⟨ex, ey⟩ (.inl ⟨_, gp, rfl, _, rfl⟩) ⟨⟨[s.heap.objs.size], ⟨kp _ _ D.TIz D.TITO D.TIi1 D.TIi2 hp, c1, c2, false, z3⟩, fun T r e => ?_⟩, p1.at fun o e => kp a o D.l1z D.l1TO D.l1i1 D.l1i2 e, p2.at fun o e => kp b o D.l2z D.l2TO D.l2i1 D.l2i2 e⟩
        fun c o hc e => kp c o (fun q => hc (by simp [q])) (fun q => hc (by simp [q])) (fun q => hc (by simp [q])) (fun q => hc (by simp [q])) e
      cases e
      exact ⟨Nat.ne_of_gt dl, _, gp, by simp [new _ _ z1, new _ _ z2, n1, n2]⟩
    | cons T r =>
      obtain ⟨f, z1⟩ := zz
      obtain ⟨nd, o, go, nz⟩ := ht T r rfl
      refine zh_draw D z1 go hp a1 a2 p1 p2 ex ey fun g z3 c1 c2 gp kp => q s.heap.objs.size _ _ g s.toks ⟨ex, ey⟩ (.inl ⟨_, gp, rfl, _, rfl⟩) ⟨⟨T :: r, ⟨kp _ _ (by simp [D.TIz, D.TIi1, D.TIi2]) hp, c1, c2, true, z3⟩, fun T' r' e => ?_⟩, p1.at fun o e => kp a o (by simp [D.l1z, D.l1i1, D.l1i2]) e, p2.at fun o e => kp b o (by simp [D.l2z, D.l2i1, D.l2i2]) e⟩
        fun c o hc e => kp c o (fun q => hc (by
          simp only [List.mem_cons, List.not_mem_nil, or_false] at q ⊢
          rcases q with q | q | q <;> simp [q])) e
      cases e
      refine ⟨nd, o, kp T o (fun q => nz ?_) go, nz⟩
      simp only [List.mem_cons, List.not_mem_nil, or_false] at q ⊢
      rcases q with q | q | q <;> simp [q]
  · obtain ⟨⟨ts, ⟨hp, a1, a2, zz⟩, ht⟩, p1, p2⟩ := st
    have hend : xs[min xs.size ys.size]? = none ∨ ys[min xs.size ys.size]? = none := by
      simp only [Array.getElem?_eq_none_iff]
      omega
    cases ts with
    | nil =>
      obtain ⟨z1, u, v, z2⟩ := zz
      exact pyNext_zipT_end hh D z1 hp z2 a1 a2 p1 p2 hend fun g kp => q g s.toks fun c o hc e => kp c o (fun q => hc (by simp [q])) (fun q => hc (by simp [q])) (fun q => hc (by simp [q])) (fun q => hc (by simp [q])) e
    | cons T r =>
      obtain ⟨f, z1⟩ := zz
      obtain ⟨nd, o, go, nz⟩ := ht T r rfl
      exact zh_stop hh D z1 go hp a1 a2 p1 p2 hend fun g kp => q g s.toks fun c o hc e => kp c o (fun q => hc (by
        simp only [List.mem_cons, List.not_mem_nil, or_false] at q ⊢
        rcases q with q | q | q <;> simp [q])) e
/-- a zip of two tuples as dict's argument -/
theorem zd_arg {P : Program} {w : World} {z TI TO i1 i2 a b : Addr} {xs ys : Array Value} (D : ZipApart z TI TO i1 i2 a b) :
    PairArg P w "zip" z [z, TI, TO, i1, i2, a, b] [z, TO, i1, i2] (min xs.size ys.size) (fun i k v => xs[i]? = some k ∧ ys[i]? = some v) (fun h => ZSt z TI TO i1 i2 a b 0 [] h ∧ h.IsTuple a xs ∧ h.IsTuple b ys) where
  type := fun s ok => ⟨_, ok.1.2.2.2.1, rfl⟩
  notDict := by decide
  keep := fun h h' ok kp => ⟨ok.1.keep fun c _ o e => kp c o e, ok.2.1.at fun o e => kp a o e, ok.2.2.at fun o e => kp b o e⟩
  there := fun h ok c hc => by
    obtain ⟨⟨hp, ⟨o1, g1, _⟩, ⟨o2, g2, _⟩, z1, u, v, z2⟩, ⟨o3, g3, _⟩, o4, g4, _⟩ := ok
    simp only [List.mem_cons, List.not_mem_nil, or_false] at hc
    rcases hc with rfl | rfl | rfl | rfl | rfl | rfl | rfl <;> exact ⟨_, by assumption⟩
  sub := fun c hc => by
    simp only [List.mem_cons, List.not_mem_nil, or_false] at hc ⊢
    rcases hc with q | q | q | q <;> simp [q]
  noKeys := fun A s Q E hh ok h => getAttrOr_miss_zip ok.1.2.2.2.1 rfl rfl rfl zip_no_keys (by decide +kernel) hh h
  iter := fun A s d Q E hh ok _ hd q => wpAny_pyIter_zip ok.1.2.2.2.1 (q z _ _ s.heap s.toks (zd_src hh D hd) ⟨⟨[], ok.1, fun _ _ e => nomatch e⟩, ok.2⟩ (fun _ _ e => e) fun c hc => .inl hc)
end PL
/-! The P-layer: dict(zip(t, u)) of two tuples: the rule. -/
namespace PL
open PySem PySem.Spec PyProof.Rows L2 RZ
theorem kv_zip : ∀ {ks : List Key} {ys : List V} {us : List Value}, Vals ys us → KV (ks.zip ys) (ks.zip us)
  | [], _, _, _ => .nil
  | _ :: _, [], _, .nil => .nil
  | _ :: _, _ :: _, _ :: _, .cons r rs => .cons ⟨rfl, r⟩ (kv_zip rs)
/-- d the new dict -/
def tDZ (K : PySem.W.Frag) (ta : TA) : TE := fun σ H Q => ta σ H fun vs H1 => ∃ (a b : Addr) (ks : List Key) (ys : List V), vs = [.ref a, .ref b] ∧ SqT K H1 a (ks.map kV) ∧ SqT K H1 b ys ∧ ∀ d, H1 d = none → Q (.ref d) (upd H1 d (.dK (mergeK [] (ks.zip ys))))
theorem pe_dzip {X : Cx} {e e2 : Expr} {ta : TA} {p p2 pos pos2 : Pos} (hc : X.calm = true) (hg : Gl X "dict") (hm : X.mg "dict" = none) (hg2 : Gl X "zip") (hm2 : X.mg "zip" = none) (ha : PA X [e, e2] ta)
    (hs : starEach [e, e2] X.env = (false, eval e X.env) :: starEach [e2] X.env := by rfl) (hpl : (backTo pos (starEach [e2] X.env)).any (·.1) = false := by rfl) :
    PE X (.Call (.Name "dict" p2) [.Call (.Name "zip" p) [e, e2] [] pos] [] pos2) (tDZ X.K ta) := by
  refine ⟨fun pins s σ H Q I h => ?_⟩
  refine Call_ (ld_blt I hg hm PyProof.Rows.boot_dict (PyProof.Rows.callWith_type1 ?_ rfl rfl))
  refine Calls.spliced_cons ?_
  refine Call_ (ld_blt I hg2 hm2 PyProof.Rows.boot_zip (PyProof.Rows.callWith_type1 (thn (ha.run pos pins s σ H _ I h) fun us s1 ⟨vs, H1, I1, r1, q1⟩ => ?_) hs hpl))
  obtain ⟨a, b, ks, ys, ev, hx, hy, q⟩ := q1
  subst ev
  have hus : us = [.ref a, .ref b] := by
    cases r1 with
    | cons r rr => cases rr with
      | cons r' rr =>
        cases rr
        cases r
        cases r'
        rfl
  subst hus
  obtain ⟨its, rv, p1, l1⟩ := I1.tuple hx
  obtain ⟨its2, rv2, p2, l2⟩ := I1.tuple hy
  obtain ⟨o1, ho1, _⟩ := id p1
  obtain ⟨o2, ho2, _⟩ := id p2
  refine call_zipT (show s1.heap.IsTuple a its.toArray from p1) (show s1.heap.IsTuple b its2.toArray from p2) fun g z1 z2 z3 a1 a2 sz kp => ?_
  have I2 : Inv X pins σ H1 { s1 with heap := g } := I1.kept (t' := s1.toks) kp
  refine Calls.spliced_nil ?_
  have hl1 := rv.length
  have hl2 := rv2.length
  rw [List.length_map] at hl1 l1
  have hlen : (ks.zip its2).length ≤ sizeLine := by rw [List.length_zip]; omega
  have fpc : ∀ c ∈ [s1.heap.objs.size + 4, s1.heap.objs.size + 3, s1.heap.objs.size, s1.heap.objs.size + 1], FpOk X pins H1 c := fun c hcm => by
    have hle : ∃ j, c = s1.heap.objs.size + j := by
      simp only [List.mem_cons, List.not_mem_nil, or_false] at hcm
      rcases hcm with q | q | q | q
      · exact ⟨4, q⟩
      · exact ⟨3, q⟩
      · exact ⟨0, q⟩
      · exact ⟨1, q⟩
    obtain ⟨j, rfl⟩ := hle
    have up : s1.heap.objs.size ≤ s1.heap.objs.size + j := Nat.le_add_right _ _
    exact I1.fpOk up (I1.hok.fresh up)
  refine PySem.call_dict_pairs (s := { s1 with heap := g }) (knd := mixKind X.prog X.w) (kvs := ks.zip its2) (zd_arg (xs := its.toArray) (ys := its2.toArray) (PySem.W.ktu_apart s1.heap.objs.size a b (Heap.lt_size ho1) (Heap.lt_size ho2))) (I.ok.hd hc)
    ⟨⟨z2, a1, a2, z1, _, _, z3⟩, show g.IsTuple a _ from p1.keeps kp, show g.IsTuple b _ from p2.keeps kp⟩ ⟨by rw [List.length_zip]; simp; omega, fun i key v e => ?_⟩ (by simp; omega) fun g' tk hd' kp' => ?_
  · obtain ⟨e1, e2⟩ := e
    rw [List.getElem?_toArray] at e1 e2
    have hi : i < ks.length := by
      have := (List.getElem?_eq_some_iff.mp e1).1
      omega
    have ek : ks[i]? = some ks[i] := List.getElem?_eq_getElem hi
    obtain ⟨u, eu, ru⟩ := rv.get (x := kV ks[i]) (by rw [List.getElem?_map, ek]; rfl)
    rw [e1] at eu
    cases eu
    exact ⟨ks[i], by rw [List.getElem?_zip_eq_some]; exact ⟨ek, e2⟩, kV_is ru⟩
  · have hm' : (g.objs.size == sysModules) = false := beq_eq_false_iff_ne.mpr (Nat.ne_of_gt I2.big)
    have hk : (mergeK [] (ks.zip ys)).length ≤ sizeLine := by
      refine Nat.le_trans (length_mergeK _ []) ?_
      rw [List.length_nil, Nat.zero_add, List.length_zip]
      omega
    refine ⟨.ref g.objs.size, _, I2.turnedNew (t' := tk) (ch := [s1.heap.objs.size + 4, s1.heap.objs.size + 3, s1.heap.objs.size, s1.heap.objs.size + 1]) (fun c o hc e => kp' c o hc e) fpc (Nat.le_refl _) (show ObjOk X.prog X.w _ _ _ (.dK (mergeK [] (ks.zip ys))) from ⟨hk, hm', _, KV.merge (kv_zip rv2) .nil, hd'⟩), rfl, q _ I2.fresh⟩
end PL
/-! The P-layer: dict(zip(t, u)) of two tuples, as data. -/
namespace PL
open PySem PySem.Spec PyProof.Rows L2
theorem keys_back {K : PySem.W.Frag} {G : Hp} : ∀ {l : List D} {us : List V}, Reps K G l us → (∀ d ∈ l, fitK false d = true) → ∃ ks : List Key, us = ks.map kV
  | _, _, .nil, _ => ⟨[], rfl⟩
  | _, _, .cons r rs, f => by
    obtain ⟨k, rfl⟩ := fitF (f _ List.mem_cons_self)
    obtain ⟨ks, rfl⟩ := keys_back rs fun d hd => f d (List.mem_cons_of_mem _ hd)
    exact ⟨k :: ks, by rw [keyD_val r]; rfl⟩
theorem zip_rep {K : PySem.W.Frag} {G : Hp} : ∀ {l m : List D} {us ws : List V}, Reps K G l us → Reps K G m ws → RepPs K G (l.zip m) (us.zip ws)
  | _, _, _, _, .nil, _ => .nil
  | _, _, _, _, .cons _ _, .nil => .nil
  | _, _, _, _, .cons a as, .cons b bs => .cons a b (zip_rep as bs)
theorem zip_kV : ∀ (ks : List Key) (ws : List V) {ms : List (Key × V)}, (ks.map kV).zip ws = ms.map (fun kv => (kV kv.1, kv.2)) → ms = ks.zip ws
  | [], _, ms, h => (List.map_eq_nil_iff.mp h.symm)
  | _ :: _, [], ms, h => (List.map_eq_nil_iff.mp h.symm)
  | k :: ks, w :: ws, ms, h => by
    cases ms with
    | nil => cases h
    | cons m ms =>
      rw [List.map_cons, List.zip_cons_cons, List.map_cons, List.cons.injEq, Prod.mk.injEq] at h
      obtain ⟨⟨h1, h2⟩, h3⟩ := h
      have e1 : k = m.1 := by
        revert h1
        unfold kV
        cases k <;> cases m.1 <;> simp
      rw [List.zip_cons_cons, zip_kV ks ws h3, e1, h2]
noncomputable def xDZip (t : TXA) : TX := fun x ρ μ Q => t x ρ μ fun ss μ1 => match ss with
  | [s, s'] => on (tupOf s) fun l => on (tupOf s') fun m => (∀ d ∈ l, fitK false d = true) ∧ Q (.d (.dic false (mergeD [] [] (l.zip m)).1 (mergeD [] [] (l.zip m)).2)) μ1
  | _ => False
section
variable {X : Cx} {W : WX} {a b : Expr} {tL : TXA} {pos pos2 p p2 : Pos}
theorem px_dzip (hc : X.calm = true) (hg : Gl X "dict") (hm : X.mg "dict" = none) (hg2 : Gl X "zip") (hm2 : X.mg "zip" = none) (ha : PXA X W [a, b] tL)
    (hs : starEach [a, b] X.env = (false, eval a X.env) :: starEach [b] X.env := by rfl) (hpl : (backTo pos (starEach [b] X.env)).any (·.1) = false := by rfl) :
    PX X W (.Call (.Name "dict" p2) [.Call (.Name "zip" p) [a, b] [] pos] [] pos2) (xDZip tL) := by
  refine ⟨(pe_dzip hc hg hm hg2 hm2 ha.pa hs hpl).imp fun σ H Q h => ?_⟩
  obtain ⟨A, ρ, μ, G, Qp, x, S, ht, hx, k⟩ := h
  refine ⟨A, ρ, μ, G, _, x, S, ht, hx, fun ss μ1 A1 G1 H1 vs q c1 s1 r1 => ?_⟩
  match ss, q, r1 with
  | [s, s'], q, .cons (v := v) r (.cons (v := v') r' .nil) =>
    obtain ⟨l, e1, q⟩ := on_of q
    obtain ⟨m, e2, f, q⟩ := on_of q
    obtain ⟨u, us, rfl, h1, h2⟩ := tupOf_rep e1 c1 r
    obtain ⟨w, ws, rfl, h3, h4⟩ := tupOf_rep e2 c1 r'
    obtain ⟨ks, rfl⟩ := keys_back h2 f
    refine ⟨u, w, ks, ws, rfl, h1, h3, fun d hd => ?_⟩
    obtain ⟨ms, g1, g2, g3⟩ := merge_rep (kvs := []) (zip_rep h2 h4) (fun p hp => f _ (List.of_mem_zip hp).1) .nil
    obtain rfl := zip_kV ks ws g1
    obtain ⟨c2, s2⟩ := c1.laid (o := .dK (mergeK [] (ks.zip ws))) hd
    exact k _ _ _ _ _ _ q c2 (s1.trans s2) (Rep.dicK (.inl upd_same) g2 (g3.mono s2.le))
end
/-- unlike keys: the pairs as they are -/
theorem mergeD_new : ∀ {ps : List (D × D)} {ks vs : List D}, (ks ++ ps.map (·.1)).Nodup → mergeD ks vs ps = (ks ++ ps.map (·.1), vs ++ ps.map (·.2))
  | [], ks, vs, _ => by simp [mergeD]
  | (k, v) :: ps, ks, vs, h => by
    have nk : k ∉ ks := fun q => by
      rw [List.nodup_append] at h
      exact h.2.2 k q k (by simp) rfl
    have e1 : putKs ks k = ks ++ [k] := by simp [putKs, nk]
    have e2 : putVs ks vs k v = vs ++ [v] := by simp [putVs, nk]
    rw [mergeD, e1, e2, mergeD_new (by simpa using h)]
    simp
theorem mergeD_zip {l m : List D} (h : l.Nodup) (e : l.length = m.length) : mergeD [] [] (l.zip m) = (l, m) := by
  have e1 : (l.zip m).map (·.1) = l := List.map_fst_zip (Nat.le_of_eq e)
  have e2 : (l.zip m).map (·.2) = m := List.map_snd_zip (Nat.le_of_eq e.symm)
  rw [mergeD_new (by rw [List.nil_append, e1]; exact h), List.nil_append, List.nil_append, e1, e2]
end PL
/-! The F-layer: list(zip(t, u)), dict(zip(t, u)) of two tuples. -/
namespace PL
open PySem PySem.Spec PyProof.Rows L2 RZ
section
variable {X : Cx} {W : WX} {a b e : Expr} {fl : FA} {n : Nat} {pos p pos2 p2 : Pos}
def lzipF : List SV → M SV := fun ss μ => match ss with
  | [s, t] => match tupOf s, tupOf t with
    | some l, some m => .ok (.d (.lst (zipD l m))) μ
    | _, _ => .no
  | _ => .no
/-- unlike texts or numbers, as many as the values -/
def KeysOf (l m : List D) : Prop := (l.Nodup ∧ l.length = m.length) ∧ ∀ d ∈ l, fitK false d = true
noncomputable def dzipF : List SV → M SV := fun ss μ => match ss with
  | [s, t] => match tupOf s, tupOf t with
    | some l, some m => grd (KeysOf l m) (ret (.d (.dic false l m))) μ
    | _, _ => .no
  | _ => .no
theorem pf_lzip (hc : X.calm = true) (hg : Gl X "list") (hm : X.mg "list" = none) (hg2 : Gl X "zip") (hm2 : X.mg "zip" = none) (ha : PXA X W [a, b] (toA n fl))
    (hs : starEach [a, b] X.env = (false, eval a X.env) :: starEach [b] X.env := by rfl) (hpl : (backTo pos (starEach [b] X.env)).any (·.1) = false := by rfl) :
    PX X W (.Call (.Name "list" p2) [.Call (.Name "zip" p) [a, b] [] pos] [] pos2) (toX n (fCall lzipF fl)) :=
  (px_lzip hc hg hm hg2 hm2 ha hs hpl).to fun x ρ μ Q ⟨hn, h⟩ => ⟨hn, R.mono (fin_bnd.mp h) fun ss μ1 h1 => by
    unfold lzipF at h1
    split at h1
    · split at h1
      · rename_i e1 e2
        show on (tupOf _) _
        rw [e1]
        show on (tupOf _) _
        rw [e2]
        exact h1
      · exact h1.elim
    · exact h1.elim⟩
theorem pf_dzip (hc : X.calm = true) (hg : Gl X "dict") (hm : X.mg "dict" = none) (hg2 : Gl X "zip") (hm2 : X.mg "zip" = none) (ha : PXA X W [a, b] (toA n fl))
    (hs : starEach [a, b] X.env = (false, eval a X.env) :: starEach [b] X.env := by rfl) (hpl : (backTo pos (starEach [b] X.env)).any (·.1) = false := by rfl) :
    PX X W (.Call (.Name "dict" p2) [.Call (.Name "zip" p) [a, b] [] pos] [] pos2) (toX n (fCall dzipF fl)) :=
  (px_dzip hc hg hm hg2 hm2 ha hs hpl).to fun x ρ μ Q ⟨hn, h⟩ => ⟨hn, R.mono (fin_bnd.mp h) fun ss μ1 h1 => by
    unfold dzipF at h1
    split at h1
    · split at h1
      · rename_i l m e1 e2
        obtain ⟨⟨⟨g1, g2⟩, g3⟩, h1⟩ := fin_grd h1
        show on (tupOf _) _
        rw [e1]
        show on (tupOf _) _
        rw [e2]
        refine ⟨g3, ?_⟩
        rw [mergeD_zip g1 g2]
        exact h1
      · exact h1.elim
    · exact h1.elim⟩
end
section
variable {l m : List D} {μ : Mem}
@[simp] theorem lzipF_tt : lzipF [.d (.tup l), .d (.tup m)] μ = .ok (.d (.lst (zipD l m))) μ := rfl
@[simp] theorem lzipF_nt : lzipF [.d (.ntp l), .d (.tup m)] μ = .ok (.d (.lst (zipD l m))) μ := rfl
@[simp] theorem dzipF_tt : dzipF [.d (.tup l), .d (.tup m)] μ = grd (KeysOf l m) (ret (.d (.dic false l m))) μ := rfl
@[simp] theorem dzipF_nt : dzipF [.d (.ntp l), .d (.tup m)] μ = grd (KeysOf l m) (ret (.d (.dic false l m))) μ := rfl
end
end PL
/-! The P-layer: a dict made by a comprehension, its keys tuples or not. -/
namespace PL
open PySem PySem.Spec PyProof.Rows L2
section
variable {X : Cx} {σ τ : L2.St} {vs : List Nat} {fp : List Addr} {tn : Nat → Heap → Prop} {W : Nat → Nat → Hp → Prop}
/-- an item goes into a dict of ours -/
theorem item_in {pins : List (Addr × Obj)} {H H' : Hp} {s : Shared} {E : Value → Shared → Prop} {D : Addr} {y v : V} {u r : Value} {Q : Unit → Shared → Prop} (room : X.A.units < cLine) (I : Inv X pins σ H s) (put : DPut H D y v H')
    (ru : RelV y u) (rr : RelV v r) (next : ∀ s', Inv X pins σ H' s' → Q () s') : wpAny (model X.prog X.w) X.A (dictSet D u r) Q E s := by
  rcases put with ⟨kvs, k, at_, rfl, few, rfl⟩ | ⟨kvs, k, b, at_, rfl, kb, few, rfl⟩
  · exact d_dictSet I at_ few ru rr next
  · obtain rfl : u = .ref b := ru
    obtain ⟨_, sys, old, pr, is⟩ := dt_of I.hok at_
    have n1 := Paired.length pr
    have n2 := length_putK kvs k v
    have few' : old.length ≤ sizeLine := by omega
    refine wpAny_dictSet_heap (knd := tupleKind (mixKind X.prog X.w)) (hsz := few') room (key_of I.hok kb) is fun h2 is2 same => next _ ?_
    have keep : ∀ c ys, H c = some (.tup ys) → upd H D (.dT (putK kvs k v)) c = some (.tup ys) := fun c ys ec => (upd_ne (ne_of ec at_ (fun z => nomatch z))).trans ec
    obtain ⟨o2, es, ep, there, rest⟩ := is2
    exact d_write I (by rw [at_]; exact True.intro) same ⟨o2, there⟩ ⟨by omega, sys, _, (pr.put k kb rr).keeps keep, o2, es, ep, there, rest.1, rest.2.1, rest.2.2.1, rest.2.2.2.2⟩
/-- between two laps of a block: its own names unset, the iterator in its place, nothing of it tracked -/
def Between (Y : Cx) (τ : L2.St) (fp : List Addr) (tn : Nat → Heap → Prop) (W : Nat → Nat → Hp → Prop) (left : Nat) (s : Shared) : Prop :=
  ∃ (i : Nat) (H : Hp), W i left H ∧ tn i s.heap ∧ Inv Y [] τ H s ∧ ∀ b ∈ fp, H b = none
theorem between_next {Y : Cx} {tg : Expr} {J : It} {it : Addr} {i left : Nat} {H' : Hp} {s s' : Shared} (T : Turn Y.prog Y.w Y.K tg J fp it tn) (st : tn (i + 1) s.heap) (I : Inv Y ([] ++ pinsAt fp s.heap) τ H' s') (same : L2.wipe τ vs = L2.wipe σ vs)
    (w : ∃ m, m < left ∧ W (i + 1) m H') : ∃ m, m < left ∧ Between Y (L2.wipe σ vs) fp tn W m s' := by
  obtain ⟨m, less, w⟩ := w
  have held : ∀ b o, b ∈ fp → s.heap.get? b = some o → s'.heap.get? b = some o ∧ H' b = none := fun b o hb e => by
    have := I.pin (b, o) (List.mem_append_right _ (List.mem_append_right _ (mem_pinsAt hb e)))
    exact ⟨this.1, this.2.1⟩
  refine ⟨m, less, i + 1, H', w, T.keep _ _ _ st fun b hb o e => (held b o hb e).1, ?_, fun b hb => ?_⟩
  · have len : (L2.wipe σ vs).length = τ.length := by rw [← same, wipe_length]
    refine I.unpinned.weak len fun j v e => ?_
    rw [← same] at e
    exact (wipe_some e).1
  · obtain ⟨o, e, -⟩ := T.obj _ _ st b hb
    exact (held b o hb e).2
/-- what the walk asks of {k: v for target in iter if ..}; o0: the dict when it is new -/
def tDcAny (o0 : HO) (wi : TI) (g : TG) (tt : TT) (tk tv : TE) (vs : List Nat) : TE := fun σ H Q => wi σ H fun J H1 => ∀ D, H1 D = none → ∃ W : Nat → Nat → Hp → Prop, (∃ m, W 0 m (upd H1 D o0)) ∧ ∀ i m H2, W i m H2 →
  (J.stop i H2 ∧ Q (.ref D) H2) ∨ (J.go i H2 ∧ ∀ x H3, J.yld i H2 x H3 → g x (L2.wipe σ vs) H3 fun σ4 H4 => L2.wipe σ4 vs = L2.wipe σ vs ∧ tt σ4 H4 fun b H5 =>
    if b = true then tk σ4 H5 fun y H6 => tv σ4 H6 fun z H7 => ∃ H8, DPut H7 D y z H8 ∧ ∃ m', m' < m ∧ W (i + 1) m' H8 else ∃ m', m' < m ∧ W (i + 1) m' H5)
section
variable {sB : Shared} {HB : Hp} {scope : Scope} {ce : Env} {tg iter kx vx : Expr} {ifs : List Expr} {g : TG} {tt : TT} {tk tv : TE} {J : It} {it D : Addr} {pos : Pos}
theorem fp_untouched {σ' : L2.St} {H' : Hp} {s' : Shared} (I : Inv (X.blk sB HB scope ce fp) [] σ' H' s') (no : ∀ b ∈ fp, H' b = none) : ∀ b ∈ fp, FpOk (X.blk sB HB scope ce fp) [] H' b := fun b hb => by
  have z := I.ok.exf b hb
  exact ⟨no b hb, z.1, I.ok.exfs b hb, Or.inl hb, fun x c e => z.2 x c e, fun p hp => by simp at hp⟩
/-- the loop of the block -/
theorem laps {Stop : Hp → Prop} {R : Result → Shared → Prop} (calm : X.calm = true) (room : X.A.units < cLine) (T : Turn X.prog X.w X.K tg J fp it tn) (pg : PG (X.blk sB HB scope ce fp) tg g) (pt : PTs (X.blk sB HB scope ce fp) ifs tt)
    (pk : PE (X.blk sB HB scope ce fp) kx tk) (pv : PE (X.blk sB HB scope ce fp) vx tv)
    (ask : ∀ i m H2, W i m H2 → (J.stop i H2 ∧ Stop H2) ∨ (J.go i H2 ∧ ∀ x H3, J.yld i H2 x H3 → g x (L2.wipe σ vs) H3 fun σ4 H4 => L2.wipe σ4 vs = L2.wipe σ vs ∧ tt σ4 H4 fun b H5 =>
      if b = true then tk σ4 H5 fun y H6 => tv σ4 H6 fun z H7 => ∃ H8, DPut H7 D y z H8 ∧ ∃ m', m' < m ∧ W (i + 1) m' H8 else ∃ m', m' < m ∧ W (i + 1) m' H5))
    (fin : ∀ s' H', Stop H' → Inv (X.blk sB HB scope ce fp) [] (L2.wipe σ vs) H' s' → R (.ok .next) s') {n : Nat} {s : Shared} (b0 : Between (X.blk sB HB scope ce fp) (L2.wipe σ vs) fp tn W n s) :
    codeAny (model X.prog X.w) X.A (.compLoop (.DictComp kx vx [⟨tg, iter, ifs, 0⟩] scope pos) 0 (.ref it) (.ref D) ce) R s := by
  refine compLoop_anyD (Between (X.blk sB HB scope ce fp) (L2.wipe σ vs) fp tn W) (fun left sL b1 => ?_) n b0
  obtain ⟨i, HL, w, st, IL, no⟩ := b1
  rcases ask i left HL w with ⟨ends, q⟩ | ⟨goes, lap⟩
  · refine thnF (T.done (X.blk sB HB scope ce fp) rfl rfl rfl calm i [] sL _ HL (fun _ _ => False) IL (fp_untouched IL no) st ends) fun o s1 h1 => ?_
    obtain ⟨none_, I1⟩ := h1
    subst none_
    exact fin s1 HL q I1
  · refine thnF (T.item (X.blk sB HB scope ce fp) rfl rfl rfl calm i [] sL _ HL (fun _ _ => False) IL (fp_untouched IL no) st goes) fun o s1 h1 => ?_
    obtain ⟨u, some_, h1⟩ := h1
    subst some_
    refine thnF h1 fun _ s2 h2 => ?_
    obtain ⟨x, H2, I2, rx, yx, st2, no2⟩ := h2
    have held := I2.pinned (fp_untouched I2 no2) (T.obj _ _ st2)
    refine thnF (pg.run _ _ _ _ _ _ _ held rx (lap x H2 yx)) fun _ s3 h3 => ?_
    obtain ⟨σ3, H3, I3, same, h3⟩ := h3
    refine thnF (pt.run _ _ _ _ _ I3 h3) fun b s4 h4 => ?_
    obtain ⟨H4, I4, h4⟩ := h4
    cases b
    · exact between_next (Y := X.blk sB HB scope ce fp) T st2 I4 same h4
    · refine thnF (pk.run _ _ _ _ _ I4 h4) fun a s5 h5 => ?_
      obtain ⟨y, H5, I5, ry, h5⟩ := h5
      refine thnF (pv.run _ _ _ _ _ I5 h5) fun c s6 h6 => ?_
      obtain ⟨z, H6, I6, rz, H7, put, w'⟩ := h6
      exact item_in (X := X.blk sB HB scope ce fp) room I6 put ry rz fun s7 I7 => between_next (Y := X.blk sB HB scope ce fp) T st2 I7 same w'
end
section
variable {tg iter kx vx : Expr} {ifs : List Expr} {scope : Scope} {own : List (Str × Nat)} {pos : Pos} {wi : TI} {g : TG} {tt : TT} {tk tv : TE} {o0 : HO}
theorem new_ok {P : Program} {w : World} {H : Hp} (o : o0 = .dK [] ∨ o0 = .dT []) (h : Heap) (big : sysModules < h.objs.size) : ObjOk P w H (h.push { cls := .type "dict", data := .dict #[] }) h.objs.size o0 := by
  rcases o with rfl | rfl
  · exact dk_empty h big
  · exact dt_empty h big
theorem pe_dcAny (o : o0 = .dK [] ∨ o0 = .dT []) (calm : X.calm = true) (room : X.A.units < cLine) (nodup : X.N.Nodup) (hi : PI X tg iter wi) (ok : BlkOk X.N X.env.scope scope own)
    (hg : ∀ (s : Shared) (H : Hp) (C : Addr) (cl : List (Str × Addr)) (fp : List Addr), PG (X.blk s H scope (compEnvC scope cl C X.env) fp) tg g)
    (ht : ∀ (s : Shared) (H : Hp) (C : Addr) (cl : List (Str × Addr)) (fp : List Addr), PTs (X.blk s H scope (compEnvC scope cl C X.env) fp) ifs tt)
    (hk : ∀ (s : Shared) (H : Hp) (C : Addr) (cl : List (Str × Addr)) (fp : List Addr), PE (X.blk s H scope (compEnvC scope cl C X.env) fp) kx tk)
    (hv : ∀ (s : Shared) (H : Hp) (C : Addr) (cl : List (Str × Addr)) (fp : List Addr), PE (X.blk s H scope (compEnvC scope cl C X.env) fp) vx tv)
    (hs : ∀ x, foldedSetIterable iter X.env x = pure x := by intro _; rfl) : PE X (.DictComp kx vx [⟨tg, iter, ifs, 0⟩] scope pos) (tDcAny o0 wi g tt tk tv (own.map (·.2))) := by
  constructor
  intro pins s σ H Q I asked
  rw [arm_eval_DictComp]
  have clo : closureFor scope X.env = pure (cloFrom X.env.cells scope.names []) := closure_ok fun y hy e => (ok.free y hy e).elim (fun k => I.ok.has _ (.inl k)) fun k => I.ok.has _ (.inr k)
  have uniq : ∀ y ∈ scope.names, y.2 = .local → scope.names.lookup y.1 = some .local := fun y hy e => (ok.uniq y hy).trans (congrArg some e)
  refine wpAny_comprehension_free (use := none) rfl hs clo ok.kind uniq (thn (hi.run pins s σ H _ I asked) fun xv s1 came => thn came fun itv s2 iterates => ?_)
  obtain ⟨it, fp, tn, J, H2, rfl, I2, T, st2, fresh2, asked⟩ := iterates
  refine wpAny_newObj_type (newEnv_comp ?_)
  have none2 : H2 s2.heap.objs.size = none := I2.hok.fresh (Nat.le_refl _)
  obtain ⟨W, ⟨m0, w0⟩, asked⟩ := asked _ none2
  have I3 := I2.laid (t' := s2.toks) (o := o0) (fun b u e => Heap.get?_push_of_some { cls := .type "dict", data := .dict #[] } e) (Nat.le_refl _) (new_ok o s2.heap I2.big)
  have older : ∀ b ∈ fp, b < s2.heap.objs.size := fun b hb => by
    obtain ⟨u, e, -⟩ := T.obj _ _ st2 b hb
    exact Heap.lt_size e
  generalize hD : s2.heap.objs.size = D at *
  generalize hh3 : s2.heap.push { cls := .type "dict", data := .dict #[] } = h3 at *
  have kept3 : ∀ b u, s2.heap.get? b = some u → h3.get? b = some u := fun b u e => by rw [← hh3]; exact Heap.get?_push_of_some _ e
  have size3 : h3.objs.size = D + 1 := by rw [← hh3, Heap.size_push, hD]
  have fresh3 : ∀ b ∈ fp, FpOk X pins (upd H2 D o0) b ∧ b < h3.objs.size := fun b hb => by
    have lt := older b hb
    have f := fresh2 b hb
    exact ⟨⟨(upd_ne (Nat.ne_of_lt lt)).trans f.1, f.2⟩, Nat.lt_of_lt_of_le lt (by rw [size3]; exact Nat.le_succ _)⟩
  have I4 := block_start I3 ok nodup fresh3
  have st4 : tn 0 (pushCells (h3.push { cls := .type "dict", data := .dict #[] }) scope.names) := T.keep _ _ _ st2 fun b _ u e => pushCells_keeps _ _ _ _ (Heap.get?_push_of_some _ (kept3 b u e))
  have b0 : Between (X.blk { s2 with heap := h3, toks := s2.toks } (upd H2 D o0) scope (compEnvC scope (cellsFrom (h3.objs.size + 1) scope.names (cloFrom X.env.cells scope.names [])) h3.objs.size X.env) fp) (L2.wipe σ (own.map (·.2))) fp tn W m0
      { s2 with heap := pushCells (h3.push { cls := .type "dict", data := .dict #[] }) scope.names } := ⟨0, _, w0, st4, I4, fun b hb => (fresh3 b hb).1.1⟩
  have loop := laps (R := compPost (model X.prog X.w) X.A X.xe none (EP X pins σ Q) (.ref D) h3.objs.size) (Stop := Q (.ref D)) (iter := iter) (pos := pos) calm room T (hg _ _ _ _ _) (ht _ _ _ _ _) (hk _ _ _ _ _) (hv _ _ _ _ _) asked (fun s' H' q I' => ?_) b0
  · exact codeAny_compStart_dict loop (T.self X.A 0 _ _ _ st4 loop)
  · have back : Inv X pins σ H' s' := I3.call' (ch := fp) I'.os I'.base I'.hok I'.bare fun b hb => by
      obtain ⟨⟨-, f1, -, f3, f4, f5⟩, -⟩ := fresh3 b hb
      exact ⟨f3, f1, f4, f5⟩
    have gone : H' h3.objs.size = none := I'.free
    obtain ⟨f0, f1, f2, f3, f4, f5⟩ := I3.fpOk (H' := H') (Nat.le_refl _) gone
    obtain ⟨m, ns, -⟩ := I'.loc
    exact ⟨m, ns, fun h'' only => ⟨.ref D, H', back.turned (t' := s'.toks) (fun b u hb e => (only.2 b hb).trans e) f0 f1 f3 f4 f5, rfl, q⟩⟩
end
end
end PL
/-! The P-layer: {k: v for ..}, a dict of one's own whose values may be cells. -/
namespace PL
open PySem PySem.Spec PyProof.Rows L2
section
variable {X : Cx} {W : WX} {tg iter kx vx : Expr} {ifs : List Expr} {scope : Scope} {own : List (Str × Nat)} {pos : Pos} {ti : TXI} {g : TXG} {tt : TXT} {tk tv : TX}
def xDcC (ti : TXI) (g : TXG) (tt : TXT) (tk tv : TX) (vs : List Nat) : TX := fun x ρ μ Q => ti x ρ μ fun ds μ1 => ∃ I : Nat → Mem → Prop, I 0 (μ1 ++ [.dC [] []]) ∧
  (∀ i d μ2, ds[i]? = some d → I i μ2 → g xF (.d d) (wipeP ρ vs) μ2 fun ρ3 μ3 => tt xF ρ3 μ3 fun b μ4 => Br b (tk xF ρ3 μ4 fun sk μ5 => tv xF ρ3 μ5 fun sv μ6 => cputS (.c μ1.length) sk sv μ6 (I (i + 1))) (I (i + 1) μ4)) ∧
  ∀ μ2, I ds.length μ2 → Q (.c μ1.length) μ2
theorem at_pre {A B : List Addr} {D : Addr} {k : Nat} (h : A ++ [D] <+: B) (e : A.length = k) : B[k]? = some D := by
  obtain ⟨C, rfl⟩ := h
  subst e
  simp
theorem px_dcC (calm : X.calm = true) (room : X.A.units < cLine) (hN : X.N.Nodup) (hi : PXI X W tg iter ti) (ok : BlkOk X.N X.env.scope scope own)
    (hg : ∀ (s : Shared) (H : Hp) (C : Addr) (cl : List (Str × Addr)) (fp : List Addr), PXG (X.blk s H scope (compEnvC scope cl C X.env) fp) wF (own.map (·.2)) tg g)
    (ht : ∀ (s : Shared) (H : Hp) (C : Addr) (cl : List (Str × Addr)) (fp : List Addr), PXTs (X.blk s H scope (compEnvC scope cl C X.env) fp) wF ifs tt)
    (hk : ∀ (s : Shared) (H : Hp) (C : Addr) (cl : List (Str × Addr)) (fp : List Addr), PX (X.blk s H scope (compEnvC scope cl C X.env) fp) wF kx tk)
    (hv : ∀ (s : Shared) (H : Hp) (C : Addr) (cl : List (Str × Addr)) (fp : List Addr), PX (X.blk s H scope (compEnvC scope cl C X.env) fp) wF vx tv)
    (hs : ∀ x, foldedSetIterable iter X.env x = pure x := by intro _; rfl) : PX X W (.DictComp kx vx [⟨tg, iter, ifs, 0⟩] scope pos) (xDcC ti g tt tk tv (own.map (·.2))) := by
  obtain ⟨wi, hpi, hti⟩ := hi.ex
  refine ⟨(pe_dcAny (o0 := .dT []) (g := liftG X.K wF (own.map (·.2)) g) (tt := liftT X.K wF tt) (tk := lift X.K wF tk) (tv := lift X.K wF tv) (.inr rfl) calm room hN hpi ok (fun s H C cl fp => (hg s H C cl fp).pg) (fun s H C cl fp => (ht s H C cl fp).pt)
    (fun s H C cl fp => (hk s H C cl fp).pe) (fun s H C cl fp => (hv s H C cl fp).pe) hs).imp fun σ H Q h => ?_⟩
  obtain ⟨A, ρ, μ, G, Qp, x, S, ht, hx, k⟩ := h
  refine hti _ _ _ ⟨A, ρ, μ, G, _, x, S, ht, hx, fun ds μ1 A1 G1 H1 J ⟨I, i0, turn, done⟩ c1 s1 w D hD => ?_⟩
  have S1 := S.after s1 c1
  obtain ⟨c2, s2⟩ := S1.toCells.cell (o := .dT []) (cl := .dC [] []) hD ⟨[], upd_same, rfl, .nil⟩
  refine ⟨fun i m H => m = ds.length - i ∧ i ≤ ds.length ∧ ∃ A' G' μ', I i μ' ∧ Cells X.K A' μ' G' H ∧ Step (A1 ++ [D]) G1 (upd H1 D (.dT [])) A' G' H, ⟨ds.length, by simp, Nat.zero_le _, _, _, _, i0, c2, .refl⟩, ?_⟩
  rintro i m H' ⟨rfl, hi, A2, G2, μ2, i2, c2', s2'⟩
  have s12 := s2.trans s2'
  have gz : LeZ G1 H' := s2'.le.trans c2'.le.z
  by_cases hlt : i < ds.length
  · refine .inr ⟨w.goes i H' hlt gz, fun x H3 y => ?_⟩
    obtain ⟨d, G3, e, r, c3, s3⟩ := yd_begin s12.le c2' (w.yields i H' x H3 hlt gz y)
    have S3 : Sim X.K A2 (L2.wipe σ (own.map (·.2))) (wipeP ρ (own.map (·.2))) μ2 G3 H3 := (S1.wipe _).after (s12.trans s3) c3
    refine ⟨A2, _, μ2, G3, .d d, _, xF, S3, r, turn i d μ2 e i2, exF, fun ρ4 μ4 A4 σ4 G4 H4 q4 S4 s4 kp => ⟨Eq.trans kp (wipe_wipe σ _), ?_⟩⟩
    refine ⟨A4, ρ4, μ4, G4, _, xF, S4, q4, exF, fun b μ5 A5 G5 H5 q5 c5 s5 => ?_⟩
    have s35 := ((s2'.trans s3).trans s4).trans s5
    cases b with
    | false => exact ite_ff ⟨_, by omega, rfl, by omega, A5, G5, μ5, q5, c5, s35⟩
    | true =>
      refine ite_tt ⟨A5, ρ4, μ5, G5, _, xF, S4.after s5 c5, q5, exF, fun sk μ6 A6 G6 H6 vk q6 c6 s6 r6 => ?_⟩
      refine ⟨A6, ρ4, μ6, G6, _, xF, S4.after (s5.trans s6) c6, q6, exF, fun sv μ7 A7 G7 H7 vv q7 c7 s7 r7 => ?_⟩
      have s37 := (s35.trans s6).trans s7
      obtain ⟨a, H8, μ8, e1, put, q8, c8, s8⟩ := cput_of q7 c7 ⟨D, at_pre s37.pre c1.len, rfl⟩ (r6.mono s7.pre s7.le) r7
      cases e1
      exact ⟨H8, put, _, by omega, rfl, by omega, A7, G7, μ8, q8, c8, s37.trans s8⟩
  · have e : i = ds.length := by omega
    subst e
    exact .inl ⟨w.stops H' gz, k (.c μ1.length) μ2 A2 G2 H' (.ref D) (done _ i2) c2' (s1.trans s12) ⟨D, at_pre s2'.pre c1.len, rfl⟩⟩
end
end PL
/-! The F-layer: attributes, instances, methods, dicts whose values are cells. -/
namespace PL
open PySem PySem.Spec PyProof.Rows L2 RZ
def attrK (C f : Str) (s : SV) : M SV := fun μ => match s with
  | .d (.obj C' ns vs) => if C' = C then match findF f ns vs with
    | some d => .ok (.d d) μ
    | none => .no
    else .no
  | .c j => match μ[j]? with
    | some (.inC C' ns vs) => if C' = C then match findF f ns vs with
      | some s => .ok s μ
      | none => .no
      else .no
    | _ => .no
  | _ => .no
def fAttr (C f : Str) (o : FX) : FX := fun ρ => bnd (o ρ) (attrK C f)
open Classical in
noncomputable def fldK (C f : Str) (s so : SV) : M Unit := fun μ => match so with
  | .c j => match μ[j]? with
    | some (.inC C' ns vs) => if (C' = C ∧ ns.length < 1000 ∧ s ≠ .un) then .ok () (μ.set j (.inC C (putFn f ns) (putFv f s ns vs))) else .no
    | _ => .no
  | _ => .no
noncomputable def fFld (C f : Str) (o e : FX) : FS := fun ρ => bnd (e ρ) fun s => bnd (o ρ) fun so => bnd (fldK C f s so) fun _ => ret (.nx ρ)
noncomputable def cgetF (a b : SV) : M SV := fun μ => match a, b with
  | .c j, .d k => match μ[j]? with
    | some (.dC ks vs) => if fitK true k = true then match findS ks vs k with
      | some s => .ok s μ
      | none => .no
      else .no
    | _ => .no
  | _, _ => .no
open Classical in
noncomputable def cputM (j : Nat) (sk s : SV) : M Unit := fun μ => match sk, μ[j]? with
  | .d key, some (.dC ks vs) => if (fitK true key = true ∧ ks.length < sizeLine ∧ s ≠ .un) then .ok () (μ.set j (.dC (putKs ks key) (putSs ks vs key s))) else .no
  | _, _ => .no
noncomputable def dcStep (g : FG) (c : FT) (ek ev : FX) (vs : List Nat) (ρ : FEnv) (j : Nat) (d : D) : M Unit := bnd (g (.d d) (wip ρ vs)) fun ρ2 => bnd (c ρ2) fun k => if k then bnd (ek ρ2) fun sk => bnd (ev ρ2) fun sv => cputM j sk sv else ret ()
def dcLoop (step : D → M Unit) : List D → M Unit
  | [] => fun μ => .ok () μ
  | d :: ds => fun μ => match step d μ with
    | .ok _ μ' => dcLoop step ds μ'
    | _ => .no
noncomputable def fDcC (it : FI) (g : FG) (c : FT) (ek ev : FX) (vs : List Nat) : FX := fun ρ => bnd (it ρ) fun ds μ => match dcLoop (dcStep g c ek ev vs ρ μ.length) ds (μ ++ [.dC [] []]) with
  | .ok _ μ' => .ok (.c μ.length) μ'
  | _ => .no
/-- C(..) -/
noncomputable def makeF (C : Str) (f : List SV → M SV) : List SV → M SV := fun ss μ => if cellsOf ss = [] then match f (.c 0 :: ss) [.inC C [] []] with
  | .ok (.d .non) μ' => match frzS 0 μ' 3 (.c 0) with
    | some d => .ok (.d d) μ
    | none => .no
  | _ => .no
  else .no
def methK (C m : Str) (f : SV → M SV) (s : SV) : M SV := match s with
  | .d (.obj C' ns vs) => if C' = C ∧ (findF m ns vs).isNone = true then f s else fun _ => .no
  | _ => fun _ => .no
noncomputable def fMethO (C m : Str) (f : List SV → M SV) (o : FX) (fl : FA) : FX := fun ρ => bnd (o ρ) (methK C m fun s => bnd (fl ρ) fun ss => callM f (s :: ss))
noncomputable def fMethOF (C m : Str) (f : List SV → M SV) (o : FX) (fl : FA) : FX := fun ρ => bnd (o ρ) (methK C m fun s => bnd (fl ρ) fun ss => callMF f (s :: ss))
section
variable {X : Cx} {W : WX} {a b c e o i tg iter kx vx : Expr} {es ifs : List Expr} {fo fe fi fk fv : FX} {fl : FA} {n : Nat} {pos apos ppos pos' : Pos} {C f m : Str} {g : FG} {ft : FT} {it : FI}
theorem pf_attr (hC : Cls X.K (He.ga X.K C)) (hN : NoAttr X.K (He.ga X.K C) f) (he : PX X W e (toX n fe)) (hb : attributeBase e f X.env (eval e X.env) = eval e X.env := by rfl) : PX X W (.Attribute e f pos) (toX n (fAttr C f fe)) :=
  (px_attr hC hN he hb).to fun x ρ μ Q ⟨hn, h⟩ => ⟨hn, R.mono (fin_bnd.mp h) fun s μ1 h1 => by
    unfold attrK at h1
    split at h1
    · split at h1
      · rename_i e1
        split at h1
        · rename_i e2; subst e1; exact ⟨rfl, by show on _ _; rw [e2]; exact h1⟩
        · exact h1.elim
      · exact h1.elim
    · split at h1
      · rename_i hk
        try simp only [hk]
        split at h1
        · rename_i e1
          split at h1
          · rename_i e2; subst e1; exact ⟨rfl, by show on _ _; rw [e2]; exact h1⟩
          · exact h1.elim
        · exact h1.elim
      · exact h1.elim
    · exact h1.elim⟩
theorem pfs_fld (hC : Cls X.K (He.ga X.K C)) (hN : NoAttr X.K (He.ga X.K C) f) (ho : PX X W o (toX n fo)) (he : PX X W e (toX n fe)) (hs : swapsWith e (some (.Attribute o f pos')) pos.line X.env = pure false := by rfl) : PXS X W (.Assign [.Attribute o f pos'] e pos) (toS n (fFld C f fo fe)) :=
  (psx_fld hC hN ho he hs).to fun E ρ μ ⟨hn, h⟩ => ⟨hn, R.mono (fin_bnd.mp h) fun s μ1 h1 => ⟨hn, R.mono (fin_bnd.mp h1) fun so μ2 h2 => by
    have h2 := fin_bnd.mp h2
    unfold fldK at h2
    split at h2
    · split at h2
      · rename_i hk
        split at h2
        · rename_i q
          try simp only [hk]
          refine ⟨q, ?_⟩
          rw [← env_eq ρ hn]
          exact h2
        · exact h2.elim
      · exact h2.elim
    · exact h2.elim⟩⟩
theorem pf_cget (hu : X.A.units + 1 < cLine) (ha : PX X W a (toX n fo)) (hb : PX X W b (toX n fi)) (hs : NoSl b := by intro _ _; rfl) : PX X W (.Subscript a b pos) (toX n (fOp cgetF fo fi)) :=
  pf_op (px_cget hu ha hb hs) (fun sa sb μ x Q h1 => by
    unfold cgetF at h1
    split at h1
    · split at h1
      · rename_i hk
        split at h1
        · rename_i q
          split at h1
          · rename_i e2
            unfold pCGet
            try simp only [hk]
            exact ⟨q, by show on _ _; rw [e2]; exact h1⟩
          · exact h1.elim
        · exact h1.elim
      · exact h1.elim
    · exact h1.elim)
theorem cputM_ok {j : Nat} {sk s : SV} {μ : Mem} {x : XP} {q : Unit → Mem → Prop} (h : (cputM j sk s μ).fin x q) : cputS (.c j) sk s μ (q ()) := by
  unfold cputM at h
  split at h
  · rename_i hk
    split at h
    · rename_i z
      unfold cputS
      try simp only [hk]
      exact ⟨z, h⟩
    · exact h.elim
  · exact h.elim
def dcEnd (Q : Mem → Prop) : R Unit → Prop
  | .ok _ μ => Q μ
  | _ => False
theorem to_dcC {vs : List Nat} (x : XP) (ρ : Env') (μ : Mem) (Q : VP) (h : toX n (fDcC it g ft fk fv vs) x ρ μ Q) : xDcC (toI n it) (toG n g) (toT n ft) (toX n fk) (toX n fv) vs x ρ μ Q := by
  obtain ⟨hn, h⟩ := h
  refine ⟨hn, R.mono (fin_bnd.mp h) fun ds μ1 h1 => ?_⟩
  refine ⟨fun i μ => dcEnd (Q (.c μ1.length)) (dcLoop (dcStep g ft fk fv vs ρ.f μ1.length) (ds.drop i) μ), ?_, ?_, ?_⟩
  · show dcEnd _ (dcLoop _ ds _)
    revert h1
    show ((match dcLoop (dcStep g ft fk fv vs ρ.f μ1.length) ds (μ1 ++ [.dC [] []]) with
      | .ok _ μ' => .ok (.c μ1.length) μ'
      | _ => .no : R SV).fin x Q) → _
    intro h1
    split at h1
    · rename_i e; rw [e]; exact h1
    · exact h1.elim
  · rintro i d μ hd h2
    rw [drop_at hd] at h2
    unfold dcLoop at h2
    have key : (dcStep g ft fk fv vs ρ.f μ1.length d μ).fin xF fun _ μ' => dcEnd (Q (.c μ1.length)) (dcLoop (dcStep g ft fk fv vs ρ.f μ1.length) (ds.drop (i + 1)) μ') := by
      revert h2
      show dcEnd _ (match dcStep g ft fk fv vs ρ.f μ1.length d μ with
        | .ok _ μ' => dcLoop (dcStep g ft fk fv vs ρ.f μ1.length) (ds.drop (i + 1)) μ'
        | _ => .no) → _
      intro h2
      split at h2
      · rename_i e; rw [e]; exact h2
      · exact h2.elim
    unfold dcStep at key
    rw [wip_eq]
    refine ⟨hn, R.mono (fin_bnd.mp key) fun ρ2 μ2 h3 => ⟨rfl, R.mono (fin_bnd.mp h3) fun k μ3 h4 => ?_⟩⟩
    cases k with
    | false => exact h4
    | true => exact ⟨rfl, R.mono (fin_bnd.mp h4) fun sk μ4 h5 => ⟨rfl, R.mono (fin_bnd.mp h5) fun sv μ5 h6 => cputM_ok h6⟩⟩
  · intro μ h2
    rw [List.drop_length] at h2
    exact h2
theorem pf_dcC {scope : Scope} {own : List (Str × Nat)} (calm : X.calm = true) (room : X.A.units < cLine) (hN : X.N.Nodup) (hi : PXI X W tg iter (toI n it)) (ok : BlkOk X.N X.env.scope scope own)
    (hg : ∀ (s : Shared) (H : Hp) (C : Addr) (cl : List (Str × Addr)) (fp : List Addr), PXG (X.blk s H scope (compEnvC scope cl C X.env) fp) wF (own.map (·.2)) tg (toG n g))
    (ht : ∀ (s : Shared) (H : Hp) (C : Addr) (cl : List (Str × Addr)) (fp : List Addr), PXTs (X.blk s H scope (compEnvC scope cl C X.env) fp) wF ifs (toT n ft))
    (hk : ∀ (s : Shared) (H : Hp) (C : Addr) (cl : List (Str × Addr)) (fp : List Addr), PX (X.blk s H scope (compEnvC scope cl C X.env) fp) wF kx (toX n fk))
    (hv : ∀ (s : Shared) (H : Hp) (C : Addr) (cl : List (Str × Addr)) (fp : List Addr), PX (X.blk s H scope (compEnvC scope cl C X.env) fp) wF vx (toX n fv))
    (hs : ∀ x, foldedSetIterable iter X.env x = pure x := by intro _; rfl) : PX X W (.DictComp kx vx [⟨tg, iter, ifs, 0⟩] scope pos) (toX n (fDcC it g ft fk fv (own.map (·.2)))) := (px_dcC calm room hN hi ok hg ht hk hv hs).to to_dcC
variable {k k' : Nat} {ps : List Str} {p : List SV → M SV}
theorem pf_make (h : HasM X.prog X.w X.K X.mg X.base k C "__init__" ps (pF p)) (M : Mk X.K (He.ga X.K C) (He.fAd X.K (C, some "__init__"))) (hm : X.mg C = some (.ref (He.ga X.K C))) (tk : Takes X W) (hr : Room k' X.A) (hle : k + 1 ≤ k') (hg : Gl X C)
    (ha : PXA X W (e :: es) (toA n fl)) (hdb : (C == ("__debug__" : Str)) = false := by decide) (he : starEach (e :: es) X.env = (false, eval e X.env) :: starEach es X.env := by rfl) (hpl : (backTo pos (starEach es X.env)).any (·.1) = false := by rfl) :
    PX X W (.Call (.Name C ppos) (e :: es) [] pos) (toX n (fCall (makeF C p) fl)) :=
  (px_make h M hm tk hr hle hg ha hdb he hpl).to fun x ρ μ Q ⟨hn, h⟩ => ⟨hn, R.mono (fin_bnd.mp h) fun ss μ1 h1 => by
    unfold makeF at h1
    split at h1
    · rename_i e1
      refine ⟨e1, ?_⟩
      show (p _ _).fin _ _
      split at h1
      · rename_i e2
        rw [e2]
        refine ⟨rfl, ?_⟩
        show on _ _
        split at h1
        · rename_i e3; rw [e3]; exact h1
        · exact h1.elim
      · exact h1.elim
    · exact h1.elim⟩
theorem methK_ok {F : SV → M SV} {s : SV} {μ : Mem} {x : XP} {Q : VP} (h : (methK C m F s μ).fin x Q) : ∃ ns vs, s = .d (.obj C ns vs) ∧ findF m ns vs = none ∧ (F s μ).fin x Q := by
  unfold methK at h
  split at h
  · split at h
    · rename_i q
      obtain ⟨rfl, q⟩ := q
      exact ⟨_, _, rfl, Option.isNone_iff_eq_none.mp q, h⟩
    · exact h.elim
  · exact h.elim
theorem pf_meth {pl : Sem Bool} (h : HasM X.prog X.w X.K X.mg X.base k C m ps (pF p)) (hC : Cls X.K (He.ga X.K C)) (hM : Meth X.K (He.ga X.K C) m (He.fAd X.K (C, some m))) (tk : Takes X W) (hr : Room k' X.A) (hle : k ≤ k') (ho : PX X W o (toX n fo))
    (ha : PXA X W (e :: es) (toA n fl)) (hst : starEach (e :: es) X.env = (false, eval e X.env) :: starEach es X.env := by rfl) (hpl : (backTo pos (starEach es X.env)).any (·.1) = false := by rfl)
    (ht : eval (.Call (.Attribute o m apos) (e :: es) [] pos) X.env = (do
      let ov ← eval o X.env
      standAt apos.atName
      let (f, first) ← holding [ov] (getMethod ov m pl)
      callWith pos f first (backTo pos (starEach (e :: es) X.env)) (backToKw pos (keywordEach [] X.env))) := by rfl) :
    PX X W (.Call (.Attribute o m apos) (e :: es) [] pos) (toX n (fMethO C m p fo fl)) :=
  (px_meth (F := false) h hC hM tk hr hle ho ha hst hpl ht).to fun x ρ μ Q ⟨hn, h⟩ => ⟨hn, R.mono (fin_bnd.mp h) fun s μ1 h1 => by
    obtain ⟨ns, vs, rfl, e1, h2⟩ := methK_ok h1
    exact ⟨⟨rfl, e1⟩, hn, R.mono (fin_bnd.mp h2) fun ss μ2 h3 => callM_ok h3⟩⟩
theorem pf_methF {pl : Sem Bool} (h : HasM X.prog X.w X.K X.mg X.base k C m ps (pF p)) (hC : Cls X.K (He.ga X.K C)) (hM : Meth X.K (He.ga X.K C) m (He.fAd X.K (C, some m))) (tk : Takes X W) (hr : Room k' X.A) (hle : k ≤ k') (ho : PX X W o (toX n fo))
    (ha : PXA X W (e :: es) (toA n fl)) (hst : starEach (e :: es) X.env = (false, eval e X.env) :: starEach es X.env := by rfl) (hpl : (backTo pos (starEach es X.env)).any (·.1) = false := by rfl)
    (ht : eval (.Call (.Attribute o m apos) (e :: es) [] pos) X.env = (do
      let ov ← eval o X.env
      standAt apos.atName
      let (f, first) ← holding [ov] (getMethod ov m pl)
      callWith pos f first (backTo pos (starEach (e :: es) X.env)) (backToKw pos (keywordEach [] X.env))) := by rfl) :
    PX X W (.Call (.Attribute o m apos) (e :: es) [] pos) (toX n (fMethOF C m p fo fl)) :=
  (px_meth (F := true) h hC hM tk hr hle ho ha hst hpl ht).to fun x ρ μ Q ⟨hn, h⟩ => ⟨hn, R.mono (fin_bnd.mp h) fun s μ1 h1 => by
    obtain ⟨ns, vs, rfl, e1, h2⟩ := methK_ok h1
    exact ⟨⟨rfl, e1⟩, hn, R.mono (fin_bnd.mp h2) fun ss μ2 h3 => callMF_ok h3⟩⟩
end
section
variable {P : Program} {w : World} {K : PySem.W.Frag} {mg : Str → Option Value} {base : Heap}
theorem hasM_f {C m qual : Str} {st : Stmt} {N ps : List Str} {k n q : Nat} {b : FS} (D : MDef K C m qual st) (S : FnScope N ps (defScope st)) (B : BindM m qual st ps) (hn : N.length = n) (hq : ps.length = q) (hl : q ≤ n)
    (hb : ∀ (f : Addr) (cdv : Value) (A : Around) (outer : List Env) (s : Shared) (H : Hp) (E : XK), Room k (A.deeper (envOfC qual (defScope st) s.heap.objs.size f cdv)) →
      PXSs (cxOf (L2.CX P w) P w K mg base N qual (defScope st) f cdv A outer s H E) (fun cls d _ H => E cls d H) (defBody st) (toS n b)) : HasM P w K mg base (k + 1) C m ps (pF (fDef q b)) := by
  refine hasM_p D S B (fun x as μ Q h => ?_) hb fun x as μ Q h => ?_
  · unfold pF fDef at h
    split at h
    · rename_i e; exact e.trans hq.symm
    · exact h.elim
  · unfold pF fDef at h
    split at h
    · rename_i e
      refine ⟨by show as.length + (N.length - as.length) = n; rw [hn, e]; omega, ?_⟩
      show (b (fstart as) μ).fin x _
      split at h
      · rename_i e2; rw [e2]; exact h
      · rename_i e2; rw [e2]; exact h
      · exact h.elim
      · rename_i e2; rw [e2]; exact h
      · exact h.elim
    · exact h.elim
end
/-! ### evaluation -/
section
variable {C f m : Str} {o e : FX} {fl : FA} {ρ : FEnv} {μ μ' : Mem} {ns : List Str} {vs : List D} {ss us : List SV} {s : SV} {j : Nat} {d : D} {ks : List D}
@[simp ↓] theorem fAttr_s : fAttr C f o ρ μ = bR (o ρ μ) (attrK C f) := bnd_s
theorem attrK_d (h : findF f ns vs = some d) : attrK C f (.d (.obj C ns vs)) μ = .ok (.d d) μ := by simp only [attrK, if_true, h]
theorem attrK_c (h : μ[j]? = some (.inC C ns us)) (h2 : findF f ns us = some s) : attrK C f (.c j) μ = .ok s μ := by simp only [attrK, h, if_true, h2]
@[simp ↓] theorem fFld_s : fFld C f o e ρ μ = bR (e ρ μ) fun s => bnd (o ρ) fun so => bnd (fldK C f s so) fun _ => ret (.nx ρ) := bnd_s
theorem fldK_c (h : μ[j]? = some (.inC C ns us)) (hz : ns.length < 1000) (hs : s ≠ .un) : fldK C f s (.c j) μ = .ok () (μ.set j (.inC C (putFn f ns) (putFv f s ns us))) := by
  simp only [fldK, h]
  rw [if_pos ⟨rfl, hz, hs⟩]
theorem cgetF_c (h : μ[j]? = some (.dC ks us)) (hf : fitK true d = true) (h2 : findS ks us d = some s) : cgetF (.c j) (.d d) μ = .ok s μ := by simp only [cgetF, h, hf, if_true, h2]
theorem cputM_c (h : μ[j]? = some (.dC ks us)) (hf : fitK true d = true) (hz : ks.length < sizeLine) (hs : s ≠ .un) : cputM j (.d d) s μ = .ok () (μ.set j (.dC (putKs ks d) (putSs ks us d s))) := by
  simp only [cputM, h]
  rw [if_pos ⟨hf, hz, hs⟩]
noncomputable def dcK (step : Nat → D → M Unit) (ds : List D) : M SV := fun μ => match dcLoop (step μ.length) ds (μ ++ [.dC [] []]) with
  | .ok _ μ' => .ok (.c μ.length) μ'
  | _ => .no
@[simp ↓] theorem fDcC_s {it : FI} {g : FG} {c : FT} {ek ev : FX} {vs : List Nat} : fDcC it g c ek ev vs ρ μ = bR (it ρ μ) (dcK (dcStep g c ek ev vs ρ)) := bnd_s
theorem makeF_ok {f : List SV → M SV} (h : cellsOf ss = []) (h2 : f (.c 0 :: ss) [.inC C [] []] = .ok (.d .non) μ') (h3 : frzS 0 μ' 3 (.c 0) = some d) : makeF C f ss μ = .ok (.d d) μ := by
  simp only [makeF, h, if_true, h2, h3]
@[simp ↓] theorem fMethO_s {f : List SV → M SV} : fMethO C m f o fl ρ μ = bR (o ρ μ) (methK C m fun s => bnd (fl ρ) fun ss => callM f (s :: ss)) := bnd_s
@[simp ↓] theorem fMethOF_s {f : List SV → M SV} : fMethOF C m f o fl ρ μ = bR (o ρ μ) (methK C m fun s => bnd (fl ρ) fun ss => callMF f (s :: ss)) := bnd_s
theorem methK_d {F : SV → M SV} (h : (findF m ns vs).isNone = true) : methK C m F (.d (.obj C ns vs)) μ = F (.d (.obj C ns vs)) μ := by
  simp only [methK]
  rw [if_pos ⟨trivial, h⟩]
end
end PL

namespace PL
open PySem PySem.Spec PyProof.Rows L2
/-! Plain data; loops. -/
mutual
/-- plain data: what isinstance and len tell of it is known, through and through -/
def plain : D → Bool
  | .non => true
  | .bl _ => true
  | .int _ => true
  | .str x => PyData.strOk x && decide (x.length ≤ 1000)
  | .tup l => decide (l.length ≤ 100000) && plains l
  | .ntp l => decide (l.length ≤ 100000) && plains l
  | .lst l => decide (l.length ≤ 100000) && plains l
  | .dic _ _ _ => true
  | _ => false
def plains : List D → Bool
  | [] => true
  | d :: ds => plain d && plains ds
end
theorem plains_iff : ∀ {l : List D}, plains l = true ↔ ∀ d ∈ l, plain d = true
  | [] => by simp [plains]
  | d :: ds => by simp [plains, plains_iff (l := ds)]
@[simp] theorem plains_nil : plains [] = true := rfl
@[simp] theorem plains_cons {d : D} {l : List D} : plains (d :: l) = (plain d && plains l) := rfl
@[simp] theorem plain_non : plain .non = true := rfl
@[simp] theorem plain_bl {b : Bool} : plain (.bl b) = true := rfl
@[simp] theorem plain_int {b : Int} : plain (.int b) = true := rfl
@[simp] theorem plain_str {b : Str} : plain (.str b) = (PyData.strOk b && decide (b.length ≤ 1000)) := rfl
@[simp] theorem plain_tup {b : List D} : plain (.tup b) = (decide (b.length ≤ 100000) && plains b) := rfl
@[simp] theorem plain_ntp {b : List D} : plain (.ntp b) = (decide (b.length ≤ 100000) && plains b) := rfl
@[simp] theorem plain_lst {b : List D} : plain (.lst b) = (decide (b.length ≤ 100000) && plains b) := rfl
@[simp] theorem plain_dic {t : Bool} {ks vs : List D} : plain (.dic t ks vs) = true := rfl
@[elab_as_elim] theorem plain_cases {motive : (d : D) → plain d = true → Prop} (non : ∀ h, motive .non h) (bl : ∀ b h, motive (.bl b) h) (int : ∀ b h, motive (.int b) h) (str : ∀ b h, motive (.str b) h)
    (tup : ∀ b h, motive (.tup b) h) (ntp : ∀ b h, motive (.ntp b) h) (lst : ∀ b h, motive (.lst b) h) (dic : ∀ t k v h, motive (.dic t k v) h) (d : D) (h : plain d = true) : motive d h := by
  cases d with
  | non => exact non h
  | bl b => exact bl b h
  | int b => exact int b h
  | str b => exact str b h
  | tup b => exact tup b h
  | ntp b => exact ntp b h
  | lst b => exact lst b h
  | dic t k v => exact dic t k v h
  | fn x => simp [plain] at h
  | ty x => simp [plain] at h
  | scr x => simp [plain] at h
  | obj x y z => simp [plain] at h
/-- isinstance of plain data -/
def isKB : TyK → D → Bool
  | .bool, .bl _ => true
  | .int, .bl _ => true
  | .int, .int _ => true
  | .str, .str _ => true
  | .tuple, .tup _ => true
  | .tuple, .ntp _ => true
  | .list, .lst _ => true
  | .dict, .dic _ _ _ => true
  | _, _ => false
theorem isK_plain {k : TyK} {d : D} (h : plain d = true) : isK k d = some (isKB k d) := by
  cases d <;> cases k <;> first | rfl | (simp [plain] at h)
/-- the items of a tuple -/
def tupD : D → Option (List D)
  | .tup l => some l
  | .ntp l => some l
  | _ => none
@[simp] theorem tupD_t {l : List D} : tupD (.tup l) = some l := rfl
@[simp] theorem tupD_n {l : List D} : tupD (.ntp l) = some l := rfl
/-! ### sums of tuples -/
section
variable {l m : List D} {μ : Mem} {x : D} {u v : D}
@[simp] theorem addF_nt : addF (.d (.ntp l)) (.d (.tup m)) μ = grd (l.length + m.length ≤ sizeLine) (ret (.d (catT (.ntp l) (.tup m) l m))) μ := rfl
@[simp] theorem addF_tn : addF (.d (.tup l)) (.d (.ntp m)) μ = grd (l.length + m.length ≤ sizeLine) (ret (.d (catT (.tup l) (.ntp m) l m))) μ := rfl
@[simp] theorem addF_nn : addF (.d (.ntp l)) (.d (.ntp m)) μ = grd (l.length + m.length ≤ sizeLine) (ret (.d (catT (.ntp l) (.ntp m) l m))) μ := rfl
@[simp] theorem catT_r : catT u (.tup (x :: m)) l (x :: m) = .tup (l ++ x :: m) := by unfold catT; split <;> simp_all
theorem catT_l (h : l ≠ []) : catT (.tup l) v l m = .tup (l ++ m) := by unfold catT; rw [if_neg h]; split <;> simp_all
@[simp] theorem catT_la : catT (.tup (l ++ [x])) v (l ++ [x]) m = .tup (l ++ [x] ++ m) := catT_l (by simp)
@[simp] theorem catT_lc : catT (.tup (x :: l)) v (x :: l) m = .tup (x :: l ++ m) := catT_l (by simp)
theorem catT_tup (hu : tupD u = some l) (hv : tupD v = some m) : tupD (catT u v l m) = some (l ++ m) := by
  unfold catT; split
  · subst l; exact hv
  · split
    · subst m; rw [List.append_nil]; exact hu
    · rfl
@[simp] theorem mulF_str {z : Str} {j : Int} : mulF (.d (.str z)) (.d (.int j)) μ = grd (0 ≤ j ∧ j ≤ 1000 ∧ z.length ≤ 1000) (ret (.d (.str (Txt.mul z j)))) μ := rfl
@[simp] theorem mulF_tup {j : Int} : mulF (.d (.tup l)) (.d (.int j)) μ = grd (l ≠ [] ∧ 2 ≤ j ∧ j ≤ 1000 ∧ l.length ≤ 1000) (ret (.d (.tup (List.replicate j.toNat l).flatten))) μ := rfl
@[simp] theorem mulF_ntp {j : Int} : mulF (.d (.ntp l)) (.d (.int j)) μ = grd (l ≠ [] ∧ 2 ≤ j ∧ j ≤ 1000 ∧ l.length ≤ 1000) (ret (.d (.tup (List.replicate j.toNat l).flatten))) μ := rfl
end
/-! ### booleans -/
theorem all_id_map {α : Type} {l : List α} {f : α → Bool} : (l.map f).all id = l.all f := by simp [List.all_map]
theorem sizeLine_le {n : Nat} (h : n ≤ 1000000) : n ≤ sizeLine := by rw [sizeLine_eq]; omega
@[simp] theorem atI_succ {α : Type} {r : List α} {n : Nat} : atI r ((n : Int) + 1) = r[n + 1]? := by
  rw [show (n : Int) + 1 = ((n + 1 : Nat) : Int) by omega]; exact atI_nat
@[simp] theorem rngD_len {lo : Int} {n : Nat} : (rngD lo n).length = n := rngD_length lo n
/-- what simp leaves alone -/
inductive Tag {α : Sort _} (a : α) : Type | mk
inductive TagP (a : Prop) : Type | mk
@[reducible] def Hold (p : Prop) (_ : TagP p := .mk) : Prop := p
/-- hands back something with P -/
def gives {α : Type} (r : R α) (P : α → Mem → Prop) (_ : Tag P := .mk) : Prop := ∃ a μ, r = .ok a μ ∧ P a μ
theorem gives_ok {α : Type} {a : α} {μ : Mem} {P : α → Mem → Prop} (h : P a μ) : gives (.ok a μ) P := ⟨a, μ, rfl, h⟩
theorem gives_mono {α : Type} {r : R α} {P Q : α → Mem → Prop} (h : gives r P) (i : ∀ a μ, P a μ → Q a μ) : gives r Q := by
  obtain ⟨a, μ, e, h⟩ := h; exact ⟨a, μ, e, i _ _ h⟩
/-! ### loops -/
/-- a turn goes on, with I -/
def goes (r : R Out) (I : FEnv → Mem → Prop) (_ : Tag I := .mk) : Prop := match r with
  | .ok (.nx ρ) μ => I ρ μ
  | .ok (.ct ρ) μ => I ρ μ
  | _ => False
@[simp ↓] theorem goes_nx {ρ : FEnv} {μ : Mem} {I : FEnv → Mem → Prop} {t : Tag I} : goes (.ok (.nx ρ) μ) I t = Hold (I ρ μ) := rfl
@[simp ↓] theorem goes_ct {ρ : FEnv} {μ : Mem} {I : FEnv → Mem → Prop} {t : Tag I} : goes (.ok (.ct ρ) μ) I t = Hold (I ρ μ) := rfl
theorem goes_of {r : R Out} {I : FEnv → Mem → Prop} (h : goes r I) : ∃ ρ μ, (r = .ok (.nx ρ) μ ∨ r = .ok (.ct ρ) μ) ∧ I ρ μ := by
  cases r with
  | ex C fs μ => exact h.elim
  | no => exact h.elim
  | ok o μ => cases o with
    | nx ρ => exact ⟨ρ, μ, .inl rfl, h⟩
    | ct ρ => exact ⟨ρ, μ, .inr rfl, h⟩
    | rt v => exact h.elim
    | bk ρ => exact h.elim
/-- a turn hands v back -/
def hands (r : R Out) (v : SV) (J : Mem → Prop) (_ : Tag J := .mk) : Prop := match r with
  | .ok (.rt w) μ => w = v ∧ J μ
  | _ => False
@[simp ↓] theorem hands_rt {w v : SV} {μ : Mem} {J : Mem → Prop} {t : Tag J} : hands (.ok (.rt w) μ) v J t = (w = v ∧ Hold (J μ)) := rfl
theorem hands_of {r : R Out} {v : SV} {J : Mem → Prop} (h : hands r v J) : ∃ μ, r = .ok (.rt v) μ ∧ J μ := by
  cases r with
  | ex C fs μ => exact h.elim
  | no => exact h.elim
  | ok o μ => cases o with
    | nx ρ => exact h.elim
    | ct ρ => exact h.elim
    | bk ρ => exact h.elim
    | rt w => obtain ⟨h1, h2⟩ := h; subst h1; exact ⟨μ, rfl, h2⟩
/-- a loop whose turns all go on -/
theorem fLoop_inv {step : SV → FS} (I : Nat → FEnv → Mem → Prop) : ∀ {ds : List D} {ρ : FEnv} {μ : Mem} (n : Nat), I n ρ μ → (∀ i d ρ μ, ds[i]? = some d → I (n + i) ρ μ → goes (step (.d d) ρ μ) (I (n + i + 1))) →
    ∃ ρ' μ', fLoop step ds ρ μ = .ok (.nx ρ') μ' ∧ I (n + ds.length) ρ' μ'
  | [], ρ, μ, n, h0, _ => ⟨ρ, μ, rfl, h0⟩
  | d :: ds, ρ, μ, n, h0, hs => by
    obtain ⟨ρ1, μ1, e, h1⟩ := goes_of (hs 0 d ρ μ rfl h0)
    obtain ⟨ρ2, μ2, e2, h2⟩ := fLoop_inv I (ds := ds) (n + 1) h1 fun i d' ρ' μ' hd hi => by
      have := hs (i + 1) d' ρ' μ' (by simpa using hd) (by rw [show n + (i + 1) = n + 1 + i by omega]; exact hi)
      rw [show n + 1 + i + 1 = n + (i + 1) + 1 by omega]; exact this
    refine ⟨ρ2, μ2, ?_, by rw [List.length_cons, show n + (ds.length + 1) = n + 1 + ds.length by omega]; exact h2⟩
    rw [fLoop_cons]
    rcases e with e | e <;> rw [e] <;> exact e2
/-- .. over typed things; the things done so far are told -/
theorem fLoop_invT {α : Type} {step : SV → FS} {en : α → D} (I : List α → FEnv → Mem → Prop) : ∀ {l done : List α} {ρ : FEnv} {μ : Mem}, I done ρ μ → (∀ (pre : List α) (a : α) (post : List α) (ρ : FEnv) (μ : Mem), done ++ l = pre ++ a :: post → done.length ≤ pre.length → I pre ρ μ → goes (step (.d (en a)) ρ μ) (I (pre ++ [a]))) →
    ∃ ρ' μ', fLoop step (l.map en) ρ μ = .ok (.nx ρ') μ' ∧ I (done ++ l) ρ' μ'
  | [], done, ρ, μ, h0, _ => ⟨ρ, μ, rfl, by rw [List.append_nil]; exact h0⟩
  | a :: l, done, ρ, μ, h0, hs => by
    obtain ⟨ρ1, μ1, e, h1⟩ := goes_of (hs done a l ρ μ rfl (Nat.le_refl _) h0)
    obtain ⟨ρ2, μ2, e2, h2⟩ := fLoop_invT I (l := l) (done := done ++ [a]) h1 fun pre b post ρ' μ' hd hl hi => hs pre b post ρ' μ' (by rw [← hd]; simp) (by simp at hl; omega) hi
    refine ⟨ρ2, μ2, ?_, by simpa using h2⟩
    rw [List.map_cons, fLoop_cons]
    rcases e with e | e <;> rw [e] <;> exact e2
/-- a loop that hands something back at the first place where g is there -/
theorem fLoop_find {step : SV → FS} (I : FEnv → Mem → Prop) (J : Mem → Prop) (g : Nat → Option SV) : ∀ {ds : List D} {ρ : FEnv} {μ : Mem} (n : Nat), I ρ μ → (∀ i d ρ μ, ds[i]? = some d → (∀ j, j < i → g (n + j) = none) → I ρ μ → match g (n + i) with
      | none => goes (step (.d d) ρ μ) I
      | some v => hands (step (.d d) ρ μ) v J) →
    ((∀ i, i < ds.length → g (n + i) = none) ∧ ∃ ρ' μ', fLoop step ds ρ μ = .ok (.nx ρ') μ' ∧ I ρ' μ') ∨ ∃ i v, i < ds.length ∧ (∀ j, j < i → g (n + j) = none) ∧ g (n + i) = some v ∧ ∃ μ', fLoop step ds ρ μ = .ok (.rt v) μ' ∧ J μ'
  | [], ρ, μ, n, h0, _ => .inl ⟨fun i hi => absurd hi (Nat.not_lt_zero _), ρ, μ, rfl, h0⟩
  | d :: ds, ρ, μ, n, h0, hs => by
    have h1 := hs 0 d ρ μ rfl (fun j hj => absurd hj (Nat.not_lt_zero _)) h0
    cases e : g n with
    | some v =>
      rw [Nat.add_zero, e] at h1
      obtain ⟨μ', h1, h2⟩ := hands_of h1
      exact .inr ⟨0, v, by simp, fun j hj => absurd hj (Nat.not_lt_zero _), e, μ', by rw [fLoop_cons, h1]; rfl, h2⟩
    | none =>
      rw [Nat.add_zero, e] at h1
      obtain ⟨ρ1, μ1, h1, h2⟩ := goes_of h1
      have ih := fLoop_find I J g (ds := ds) (n + 1) h2 fun i d' ρ' μ' hd hb hi => by
        have := hs (i + 1) d' ρ' μ' (by simpa using hd) (fun j hj => by
          cases j with
          | zero => exact e
          | succ j => have := hb j (by omega); rw [show n + (j + 1) = n + 1 + j by omega]; exact this) hi
        rw [show n + (i + 1) = n + 1 + i by omega] at this; exact this
      have el : fLoop step (d :: ds) ρ μ = fLoop step ds ρ1 μ1 := by rw [fLoop_cons]; rcases h1 with h1 | h1 <;> rw [h1] <;> rfl
      rcases ih with ⟨h3, h4⟩ | ⟨i, v, h3, h4, h5, h6⟩
      · refine .inl ⟨fun i hi => ?_, by rw [el]; exact h4⟩
        cases i with
        | zero => exact e
        | succ i => have := h3 i (by simpa using hi); rw [show n + (i + 1) = n + 1 + i by omega]; exact this
      · refine .inr ⟨i + 1, v, by simpa using h3, fun j hj => ?_, by rw [show n + (i + 1) = n + 1 + i by omega]; exact h5, by rw [el]; exact h6⟩
        cases j with
        | zero => exact e
        | succ j => have := h4 j (by omega); rw [show n + (j + 1) = n + 1 + j by omega]; exact this
/-- the first place where p is so -/
def firstP (n : Nat) (p : Nat → Bool) : Option Nat := (List.range n).find? p
theorem firstP_none {n : Nat} {p : Nat → Bool} : firstP n p = none ↔ ∀ i, i < n → p i = false := by
  unfold firstP
  rw [List.find?_eq_none]
  constructor
  · intro h i hi
    have := h i (List.mem_range.mpr hi)
    simpa using this
  · intro h i hi
    rw [h i (List.mem_range.mp hi)]; simp
theorem firstP_some {n i : Nat} {p : Nat → Bool} (hi : i < n) (h : p i = true) (hb : ∀ j, j < i → p j = false) : firstP n p = some i := by
  unfold firstP
  rw [List.find?_eq_some_iff_append]
  refine ⟨h, List.range i, (List.range (n - i - 1)).map (· + (i + 1)), ?_, fun j hj => by rw [hb j (List.mem_range.mp hj)]; rfl⟩
  refine List.ext_getElem? fun k => ?_
  by_cases h1 : k < i
  · rw [List.getElem?_append_left (by simpa using h1), List.getElem?_range (by omega), List.getElem?_range h1]
  · rw [List.getElem?_append_right (by simpa using h1), List.length_range]
    by_cases h2 : k < n
    · rw [List.getElem?_range h2]
      by_cases h3 : k = i
      · subst h3; simp
      · obtain ⟨j, rfl⟩ : ∃ j, k = i + 1 + j := ⟨k - i - 1, by omega⟩
        rw [show i + 1 + j - i = j + 1 by omega, List.getElem?_cons_succ, List.getElem?_map, List.getElem?_range (by omega)]
        simp; omega
    · rw [List.getElem?_eq_none (by simp; omega)]
      obtain ⟨j, rfl⟩ : ∃ j, k = i + 1 + j := ⟨k - i - 1, by omega⟩
      rw [show i + 1 + j - i = j + 1 by omega, List.getElem?_cons_succ, List.getElem?_map, List.getElem?_eq_none (by simp; omega)]
      rfl

theorem loop_find {step : SV → FS} {ds : List D} {ρ : FEnv} {μ : Mem} {z : R Out} (e : fLoop step ds ρ μ = z) (I : FEnv → Mem → Prop) (J : Mem → Prop) (g : Nat → Option SV) (h0 : I ρ μ) (hs : ∀ i d ρ μ, ds[i]? = some d → (∀ j, j < i → g j = none) → I ρ μ → match g i with
      | none => goes (step (.d d) ρ μ) I
      | some v => hands (step (.d d) ρ μ) v J) :
    ((∀ i, i < ds.length → g i = none) ∧ ∃ ρ' μ', z = .ok (.nx ρ') μ' ∧ I ρ' μ') ∨ ∃ i v, i < ds.length ∧ (∀ j, j < i → g j = none) ∧ g i = some v ∧ ∃ μ', z = .ok (.rt v) μ' ∧ J μ' := by
  subst e
  have h := fLoop_find I J g (ds := ds) 0 h0 fun i d ρ μ h1 hb h2 => by rw [Nat.zero_add]; exact hs i d ρ μ h1 (fun j hj => by have := hb j hj; rwa [Nat.zero_add] at this) h2
  simp only [Nat.zero_add] at h
  exact h
theorem loop_inv {step : SV → FS} {ds : List D} {ρ : FEnv} {μ : Mem} {z : R Out} (e : fLoop step ds ρ μ = z) (I : Nat → FEnv → Mem → Prop) (h0 : I 0 ρ μ) (hs : ∀ i d ρ μ, ds[i]? = some d → I i ρ μ → goes (step (.d d) ρ μ) (I (i + 1))) :
    ∃ ρ' μ', z = .ok (.nx ρ') μ' ∧ I ds.length ρ' μ' := by
  subst e
  have h := fLoop_inv I (ds := ds) 0 h0 fun i d ρ μ h1 h2 => by rw [Nat.zero_add] at h2 ⊢; exact hs i d ρ μ h1 h2
  rw [Nat.zero_add] at h
  exact h
theorem loop_invT {α : Type} {step : SV → FS} {l : List α} {en : α → D} {ρ : FEnv} {μ : Mem} {z : R Out} (e : fLoop step (l.map en) ρ μ = z) (I : List α → FEnv → Mem → Prop) (h0 : I [] ρ μ) (hs : ∀ (pre : List α) (a : α) (post : List α) (ρ : FEnv) (μ : Mem), l = pre ++ a :: post → I pre ρ μ → goes (step (.d (en a)) ρ μ) (I (pre ++ [a]))) :
    ∃ ρ' μ', z = .ok (.nx ρ') μ' ∧ I l ρ' μ' := by
  subst e
  have h := fLoop_invT (en := en) I (l := l) (done := []) h0 fun pre a post ρ μ h1 _ h2 => hs pre a post ρ μ (by simpa using h1) h2
  simpa using h
theorem enumD_get {l : List D} {i : Nat} {d : D} (h : (enumD l)[i]? = some d) : ∃ e, l[i]? = some e ∧ e ∈ l ∧ d = .tup [.int i, e] := by
  obtain ⟨e, h1, h2⟩ := enumD_at h
  exact ⟨e, h1, List.mem_of_getElem? h1, h2⟩
@[simp] theorem enumD_len {l : List D} : (enumD l).length = l.length := enumD_length l

end PL
namespace PL
open PySem PySem.Spec PyProof.Rows L2
/-! takenorleft.values -/
noncomputable def f_is_whole : List SV → M SV := fDef 1 (fRet (fAnd (fUn (isiF .int) (fV 0)) (fNot (fUn (isiF .bool) (fV 0)))))
--.
noncomputable def f_is_between : List SV → M SV := fDef 3 (fRet (fAnd (fCall (callM f_is_whole) (fCons (fV 0) fNil)) (fChain ileF ileF (fV 1) (fV 0) (fV 2))))
--.
noncomputable def f_is_tuple_of : List SV → M SV := fDef 2 (fRet (fAnd (fUn (isiF .tuple) (fV 0)) (fOp eqF (fCall lenF (fCons (fV 0) fNil)) (fV 1))))
--.
noncomputable def f_is_name : List SV → M SV := fDef 1 (fSeq (fIfS (fTOr (fTNot (fT (fUn (isiF .str) (fV 0)))) (fTNot (fT (fChain ileF ileF (fC (.int 1)) (fCall lenF (fCons (fV 0) fNil)) (fC (.int 8)))))) (fRet (fC (.bl false))) fSkip)
  (fRet (fCall allF (fCons (fLc finLF (itF (fV 0)) (gN 1) fYes (fOp inF (fV 1) (fC (.str "abcdefghijklmnopqrstuvwxyz"))) [1]) fNil))))
--.
noncomputable def f_are_rising : List SV → M SV := fDef 1 (fRet (fCall allF (fCons (fLc finLF (rng2F (fCons (fC (.int 1)) (fCons (fCall lenF (fCons (fV 0) fNil)) fNil))) (gN 1) fYes (fOp ltF (fOp ixF (fV 0) (fOp subF (fV 1) (fC (.int 1)))) (fOp ixF (fV 0) (fV 1))) [1]) fNil)))
--.
noncomputable def f_first_wrong (T : Tab) : List SV → M SV := fDef 5 (fSeq (fIfS (fTOr (fTNot (fT (fUn (isiF .tuple) (fV 0)))) (fTNot (fT (fChain ileF ileF (fV 1) (fCall lenF (fCons (fV 0) fNil)) (fV 2))))) (fRet (fLst (fCons (fC .non) fNil))) fSkip)
  (fSeq (fFor (enumF (fCons (fV 0) fNil)) (gT [(gN 5), (gN 6)]) (fIfS (fTOr (fTNot (fT (fLocal 3 T (fCons (fV 6) fNil)))) (fTAnd (fT (fV 4)) (fTAnd (fT (fOp gtF (fV 5) (fC (.int 0)))) (fT (fOp leF (fV 6) (fOp ixF (fV 0) (fOp subF (fV 5) (fC (.int 1))))))))) (fRet (fLst (fCons (fV 5) fNil))) fSkip))
  (fRet (fLst fNil))))
--.
noncomputable def f_are_between : List SV → M SV := fDef 4 (fRet (fAnd (fCall (callM f_is_tuple_of) (fCons (fV 0) (fCons (fV 1) fNil))) (fCall allF (fCons (fLc finLF (itF (fV 0)) (gN 4) fYes (fCall (callM f_is_between) (fCons (fV 4) (fCons (fV 2) (fCons (fV 3) fNil)))) [4]) fNil))))
--.
def wholeB : D → Bool
  | .int _ => true
  | _ => false
def betwB (v : D) (lo hi : Int) : Bool := match v with
  | .int i => decide (lo ≤ i) && decide (i ≤ hi)
  | _ => false
theorem is_whole_ok {v : D} {μ : Mem} (h : plain v = true) : f_is_whole [.d v] μ = .ok (.d (.bl (wholeB v))) μ := by
  simp [isK, isKB, tupD, sizeLine_eq, f_is_whole, isK_plain h]
  cases v, h using plain_cases <;> simp [isK, isKB, tupD, sizeLine_eq, wholeB]
theorem is_between_ok {v : D} {lo hi : Int} {μ : Mem} (h : plain v = true) : f_is_between [.d v, .d (.int lo), .d (.int hi)] μ = .ok (.d (.bl (betwB v lo hi))) μ := by
  simp [isK, isKB, tupD, sizeLine_eq, f_is_between, is_whole_ok h]
  cases v, h using plain_cases <;> simp [isK, isKB, tupD, sizeLine_eq, wholeB, betwB]
  rename_i i _
  by_cases h1 : lo ≤ i <;> simp [isK, isKB, tupD, sizeLine_eq, h1]
theorem is_tuple_of_ok {v : D} {n : Int} {μ : Mem} (h : plain v = true) : f_is_tuple_of [.d v, .d (.int n)] μ = .ok (.d (.bl (match tupD v with | some l => decide ((l.length : Int) = n) | none => false))) μ := by
  simp [isK, isKB, tupD, sizeLine_eq, f_is_tuple_of, isK_plain h]
  cases v, h using plain_cases <;> simp [isK, isKB, tupD, sizeLine_eq, tupD]
abbrev LETTERS : Str := "abcdefghijklmnopqrstuvwxyz"
def letterB (c : Nat) : Bool := decide (c ∈ LETTERS.cps.toList)
def nmB (x : Str) : Bool := decide (1 ≤ x.length) && (decide (x.length ≤ 8) && x.cps.toList.all letterB)
def nameB : D → Bool
  | .str x => nmB x
  | _ => false
theorem in_letters {c : Nat} {x : Str} {μ : Mem} : inF (.d (.str ⟨#[c]⟩)) (.d (.str x)) μ = .ok (.d (.bl (decide (c ∈ x.cps.toList)))) μ := rfl
theorem is_name_ok {v : D} {μ : Mem} (h : plain v = true) : f_is_name [.d v] μ = .ok (.d (.bl (nameB v))) μ := by
  simp [isK, isKB, tupD, sizeLine_eq, f_is_name, isK_plain h]
  cases v, h using plain_cases <;> simp [isK, isKB, tupD, sizeLine_eq, nameB]
  rename_i x h
  simp at h
  have hx : x.length ≤ 16777216 := by omega
  simp [isK, isKB, tupD, sizeLine_eq, lenOf_str hx, nmB]
  by_cases h1 : (1 : Int) ≤ x.length
  · by_cases h2 : (x.length : Int) ≤ 8
    · simp [isK, isKB, tupD, sizeLine_eq, h1, h2, hx]
      rw [strD, cLoop_mapT (f := fun c => .bl (letterB c)) fun c hc => by simp [isK, isKB, tupD, sizeLine_eq, in_letters, letterB]]
      have h3 : 1 ≤ x.length := by omega
      have h4 : x.length ≤ 8 := by omega
      simp [isK, isKB, tupD, sizeLine_eq, h3, h4]
      trace_state
    · simp [isK, isKB, tupD, sizeLine_eq, h1, h2]
      omega
  · simp [isK, isKB, tupD, sizeLine_eq, h1]
    omega
theorem are_between_ok {v : D} {n : Nat} {lo hi : Int} {μ : Mem} (h : plain v = true) : f_are_between [.d v, .d (.int n), .d (.int lo), .d (.int hi)] μ = .ok (.d (.bl (match tupD v with | some l => decide (l.length = n) && l.all (fun e => betwB e lo hi) | none => false))) μ := by
  simp [isK, isKB, tupD, sizeLine_eq, f_are_between, is_tuple_of_ok h]
  cases v, h using plain_cases
  case tup l h | ntp l h =>
    simp at h
    by_cases e : l.length = n
    · subst e
      have hz : l.length ≤ 16777216 := by omega
      simp [isK, isKB, tupD, sizeLine_eq, hz]
      rw [cLoop_map (f := fun e => .bl (betwB e lo hi)) fun d hd => by simp [isK, isKB, tupD, sizeLine_eq, is_between_ok (plains_iff.mp h.2 d hd)]]
      simp [isK, isKB, tupD, sizeLine_eq, all_id_map]
    · have e2 : ¬ (l.length : Int) = n := by omega
      simp [isK, isKB, tupD, sizeLine_eq, e, e2]
  all_goals simp [isK, isKB, tupD, sizeLine_eq, ]
/-- which place is wrong -/
def badAt (P : D → Bool) (le : D → D → Bool) (rise : Bool) (l : List D) (i : Nat) : Bool := match l[i]? with
  | none => false
  | some e => !P e || (rise && (decide (0 < i) && match l[i - 1]? with | some e' => le e e' | none => false))
def wrongD (P : D → Bool) (le : D → D → Bool) (rise : Bool) (lo hi : Int) (v : D) : D := match tupD v with
  | none => .lst [.non]
  | some l => if lo ≤ l.length ∧ (l.length : Int) ≤ hi then (match firstP l.length (badAt P le rise l) with
    | none => .lst []
    | some i => .lst [.int i]) else .lst [.non]
theorem first_wrong_ok {v : D} {lo hi : Int} {T : Tab} {f : Str} {g : List SV → M SV} {rise : Bool} {P : D → Bool} {le : D → D → Bool} {μ : Mem} (h : plain v = true) (hT : T f = some g) (hg : ∀ l e, tupD v = some l → e ∈ l → ∃ μ', g [.d e] [] = .ok (.d (.bl (P e))) μ')
    (hle : ∀ l e e', tupD v = some l → e ∈ l → e' ∈ l → P e = true → P e' = true → rise = true → ∀ μ, leF (.d e) (.d e') μ = .ok (.d (.bl (le e e'))) μ) :
    f_first_wrong T [.d v, .d (.int lo), .d (.int hi), .d (.fn f), .d (.bl rise)] μ = .ok (.d (wrongD P le rise lo hi v)) μ := by
  simp [isK, isKB, tupD, sizeLine_eq, f_first_wrong, isK_plain h]
  cases v, h using plain_cases
  case tup l h | ntp l h =>
    simp at h
    by_cases h1 : lo ≤ l.length
    · by_cases h2 : (l.length : Int) ≤ hi
      · simp [isK, isKB, tupD, sizeLine_eq, h1, h2, wrongD]
        generalize el : fLoop _ _ _ _ = z
        have key := loop_find el (fun ρ μ' => ρ 0 = .d _ ∧ ρ 3 = .d (.fn f) ∧ ρ 4 = .d (.bl rise) ∧ μ' = μ) (fun μ' => μ' = μ) (fun i => if badAt P le rise l i then some (.d (.lst [.int (i : Int)])) else none) ⟨rfl, rfl, rfl, rfl⟩ (by
          rintro i d ρ μ' hd hb ⟨r0, r3, r4, rfl⟩
          obtain ⟨e, he, hm, rfl⟩ := enumD_get hd
          obtain ⟨m2, hge⟩ := hg _ e rfl hm
          simp [isK, isKB, tupD, sizeLine_eq, Hold, r0, r3, r4, lcK_fn hT, hge, badAt, he]
          cases hp : P e
          · simp [isK, isKB, tupD, sizeLine_eq, Hold, r0, r3, r4]
          · cases rise with
            | false => simp [isK, isKB, tupD, sizeLine_eq, Hold, r0, r3, r4]
            | true =>
              by_cases hi : 0 < i
              · have hl := (List.getElem?_eq_some_iff.mp he).1
                obtain ⟨e', he'⟩ : ∃ e', l[i - 1]? = some e' := ⟨_, List.getElem?_eq_getElem (by omega)⟩
                have ei : (i : Int) - 1 = ((i - 1 : Nat) : Int) := by omega
                have hp' : P e' = true := by
                  have := hb (i - 1) (by omega)
                  simp [badAt, he'] at this; exact this.1
                simp [isK, isKB, tupD, sizeLine_eq, Hold, r0, r3, r4, hi, ei, he', hle _ e e' rfl hm (List.mem_of_getElem? he') hp hp' rfl]
                cases le e e' <;> simp [isK, isKB, tupD, sizeLine_eq, Hold, r0, r3, r4]
              · have ez : i = 0 := by omega
                subst ez
                simp [isK, isKB, tupD, sizeLine_eq, Hold, r0, r3, r4])
        rcases key with ⟨hn, ρ', μ', rfl, hI⟩ | ⟨i, v, hi, hb, hv, μ', rfl, hI⟩
        · obtain ⟨_, _, _, rfl⟩ := hI
          simp [isK, isKB, tupD, sizeLine_eq, ]
          rw [firstP_none.mpr fun i hi => by have := hn i (by simpa using hi); simpa using this]
        · subst hI
          simp at hv hi
          rw [firstP_some hi hv.1 fun j hj => by have := hb j hj; simpa using this, ← hv.2]
          simp [isK, isKB, tupD, sizeLine_eq, ]
      · simp [isK, isKB, tupD, sizeLine_eq, h1, h2, wrongD]
    · simp [isK, isKB, tupD, sizeLine_eq, h1, wrongD]
  all_goals simp [isK, isKB, tupD, sizeLine_eq, wrongD]

/-- strictly rising, by lt -/
def risingB (lt : D → D → Bool) : List D → Bool
  | a :: b :: r => lt a b && risingB lt (b :: r)
  | _ => true
theorem risingB_iff {lt : D → D → Bool} : ∀ {l : List D}, risingB lt l = true ↔ ∀ i a b, l[i]? = some a → l[i + 1]? = some b → lt a b = true
  | [] => by simp [risingB]
  | [a] => by simp [risingB]
  | a :: b :: r => by
    simp only [risingB, Bool.and_eq_true, risingB_iff (l := b :: r)]
    constructor
    · rintro ⟨h1, h2⟩ i x y hx hy
      cases i with
      | zero => simp at hx hy; subst hx; subst hy; exact h1
      | succ i => exact h2 i x y (by simpa using hx) (by simpa using hy)
    · intro h
      exact ⟨h 0 a b rfl rfl, fun i x y hx hy => h (i + 1) x y (by simpa using hx) (by simpa using hy)⟩
theorem rising_range {lt : D → D → Bool} {l : List D} : ((List.range (l.length - 1)).all fun i => match l[i]?, l[i + 1]? with | some a, some b => lt a b | _, _ => true) = risingB lt l := by
  rw [Bool.eq_iff_iff, risingB_iff, List.all_eq_true]
  constructor
  · intro h i a b ha hb
    have hl := (List.getElem?_eq_some_iff.mp hb).1
    have := h i (List.mem_range.mpr (by omega))
    rw [ha, hb] at this; exact this
  · intro h i hi
    have := List.mem_range.mp hi
    rw [List.getElem?_eq_getElem (show i < l.length by omega), List.getElem?_eq_getElem (show i + 1 < l.length by omega)]
    exact h i _ _ (List.getElem?_eq_getElem (by omega)) (List.getElem?_eq_getElem (by omega))
theorem are_rising_ok {v : D} {l : List D} {lt : D → D → Bool} {μ : Mem} (hv : tupD v = some l) (hz : l.length ≤ 100000) (hlt : ∀ e e', e ∈ l → e' ∈ l → ∀ μ, ltF (.d e) (.d e') μ = .ok (.d (.bl (lt e e'))) μ) :
    f_are_rising [.d v] μ = .ok (.d (.bl (risingB lt l))) μ := by
  have hz1 : (l.length : Int) < 4611686018427387904 := by omega
  have hz2 : l.length ≤ 16777217 := by omega
  have key : ∀ ρ μ, (ρ 0 = .d (.tup l) ∨ ρ 0 = .d (.ntp l)) → cLoop (cStep (gN 1) fYes (fOp ltF (fOp ixF (fV 0) (fOp subF (fV 1) (fC (.int 1)))) (fOp ixF (fV 0) (fV 1))) [1] ρ) (rngD 1 (l.length - 1)) μ = .ok ((List.range (l.length - 1)).map fun i => .bl (match l[i]?, l[i + 1]? with | some a, some b => lt a b | _, _ => true)) μ := by
    intro ρ μ hρ
    rw [rngD, cLoop_mapT (f := fun i => .bl (match l[i]?, l[i + 1]? with | some a, some b => lt a b | _, _ => true)) fun i hi => ?_]
    have hi := List.mem_range.mp hi
    have e1 : (1 : Int) + (i : Int) - 1 = (i : Nat) := by omega
    have e2 : (1 : Int) + (i : Int) = ((i + 1 : Nat) : Int) := by omega
    have g1 := List.getElem?_eq_getElem (show i < l.length by omega)
    have g2 := List.getElem?_eq_getElem (show i + 1 < l.length by omega)
    rcases hρ with hρ | hρ <;> simp [isK, isKB, tupD, sizeLine_eq, hρ, e1, e2, g1, g2, hlt _ _ (List.mem_of_getElem? g1) (List.mem_of_getElem? g2)]
  cases v <;> simp [tupD] at hv
  all_goals
    subst hv
    simp [isK, isKB, tupD, sizeLine_eq, f_are_rising, hz1, hz2, key, all_id_map]
    exact rising_range

end PL
namespace PL
open PySem PySem.Spec PyProof.Rows L2
/-! Data with a Lean type: order, equality, membership, sorting. -/
open PySem.W (Datum DatumOrd)
class Enc (α : Type) [DecidableEq α] [DatumOrd α] where
  en : α → D
  okk : α → Bool
  dep : Nat
  py : ∀ a, toPy (en a) = Datum.toD a
  fl : ∀ a k, okk a = true → dep ≤ k → flat k (en a) = true
  trans : ∀ a b c : α, DatumOrd.lt a b = true → DatumOrd.lt b c = true → DatumOrd.lt a c = true
  tri : ∀ a b : α, DatumOrd.lt a b = false → DatumOrd.lt b a = false → a = b
abbrev dlt {α : Type} [DecidableEq α] [DatumOrd α] (a b : α) : Bool := DatumOrd.lt a b
theorem nat_tri {x y : List Nat} (h1 : ¬ x < y) (h2 : ¬ y < x) : x = y := List.le_antisymm (List.not_lt.mp h2) (List.not_lt.mp h1)
theorem str_ext {x y : Str} (h : x.cps.toList = y.cps.toList) : x = y := by
  cases x; cases y; simp only at h; rw [Array.toList_inj.mp h]
instance : Enc Int where
  en := .int
  okk _ := true
  dep := 0
  py a := by simp only [toPy]; rfl
  fl a k _ _ := by cases k <;> rfl
  trans a b c h1 h2 := by have h1 := of_decide_eq_true h1; have h2 := of_decide_eq_true h2; exact decide_eq_true (by omega)
  tri a b h1 h2 := by have h1 := of_decide_eq_false h1; have h2 := of_decide_eq_false h2; omega
instance : Enc Str where
  en := .str
  okk := PyData.strOk
  dep := 0
  py a := by simp only [toPy]; rfl
  fl a k h _ := by cases k <;> exact h
  trans a b c h1 h2 := by have h1 := of_decide_eq_true h1; have h2 := of_decide_eq_true h2; exact decide_eq_true (List.lt_trans h1 h2)
  tri a b h1 h2 := by have h1 := of_decide_eq_false h1; have h2 := of_decide_eq_false h2; exact str_ext (nat_tri h1 h2)
section
variable {α β : Type} [DecidableEq α] [DatumOrd α] [Enc α] [DecidableEq β] [DatumOrd β] [Enc β]
@[simp] theorem dlt_self (a : α) : DatumOrd.lt a a = false := (DatumOrd.lt_eq a a).symm.trans (PySem.W.dataLt_self _)
theorem dlt_asymm {a b : α} (h : DatumOrd.lt a b = true) : DatumOrd.lt b a = false := by
  cases e : DatumOrd.lt b a with
  | false => rfl
  | true => have := Enc.trans _ _ _ h e; rw [dlt_self] at this; cases this
theorem dlt_ne {a b : α} (h : DatumOrd.lt a b = true) : a ≠ b := fun e => by subst e; rw [dlt_self] at h; cases h
theorem dle_iff {a b : α} : DatumOrd.lt b a = false ↔ DatumOrd.lt a b = true ∨ a = b := by
  constructor
  · intro h
    cases e : DatumOrd.lt a b with
    | true => exact .inl rfl
    | false => exact .inr (Enc.tri _ _ e h)
  · rintro (h | h)
    · exact dlt_asymm h
    · subst h; exact dlt_self _
theorem dlt_pair {p q : α × β} : DatumOrd.lt p q = if p.1 = q.1 then DatumOrd.lt p.2 q.2 else DatumOrd.lt p.1 q.1 := rfl
instance : Enc (α × β) where
  en p := .tup [Enc.en p.1, Enc.en p.2]
  okk p := Enc.okk p.1 && Enc.okk p.2
  dep := max (Enc.dep α) (Enc.dep β) + 1
  py p := by simp only [toPy, toPys, Enc.py]; rfl
  fl p k h hk := by
    cases k with
    | zero => omega
    | succ k =>
      simp only [Bool.and_eq_true] at h
      simp only [flat, flats, Enc.fl p.1 k h.1 (by omega), Enc.fl p.2 k h.2 (by omega), Bool.and_self]
  trans a b c h1 h2 := by
    rw [dlt_pair] at h1 h2 ⊢
    by_cases e1 : a.1 = b.1
    · rw [if_pos e1] at h1
      by_cases e2 : b.1 = c.1
      · rw [if_pos e2] at h2; rw [if_pos (e1.trans e2)]; exact Enc.trans _ _ _ h1 h2
      · rw [if_neg e2] at h2; rw [if_neg (by rw [e1]; exact e2), e1]; exact h2
    · rw [if_neg e1] at h1
      by_cases e2 : b.1 = c.1
      · rw [if_neg (by rw [← e2]; exact e1), ← e2]; exact h1
      · rw [if_neg e2] at h2
        have h3 := Enc.trans _ _ _ h1 h2
        rw [if_neg (dlt_ne h3)]; exact h3
  tri a b h1 h2 := by
    rw [dlt_pair] at h1 h2
    by_cases e1 : a.1 = b.1
    · rw [if_pos e1] at h1; rw [if_pos e1.symm] at h2
      exact Prod.ext e1 (Enc.tri _ _ h1 h2)
    · rw [if_neg e1] at h1; rw [if_neg (fun e => e1 e.symm)] at h2
      exact absurd (Enc.tri _ _ h1 h2) e1
/-- v stands for a: it reads as a does -/
def Is (v : D) (a : α) : Prop := toPy v = Datum.toD a ∧ flat (Enc.dep α) v = true
theorem flat_mono' : ∀ d : D, ∀ n k, flat n d = true → n ≤ k → flat k d = true := by
  intro d
  refine D.rec (motive_1 := fun d => ∀ n k, flat n d = true → n ≤ k → flat k d = true) (motive_2 := fun ds => ∀ n k, flats n ds = true → n ≤ k → flats k ds = true) ?_ ?_ ?_ ?_ ?_ ?_ ?_ ?_ ?_ ?_ ?_ ?_ ?_ ?_ d
  · intro n k h _; cases k <;> rfl
  · intro b n k h _; cases k <;> rfl
  · intro b n k h _; cases k <;> rfl
  · intro x n k h _; cases n <;> cases k <;> exact h
  · intro a n k h; cases n <;> simp [flat] at h
  · intro a n k h; cases n <;> simp [flat] at h
  · intro a n k h; cases n <;> simp [flat] at h
  all_goals first
    | (intro l ih n k h hk
       cases n with
       | zero => simp [flat] at h
       | succ n =>
         cases k with
         | zero => omega
         | succ k => simp only [flat] at h ⊢; exact ih n k h (by omega))
    | (intro t k v _ _ n k h; cases n <;> simp [flat] at h)
    | (intro C k v _ n k h; cases n <;> simp [flat] at h)
    | (intro n k _ _; simp [flats]; done)
    | (intro d ds i1 i2 n k h hk
       simp only [flats, Bool.and_eq_true] at h ⊢
       exact ⟨i1 n k h.1 hk, i2 n k h.2 hk⟩)
theorem Is.en {a : α} (h : Enc.okk a = true) : Is (Enc.en a) a := ⟨Enc.py a, Enc.fl a _ h (Nat.le_refl _)⟩
theorem Is.okEq {v : D} {a : α} (h : Is v a) (hd : Enc.dep α ≤ 60 := by decide) : okEq v = true := flat_mono' _ _ _ h.2 hd
theorem Is.deq {v w : D} {a b : α} (h : Is v a) (h' : Is w b) : deq v w = decide (a = b) := by
  unfold PL.deq; rw [h.1, h'.1, Datum.eqv]
theorem Is.ltD {v w : D} {a b : α} (h : Is v a) (h' : Is w b) : ltD v w = DatumOrd.lt a b := by
  unfold PL.ltD; rw [h.1, h'.1, DatumOrd.lt_eq]
theorem Is.alD {v w : D} {a b : α} (h : Is v a) (h' : Is w b) : alD v w = true := by
  unfold PL.alD; rw [h.1, h'.1]; exact DatumOrd.alike a b
theorem Is.eqF {v w : D} {a b : α} (h : Is v a) (h' : Is w b) {μ : Mem} (hd : Enc.dep α ≤ 60 := by decide) : eqF (.d v) (.d w) μ = .ok (.d (.bl (decide (a = b)))) μ := by
  rw [eqF_d (h.okEq hd) (h'.okEq hd), h.deq h']
theorem Is.neF {v w : D} {a b : α} (h : Is v a) (h' : Is w b) {μ : Mem} (hd : Enc.dep α ≤ 60 := by decide) : neF (.d v) (.d w) μ = .ok (.d (.bl (!decide (a = b)))) μ := by
  rw [neF_d (h.okEq hd) (h'.okEq hd), h.deq h']
theorem Is.ltF {v w : D} {a b : α} (h : Is v a) (h' : Is w b) (t : isTp v = true) (t' : isTp w = true) {μ : Mem} (hd : Enc.dep α ≤ 60 := by decide) : ltF (.d v) (.d w) μ = .ok (.d (.bl (DatumOrd.lt a b))) μ := by
  rw [ltF_t t t', grd_pos ⟨t, t', h.okEq hd, h'.okEq hd, h.alD h'⟩, h.ltD h']; rfl
theorem Is.leF {v w : D} {a b : α} (h : Is v a) (h' : Is w b) (t : isTp v = true) (t' : isTp w = true) {μ : Mem} (hd : Enc.dep α ≤ 60 := by decide) : leF (.d v) (.d w) μ = .ok (.d (.bl (!DatumOrd.lt b a))) μ := by
  rw [leF_t t t', grd_pos ⟨t, t', h.okEq hd, h'.okEq hd, h.alD h'⟩, h'.ltD h]; rfl
theorem Is.pair {v w : D} {a : α} {b : β} (h : Is v a) (h' : Is w b) : Is (.tup [v, w]) (a, b) := by
  refine ⟨by simp only [toPy, toPys, h.1, h'.1]; rfl, ?_⟩
  show flat (max (Enc.dep α) (Enc.dep β) + 1) _ = true
  simp only [flat, flats, flat_mono' _ _ _ h.2 (Nat.le_max_left _ _), flat_mono' _ _ _ h'.2 (Nat.le_max_right _ _), Bool.and_self]
theorem Is.pairN {v w : D} {a : α} {b : β} (h : Is v a) (h' : Is w b) : Is (.ntp [v, w]) (a, b) := by
  refine ⟨by simp only [toPy, toPys, h.1, h'.1]; rfl, ?_⟩
  show flat (max (Enc.dep α) (Enc.dep β) + 1) _ = true
  simp only [flat, flats, flat_mono' _ _ _ h.2 (Nat.le_max_left _ _), flat_mono' _ _ _ h'.2 (Nat.le_max_right _ _), Bool.and_self]
theorem Is.int (i : Int) : Is (.int i) i := Is.en rfl
theorem Is.str {x : Str} (h : PyData.strOk x = true) : Is (.str x) x := Is.en h
/-! rows -/
theorem flats_of {n : Nat} : ∀ {l : List D}, (∀ d ∈ l, flat n d = true) → flats n l = true
  | [], _ => by simp [flats]
  | d :: l, h => by simp [flats, h d List.mem_cons_self, flats_of (l := l) fun x hx => h x (List.mem_cons_of_mem _ hx)]
theorem okEq_lst {l : List α} (h : ∀ a ∈ l, Enc.okk a = true) (hd : Enc.dep α ≤ 59 := by decide) : okEq (.lst (l.map Enc.en)) = true := by
  show flat (59 + 1) _ = true
  rw [flat]
  exact flats_of fun d hm => by obtain ⟨a, ha, rfl⟩ := List.mem_map.mp hm; exact Enc.fl a _ (h a ha) hd
theorem okEq_tup {l : List α} (h : ∀ a ∈ l, Enc.okk a = true) (hd : Enc.dep α ≤ 59 := by decide) : okEq (.tup (l.map Enc.en)) = true := by
  show flat (59 + 1) _ = true
  rw [flat]
  exact flats_of fun d hm => by obtain ⟨a, ha, rfl⟩ := List.mem_map.mp hm; exact Enc.fl a _ (h a ha) hd
theorem okEq_ntp {l : List α} (h : ∀ a ∈ l, Enc.okk a = true) (hd : Enc.dep α ≤ 59 := by decide) : okEq (.ntp (l.map Enc.en)) = true := by
  show flat (59 + 1) _ = true
  rw [flat]
  exact flats_of fun d hm => by obtain ⟨a, ha, rfl⟩ := List.mem_map.mp hm; exact Enc.fl a _ (h a ha) hd
theorem inD_en {v : D} {a : α} {l : List α} (h : Is v a) : inD v (l.map Enc.en) = decide (a ∈ l) := by
  unfold inD
  rw [List.any_map, Bool.eq_iff_iff, List.any_eq_true]
  have e : ∀ b : α, (((fun z => PL.deq z v) ∘ Enc.en) b) = decide (b = a) := fun b => by
    show PL.deq (Enc.en b) v = _
    unfold PL.deq; rw [h.1, Enc.py, Datum.eqv]
  constructor
  · rintro ⟨b, hb, h2⟩; rw [e] at h2; have := of_decide_eq_true h2; subst this; exact decide_eq_true hb
  · intro h2; exact ⟨a, of_decide_eq_true h2, by rw [e]; exact decide_eq_true rfl⟩
/-- sorted -/
def srt (l : List α) : List α := l.mergeSort fun a b => !DatumOrd.lt b a
theorem srt_perm (l : List α) : (srt l).Perm l := List.mergeSort_perm _ _
@[simp] theorem srt_length (l : List α) : (srt l).length = l.length := (srt_perm l).length_eq
theorem mem_srt {l : List α} {a : α} : a ∈ srt l ↔ a ∈ l := (srt_perm l).mem_iff
theorem srtD_en (l : List α) : srtD (l.map Enc.en) = (srt l).map Enc.en := by
  unfold srtD srt
  refine (List.map_mergeSort (f := Enc.en) (r := fun a b => !DatumOrd.lt b a) (s := PySem.W.dataLe false toPy) (l := l) fun a _ b _ => ?_).symm
  show _ = (!PySem.W.dataLt (toPy (Enc.en b)) (toPy (Enc.en a)))
  rw [Enc.py, Enc.py, DatumOrd.lt_eq]
theorem srt_le (l : List α) : (srt l).Pairwise fun a b => DatumOrd.lt b a = false := by
  have h := List.pairwise_mergeSort (le := fun a b : α => !DatumOrd.lt b a) (fun a b c h1 h2 => by
    simp only [Bool.not_eq_true'] at h1 h2 ⊢
    rcases dle_iff.mp h1 with h1 | rfl
    · rcases dle_iff.mp h2 with h2 | rfl
      · exact dlt_asymm (Enc.trans _ _ _ h1 h2)
      · exact dlt_asymm h1
    · exact h2) (fun a b => by
    cases e : DatumOrd.lt b a with
    | false => rfl
    | true => rw [dlt_asymm e]; rfl) l
  exact h.imp fun h => by simpa using h
theorem srt_lt {l : List α} (h : l.Nodup) : (srt l).Pairwise fun a b => DatumOrd.lt a b = true := by
  have h1 := srt_le l
  have h2 : (srt l).Nodup := (srt_perm l).nodup_iff.mpr h
  exact (h1.and h2).imp fun ⟨h1, h2⟩ => (dle_iff.mp h1).resolve_right h2
theorem okSort_en {l : List α} (h : ∀ a ∈ l, Enc.okk a = true) (hs : ∀ a ∈ l, (∃ x r, Datum.toD a = PyData.tuple (x :: r)) ∨ ∀ b : α, ∀ xs, Datum.toD b ≠ PyData.tuple xs) (hd : Enc.dep α ≤ 60 := by decide) : okSort (l.map Enc.en) := by
  refine ⟨fun d hm => ?_, ?_, ?_⟩
  · obtain ⟨a, ha, rfl⟩ := List.mem_map.mp hm; exact Enc.fl a _ (h a ha) hd
  · intro d hd d' hd'
    rw [List.map_map] at hd hd'
    obtain ⟨a, _, rfl⟩ := List.mem_map.mp hd
    obtain ⟨b, _, rfl⟩ := List.mem_map.mp hd'
    show PySem.W.alike (toPy (Enc.en a)) (toPy (Enc.en b)) = true
    rw [Enc.py, Enc.py]; exact DatumOrd.alike a b
  · rw [List.map_map]
    by_cases hc : ∃ b : α, ∃ xs, Datum.toD b = PyData.tuple xs
    · left
      intro d hd
      obtain ⟨a, ha, rfl⟩ := List.mem_map.mp hd
      rcases hs a ha with h | h
      · obtain ⟨x, r, e⟩ := h; exact ⟨x, r, (Enc.py a).trans e⟩
      · obtain ⟨b, xs, e⟩ := hc; exact absurd e (h b xs)
    · right
      intro d hd
      obtain ⟨a, ha, rfl⟩ := List.mem_map.mp hd
      show toPy (Enc.en a) ≠ _ ∧ _
      refine ⟨by rw [Enc.py]; exact DatumOrd.notNone a, fun xs e => hc ⟨a, xs, (Enc.py a).symm.trans e⟩⟩
theorem okSort_pair {l : List (α × β)} (h : ∀ a ∈ l, Enc.okk a = true) (hd : Enc.dep (α × β) ≤ 60 := by decide) : okSort (l.map Enc.en) :=
  okSort_en h (fun a _ => .inl ⟨_, _, rfl⟩) hd
end
theorem okSort_str {l : List Str} (h : ∀ a ∈ l, PyData.strOk a = true) : okSort (l.map .str) := okSort_en (α := Str) h fun a _ => .inr fun b xs e => by cases e
theorem okSort_int {l : List Int} : okSort (l.map .int) := okSort_en (α := Int) (fun _ _ => rfl) fun a _ => .inr fun b xs e => by cases e

end PL
namespace PL
open PySem PySem.Spec PyProof.Rows L2
/-! takenorleft.sidework: things, sides, rules, books. -/
open PySem.W (Datum DatumOrd)
noncomputable def f_wrong_in_things : List SV → M SV := fDef 1 (fRet (fCall (callM (f_first_wrong (tabC "is_name" f_is_name tab0))) (fCons (fV 0) (fCons (fC (.int 1)) (fCons (fC (.int 14)) (fCons (fC (.fn "is_name")) (fCons (fC (.bl true)) fNil)))))))
--.
noncomputable def f_is_some_side : List SV → M SV := fDef 1 (fRet (fAnd (fCall (callM f_is_tuple_of) (fCons (fV 0) (fCons (fC (.int 2)) fNil))) (fAnd (fCall (callM f_is_name) (fCons (fOp ixF (fV 0) (fC (.int 0))) fNil)) (fCall (callM f_is_between) (fCons (fOp ixF (fV 0) (fC (.int 1))) (fCons (fC (.int 0)) (fCons (fC (.int 1)) fNil)))))))
--.
noncomputable def f_are_things_by : List SV → M SV := fDef 1 (fRet (fOp eqF (fCall (callM f_wrong_in_things) (fCons (fV 0) fNil)) (fLst fNil)))
--.
noncomputable def f_is_side_by : List SV → M SV := fDef 2 (fRet (fAnd (fCall (callM f_is_some_side) (fCons (fV 1) fNil)) (fOp inF (fOp ixF (fV 1) (fC (.int 0))) (fV 0))))
--.
noncomputable def f_check_things : List SV → M SV := fDef 1 (fFor (itF (fCall (callM f_wrong_in_things) (fCons (fV 0) fNil))) (gN 1) fNever)
--.
noncomputable def f_is_rule_by : List SV → M SV := fDef 2 (fSeq (fIfS (fTOr (fTNot (fT (fCall (callM f_is_tuple_of) (fCons (fV 1) (fCons (fC (.int 2)) fNil))))) (fTOr (fTNot (fT (fCall (callM f_is_side_by) (fCons (fV 0) (fCons (fOp ixF (fV 1) (fC (.int 0))) fNil))))) (fTNot (fT (fCall (callM f_is_side_by) (fCons (fV 0) (fCons (fOp ixF (fV 1) (fC (.int 1))) fNil))))))) (fRet (fC (.bl false))) fSkip)
  (fRet (fOr (fOp eqF (fOp ixF (fV 1) (fC (.int 0))) (fOp ixF (fV 1) (fC (.int 1)))) (fOp ltF (fOp ixF (fOp ixF (fV 1) (fC (.int 0))) (fC (.int 0))) (fOp ixF (fOp ixF (fV 1) (fC (.int 1))) (fC (.int 0)))))))
--.
noncomputable def f_are_rules_by : List SV → M SV := fDef 3 (fSeq (fIfS (fTOr (fTNot (fT (fUn (isiF .tuple) (fV 1)))) (fT (fOp gtF (fCall lenF (fCons (fV 1) fNil)) (fV 2)))) (fRet (fC (.bl false))) fSkip)
  (fRet (fAnd (fCall allF (fCons (fLc finLF (itF (fV 1)) (gN 3) fYes (fCall (callM f_is_rule_by) (fCons (fV 0) (fCons (fV 3) fNil))) [3]) fNil)) (fCall (callM f_are_rising) (fCons (fV 1) fNil)))))
--.
noncomputable def f_is_book_by : List SV → M SV := fDef 1 (fSeq (fIfS (fTOr (fTNot (fT (fCall (callM f_is_tuple_of) (fCons (fV 0) (fCons (fC (.int 2)) fNil))))) (fTNot (fT (fCall (callM f_are_things_by) (fCons (fOp ixF (fV 0) (fC (.int 0))) fNil))))) (fRet (fC (.bl false))) fSkip)
  (fRet (fCall (callM f_are_rules_by) (fCons (fOp ixF (fV 0) (fC (.int 0))) (fCons (fOp ixF (fV 0) (fC (.int 1))) (fCons (fC (.int 60)) fNil))))))
--.
noncomputable def f_are_things : List SV → M SV := fDef 1 (fRet (fCall (callM f_are_things_by) (fCons (fV 0) fNil)))
--.
noncomputable def f_is_side : List SV → M SV := fDef 2 (fSeq (fExpr (fCall (callM f_check_things) (fCons (fV 0) fNil)))
  (fRet (fCall (callM f_is_side_by) (fCons (fV 0) (fCons (fV 1) fNil)))))
--.
noncomputable def f_is_rule : List SV → M SV := fDef 2 (fSeq (fExpr (fCall (callM f_check_things) (fCons (fV 0) fNil)))
  (fRet (fCall (callM f_is_rule_by) (fCons (fV 0) (fCons (fV 1) fNil)))))
--.
noncomputable def f_is_book : List SV → M SV := fDef 1 (fRet (fCall (callM f_is_book_by) (fCons (fV 0) fNil)))
--.
abbrev Side := Str × Int
abbrev Rule := Side × Side
def sltD (u v : D) : Bool := match u, v with
  | .str x, .str y => decide (x.cps.toList < y.cps.toList)
  | _, _ => false
/-- things: names, strictly rising, 1 to 14 -/
def thingsB (v : D) : Bool := match tupD v with
  | some l => decide (1 ≤ l.length) && decide (l.length ≤ 14) && l.all nameB && risingB sltD l
  | none => false
structure Ths (v : D) (ths : List Str) : Prop where
  tup : v = .tup (ths.map .str) ∨ v = .ntp (ths.map .str)
  name : ∀ x ∈ ths, nmB x = true ∧ PyData.strOk x = true ∧ x.length ≤ 1000
  lo : 1 ≤ ths.length
  hi : ths.length ≤ 14
  rise : ths.Pairwise fun a b => DatumOrd.lt a b = true
theorem nameB_str {v : D} (h : nameB v = true) : ∃ x, v = .str x ∧ nmB x = true := by
  cases v <;> simp [nameB] at h
  exact ⟨_, rfl, h⟩
theorem names_strs : ∀ {l : List D}, l.all nameB = true → plains l = true → ∃ xs : List Str, l = xs.map .str ∧ ∀ x ∈ xs, nmB x = true ∧ PyData.strOk x = true ∧ x.length ≤ 1000
  | [], _, _ => ⟨[], rfl, fun x h => by simp at h⟩
  | d :: l, h, hp => by
    rw [List.all_cons, Bool.and_eq_true] at h
    rw [plains_cons, Bool.and_eq_true] at hp
    obtain ⟨x, rfl, h1⟩ := nameB_str h.1
    obtain ⟨xs, rfl, h2⟩ := names_strs h.2 hp.2
    refine ⟨x :: xs, rfl, fun y hy => ?_⟩
    rcases List.mem_cons.mp hy with rfl | hy
    · have := hp.1; simp at this; exact ⟨h1, this⟩
    · exact h2 y hy
theorem risingB_pair {α : Type} {lt : D → D → Bool} {r : α → α → Bool} {en : α → D} (hl : ∀ a b, lt (en a) (en b) = r a b) (ht : ∀ a b c, r a b = true → r b c = true → r a c = true) : ∀ {l : List α}, risingB lt (l.map en) = true ↔ l.Pairwise fun a b => r a b = true
  | [] => by simp [risingB]
  | [a] => by simp [risingB]
  | a :: b :: l => by
    have ih := risingB_pair hl ht (l := b :: l)
    simp only [List.map_cons] at ih
    simp only [List.map_cons, risingB, Bool.and_eq_true, ih, hl]
    constructor
    · rintro ⟨h1, h2⟩
      refine List.pairwise_cons.mpr ⟨fun c hc => ?_, h2⟩
      rcases List.mem_cons.mp hc with rfl | hc
      · exact h1
      · exact ht _ _ _ h1 ((List.pairwise_cons.mp h2).1 c hc)
    · intro h
      exact ⟨(List.pairwise_cons.mp h).1 b List.mem_cons_self, (List.pairwise_cons.mp h).2⟩
theorem sltD_str (a b : Str) : sltD (.str a) (.str b) = DatumOrd.lt a b := rfl
theorem rising_strs {xs : List Str} : risingB sltD (xs.map .str) = true ↔ xs.Pairwise fun a b => DatumOrd.lt a b = true := risingB_pair sltD_str Enc.trans
theorem thingsB_ths {v : D} (h : thingsB v = true) (hp : plain v = true) : ∃ ths, Ths v ths := by
  unfold thingsB at h
  cases e : tupD v with
  | none => rw [e] at h; cases h
  | some l =>
    rw [e] at h
    simp only [Bool.and_eq_true, decide_eq_true_eq] at h
    have hv : (v = .tup l ∨ v = .ntp l) ∧ plains l = true := by
      cases v <;> simp [tupD] at e <;> subst e <;> simp at hp
      · exact ⟨.inl rfl, hp.2⟩
      · exact ⟨.inr rfl, hp.2⟩
    obtain ⟨xs, rfl, h2⟩ := names_strs h.1.2 hv.2
    exact ⟨xs, hv.1, h2, by simpa using h.1.1.1, by simpa using h.1.1.2, rising_strs.mp h.2⟩
theorem Ths.thingsB {v : D} {ths : List Str} (h : Ths v ths) : thingsB v = true := by
  have e : tupD v = some (ths.map .str) := by rcases h.tup with e | e <;> rw [e] <;> rfl
  unfold PL.thingsB
  rw [e]
  simp only [Bool.and_eq_true, decide_eq_true_eq]
  refine ⟨⟨⟨by simpa using h.lo, by simpa using h.hi⟩, ?_⟩, rising_strs.mpr h.rise⟩
  rw [List.all_map, List.all_eq_true]
  exact fun x hx => (h.name x hx).1
def sleD (u v : D) : Bool := !sltD v u
theorem wrong_things {v : D} : wrongD nameB sleD true 1 14 v = .lst [] ↔ thingsB v = true := by
  unfold wrongD thingsB
  cases e : tupD v with
  | none => simp
  | some l =>
    simp only
    by_cases h : (1 : Int) ≤ l.length ∧ (l.length : Int) ≤ 14
    · rw [if_pos h]
      have h1 : decide (1 ≤ l.length) = true := decide_eq_true (by omega)
      have h2 : decide (l.length ≤ 14) = true := decide_eq_true (by omega)
      rw [h1, h2, Bool.true_and, Bool.true_and, Bool.and_eq_true, risingB_iff, List.all_eq_true]
      have key : firstP l.length (badAt nameB sleD true l) = none ↔ (∀ (x : D), x ∈ l → nameB x = true) ∧ ∀ (i : Nat) (a b : D), l[i]? = some a → l[i + 1]? = some b → sltD a b = true := ?_
      · rw [← key]
        cases firstP l.length (badAt nameB sleD true l) <;> simp
      rw [firstP_none]
      constructor
      · intro g
        refine ⟨fun d hd => ?_, fun i a b ha hb => ?_⟩
        · obtain ⟨i, hi, rfl⟩ := List.mem_iff_getElem.mp hd
          have := g i hi
          unfold badAt at this
          rw [List.getElem?_eq_getElem hi] at this
          simp at this; exact this.1
        · have hl := (List.getElem?_eq_some_iff.mp hb).1
          have := g (i + 1) hl
          unfold badAt at this
          rw [hb] at this
          simp [ha, sleD] at this; exact this.2
      · rintro ⟨g1, g2⟩ i hi
        unfold badAt
        rw [List.getElem?_eq_getElem hi]
        simp only [g1 _ (List.getElem_mem hi), Bool.not_true, Bool.false_or, Bool.true_and]
        by_cases h0 : 0 < i
        · have e1 : l[i - 1]? = some l[i - 1] := List.getElem?_eq_getElem (by omega)
          have e2 : l[i - 1 + 1]? = some l[i] := by rw [show i - 1 + 1 = i by omega]; exact List.getElem?_eq_getElem hi
          rw [e1]
          simp [sleD, g2 _ _ _ e1 e2]
        · simp [h0]
    · rw [if_neg h]
      have : ¬ (1 ≤ l.length ∧ l.length ≤ 14) := by omega
      simp only [Bool.and_eq_true, decide_eq_true_eq]
      constructor
      · intro g; simp at g
      · intro g; exact absurd g.1.1 this
theorem wrong_in_things_ok {v : D} {μ : Mem} (h : plain v = true) : f_wrong_in_things [.d v] μ = .ok (.d (wrongD nameB sleD true 1 14 v)) μ := by
  have key : ∀ μ, f_first_wrong (tabC "is_name" f_is_name tab0) [.d v, .d (.int 1), .d (.int 14), .d (.fn "is_name"), .d (.bl true)] μ = .ok (.d (wrongD nameB sleD true 1 14 v)) μ := fun μ => by
    have hm : ∀ l e, tupD v = some l → e ∈ l → plain e = true := fun l e hl he => by
      cases v <;> simp [tupD] at hl <;> subst hl <;> simp at h <;> exact plains_iff.mp h.2 e he
    refine first_wrong_ok (T := tabC "is_name" f_is_name tab0) (g := f_is_name) h rfl (fun l e hl he => ⟨_, is_name_ok (hm l e hl he)⟩) fun l e e' hl he he' hp hp' _ μ => ?_
    obtain ⟨x, rfl, _⟩ := nameB_str hp
    obtain ⟨y, rfl, _⟩ := nameB_str hp'
    exact leF_s
  simp [isK, isKB, tupD, sizeLine_eq, f_wrong_in_things, key]
theorem okEq_wrong {P : D → Bool} {le : D → D → Bool} {r : Bool} {lo hi : Int} {v : D} : okEq (wrongD P le r lo hi v) = true := by
  unfold wrongD
  split
  · rfl
  · split
    · split <;> rfl
    · rfl
theorem wrong_shape {P : D → Bool} {le : D → D → Bool} {r : Bool} {lo hi : Int} {v : D} : wrongD P le r lo hi v = .lst [] ∨ ∃ d, wrongD P le r lo hi v = .lst [d] ∧ (d = .non ∨ ∃ i, d = .int i) := by
  unfold wrongD
  split
  · exact .inr ⟨_, rfl, .inl rfl⟩
  · split
    · split
      · exact .inl rfl
      · exact .inr ⟨_, rfl, .inr ⟨_, rfl⟩⟩
    · exact .inr ⟨_, rfl, .inl rfl⟩
theorem deq_nil_nil : deq (.lst []) (.lst []) = true := by simp [deq, toPy, toPys, PyData.eqv, PyData.eqvAll]
theorem deq_one_nil {d : D} : deq (.lst [d]) (.lst []) = false := by simp [deq, toPy, toPys, PyData.eqv, PyData.eqvAll]
theorem are_things_by_ok {v : D} {μ : Mem} (h : plain v = true) : f_are_things_by [.d v] μ = .ok (.d (.bl (thingsB v))) μ := by
  simp [isK, isKB, tupD, sizeLine_eq, f_are_things_by, wrong_in_things_ok h, eqF_d okEq_wrong (show okEq (.lst []) = true from rfl)]
  rw [Bool.eq_iff_iff, ← wrong_things]
  rcases wrong_shape (P := nameB) (le := sleD) (r := true) (lo := 1) (hi := 14) (v := v) with e | ⟨d, e, _⟩
  · rw [e, deq_nil_nil]; simp
  · rw [e, deq_one_nil]; simp
theorem are_things_ok {v : D} {μ : Mem} (h : plain v = true) : f_are_things [.d v] μ = .ok (.d (.bl (thingsB v))) μ := by
  simp [isK, isKB, tupD, sizeLine_eq, f_are_things, are_things_by_ok h]
theorem plain_name {x : Str} (h : nmB x = true ∧ PyData.strOk x = true ∧ x.length ≤ 1000) : plain (.str x) = true := by simp [h.2]
theorem Ths.plain {v : D} {ths : List Str} (h : Ths v ths) : plain v = true := by
  have : plains (ths.map .str) = true := plains_iff.mpr fun d hd => by obtain ⟨x, hx, rfl⟩ := List.mem_map.mp hd; exact plain_name (h.name x hx)
  have h2 := h.hi
  rcases h.tup with e | e <;> rw [e] <;> simp [this] <;> omega
theorem check_things_ok {v : D} {ths : List Str} {μ : Mem} (h : Ths v ths) : f_check_things [.d v] μ = .ok (.d .non) μ := by
  simp [isK, isKB, tupD, sizeLine_eq, f_check_things, wrong_in_things_ok h.plain, wrong_things.mpr h.thingsB]
/-- a side of anything -/
def sideOf (v : D) : Option Side := match tupD v with
  | some [.str n, .int b] => if nmB n && (decide (0 ≤ b) && decide (b ≤ 1)) then some (n, b) else none
  | _ => none
theorem sideOf_some {v : D} {s : Side} (h : sideOf v = some s) : (v = .tup [.str s.1, .int s.2] ∨ v = .ntp [.str s.1, .int s.2]) ∧ nmB s.1 = true ∧ (s.2 = 0 ∨ s.2 = 1) := by
  unfold sideOf at h
  split at h
  · rename_i n b e
    split at h
    · rename_i g
      simp only [Bool.and_eq_true, decide_eq_true_eq] at g
      cases h
      refine ⟨?_, g.1, by simp only; omega⟩
      cases v <;> simp [tupD] at e <;> subst e
      · exact .inl rfl
      · exact .inr rfl
    · cases h
  · cases h
theorem is_some_side_ok {v : D} {μ : Mem} (h : plain v = true) : f_is_some_side [.d v] μ = .ok (.d (.bl (sideOf v).isSome)) μ := by
  simp [isK, isKB, tupD, sizeLine_eq, f_is_some_side, is_tuple_of_ok h, sideOf]
  cases v, h using plain_cases
  case tup l h | ntp l h =>
    match l, h with
    | [], _ => simp [isK, isKB, tupD, sizeLine_eq, ]
    | [a], _ => simp [isK, isKB, tupD, sizeLine_eq, ]
    | a :: b :: c :: r, _ =>
      have : ¬ ((r.length : Int) + 1 + 1 + 1 = 2) := by omega
      simp [isK, isKB, tupD, sizeLine_eq, this]
    | [a, b], h =>
      simp at h
      simp [isK, isKB, tupD, sizeLine_eq, is_name_ok h.1, is_between_ok h.2]
      cases a with
      | str n =>
        cases b with
        | int i => by_cases h1 : 0 ≤ i <;> by_cases h2 : i ≤ 1 <;> cases hn : nmB n <;> simp [isK, isKB, tupD, sizeLine_eq, nameB, hn, is_between_ok h.2, betwB, h1, h2]
        | _ => cases hn : nmB n <;> simp [isK, isKB, tupD, sizeLine_eq, nameB, hn, is_between_ok h.2, betwB]
      | _ => simp [isK, isKB, tupD, sizeLine_eq, nameB]
  all_goals simp [isK, isKB, tupD, sizeLine_eq, ]
def sideIn (ths : List Str) (v : D) : Bool := match sideOf v with
  | some s => decide (s.1 ∈ ths)
  | none => false
theorem inF_things {v : D} {ths : List Str} {x : Str} {μ : Mem} (h : Ths v ths) (hx : PyData.strOk x = true) : inF (.d (.str x)) (.d v) μ = .ok (.d (.bl (decide (x ∈ ths)))) μ := by
  have e1 : okEq (.str x) = true := (Is.str hx).okEq
  have e2 := inD_en (l := ths) (Is.str hx)
  rcases h.tup with e | e <;> rw [e] <;> unfold inF <;> simp only [inO]
  · have e3 : okEq (.tup (ths.map .str)) = true := okEq_tup (α := Str) fun a ha => (h.name a ha).2.1
    simp [e1, e3]; exact e2
  · have e3 : okEq (.ntp (ths.map .str)) = true := okEq_ntp (α := Str) fun a ha => (h.name a ha).2.1
    simp [e1, e3]; exact e2
theorem is_side_by_ok {t v : D} {ths : List Str} {μ : Mem} (ht : Ths t ths) (h : plain v = true) : f_is_side_by [.d t, .d v] μ = .ok (.d (.bl (sideIn ths v))) μ := by
  simp [isK, isKB, tupD, sizeLine_eq, f_is_side_by, is_some_side_ok h, sideIn]
  cases e : sideOf v with
  | none => simp [isK, isKB, tupD, sizeLine_eq, ]
  | some s =>
    obtain ⟨e1, e2, e3⟩ := sideOf_some e
    have hx : PyData.strOk s.1 = true := by rcases e1 with e1 | e1 <;> rw [e1] at h <;> simp at h <;> exact h.1
    rcases e1 with e1 | e1 <;> simp [isK, isKB, tupD, sizeLine_eq, e1, inF_things ht hx]
theorem is_side_ok {t v : D} {ths : List Str} {μ : Mem} (ht : Ths t ths) (h : plain v = true) : f_is_side [.d t, .d v] μ = .ok (.d (.bl (sideIn ths v))) μ := by
  simp [isK, isKB, tupD, sizeLine_eq, f_is_side, check_things_ok ht, is_side_by_ok ht h]
/-- a rule of anything -/
def goodRule (r : Rule) : Bool := decide (r.1 = r.2) || DatumOrd.lt r.1.1 r.2.1
def ruleOf (v : D) : Option Rule := match tupD v with
  | some [a, b] => match sideOf a, sideOf b with
    | some s, some t => if goodRule (s, t) then some (s, t) else none
    | _, _ => none
  | _ => none
def ruleIn (ths : List Str) (v : D) : Bool := match ruleOf v with
  | some r => decide (r.1.1 ∈ ths) && decide (r.2.1 ∈ ths)
  | none => false
theorem sideOf_is {v : D} {s : Side} (h : sideOf v = some s) (hp : plain v = true) : Is v s ∧ isTp v = true := by
  obtain ⟨e1, e2, e3⟩ := sideOf_some h
  have hx : PyData.strOk s.1 = true := by rcases e1 with e1 | e1 <;> rw [e1] at hp <;> simp at hp <;> exact hp.1
  rcases e1 with e1 | e1 <;> rw [e1]
  · exact ⟨(Is.str hx).pair (Is.int _), rfl⟩
  · exact ⟨(Is.str hx).pairN (Is.int _), rfl⟩
theorem is_rule_by_ok {t v : D} {ths : List Str} {μ : Mem} (ht : Ths t ths) (h : plain v = true) : f_is_rule_by [.d t, .d v] μ = .ok (.d (.bl (ruleIn ths v))) μ := by
  simp [isK, isKB, tupD, sizeLine_eq, f_is_rule_by, is_tuple_of_ok h, ruleIn, ruleOf]
  cases v, h using plain_cases
  case tup l h | ntp l h =>
    match l, h with
    | [], _ => simp [isK, isKB, tupD, sizeLine_eq, ]
    | [a], _ => simp [isK, isKB, tupD, sizeLine_eq, ]
    | a :: b :: c :: r, _ =>
      have : ¬ ((r.length : Int) + 1 + 1 + 1 = 2) := by omega
      simp [isK, isKB, tupD, sizeLine_eq, this]
    | [a, b], h =>
      simp at h
      have k1 := fun μ => is_side_by_ok (μ := μ) ht h.1
      have k2 := fun μ => is_side_by_ok (μ := μ) ht h.2
      unfold sideIn at k1 k2
      cases ea : sideOf a with
      | none => simp [isK, isKB, tupD, sizeLine_eq, k1, ea]
      | some s =>
        cases eb : sideOf b with
        | none => by_cases m1 : s.1 ∈ ths <;> simp [isK, isKB, tupD, sizeLine_eq, k1, k2, ea, eb, m1]
        | some u =>
          have ha := sideOf_is ea h.1
          have hb := sideOf_is eb h.2
          obtain ⟨a1, a2, _⟩ := sideOf_some ea
          obtain ⟨b1, b2, _⟩ := sideOf_some eb
          have q := fun μ => ha.1.eqF (μ := μ) hb.1
          have i1 : ∀ μ, ixOf (.d a) μ 0 = some (.str s.1) := by rcases a1 with a1 | a1 <;> rw [a1] <;> simp
          have i2 : ∀ μ, ixOf (.d b) μ 0 = some (.str u.1) := by rcases b1 with b1 | b1 <;> rw [b1] <;> simp
          have e3 : ∀ μ, ltF (.d (.str s.1)) (.d (.str u.1)) μ = .ok (.d (.bl (DatumOrd.lt s.1 u.1))) μ := fun μ => rfl
          by_cases m1 : s.1 ∈ ths <;> by_cases m2 : u.1 ∈ ths <;> by_cases e : s = u <;> cases e2 : DatumOrd.lt s.1 u.1 <;> simp [isK, isKB, tupD, k1, k2, ea, eb, m1, m2, q, i1, i2, e3, e, e2, goodRule]
  all_goals simp [isK, isKB, tupD, sizeLine_eq, ]
theorem is_rule_ok {t v : D} {ths : List Str} {μ : Mem} (ht : Ths t ths) (h : plain v = true) : f_is_rule [.d t, .d v] μ = .ok (.d (.bl (ruleIn ths v))) μ := by
  simp [isK, isKB, tupD, sizeLine_eq, f_is_rule, check_things_ok ht, is_rule_by_ok ht h]
theorem ruleOf_some {v : D} {r : Rule} (h : ruleOf v = some r) : ∃ a b, (v = .tup [a, b] ∨ v = .ntp [a, b]) ∧ sideOf a = some r.1 ∧ sideOf b = some r.2 ∧ goodRule r = true := by
  unfold ruleOf at h
  split at h
  · rename_i a b e
    split at h
    · rename_i s u es eu
      split at h
      · rename_i g
        cases h
        refine ⟨a, b, ?_, es, eu, g⟩
        cases v <;> simp [tupD] at e <;> subst e
        · exact .inl rfl
        · exact .inr rfl
      · cases h
    · cases h
  · cases h
theorem ruleOf_is {v : D} {r : Rule} (h : ruleOf v = some r) (hp : plain v = true) : Is v r ∧ isTp v = true := by
  obtain ⟨a, b, e, h1, h2, h3⟩ := ruleOf_some h
  have hab : plain a = true ∧ plain b = true := by rcases e with e | e <;> rw [e] at hp <;> simp at hp <;> exact hp
  rcases e with e | e <;> rw [e]
  · exact ⟨(sideOf_is h1 hab.1).1.pair (sideOf_is h2 hab.2).1, rfl⟩
  · exact ⟨(sideOf_is h1 hab.1).1.pairN (sideOf_is h2 hab.2).1, rfl⟩
theorem ruleIn_some {ths : List Str} {v : D} (h : ruleIn ths v = true) : ∃ r, ruleOf v = some r ∧ r.1.1 ∈ ths ∧ r.2.1 ∈ ths := by
  unfold ruleIn at h
  split at h
  · rename_i r e
    simp at h; exact ⟨r, e, h⟩
  · cases h
theorem ruleIn_ltF {ths : List Str} {v w : D} {μ : Mem} (h : ruleIn ths v = true) (h' : ruleIn ths w = true) (hp : plain v = true) (hp' : plain w = true) : ltF (.d v) (.d w) μ = .ok (.d (.bl (ltD v w))) μ := by
  obtain ⟨r, e, _⟩ := ruleIn_some h
  obtain ⟨r', e', _⟩ := ruleIn_some h'
  have a := ruleOf_is e hp
  have b := ruleOf_is e' hp'
  rw [a.1.ltF b.1 a.2 b.2, a.1.ltD b.1]
def rulesIn (ths : List Str) (v : D) (most : Nat) : Bool := match tupD v with
  | some l => decide (l.length ≤ most) && (l.all (ruleIn ths) && risingB ltD l)
  | none => false
theorem are_rules_by_ok {t v : D} {ths : List Str} {m : Nat} {μ : Mem} (ht : Ths t ths) (h : plain v = true) : f_are_rules_by [.d t, .d v, .d (.int m)] μ = .ok (.d (.bl (rulesIn ths v m))) μ := by
  simp [isK, isKB, tupD, sizeLine_eq, f_are_rules_by, isK_plain h, rulesIn]
  cases v, h using plain_cases
  case tup l h | ntp l h =>
    simp at h
    by_cases hm : l.length ≤ m
    · have hm2 : ¬ ((m : Int) < l.length) := by omega
      have hz : l.length ≤ 16777216 := by omega
      simp [isK, isKB, tupD, sizeLine_eq, hm, hm2, hz]
      rw [cLoop_map (f := fun e => .bl (ruleIn ths e)) fun d hd => by simp [isK, isKB, tupD, sizeLine_eq, is_rule_by_ok ht (plains_iff.mp h.2 d hd)]]
      cases ha : l.all (ruleIn ths) with
      | false => simp [isK, isKB, tupD, sizeLine_eq, all_id_map, ha]
      | true =>
        have ha2 := List.all_eq_true.mp ha
        first
        | have k := fun μ => are_rising_ok (μ := μ) (v := .tup l) (lt := ltD) rfl h.1 fun e e' he he' μ => ruleIn_ltF (ha2 e he) (ha2 e' he') (plains_iff.mp h.2 e he) (plains_iff.mp h.2 e' he')
          simp [isK, isKB, tupD, sizeLine_eq, all_id_map, ha, k]; done
        | have k := fun μ => are_rising_ok (μ := μ) (v := .ntp l) (lt := ltD) rfl h.1 fun e e' he he' μ => ruleIn_ltF (ha2 e he) (ha2 e' he') (plains_iff.mp h.2 e he) (plains_iff.mp h.2 e' he')
          simp [isK, isKB, tupD, sizeLine_eq, all_id_map, ha, k]; done
    · have hm2 : (m : Int) < l.length := by omega
      simp [isK, isKB, tupD, sizeLine_eq, hm, hm2]
  all_goals simp [isK, isKB, tupD, sizeLine_eq, ]
def namesOf (v : D) : List Str := match tupD v with
  | some l => l.filterMap fun d => match d with | .str x => some x | _ => none
  | none => []
theorem Ths.names {v : D} {ths : List Str} (h : Ths v ths) : namesOf v = ths := by
  have e : tupD v = some (ths.map .str) := by rcases h.tup with e | e <;> rw [e] <;> rfl
  unfold namesOf; rw [e]; simp only [List.filterMap_map]
  exact List.filterMap_some
theorem thingsB_names {v : D} (h : thingsB v = true) (hp : plain v = true) : Ths v (namesOf v) := by
  obtain ⟨ths, t⟩ := thingsB_ths h hp
  rw [t.names]; exact t
def bookB (v : D) : Bool := match tupD v with
  | some [t, r] => thingsB t && rulesIn (namesOf t) r 60
  | _ => false
theorem is_book_by_ok {v : D} {μ : Mem} (h : plain v = true) : f_is_book_by [.d v] μ = .ok (.d (.bl (bookB v))) μ := by
  simp [isK, isKB, tupD, sizeLine_eq, f_is_book_by, is_tuple_of_ok h, bookB]
  cases v, h using plain_cases
  case tup l h | ntp l h =>
    match l, h with
    | [], _ => simp [isK, isKB, tupD, sizeLine_eq, ]
    | [a], _ => simp [isK, isKB, tupD, sizeLine_eq, ]
    | a :: b :: c :: r, _ =>
      have : ¬ ((r.length : Int) + 1 + 1 + 1 = 2) := by omega
      simp [isK, isKB, tupD, sizeLine_eq, this]
    | [a, b], h =>
      simp at h
      have k1 := fun μ => are_things_by_ok (μ := μ) h.1
      cases ha : thingsB a with
      | false => simp [isK, isKB, tupD, sizeLine_eq, k1, ha]
      | true =>
        have k2 : ∀ μ, f_are_rules_by [.d a, .d b, .d (.int 60)] μ = .ok (.d (.bl (rulesIn (namesOf a) b 60))) μ := fun μ => are_rules_by_ok (m := 60) (thingsB_names ha h.1) h.2
        simp [isK, isKB, tupD, sizeLine_eq, k1, k2, ha]
  all_goals simp [isK, isKB, tupD, sizeLine_eq, ]
theorem is_book_ok {v : D} {μ : Mem} (h : plain v = true) : f_is_book [.d v] μ = .ok (.d (.bl (bookB v))) μ := by
  simp [isK, isKB, tupD, sizeLine_eq, f_is_book, is_book_by_ok h]

end PL
namespace PL
open PySem PySem.Spec PyProof.Rows L2
/-! Slices, texts. -/
theorem sIx_pos {n d : Nat} {k : Int} (h : 0 ≤ k) : HT.sIx n d (some k) = min k.toNat n := by
  show (if k < 0 then _ else min k.toNat n) = _
  rw [if_neg (by omega)]
theorem sIx_neg {n d : Nat} {k : Int} (h : k < 0) : HT.sIx n d (some k) = (k + n).toNat := by
  show (if k < 0 then (k + (n : Int)).toNat else _) = _
  rw [if_pos h]
theorem cutD_take {l : List D} {k : Int} (h : 0 ≤ k) : cutD l none (some k) = l.take k.toNat := by
  unfold cutD
  rw [sIx_pos h]
  show (l.drop 0).take (min k.toNat l.length - 0) = _
  rw [List.drop_zero, Nat.sub_zero, ← List.take_eq_take_min]
theorem cutD_drop {l : List D} {k : Int} (h : 0 ≤ k) : cutD l (some k) none = l.drop k.toNat := by
  unfold cutD
  rw [sIx_pos h]
  show (l.drop (min k.toNat l.length)).take (l.length - min k.toNat l.length) = _
  rw [List.take_of_length_le (by simp)]
  by_cases g : k.toNat ≤ l.length
  · rw [Nat.min_eq_left g]
  · rw [Nat.min_eq_right (by omega), List.drop_eq_nil_of_le (Nat.le_refl _), List.drop_eq_nil_of_le (by omega)]
theorem cutD_mid {l : List D} {j k : Int} (hj : 0 ≤ j) (h : 0 ≤ k) : cutD l (some j) (some k) = (l.take k.toNat).drop j.toNat := by
  unfold cutD
  rw [sIx_pos h, sIx_pos hj, List.drop_take]
  by_cases g : j.toNat ≤ l.length
  · rw [Nat.min_eq_left g]
    by_cases g2 : k.toNat ≤ l.length
    · rw [Nat.min_eq_left g2]
    · rw [Nat.min_eq_right (by omega), List.take_of_length_le (by simp), List.take_of_length_le (by simp; omega)]
  · rw [Nat.min_eq_right (a := j.toNat) (by omega), List.drop_eq_nil_of_le (Nat.le_refl _), List.drop_eq_nil_of_le (by omega)]; simp
theorem cutD_init {l : List D} : cutD l none (some (-1)) = l.dropLast := by
  unfold cutD
  rw [sIx_neg (by omega)]
  show (l.drop 0).take ((-1 + (l.length : Int)).toNat - 0) = _
  rw [List.drop_zero, List.dropLast_eq_take]; congr 1; omega
theorem cutD_tail {l : List D} : cutD l (some (-1)) none = l.drop (l.length - 1) := by
  unfold cutD
  rw [sIx_neg (by omega), show (-1 + (l.length : Int)).toNat = l.length - 1 by omega]
  show (l.drop (l.length - 1)).take (l.length - (l.length - 1)) = _
  rw [List.take_of_length_le (by simp)]
theorem cutD_nn {l : List D} : cutD l none none = l := by
  unfold cutD
  show (l.drop 0).take (l.length - 0) = l
  simp
/-- a slice of a tuple, as data -/
theorem cutN_tup {l : List D} {lo hi : Option Int} : tupD (cutN l lo hi) = some (cutD l lo hi) := by
  unfold cutN
  split
  · rename_i h
    unfold cutD
    rw [h.1, h.2]; simp [tupD]
  · rfl
theorem cutN_or {l : List D} {lo hi : Option Int} : cutN l lo hi = .tup (cutD l lo hi) ∨ cutN l lo hi = .ntp (cutD l lo hi) := by
  unfold cutN
  split
  · rename_i h
    right
    unfold cutD
    rw [h.1, h.2]; simp
  · exact .inl rfl
/-! texts -/
abbrev cs (x : Str) : List Nat := x.cps.toList
theorem cs_len {x : Str} : x.length = (cs x).length := by simp [Str.length]
theorem cs_app {x y : Str} : cs (x ++ y) = cs x ++ cs y := by
  show (x.cps ++ y.cps).toList = _
  simp
theorem app_len {x y : Str} : (x ++ y).length = x.length + y.length := by rw [cs_len, cs_app, List.length_append, ← cs_len, ← cs_len]
theorem cs_take {x : Str} {k : Int} (h : 0 ≤ k) : cs (cutS x none (some k)) = (cs x).take k.toNat := by
  unfold cutS
  rw [sIx_pos h]
  show (((cs x).drop 0).take (min k.toNat x.length - 0)).toArray.toList = _
  rw [List.drop_zero, Nat.sub_zero, cs_len, ← List.take_eq_take_min]
theorem cs_init {x : Str} : cs (cutS x none (some (-1))) = (cs x).dropLast := by
  unfold cutS
  rw [sIx_neg (by omega)]
  show (((cs x).drop 0).take ((-1 + (x.length : Int)).toNat - 0)).toArray.toList = _
  rw [List.drop_zero, List.dropLast_eq_take, cs_len]
  simp; congr 1; omega
theorem cs_join : ∀ {l : List Str}, cs (Txt.join "" l) = (l.map cs).flatten
  | [] => rfl
  | [x] => by
    show cs (Str.join "" [x]) = _
    simp [Str.join]
  | x :: y :: r => by
    have ih := cs_join (l := y :: r)
    have e : ∀ l, Txt.join "" l = Str.join "" l := fun l => by first | rfl | exact PySem.StrLaws.glued_eq_join _ _
    rw [e] at ih ⊢
    show cs (x ++ ("" : Str) ++ Str.join "" (y :: r)) = _
    rw [cs_app, cs_app, ih]
    simp
    rfl
theorem strOk_iff {x : Str} : PyData.strOk x = true ↔ ∀ c ∈ cs x, c < 0x110000 := by
  unfold PyData.strOk
  rw [Array.all_eq_true_iff_forall_mem]
  simp [Array.mem_toList_iff]
theorem strOk_app {x y : Str} (hx : PyData.strOk x = true) (hy : PyData.strOk y = true) : PyData.strOk (x ++ y) = true := by
  rw [strOk_iff] at *
  intro c hc
  rw [cs_app, List.mem_append] at hc
  exact hc.elim (hx c) (hy c)
theorem strOk_of {x y : Str} (hx : PyData.strOk x = true) (h : ∀ c ∈ cs y, c ∈ cs x) : PyData.strOk y = true := by
  rw [strOk_iff] at *
  exact fun c hc => hx c (h c hc)
/-! comprehensions that draw -/
theorem cLoop_inv {step : D → M (Option SV)} (I : Mem → Prop) (G : D → Prop) : ∀ {ds : List D} {μ : Mem}, I μ → (∀ d ∈ ds, ∀ μ, I μ → ∃ y μ', step d μ = .ok (some (.d y)) μ' ∧ G y ∧ I μ') → ∃ ys μ', cLoop step ds μ = .ok ys μ' ∧ ys.length = ds.length ∧ (∀ y ∈ ys, G y) ∧ I μ'
  | [], μ, h0, _ => ⟨[], μ, rfl, rfl, fun y hy => by simp at hy, h0⟩
  | d :: ds, μ, h0, hs => by
    obtain ⟨y, μ1, e, hy, h1⟩ := hs d List.mem_cons_self μ h0
    obtain ⟨ys, μ2, e2, hl, hg, h2⟩ := cLoop_inv I G (ds := ds) h1 fun d' hd' => hs d' (List.mem_cons_of_mem _ hd')
    refine ⟨y :: ys, μ2, ?_, by simp [hl], fun z hz => ?_, h2⟩
    · show (match step d μ with | .ok none μ' => cLoop step ds μ' | .ok (some (.d y)) μ' => _ | _ => .no) = _
      rw [e]
      show (match cLoop step ds μ1 with | .ok r μ2 => R.ok (y :: r) μ2 | _ => .no) = _
      rw [e2]
    · rcases List.mem_cons.mp hz with rfl | hz
      · exact hy
      · exact hg z hz
theorem loop_draw {step : D → M (Option SV)} {ds : List D} {μ : Mem} {z : R (List D)} (e : cLoop step ds μ = z) (I : Mem → Prop) (G : D → Prop) (h0 : I μ) (hs : ∀ d ∈ ds, ∀ μ, I μ → ∃ y μ', step d μ = .ok (some (.d y)) μ' ∧ G y ∧ I μ') : ∃ ys μ', z = .ok ys μ' ∧ ys.length = ds.length ∧ (∀ y ∈ ys, G y) ∧ I μ' := by
  subst e; exact cLoop_inv I G h0 hs
theorem typed_of {α : Type} {en : α → D} {P : α → Prop} : ∀ {ys : List D}, (∀ y ∈ ys, ∃ a, y = en a ∧ P a) → ∃ as : List α, ys = as.map en ∧ ∀ a ∈ as, P a
  | [], _ => ⟨[], rfl, fun a ha => by simp at ha⟩
  | y :: ys, h => by
    obtain ⟨a, rfl, ha⟩ := h y List.mem_cons_self
    obtain ⟨as, rfl, has⟩ := typed_of (ys := ys) fun z hz => h z (List.mem_cons_of_mem _ hz)
    refine ⟨a :: as, rfl, fun b hb => ?_⟩
    rcases List.mem_cons.mp hb with rfl | hb
    · exact ha
    · exact has b hb
theorem txts_map {l : List Str} : txts (l.map .str) = some l := by
  induction l with
  | nil => rfl
  | cons a l ih => simp [txts, ih]
def jK (m : M SV) (s : SV) : M SV := match s with
  | .d (.str a) => bnd m fun z => joinF (.d (.str a)) z
  | _ => fun _ => .no
@[simp ↓] theorem fJoin_s {fo fe : FX} {ρ : FEnv} {μ : Mem} : fJoin fo fe ρ μ = bR (fo ρ μ) (jK (fe ρ)) := bnd_s
@[simp ↓] theorem jK_s {m : M SV} {a : Str} {μ : Mem} : jK m (.d (.str a)) μ = bR (m μ) (joinF (.d (.str a))) := bnd_s
theorem joinF_l {a : Str} {l : List Str} {μ : Mem} (h : (l.map (·.length)).sum + l.length * a.length ≤ 16777216) : joinF (.d (.str a)) (.d (.lst (l.map .str))) μ = .ok (.d (.str (Txt.join a l))) μ := by
  simp [joinF, txts_map]; exact h
theorem letters_cs : cs LETTERS = List.range' 97 26 := by decide +kernel
theorem mem_letters {c : Nat} : c ∈ cs LETTERS ↔ 97 ≤ c ∧ c < 123 := by rw [letters_cs, List.mem_range'_1]
theorem letters_len : LETTERS.length = 26 := by decide +kernel
theorem ixOf_s {x : Str} {μ : Mem} {i : Int} {c : Nat} (hz : x.length ≤ 16777216) (h : atI (cs x) i = some c) : ixOf (.d (.str x)) μ i = some (.str ⟨#[c]⟩) := by
  simp only [ixOf, if_pos (show x.length ≤ sizeLine by rw [sizeLine_eq]; exact hz)]
  rw [h]; rfl
theorem nmB_iff {x : Str} : nmB x = true ↔ 1 ≤ (cs x).length ∧ (cs x).length ≤ 8 ∧ ∀ c ∈ cs x, 97 ≤ c ∧ c < 123 := by
  unfold nmB letterB
  simp only [Bool.and_eq_true, decide_eq_true_eq, List.all_eq_true, cs_len]
  constructor
  · rintro ⟨h1, h2, h3⟩; exact ⟨h1, h2, fun c hc => mem_letters.mp (h3 c hc)⟩
  · rintro ⟨h1, h2, h3⟩; exact ⟨h1, h2, fun c hc => mem_letters.mpr (h3 c hc)⟩
theorem nmB_strOk {x : Str} (h : nmB x = true) : PyData.strOk x = true := strOk_iff.mpr fun c hc => by have := (nmB_iff.mp h).2.2 c hc; omega
theorem nmB_good {x : Str} (h : nmB x = true) : nmB x = true ∧ PyData.strOk x = true ∧ x.length ≤ 1000 := ⟨h, nmB_strOk h, by have := (nmB_iff.mp h).2.1; rw [cs_len]; omega⟩
theorem nodup_le {α : Type} [DecidableEq α] : ∀ {l l' : List α}, l.Nodup → (∀ a ∈ l, a ∈ l') → l.length ≤ l'.length
  | [], _, _, _ => Nat.zero_le _
  | a :: l, l', h, hs => by
    have h1 := List.nodup_cons.mp h
    have ha := hs a List.mem_cons_self
    have := nodup_le (l' := l'.erase a) h1.2 fun b hb => (List.mem_erase_of_ne (fun e => h1.1 (by rw [← e]; exact hb))).mpr (hs b (List.mem_cons_of_mem _ hb))
    rw [List.length_erase_of_mem ha] at this
    have := List.length_pos_of_mem ha
    simp only [List.length_cons]; omega
/-! x.index(y) -/
noncomputable def ixK (m : M (List SV)) (s : SV) (μ : Mem) : R SV := match s with
  | .d (.ntp _) => bnd m (indexF s) μ
  | _ => if (lstOf s μ).isSome = true then bnd m (indexF s) μ else .no
@[simp ↓] theorem fIndex_s {fo : FX} {fl : FA} {ρ : FEnv} {μ : Mem} : fIndex fo fl ρ μ = bR (fo ρ μ) (ixK (fl ρ)) := bnd_s
@[simp ↓] theorem ixK_n {m : M (List SV)} {l : List D} {μ : Mem} : ixK m (.d (.ntp l)) μ = bR (m μ) (indexF (.d (.ntp l))) := by
  show bnd m _ μ = _; exact bnd_s
theorem indexF_n {xs : List Str} {x : Str} (h : x ∈ xs) : ∃ j, j < xs.length ∧ xs[j]? = some x ∧ ∀ μ, indexF (.d (.ntp (xs.map .str))) [.d (.str x)] μ = .ok (.d (.int (j : Nat))) μ := by
  cases e : xs.findIdx? (fun y => decide (y = x)) with
  | none =>
    rw [List.findIdx?_eq_none_iff] at e
    have := e x h
    simp at this
  | some j =>
    have h2 := List.findIdx?_eq_some_iff_getElem.mp e
    obtain ⟨h3, h4, _⟩ := h2
    refine ⟨j, h3, by rw [List.getElem?_eq_getElem h3]; simpa using h4, fun μ => ?_⟩
    simp only [indexF, txts_map, e]
/-! plain rows -/
theorem plains_sub {l m : List D} (h : plains l = true) (hs : ∀ d ∈ m, d ∈ l) : plains m = true := plains_iff.mpr fun d hd => plains_iff.mp h d (hs d hd)
@[simp] theorem plains_append {l m : List D} : plains (l ++ m) = (plains l && plains m) := by
  rw [Bool.eq_iff_iff, Bool.and_eq_true, plains_iff, plains_iff, plains_iff]
  exact ⟨fun h => ⟨fun d hd => h d (List.mem_append_left _ hd), fun d hd => h d (List.mem_append_right _ hd)⟩, fun h d hd => (List.mem_append.mp hd).elim (h.1 d) (h.2 d)⟩
theorem plains_take {l : List D} {k : Nat} (h : plains l = true) : plains (l.take k) = true := plains_sub h fun _ => List.mem_of_mem_take
theorem plains_drop {l : List D} {k : Nat} (h : plains l = true) : plains (l.drop k) = true := plains_sub h fun _ => List.mem_of_mem_drop
theorem plains_cut {l : List D} {lo hi : Option Int} (h : plains l = true) : plains (cutD l lo hi) = true := plains_sub h fun _ => cutD_mem
theorem plain_tupD {v : D} {l : List D} (h : tupD v = some l) (hz : l.length ≤ 100000) (hp : plains l = true) : plain v = true := by
  cases v <;> simp [tupD] at h <;> subst h <;> simp [hz, hp]
theorem addT {u v : D} {l m : List D} (hu : tupD u = some l) (hv : tupD v = some m) (hz : l.length + m.length ≤ 16777216) : ∃ w, tupD w = some (l ++ m) ∧ ∀ μ, addF (.d u) (.d v) μ = .ok (.d w) μ := by
  have hz : l.length + m.length ≤ sizeLine := by rw [sizeLine_eq]; exact hz
  cases u <;> simp only [tupD, Option.some.injEq, reduceCtorEq] at hu <;> subst hu <;> cases v <;> simp only [tupD, Option.some.injEq, reduceCtorEq] at hv <;> subst hv
  · exact ⟨_, rfl, fun μ => by rw [addF_t, grd_pos hz]; rfl⟩
  · exact ⟨_, catT_tup rfl rfl, fun μ => by rw [addF_tn, grd_pos hz]; rfl⟩
  · exact ⟨_, catT_tup rfl rfl, fun μ => by rw [addF_nt, grd_pos hz]; rfl⟩
  · exact ⟨_, catT_tup rfl rfl, fun μ => by rw [addF_nn, grd_pos hz]; rfl⟩
theorem plain_cutN {l : List D} {lo hi : Option Int} (hz : l.length ≤ 100000) (hp : plains l = true) : plain (cutN l lo hi) = true := plain_tupD cutN_tup (Nat.le_trans (cutD_le _ _ _) hz) (plains_cut hp)
/-! upper -/
theorem upper_letters : ∀ c ∈ cs LETTERS, Unicode.upperOf c = [c - 32] := by
  rw [letters_cs]; decide +kernel
theorem cs_upper {x : Str} (h : nmB x = true) : cs (Txt.upper x) = (cs x).map (· - 32) := by
  have : PySem.placed x (fun _ c => Unicode.upperOf c) = x.cps.map (· - 32) := PyProof.Rows.placed_single x _ _ fun i c hc => upper_letters c (mem_letters.mpr ((nmB_iff.mp h).2.2 c (List.mem_of_getElem? hc)))
  show (PySem.placed x fun _ c => Unicode.upperOf c).toList = _
  rw [this]; simp
theorem plain_s {x : Str} (h : ∀ c ∈ cs x, c < 0x110000) (hl : (cs x).length ≤ 1000) : plain (.str x) = true := by
  rw [plain_str, strOk_iff.mpr h, cs_len, decide_eq_true hl]; rfl
theorem plain_upper {x : Str} (h : nmB x = true) : plain (.str (Txt.upper x)) = true := by
  refine plain_s ?_ (by rw [cs_upper h, List.length_map]; have := (nmB_iff.mp h).2.1; omega)
  rw [cs_upper h]
  intro c hc
  obtain ⟨d, hd, rfl⟩ := List.mem_map.mp hc
  have := (nmB_iff.mp h).2.2 d hd
  omega
theorem plain_init {x : Str} (h : nmB x = true) : plain (.str (cutS x none (some (-1)))) = true := by
  refine plain_s ?_ (by rw [cs_init, List.length_dropLast]; have := (nmB_iff.mp h).2.1; omega)
  rw [cs_init]
  intro c hc
  have := (nmB_iff.mp h).2.2 c ((List.dropLast_sublist _).subset hc)
  omega
theorem plain_app {x y : Str} (h : nmB x = true) (hy : PyData.strOk y = true) (hl : y.length ≤ 900) : plain (.str (x ++ y)) = true := by
  refine plain_s ?_ (by rw [cs_app, List.length_append, ← cs_len (x := y)]; have := (nmB_iff.mp h).2.1; omega)
  rw [cs_app]
  intro c hc
  rcases List.mem_append.mp hc with hc | hc
  · have := (nmB_iff.mp h).2.2 c hc; omega
  · exact strOk_iff.mp hy c hc
theorem names_plain {ths : List Str} (h : ∀ x ∈ ths, nmB x = true) : plains (ths.map .str) = true := plains_iff.mpr fun d hd => by
  obtain ⟨x, hx, rfl⟩ := List.mem_map.mp hd; exact plain_name (nmB_good (h x hx))
theorem atI_last {α : Type} {l : List α} (h : 0 < l.length) : atI l (-1) = some (l[l.length - 1]'(by omega)) := by
  unfold atI ixN
  rw [if_neg (by omega), if_pos (by omega), show (-1 + (l.length : Int)).toNat = l.length - 1 by omega]
  exact List.getElem?_eq_getElem (by omega)

end PL
namespace PL
open PySem PySem.Spec PyProof.Rows L2
open PySem.W (Datum DatumOrd)
/-! The laws' draws. -/
noncomputable def f__law_below (c0 c1 c2 c3 c4 c5 c6 : Int) : List SV → M SV := fDef 2 (fSeq (fIfS (fT (fOp gtF (fOp ixF (fV 0) (fC (.int 0))) (fC (.int 0)))) (fSeq (fAsg (fOp modF (fCall intF (fCons (fOp ixF (fV 0) (fC (.int 0))) fNil)) (fV 1)) (gN 2))
  (fSeq (fAsg (fOp divF (fOp ixF (fV 0) (fC (.int 0))) (fV 1)) (gSub (fV 0) (fC (.int 0))))
  (fRet (fV 2)))) fSkip)
  (fSeq (fAsg (fOp addF (fOp ixF (fV 0) (fC (.int 2))) (fC (.int 1))) (gSub (fV 0) (fC (.int 2))))
  (fSeq (fAsg (fOp modF (fCall intF (fCons (fOp addF (fOp addF (fOp mulF (fOp ixF (fV 0) (fC (.int 1))) (fC (.int c4))) (fOp mulF (fOp ixF (fV 0) (fC (.int 2))) (fC (.int c5)))) (fC (.int 5))) fNil)) (fC (.int c6))) (gN 3))
  (fSeq (fAsg (fOp modF (fCall intF (fCons (fOp addF (fOp mulF (fV 3) (fOp addF (fOp modF (fCall intF (fCons (fV 3) fNil)) (fC (.int c1))) (fC (.int c2)))) (fOp ixF (fV 0) (fC (.int 2)))) fNil)) (fC (.int c3))) (gSub (fV 0) (fC (.int 1))))
  (fRet (fOp modF (fCall intF (fCons (fOp divF (fOp ixF (fV 0) (fC (.int 1))) (fC (.int c0))) fNil)) (fV 1)))))))
--.
noncomputable def f__law_pool (c0 c1 c2 c3 c4 c5 c6 c7 c8 c9 c10 c11 : Int) : List SV → M SV := fDef 2 (fSeq (fAsg (fIf (fT (fOp ltF (fV 1) (fCall lenF (fCons (fV 0) fNil)))) (fCall intF (fCons (fOp ixF (fV 0) (fV 1)) fNil)) (fOp addF (fOp mulF (fC (.int c10)) (fV 1)) (fC (.int c11)))) (gN 2))
  (fSeq (fAsg (fOp addF (fC (.int c8)) (fOp mulF (fC (.int c9)) (fV 1))) (gN 3))
  (fSeq (fFor (itF (fSl slF (fV 0) fNone (fSome (fC (.int c4))))) (gN 4) (fAsg (fOp modF (fCall intF (fCons (fOp addF (fOp addF (fOp mulF (fV 3) (fC (.int c5))) (fOp modF (fCall intF (fCons (fV 4) fNil)) (fC (.int c6)))) (fC (.int 11))) fNil)) (fC (.int c7))) (gN 3)))
  (fSeq (fAsg (fOp modF (fCall intF (fCons (fOp addF (fOp addF (fOp mulF (fV 3) (fC (.int c0))) (fOp mulF (fOp modF (fCall intF (fCons (fV 2) fNil)) (fC (.int c1))) (fC (.int c2)))) (fC (.int 7))) fNil)) (fC (.int c3))) (gN 3))
  (fRet (fLstC (fCons (fIf (fTOr (fT (fOp ltF (fV 2) (fC (.int 0)))) (fT (fOp geF (fV 2) (fOp powF (fC (.int 10)) (fC (.int 18)))))) (fCall absF (fCons (fV 2) fNil)) (fC (.int 0))) (fCons (fV 3) (fCons (fC (.int 0)) fNil)))))))))
--.
noncomputable def f__law_one (BEL : List SV → M SV) : List SV → M SV := fDef 2 (fRet (fOp ixF (fV 1) (fCall (callM BEL) (fCons (fV 0) (fCons (fCall lenF (fCons (fV 1) fNil)) fNil)))))
--.
noncomputable def f__law_things (BEL : List SV → M SV) : List SV → M SV := fDef 2 (fSeq (fPar 2 3 (fCons (fC (.str "abcdefghijklmnopqrstuvwxyz")) (fCons (fLstC fNil) fNil)))
  (fSeq (fFor (rng1F (fCons (fV 1) fNil)) (gN 4) (fSeq (fAsg (fJoin (fC (.str "")) (fLc finLF (rng1F (fCons (fOp addF (fC (.int 1)) (fCall (callM BEL) (fCons (fV 0) (fCons (fC (.int 8)) fNil)))) fNil)) (gN 8) fYes (fOp ixF (fV 2) (fCall (callM BEL) (fCons (fV 0) (fCons (fC (.int 26)) fNil)))) [8])) (gN 5))
  (fSeq (fAsg (fIf (fT (fOp eqF (fCall (callM BEL) (fCons (fV 0) (fCons (fC (.int 9)) fNil))) (fC (.int 0)))) (fCall (callM (f__law_one BEL)) (fCons (fV 0) (fCons (fTup (fCons (fC (.str "not")) (fCons (fC (.str "or")) (fCons (fC (.str "must")) (fCons (fC (.str "things")) (fCons (fC (.str "way")) (fCons (fC (.str "never")) (fCons (fC (.str "always")) (fCons (fC (.str "sure")) fNil))))))))) fNil))) (fV 5)) (gN 5))
  (fSeq (fAsg (fV 5) (gN 6))
  (fSeq (fFor (itF (fV 2)) (gN 7) (fAsg (fIf (fT (fOp inF (fV 6) (fV 3))) (fOp addF (fSl slF (fV 5) fNone (fSome (fC (.int 7)))) (fV 7)) (fV 6)) (gN 6)))
  (fExpr (fMethL appendF (fV 3) (fCons (fV 6) fNil))))))))
  (fRet (fCall tupF (fCons (fCall sortedF (fCons (fV 3) fNil)) fNil)))))
--.
noncomputable def f__law_back : List SV → M SV := fDef 1 (fRet (fTup (fCons (fOp ixF (fV 0) (fC (.int 0))) (fCons (fOp subF (fC (.int 1)) (fOp ixF (fV 0) (fC (.int 1)))) fNil))))
--.
noncomputable def f__law_sides : List SV → M SV := fDef 1 (fSeq (fAsg (fLst fNil) (gN 1))
  (fSeq (fFor (itF (fV 0)) (gN 2) (fAsg (fOp addF (fV 1) (fLst (fCons (fTup (fCons (fV 2) (fCons (fC (.int 0)) fNil))) (fCons (fTup (fCons (fV 2) (fCons (fC (.int 1)) fNil))) fNil)))) (gN 1)))
  (fRet (fV 1))))
--.
noncomputable def f__law_rule : List SV → M SV := fDef 2 (fSeq (fIfS (fT (fOp eqF (fOp ixF (fV 0) (fC (.int 0))) (fOp ixF (fV 1) (fC (.int 0))))) (fRet (fTup (fCons (fV 0) (fCons (fV 0) fNil)))) fSkip)
  (fRet (fTup (fCons (fCall minF (fCons (fV 0) (fCons (fV 1) fNil))) (fCons (fCall maxF (fCons (fV 0) (fCons (fV 1) fNil))) fNil)))))
--.
noncomputable def f__law_book (BEL : List SV → M SV) : List SV → M SV := fDef 4 (fSeq (fPar 4 5 (fCons (fCall (callM (f__law_things BEL)) (fCons (fV 0) (fCons (fV 1) fNil))) (fCons (fLstC fNil) fNil)))
  (fSeq (fPar 6 7 (fCons (fCall (callM f__law_sides) (fCons (fV 4) fNil)) (fCons (fLc finLF (itF (fV 4)) (gN 13) fYes (fCall (callM BEL) (fCons (fV 0) (fCons (fC (.int 2)) fNil))) [13]) fNil)))
  (fSeq (fAsg (fCall (callM (f__law_one BEL)) (fCons (fV 0) (fCons (fV 6) fNil))) (gN 8))
  (fSeq (fFor (rng1F (fCons (fV 2) fNil)) (gN 9) (fSeq (fPar 10 11 (fCons (fCall (callM (f__law_one BEL)) (fCons (fV 0) (fCons (fV 6) fNil))) (fCons (fCall (callM (f__law_one BEL)) (fCons (fV 0) (fCons (fV 6) fNil))) fNil)))
  (fSeq (fIfS (fTAnd (fT (fOp eqF (fV 3) (fC (.int 1)))) (fTAnd (fT (fOp neF (fOp ixF (fV 7) (fIndex (fV 4) (fCons (fOp ixF (fV 10) (fC (.int 0))) fNil))) (fOp ixF (fV 10) (fC (.int 1))))) (fT (fOp neF (fOp ixF (fV 7) (fIndex (fV 4) (fCons (fOp ixF (fV 11) (fC (.int 0))) fNil))) (fOp ixF (fV 11) (fC (.int 1))))))) (fAsg (fCall (callM f__law_back) (fCons (fV 10) fNil)) (gN 10)) fSkip)
  (fSeq (fIfS (fT (fOp eqF (fV 3) (fC (.int 2)))) (fSeq (fPar 10 8 (fCons (fCall (callM f__law_back) (fCons (fV 8) fNil)) (fCons (fIf (fT (fOp neF (fOp ixF (fV 11) (fC (.int 0))) (fOp ixF (fV 8) (fC (.int 0))))) (fV 11) (fV 8)) fNil)))
  (fAsg (fV 8) (gN 11))) fSkip)
  (fSeq (fExpr (fMethL appendF (fV 5) (fCons (fCall (callM f__law_rule) (fCons (fV 10) (fCons (fV 11) fNil))) fNil)))
  (fIfS (fTAnd (fT (fOp eqF (fV 3) (fC (.int 3)))) (fT (fOp neF (fOp ixF (fV 10) (fC (.int 0))) (fOp ixF (fV 11) (fC (.int 0)))))) (fExpr (fMethL appendF (fV 5) (fCons (fCall (callM f__law_rule) (fCons (fCall (callM f__law_back) (fCons (fV 10) fNil)) (fCons (fCall (callM f__law_back) (fCons (fV 11) fNil)) fNil))) fNil))) fSkip))))))
  (fSeq (fAsg (fCall sortedF (fCons (fLc finLF (rng1F (fCons (fCall lenF (fCons (fV 5) fNil)) fNil)) (gN 14) (fT (fOp niF (fOp ixF (fV 5) (fV 14)) (fSl slF (fV 5) fNone (fSome (fV 14))))) (fOp ixF (fV 5) (fV 14)) [14]) fNil)) (gN 12))
  (fRet (fTup (fCons (fV 4) (fCons (fCall tupF (fCons (fSl slF (fV 12) fNone (fSome (fC (.int 60)))) fNil)) fNil)))))))))
--.
abbrev Pool := Int × Int × Int
def pc (p : Pool) : Cell := .lst [.int p.1, .int p.2.1, .int p.2.2]
@[simp ↓] theorem flC_pc {α : Type} {p : Pool} {r : R α} : flC (pc p) r = r := rfl
/-- a draw below n -/
structure Bel (B : List SV → M SV) : Prop where
  ok : ∀ (n : Int) (p : Pool), 0 < n → n < 1073741824 → ∃ r p', 0 ≤ r ∧ r < n ∧ B [.c 0, .d (.int n)] [pc p] = .ok (.d (.int r)) [pc p']
theorem callM_pool {f : List SV → M SV} {ss : List SV} {p p' : Pool} {d : D} {R R' : Mem} (hs : cellsOf ss = []) (hr : relab 1 ss = ss) (h : f (.c 0 :: ss) [pc p] = .ok (.d d) (pc p' :: R')) : callM f (.c 0 :: ss) (pc p :: R) = .ok (.d d) (pc p' :: R) := by
  rw [callM_s]; simp [hs, hr, h]
theorem Bel.call {B : List SV → M SV} (b : Bel B) {n : Int} {p : Pool} {R : Mem} (h0 : 0 < n) (h1 : n < 1073741824) : ∃ r p', 0 ≤ r ∧ r < n ∧ callM B [.c 0, .d (.int n)] (pc p :: R) = .ok (.d (.int r)) (pc p' :: R) := by
  obtain ⟨r, p', h2, h3, e⟩ := b.ok n p h0 h1
  exact ⟨r, p', h2, h3, callM_pool rfl rfl e⟩
theorem ixN30 : ixN 3 0 = some 0 := rfl
theorem ixN31 : ixN 3 1 = some 1 := rfl
theorem ixN32 : ixN 3 2 = some 2 := rfl
theorem below_bel {c0 c1 c2 c3 c4 c5 c6 : Int} (h0 : 0 < c0 ∧ c0 < 1073741824) (h1 : 0 < c1 ∧ c1 < 1073741824) (h2 : 0 < c2 ∧ c2 < 1073741824) (h3 : 0 < c3) (h4 : 0 < c4 ∧ c4 < 1073741824) (h5 : 0 < c5 ∧ c5 < 1073741824) (h6 : 0 < c6) : Bel (f__law_below c0 c1 c2 c3 c4 c5 c6) where
  ok n p hn hn2 := by
    obtain ⟨a, b, c⟩ := p
    have g1 : CDiv a n := ⟨hn, hn2⟩
    have g2 : ∀ z, CDiv z c0 := fun z => ⟨h0.1, h0.2⟩
    have g4 : ∀ z, CMul z c4 := fun z => .inr ⟨by omega, by omega⟩
    have g5 : ∀ z, CMul z c5 := fun z => .inr ⟨by omega, by omega⟩
    have g3 : ∀ z y, CMul z (y % c1 + c2) := fun z y => .inr ⟨by have := Int.emod_nonneg y (show c1 ≠ 0 by omega); omega, by have := Int.emod_lt_of_pos y h1.1; omega⟩
    by_cases ha : 0 < a
    · refine ⟨a % n, (a / n, b, c), Int.emod_nonneg _ (by omega), Int.emod_lt_of_pos _ hn, ?_⟩
      simp [isK, isKB, tupD, sizeLine_eq, f__law_below, pc, ixOf_c, ixN30, ixN31, ixN32, ha, g1, hn]
    · exact ⟨_, (_, _, _), Int.emod_nonneg _ (show n ≠ 0 by omega), Int.emod_lt_of_pos _ hn, by
        simp [isK, isKB, tupD, sizeLine_eq, f__law_below, pc, ixOf_c, ixN30, ixN31, ixN32, ha, g1, g2, g3, g4, g5, hn, h1.1, h3, h6]
        exact ⟨rfl, rfl, rfl, rfl⟩⟩
theorem one_ok {B : List SV → M SV} (b : Bel B) {v : D} {l : List D} {p : Pool} (hv : tupD v = some l ∨ v = .lst l) (h0 : 0 < l.length) (hz : l.length < 1073741824) : ∃ d p', d ∈ l ∧ f__law_one B [.c 0, .d v] [pc p] = .ok (.d d) [pc p'] := by
  obtain ⟨r, p', h1, h2, e⟩ := b.call (R := []) (n := l.length) (p := p) (by omega) (by omega)
  obtain ⟨i, rfl⟩ := Int.eq_ofNat_of_zero_le h1
  have hi : i < l.length := by omega
  refine ⟨l[i], p', List.getElem_mem hi, ?_⟩
  have hv2 : v = .tup l ∨ v = .ntp l ∨ v = .lst l := by
    rcases hv with hv | hv
    · cases v <;> simp [tupD] at hv <;> subst hv <;> simp
    · exact .inr (.inr hv)
  rcases hv2 with rfl | rfl | rfl <;> simp [f__law_one, e, -callM_s, hi]
theorem one_call {B : List SV → M SV} (b : Bel B) {v : D} {l : List D} {p : Pool} {R : Mem} (hv : tupD v = some l ∨ v = .lst l) (h0 : 0 < l.length) (hz : l.length < 1073741824) : ∃ d p', d ∈ l ∧ callM (f__law_one B) [.c 0, .d v] (pc p :: R) = .ok (.d d) (pc p' :: R) := by
  obtain ⟨d, p', hd, e⟩ := one_ok b (p := p) hv h0 hz
  exact ⟨d, p', hd, callM_pool rfl rfl e⟩
abbrev WORDS : List Str := ["not", "or", "must", "things", "way", "never", "always", "sure"]
theorem words_nm {x : Str} (h : x ∈ WORDS) : nmB x = true := by
  have : WORDS.all nmB = true := by decide +kernel
  exact List.all_eq_true.mp this x h
def lS (c : Nat) : D := .str ⟨#[c]⟩
noncomputable abbrev baseT (B : List SV → M SV) : FX := fJoin (fC (.str "")) (fLc finLF (rng1F (fCons (fOp addF (fC (.int 1)) (fCall (callM B) (fCons (fV 0) (fCons (fC (.int 8)) fNil)))) fNil)) (gN 8) fYes (fOp ixF (fV 2) (fCall (callM B) (fCons (fV 0) (fCons (fC (.int 26)) fNil)))) [8])
theorem base_gives {B : List SV → M SV} (b : Bel B) {p : Pool} {R : Mem} {ρ : FEnv} (r0 : ρ 0 = .c 0) (r2 : ρ 2 = .d (.str LETTERS)) {P : SV → Mem → Prop} (hP : ∀ x p', nmB x = true → P (.d (.str x)) (pc p' :: R)) :
    gives (baseT B ρ (pc p :: R)) P := by
  obtain ⟨r, p1, h1, h2, e⟩ := b.call (R := R) (n := 8) (p := p) (by omega) (by omega)
  have hz1 : (1 + r).toNat ≤ 16777216 := by omega
  have hz2 : 1 + r < 4611686018427387904 := by omega
  have hz3 : -4611686018427387904 ≤ 1 + r := by omega
  simp [isK, isKB, tupD, sizeLine_eq, r0, e, -callM_s, hz1, hz2, hz3]
  generalize el : cLoop _ _ _ = z
  obtain ⟨ys, μ', rfl, hl, hg, p2, rfl⟩ := loop_draw el (fun μ => ∃ p, μ = pc p :: R) (fun y => ∃ c, y = lS c ∧ c ∈ cs LETTERS) ⟨_, rfl⟩ (by
    rintro d hd μ ⟨q, rfl⟩
    obtain ⟨i, q1, i1, i2, e2⟩ := b.call (R := R) (n := 26) (p := q) (by omega) (by omega)
    obtain ⟨k, rfl⟩ := Int.eq_ofNat_of_zero_le i1
    have hk : k < (cs LETTERS).length := by rw [letters_cs]; simp; omega
    have ha : atI (cs LETTERS) (k : Int) = some (cs LETTERS)[k] := by rw [atI_n]; exact List.getElem?_eq_getElem hk
    refine ⟨lS (cs LETTERS)[k], pc q1 :: R, ?_, ⟨_, rfl, List.getElem_mem hk⟩, q1, rfl⟩
    simp [isK, isKB, tupD, sizeLine_eq, cStep, r0, r2, e2, -callM_s, ixOf_s (show LETTERS.length ≤ 16777216 by rw [letters_len]; omega) ha, lS])
  obtain ⟨as, rfl, has⟩ := typed_of hg
  have em : as.map lS = (as.map fun c => (⟨#[c]⟩ : Str)).map .str := by rw [List.map_map]; rfl
  have hlen : as.length = (1 + r).toNat := by simpa using hl
  have hsum : (as.map fun c => (⟨#[c]⟩ : Str)).map (·.length) = as.map fun _ => 1 := by rw [List.map_map]; rfl
  have hc : cs (Txt.join "" (as.map fun c => (⟨#[c]⟩ : Str))) = as := by
    rw [cs_join, List.map_map]
    show (as.map fun c => [c]).flatten = as
    clear hlen hsum em has hg hl el
    induction as with
    | nil => rfl
    | cons a as ih => simpa using ih
  have hn : nmB (Txt.join "" (as.map fun c => (⟨#[c]⟩ : Str))) = true := nmB_iff.mpr ⟨by rw [hc]; omega, by rw [hc]; omega, fun c hc2 => mem_letters.mp (has c (by rw [hc] at hc2; exact hc2))⟩
  rw [em]
  simp [finLF, -List.map_map]
  rw [joinF_l]
  · exact gives_ok (hP _ _ hn)
  · rw [hsum]
    have h1 : (as.map fun _ => 1).sum = as.length := by clear hn hc hsum hlen em el hg hl has; induction as with
      | nil => rfl
      | cons a as ih => simp only [List.map_cons, List.sum_cons, List.length_cons, ih]; omega
    have h2 : (("" : Str)).length = 0 := rfl
    simp only [h1, h2, List.length_map]
    omega
theorem base_ok {B : List SV → M SV} (b : Bel B) {p : Pool} {R : Mem} {ρ : FEnv} (r0 : ρ 0 = .c 0) (r2 : ρ 2 = .d (.str LETTERS)) : ∃ x p', nmB x = true ∧ baseT B ρ (pc p :: R) = .ok (.d (.str x)) (pc p' :: R) := by
  obtain ⟨_, _, e, x, p', hx, rfl, rfl⟩ := base_gives b (p := p) (R := R) r0 r2 (P := fun s μ => ∃ x p', nmB x = true ∧ s = .d (.str x) ∧ μ = pc p' :: R) fun x p' hx => ⟨x, p', hx, rfl, rfl⟩
  exact ⟨x, p', hx, e⟩
theorem inF_cl {α : Type} [DecidableEq α] [DatumOrd α] [Enc α] {v : D} {a : α} {l : List α} {μ : Mem} {k : Nat} (h : Is v a) (hk : μ[k]? = some (.lst (l.map Enc.en))) (ho : ∀ a ∈ l, Enc.okk a = true) (hd : Enc.dep α ≤ 59 := by decide) : inF (.d v) (.c k) μ = .ok (.d (.bl (decide (a ∈ l)))) μ := by
  unfold inF
  have e1 : okEq v = true := h.okEq (by omega)
  have e2 := okEq_lst ho hd
  have : inO μ (.d v) (.c k) = .ok (decide (a ∈ l)) μ := by
    unfold inO
    split <;> simp_all
    exact inD_en h
  rw [this]
noncomputable abbrev pickT : FS := fAsg (fIf (fT (fOp inF (fV 6) (fV 3))) (fOp addF (fSl slF (fV 5) fNone (fSome (fC (.int 7)))) (fV 7)) (fV 6)) (gN 6)
def cand (x : Str) (c : Nat) : Str := cutS x none (some 7) ++ ⟨#[c]⟩
theorem cand_cs {x : Str} {c : Nat} : cs (cand x c) = (cs x).take 7 ++ [c] := by
  unfold cand; rw [cs_app, cs_take (by omega)]; rfl
theorem cand_nm {x : Str} {c : Nat} (h : nmB x = true) (hc : c ∈ cs LETTERS) : nmB (cand x c) = true := by
  rw [nmB_iff] at h ⊢
  rw [cand_cs]
  refine ⟨by simp, by simp; omega, fun d hd => ?_⟩
  rcases List.mem_append.mp hd with hd | hd
  · exact h.2.2 d (List.mem_of_mem_take hd)
  · simp at hd; subst hd; exact mem_letters.mp hc
theorem cand_inj {x : Str} {c c' : Nat} (h : cand x c = cand x c') : c = c' := by
  have := congrArg cs h
  rw [cand_cs, cand_cs] at this
  simpa using this
theorem letters_nodup : (cs LETTERS).Nodup := by rw [letters_cs]; exact List.nodup_range'
theorem pick_ok {x : Str} {fs : List Str} {ρ : FEnv} {p : Pool} (hx : nmB x = true) (hf : ∀ y ∈ fs, nmB y = true) (hl : fs.length < 14) (r5 : ρ 5 = .d (.str x)) (r6 : ρ 6 = .d (.str x)) (r3 : ρ 3 = .c 1) {z : R Out} (el : fLoop (bF (gN 7) pickT) ((cs LETTERS).map lS) ρ [pc p, .lst (fs.map .str)] = z) :
    ∃ ρ' y, z = .ok (.nx ρ') [pc p, .lst (fs.map .str)] ∧ nmB y = true ∧ y ∉ fs ∧ ρ' 6 = .d (.str y) ∧ (∀ i, i ≠ 6 → i ≠ 7 → ρ' i = ρ i) := by
  obtain ⟨ρ', μ', rfl, ⟨y, h1, h2, h3, h4⟩, h5, rfl⟩ := loop_invT el (fun done ρ1 μ => (∃ y, ρ1 6 = .d (.str y) ∧ nmB y = true ∧ (y ∉ fs ∨ (∀ c ∈ done.dropLast, cand x c ∈ fs)) ∧ (y ∉ fs ∨ (done = [] ∨ ∃ c, done.getLast? = some c ∧ y = cand x c))) ∧ (∀ i, i ≠ 6 → i ≠ 7 → ρ1 i = ρ i) ∧ μ = [pc p, .lst (fs.map .str)]) ⟨⟨x, r6, hx, .inr (by simp), .inr (.inl rfl)⟩, fun _ _ _ => rfl, rfl⟩ (by
    rintro pre c post ρ1 μ hd ⟨⟨y, h1, h2, h3, h4⟩, h5, rfl⟩
    have q3 : ρ1 3 = .c 1 := (h5 3 (by decide) (by decide)).trans r3
    have q5 : ρ1 5 = .d (.str x) := (h5 5 (by decide) (by decide)).trans r5
    have hin := inF_cl (α := Str) (v := .str y) (k := 1) (l := fs) (μ := [pc p, .lst (fs.map .str)]) (Is.str (nmB_strOk h2)) rfl fun a ha => nmB_strOk (hf a ha)
    have hcl : c ∈ cs LETTERS := by rw [hd]; simp
    have hz : x.length ≤ 16777216 := by have := (nmB_good hx).2.2; omega
    have hz2 : (cutS x none (some 7)).length + Str.length ⟨#[c]⟩ ≤ 16777216 := by
      have : (cutS x none (some 7)).length ≤ 7 := by rw [cs_len, cs_take (by omega)]; simp; omega
      have : Str.length ⟨#[c]⟩ = 1 := rfl
      omega
    by_cases hy : y ∈ fs
    · rw [decide_eq_true hy] at hin
      have g3 := h3.resolve_left (fun h => h hy)
      have g4 := h4.resolve_left (fun h => h hy)
      clear h3 h4
      have hsl : slF (.d (.str x)) none (some 7) = grd (x.length ≤ sizeLine) (ret (.d (.str (cutS x none (some 7))))) := rfl
      simp [isK, isKB, tupD, sizeLine_eq, q3, q5, h1, hin, hsl, hz, hz2, lS]
      refine ⟨⟨cand x c, by simp; rfl, cand_nm hx hcl, .inr fun d hd => ?_, .inr (.inr ⟨c, by simp, rfl⟩)⟩, fun i i6 i7 => by rw [put_ne i6, put_ne i7, h5 i i6 i7], rfl⟩
      rw [List.dropLast_concat] at hd
      rcases g4 with rfl | ⟨c', hc', rfl⟩
      · simp at hd
      · have hne : pre ≠ [] := by rintro rfl; simp at hc'
        rw [← List.dropLast_concat_getLast hne] at hd
        rcases List.mem_append.mp hd with hd | hd
        · exact g3 d hd
        · rw [List.getLast?_eq_getLast hne] at hc'
          simp at hd hc'; rw [hd, hc']; exact hy
    · rw [decide_eq_false hy] at hin
      simp [isK, isKB, tupD, sizeLine_eq, q3, q5, h1, hin, lS]
      exact ⟨⟨y, by simp, h2, .inl hy, .inl hy⟩, fun i i6 i7 => by rw [put_ne i6, put_ne i7, h5 i i6 i7], rfl⟩)
  refine ⟨ρ', y, rfl, h2, fun hy => ?_, h1, h5⟩
  have h3 := h3.resolve_left (fun h => h hy)
  have hn : (((cs LETTERS).dropLast).map (cand x)).Nodup := (letters_nodup.sublist (List.dropLast_sublist _)).map _ fun a b hab h => hab (cand_inj h)
  have hs := nodup_le (l' := fs) hn fun y hy => by obtain ⟨c, hc, rfl⟩ := List.mem_map.mp hy; exact h3 c hc
  simp only [List.length_map, List.length_dropLast] at hs
  rw [show (cs LETTERS).length = 26 by rw [letters_cs]; simp] at hs
  omega
theorem pairwise_names {fs : List Str} (hn : fs.Nodup) (hf : ∀ y ∈ fs, nmB y = true) (h0 : 1 ≤ fs.length) (h1 : fs.length ≤ 14) : Ths (.ntp ((srt fs).map .str)) (srt fs) where
  tup := .inr rfl
  name x hx := nmB_good (hf x (mem_srt.mp hx))
  lo := by rw [srt_length]; exact h0
  hi := by rw [srt_length]; exact h1
  rise := srt_lt hn
theorem things_ok {B : List SV → M SV} (b : Bel B) {n : Nat} {p : Pool} (h0 : 1 ≤ n) (h1 : n ≤ 14) : ∃ ths p' R', f__law_things B [.c 0, .d (.int n)] [pc p] = .ok (.d (.ntp (ths.map .str))) (pc p' :: R') ∧ Ths (.ntp (ths.map .str)) ths ∧ ths.length = n := by
  have hz : (n : Int) < 4611686018427387904 := by omega
  have hz1 : (-4611686018427387904 : Int) ≤ n := by omega
  have key : gives (f__law_things B [.c 0, .d (.int n)] [pc p]) fun s μ => ∃ ths p' R', s = .d (.ntp (ths.map .str)) ∧ μ = pc p' :: R' ∧ Ths (.ntp (ths.map .str)) ths ∧ ths.length = n := by
    simp [isK, isKB, tupD, sizeLine_eq, f__law_things, hz, hz1]
    generalize el : fLoop _ _ _ _ = z
    obtain ⟨ρ', μ', rfl, ⟨r0, r2, r3⟩, fs, q, rfl, hl, hn, hf⟩ := loop_inv el (fun i ρ μ => (ρ 0 = .c 0 ∧ ρ 2 = .d (.str LETTERS) ∧ ρ 3 = .c 1) ∧ ∃ (fs : List Str) (q : Pool), μ = [pc q, .lst (fs.map .str)] ∧ fs.length = i ∧ fs.Nodup ∧ ∀ y ∈ fs, nmB y = true) ⟨⟨rfl, rfl, rfl⟩, [], p, rfl, rfl, List.nodup_nil, by simp⟩ (by
      rintro i d ρ μ hd ⟨⟨r0, r2, r3⟩, fs, q, rfl, hl, hn, hf⟩
      have hi : i < n := by have := (List.getElem?_eq_some_iff.mp hd).1; simpa using this
      obtain ⟨x, q1, hx, eb⟩ := base_ok b (p := q) (R := [.lst (fs.map .str)]) (ρ := put ρ 4 (.d d)) (by simp [r0]) (by simp [r2])
      dsimp only [baseT] at eb
      obtain ⟨k, q2, k1, k2, e2⟩ := b.call (R := [.lst (fs.map .str)]) (n := 9) (p := q1) (by omega) (by omega)
      obtain ⟨w, q3, hw, e3⟩ := one_call b (p := q2) (R := [.lst (fs.map .str)]) (v := .tup (WORDS.map .str)) (l := WORDS.map .str) (.inl rfl) (by simp) (by simp)
      obtain ⟨ww, hww, rfl⟩ := List.mem_map.mp hw
      have hnw := words_nm hww
      simp only [List.map_cons, List.map_nil] at e3
      have hz3 : fs.length < 16777216 := by omega
      by_cases hk : k = 0
      · simp [r0, r2, r3, ↓eb, -fJoin_s, -callM_s, e2, hk, e3, sizeLine_eq]
        generalize el2 : fLoop _ _ _ _ = z2
        obtain ⟨ρ', y, rfl, hy, hyf, r6, hr⟩ := pick_ok (p := q3) hnw hf (by omega) (by simp) (by simp) (by simp [r3]) el2
        simp [r6, hr, r3, appendF_c, sizeLine_eq, hz3, lstOf_c]
        exact ⟨⟨by simp [hr, r0], by simp [hr, r2], by simp [hr, r3]⟩, fs ++ [y], _, by simp; rfl, by simp [hl], List.nodup_append.mpr ⟨hn, by simp, fun a ha c hc => by simp at hc; rintro rfl; subst hc; exact hyf ha⟩, fun u hu => by rcases List.mem_append.mp hu with hu | hu; exact hf u hu; simp at hu; subst hu; exact hy⟩
      · simp [r0, r2, r3, ↓eb, -fJoin_s, -callM_s, e2, hk, e3, sizeLine_eq]
        generalize el2 : fLoop _ _ _ _ = z2
        obtain ⟨ρ', y, rfl, hy, hyf, r6, hr⟩ := pick_ok (p := q2) hx hf (by omega) (by simp) (by simp) (by simp [r3]) el2
        simp [r6, hr, r3, appendF_c, sizeLine_eq, hz3, lstOf_c]
        exact ⟨⟨by simp [hr, r0], by simp [hr, r2], by simp [hr, r3]⟩, fs ++ [y], _, by simp; rfl, by simp [hl], List.nodup_append.mpr ⟨hn, by simp, fun a ha c hc => by simp at hc; rintro rfl; subst hc; exact hyf ha⟩, fun u hu => by rcases List.mem_append.mp hu with hu | hu; exact hf u hu; simp at hu; subst hu; exact hy⟩)
    simp only [rngD_len] at hl
    have hs := okSort_str fun a ha => nmB_strOk (hf a ha)
    simp [isK, isKB, tupD, sizeLine_eq, r3, sortedF_c (k := 1) (μ := [pc q, .lst (fs.map .str)]) (l := fs.map .str) rfl, hs]
    refine gives_ok ⟨srt fs, q, _, ?_, rfl, pairwise_names hn hf (by omega) (by omega), by rw [srt_length]; exact hl⟩
    rw [show srtD (fs.map .str) = (srt fs).map .str from srtD_en fs]
  obtain ⟨_, _, e, ths, p', R', rfl, rfl, h⟩ := key
  exact ⟨ths, p', R', e, h⟩
theorem things_call {B : List SV → M SV} (b : Bel B) {n : Nat} {p : Pool} {R : Mem} (h0 : 1 ≤ n) (h1 : n ≤ 14) : ∃ ths p', callM (f__law_things B) [.c 0, .d (.int n)] (pc p :: R) = .ok (.d (.ntp (ths.map .str))) (pc p' :: R) ∧ Ths (.ntp (ths.map .str)) ths ∧ ths.length = n := by
  obtain ⟨ths, p', R', e, h⟩ := things_ok b (p := p) h0 h1
  exact ⟨ths, p', callM_pool rfl rfl e, h⟩
/-! sides, rules, books -/
abbrev sD (s : Side) : D := .tup [.str s.1, .int s.2]
abbrev rD (r : Rule) : D := .tup [sD r.1, sD r.2]
def okS (ths : List Str) (s : Side) : Prop := s.1 ∈ ths ∧ (s.2 = 0 ∨ s.2 = 1)
def okR (ths : List Str) (r : Rule) : Prop := okS ths r.1 ∧ okS ths r.2 ∧ goodRule r = true
def sBack (s : Side) : Side := (s.1, 1 - s.2)
theorem okS_back {ths : List Str} {s : Side} (h : okS ths s) : okS ths (sBack s) := ⟨h.1, by have := h.2; simp only [sBack]; omega⟩
theorem back_ok {s : Side} {μ : Mem} : f__law_back [.d (sD s)] μ = .ok (.d (sD (sBack s))) μ := by
  simp [isK, isKB, tupD, sizeLine_eq, f__law_back, sBack]
def sidesOf (ths : List Str) : List Side := ths.flatMap fun x => [(x, 0), (x, 1)]
theorem mem_sidesOf {ths : List Str} {s : Side} : s ∈ sidesOf ths ↔ okS ths s := by
  unfold sidesOf okS
  rw [List.mem_flatMap]
  constructor
  · rintro ⟨x, hx, h⟩; simp at h; rcases h with h | h <;> subst h <;> simp [hx]
  · rintro ⟨h1, h2⟩; refine ⟨s.1, h1, ?_⟩; obtain ⟨a, b⟩ := s; simp at h2 ⊢; omega
theorem sidesOf_len {ths : List Str} : (sidesOf ths).length = 2 * ths.length := by
  unfold sidesOf; induction ths with
  | nil => rfl
  | cons a l ih => simp [List.flatMap_cons, ih]; omega
theorem sides_ok {v : D} {ths : List Str} {μ : Mem} (h : Ths v ths) : f__law_sides [.d v] μ = .ok (.d (.lst ((sidesOf ths).map sD))) μ := by
  have key : ∀ ρ, ρ 1 = .d (.lst []) → ∃ ρ', fLoop (bF (gN 2) (fAsg (fOp addF (fV 1) (fLst (fCons (fTup (fCons (fV 2) (fCons (fC (.int 0)) fNil))) (fCons (fTup (fCons (fV 2) (fCons (fC (.int 1)) fNil))) fNil)))) (gN 1))) (ths.map .str) ρ μ = .ok (.nx ρ') μ ∧ ρ' 1 = .d (.lst ((sidesOf ths).map sD)) := fun ρ r1 => by
    generalize el : fLoop _ _ _ _ = z
    obtain ⟨ρ', μ', rfl, r, rfl⟩ := loop_invT (en := D.str) el (fun done ρ μ' => ρ 1 = .d (.lst ((sidesOf done).map sD)) ∧ μ' = μ) ⟨r1, rfl⟩ (by
      rintro pre a post ρ μ' hd ⟨r1, rfl⟩
      have hl : pre.length < 14 := by have h1 := congrArg List.length hd; have h2 := h.hi; simp at h1; omega
      have hz : ((sidesOf pre).map sD).length + 2 ≤ 16777216 := by rw [List.length_map, sidesOf_len]; omega
      simp only [List.length_map] at hz
      simp [isK, isKB, tupD, sizeLine_eq, r1, hz]
      exact ⟨by simp [sidesOf], rfl⟩)
    exact ⟨ρ', rfl, r⟩
  rcases h.tup with e | e <;> subst e <;> simp [isK, isKB, tupD, sizeLine_eq, f__law_sides]
  all_goals
    obtain ⟨ρ', e, r⟩ := key (put (fstart _) 1 (.d (.lst []))) rfl
    rw [e]
    simp [isK, isKB, tupD, sizeLine_eq, r]
def mkRule (s t : Side) : Rule := if s.1 = t.1 then (s, s) else (if DatumOrd.lt t s then t else s, if DatumOrd.lt s t then t else s)
theorem is_side_is {ths : List Str} {s : Side} (hs : okS ths s) (hn : ∀ x ∈ ths, nmB x = true) : Is (sD s) s := (Is.str (nmB_strOk (hn _ hs.1))).pair (Is.int _)
theorem alP_of {a b : Side} (ha : Is (sD a) a) (hb : Is (sD b) b) : alP (sD a) (sD b) = true := by
  unfold alP; rw [ha.alD ha, ha.alD hb, hb.alD ha, hb.alD hb]; rfl
theorem rule_ok {ths : List Str} {s t : Side} {μ : Mem} (hs : okS ths s) (ht : okS ths t) (hn : ∀ x ∈ ths, nmB x = true) : f__law_rule [.d (sD s), .d (sD t)] μ = .ok (.d (rD (mkRule s t))) μ := by
  have q : ∀ μ, eqF (.d (.str s.1)) (.d (.str t.1)) μ = .ok (.d (.bl (decide (s.1 = t.1)))) μ := fun μ => (Is.str (nmB_strOk (hn _ hs.1))).eqF (Is.str (nmB_strOk (hn _ ht.1)))
  have is := is_side_is hs hn
  have it := is_side_is ht hn
  have mi : ∀ μ, minF [.d (sD s), .d (sD t)] μ = .ok (.d (sD (if DatumOrd.lt t s then t else s))) μ := fun μ => by
    show grd _ _ μ = _
    rw [grd_pos ⟨is.okEq, it.okEq, alP_of is it⟩, it.ltD is]
    cases DatumOrd.lt t s <;> rfl
  have ma : ∀ μ, maxF [.d (sD s), .d (sD t)] μ = .ok (.d (sD (if DatumOrd.lt s t then t else s))) μ := fun μ => by
    show grd _ _ μ = _
    rw [grd_pos ⟨is.okEq, it.okEq, alP_of is it⟩, is.ltD it]
    cases DatumOrd.lt s t <;> rfl
  unfold mkRule
  by_cases e : s.1 = t.1
  · have q1 := fun μ => (q μ).trans (by rw [decide_eq_true e])
    rw [if_pos e]
    simp [isK, isKB, tupD, sizeLine_eq, f__law_rule, q1]
  · simp [isK, isKB, tupD, sizeLine_eq, f__law_rule, q, e, mi, ma]
theorem okR_mk {ths : List Str} {s t : Side} (hs : okS ths s) (ht : okS ths t) : okR ths (mkRule s t) := by
  unfold mkRule
  by_cases e : s.1 = t.1
  · rw [if_pos e]; exact ⟨hs, hs, by simp [goodRule]⟩
  · rw [if_neg e]
    cases h : DatumOrd.lt s t with
    | true =>
      rw [dlt_asymm h]
      refine ⟨hs, ht, ?_⟩
      rw [dlt_pair, if_neg e] at h
      show (decide (s = t) || DatumOrd.lt s.1 t.1) = true
      rw [h]; simp
    | false =>
      have h2 : DatumOrd.lt t s = true := (dle_iff.mp h).resolve_right fun g => e (by rw [g])
      rw [h2]
      refine ⟨ht, hs, ?_⟩
      rw [dlt_pair, if_neg fun g => e g.symm] at h2
      show (decide (t = s) || DatumOrd.lt t.1 s.1) = true
      rw [h2]; simp
def dd {α : Type} [DecidableEq α] (l : List α) : List α := (List.range l.length).filterMap fun i => match l[i]? with
  | some a => if a ∈ l.take i then none else some a
  | none => none
theorem mem_dd {α : Type} [DecidableEq α] {l : List α} {a : α} (h : a ∈ dd l) : a ∈ l := by
  unfold dd at h
  obtain ⟨i, _, h2⟩ := List.mem_filterMap.mp h
  cases e : l[i]? with
  | none => rw [e] at h2; cases h2
  | some b =>
    rw [e] at h2
    simp only at h2
    split at h2
    · cases h2
    · cases h2; exact List.mem_of_getElem? e
theorem dd_nodup {α : Type} [DecidableEq α] {l : List α} : (dd l).Nodup := by
  unfold dd List.Nodup
  rw [List.pairwise_filterMap]
  refine List.pairwise_lt_range.imp ?_
  intro i j hij b hb b' hb'
  rintro rfl
  cases e : l[i]? with
  | none => rw [e] at hb; cases hb
  | some x =>
    cases e2 : l[j]? with
    | none => rw [e2] at hb'; cases hb'
    | some y =>
      rw [e] at hb; rw [e2] at hb'
      simp only at hb hb'
      split at hb
      · cases hb
      · split at hb'
        · cases hb'
        · rename_i h
          cases hb; cases hb'
          refine h (List.mem_iff_getElem?.mpr ⟨i, ?_⟩)
          rw [List.getElem?_take]
          simp [hij, e]
theorem niF_en {α : Type} [DecidableEq α] [DatumOrd α] [Enc α] {v : D} {a : α} {l : List α} {μ : Mem} (h : Is v a) (ho : ∀ a ∈ l, Enc.okk a = true) (hd : Enc.dep α ≤ 59 := by decide) : niF (.d v) (.d (.lst (l.map Enc.en))) μ = .ok (.d (.bl (!decide (a ∈ l)))) μ := by
  have e1 : okEq v = true := h.okEq (by omega)
  have e2 := okEq_lst ho hd
  have : inO μ (.d v) (.d (.lst (l.map Enc.en))) = .ok (decide (a ∈ l)) μ := by
    have e : inO μ (.d v) (.d (.lst (l.map Enc.en))) = grd (okEq v = true ∧ okEq (.lst (l.map Enc.en)) = true) (ret (inD v (l.map Enc.en))) μ := by cases v <;> rfl
    rw [e, grd_pos ⟨e1, e2⟩, inD_en h]; rfl
  unfold niF
  rw [this]
structure Book (v : D) (ths : List Str) (rs : List Rule) : Prop where
  eq : v = .tup [.ntp (ths.map .str), .ntp (rs.map rD)]
  tth : Ths (.ntp (ths.map .str)) ths
  rule : ∀ r ∈ rs, okR ths r
  few : rs.length ≤ 60
  rise : rs.Pairwise fun a b => DatumOrd.lt a b = true
theorem ruleD_en (l : List Rule) : l.map rD = l.map Enc.en := rfl
theorem okk_rule {ths : List Str} {r : Rule} (h : okR ths r) (hn : ∀ x ∈ ths, nmB x = true) : Enc.okk r = true := by
  show ((PyData.strOk r.1.1 && true) && (PyData.strOk r.2.1 && true)) = true
  rw [nmB_strOk (hn _ h.1.1), nmB_strOk (hn _ h.2.1.1)]; rfl
theorem book_ok {B : List SV → M SV} (b : Bel B) {n m : Nat} {k : Int} {p : Pool} (h0 : 1 ≤ n) (h1 : n ≤ 14) (hm : m ≤ 1000) : ∃ ths rs p' R', f__law_book B [.c 0, .d (.int n), .d (.int m), .d (.int k)] [pc p] = .ok (.d (.tup [.ntp (ths.map .str), .ntp (rs.map rD)])) (pc p' :: R') ∧ Book (.tup [.ntp (ths.map .str), .ntp (rs.map rD)]) ths rs ∧ ths.length = n := by
  have hz : (m : Int) < 4611686018427387904 := by omega
  have hz1 : (-4611686018427387904 : Int) ≤ m := by omega
  obtain ⟨ths, p1, R1, e1, ht, hlen⟩ := things_ok b (p := p) h0 h1
  have hnm : ∀ x ∈ ths, nmB x = true := fun x hx => (ht.name x hx).1
  have hz2 : ths.length ≤ 16777216 := by omega
  have key : gives (f__law_book B [.c 0, .d (.int n), .d (.int m), .d (.int k)] [pc p]) fun s μ => ∃ rs p' R', s = .d (.tup [.ntp (ths.map .str), .ntp (rs.map rD)]) ∧ μ = pc p' :: R' ∧ Book (.tup [.ntp (ths.map .str), .ntp (rs.map rD)]) ths rs := by
    have es := fun μ => sides_ok (μ := μ) ht
    have hsl : ((sidesOf ths).map sD).length = 2 * n := by rw [List.length_map, sidesOf_len, hlen]
    have one := fun q => one_ok b (p := q) (v := .lst ((sidesOf ths).map sD)) (l := (sidesOf ths).map sD) (.inr rfl) (by omega) (by omega)
    simp [f__law_book, e1, es, sizeLine_eq, hz2]
    generalize el : cLoop _ _ _ = z
    obtain ⟨ys, μ', rfl, hl, hg, p2, rfl⟩ := loop_draw el (fun μ => ∃ p, μ = [pc p, .lst []]) (fun y => ∃ c : Int, y = .int c ∧ True) ⟨_, rfl⟩ (by
      rintro d hd μ ⟨q, rfl⟩
      obtain ⟨i, q1, i1, i2, e2⟩ := b.ok 2 q (by omega) (by omega)
      refine ⟨.int i, [pc q1, .lst []], ?_, ⟨_, rfl, trivial⟩, q1, rfl⟩
      simp [cStep, e2])
    obtain ⟨as, rfl, -⟩ := typed_of hg
    have hal : as.length = ths.length := by simpa using hl
    obtain ⟨d, p3, hd, e3⟩ := one p2
    obtain ⟨here, hhere, rfl⟩ := List.mem_map.mp hd
    have hhere := mem_sidesOf.mp hhere
    simp [finLF, e3, hz, hz1]
    generalize el2 : fLoop _ _ _ _ = z2
    obtain ⟨ρ', μ', rfl, ⟨r0, r4, r5⟩, rs, q, rfl, hl2, hr⟩ := loop_inv el2 (fun i ρ μ => (ρ 0 = .c 0 ∧ ρ 4 = .d (.ntp (ths.map .str)) ∧ ρ 5 = .c 1 ∧ ρ 3 = .d (.int k) ∧ ρ 6 = .d (.lst ((sidesOf ths).map sD)) ∧ ρ 7 = .d (.lst (as.map .int)) ∧ ∃ h, okS ths h ∧ ρ 8 = .d (sD h)) ∧ ∃ (rs : List Rule) (q : Pool), μ = [pc q, .lst (rs.map rD)] ∧ rs.length ≤ 2 * i ∧ ∀ r ∈ rs, okR ths r)
      ⟨⟨rfl, rfl, rfl, rfl, rfl, rfl, here, hhere, rfl⟩, [], p3, rfl, by simp, by simp⟩ (by
      rintro i d ρ μ hd ⟨⟨r0, r4, r5, r3, r6, r7, h, hh, r8⟩, rs, q, rfl, hl2, hr⟩
      have hi : i < m := by have := (List.getElem?_eq_some_iff.mp hd).1; simpa using this
      obtain ⟨_, q1, hs0, f1⟩ := one q
      obtain ⟨s, hs1, rfl⟩ := List.mem_map.mp hs0
      have hs := mem_sidesOf.mp hs1
      obtain ⟨_, q2, ht0, f2⟩ := one q1
      obtain ⟨t, ht1, rfl⟩ := List.mem_map.mp ht0
      have ht2 := mem_sidesOf.mp ht1
      have hz3 : rs.length < 16777216 := by omega
      have hz4 : rs.length + 1 < 16777216 := by omega
      have ne : ∀ x y, x ∈ ths → y ∈ ths → ∀ μ, neF (.d (.str x)) (.d (.str y)) μ = .ok (.d (.bl (!decide (x = y)))) μ := fun x y hx hy μ => (Is.str (nmB_strOk (hnm _ hx))).neF (Is.str (nmB_strOk (hnm _ hy)))
      have n1 := ne _ _ ht2.1 hh.1
      have n2 := ne _ _ hs.1 ht2.1
      obtain ⟨j1, hj1, _, x1⟩ := indexF_n hs.1
      obtain ⟨j2, hj2, _, x2⟩ := indexF_n ht2.1
      have a1 : as[j1]? = some as[j1] := List.getElem?_eq_getElem (by omega)
      have a2 : as[j2]? = some as[j2] := List.getElem?_eq_getElem (by omega)
      have bk := fun s μ => back_ok (s := s) (μ := μ)
      have ru := fun s t hs ht μ => rule_ok (ths := ths) (s := s) (t := t) (μ := μ) hs ht hnm
      have fin1 : ∀ a, okR ths a → ∀ r ∈ rs ++ [a], okR ths r := fun a ha r hr2 => by rcases List.mem_append.mp hr2 with hr2 | hr2; exact hr r hr2; simp at hr2; subst hr2; exact ha
      by_cases k1 : k = 1
      · subst k1
        have w1 := ru _ _ hs ht2
        have w2 := ru _ _ (okS_back hs) ht2
        by_cases c1 : as[j1] = s.2 <;> by_cases c2 : as[j2] = t.2 <;> simp [r0, r3, r4, r5, r6, r7, r8, f1, f2, x1, x2, a1, a2, c1, c2, bk, sizeLine_eq, appendF_c, lstOf_c, hz3, w1, w2]
        all_goals first
          | exact ⟨⟨by simp [r0], by simp [r4], by simp [r5], by simp [r3], by simp [r6], by simp [r7], h, hh, by simp [r8]⟩, rs ++ [mkRule s t], _, by simp; rfl, by simp; omega, fin1 _ (okR_mk hs ht2)⟩
          | exact ⟨⟨by simp [r0], by simp [r4], by simp [r5], by simp [r3], by simp [r6], by simp [r7], h, hh, by simp [r8]⟩, rs ++ [mkRule (sBack s) t], _, by simp; rfl, by simp; omega, fin1 _ (okR_mk (okS_back hs) ht2)⟩
      · by_cases k2 : k = 2
        · subst k2
          have w1 := ru _ _ (okS_back hh) ht2
          have w2 := ru _ _ (okS_back hh) hh
          by_cases c1 : t.1 = h.1
          · have n1 := fun μ => (n1 μ).trans (by rw [decide_eq_true c1])
            simp [r0, r3, r4, r5, r6, r7, r8, f1, f2, n1, bk, sizeLine_eq, appendF_c, lstOf_c, hz3, w1, w2]
            exact ⟨⟨by simp [r0], by simp [r4], by simp [r5], by simp [r3], by simp [r6], by simp [r7], h, hh, by simp [r8]⟩, rs ++ [mkRule (sBack h) h], _, by simp; rfl, by simp; omega, fin1 _ (okR_mk (okS_back hh) hh)⟩
          · simp [r0, r3, r4, r5, r6, r7, r8, f1, f2, n1, c1, bk, sizeLine_eq, appendF_c, lstOf_c, hz3, w1, w2]
            exact ⟨⟨by simp [r0], by simp [r4], by simp [r5], by simp [r3], by simp [r6], by simp [r7], t, ht2, by simp⟩, rs ++ [mkRule (sBack h) t], _, by simp; rfl, by simp; omega, fin1 _ (okR_mk (okS_back hh) ht2)⟩
        · have w1 := ru _ _ hs ht2
          by_cases k3 : k = 3
          · subst k3
            have w2 := ru _ _ (okS_back hs) (okS_back ht2)
            by_cases c1 : s.1 = t.1
            · have n2 := fun μ => (n2 μ).trans (by rw [decide_eq_true c1])
              simp [r0, r3, r4, r5, r6, r7, r8, f1, f2, n2, bk, sizeLine_eq, appendF_c, lstOf_c, hz3, w1, w2]
              exact ⟨⟨by simp [r0], by simp [r4], by simp [r5], by simp [r3], by simp [r6], by simp [r7], h, hh, by simp [r8]⟩, rs ++ [mkRule s t], _, by simp; rfl, by simp; omega, fin1 _ (okR_mk hs ht2)⟩
            · simp [r0, r3, r4, r5, r6, r7, r8, f1, f2, n2, c1, bk, sizeLine_eq, appendF_c, lstOf_c, hz3, hz4, w1, w2]
              exact ⟨⟨by simp [r0], by simp [r4], by simp [r5], by simp [r3], by simp [r6], by simp [r7], h, hh, by simp [r8]⟩, rs ++ [mkRule s t] ++ [mkRule (sBack s) (sBack t)], _, by simp; rfl, by simp; omega, fun r hr2 => by
                rcases List.mem_append.mp hr2 with hr2 | hr2
                · exact fin1 _ (okR_mk hs ht2) r hr2
                · simp at hr2; subst hr2; exact okR_mk (okS_back hs) (okS_back ht2)⟩
          · simp [r0, r3, r4, r5, r6, r7, r8, f1, f2, bk, sizeLine_eq, appendF_c, lstOf_c, hz3, w1, k1, k2, k3]
            exact ⟨⟨by simp [r0], by simp [r4], by simp [r5], by simp [r3], by simp [r6], by simp [r7], h, hh, by simp [r8]⟩, rs ++ [mkRule s t], _, by simp; rfl, by simp; omega, fin1 _ (okR_mk hs ht2)⟩)
    simp only [rngD_len] at hl2
    have hz5 : (rs.length : Int) < 4611686018427387904 := by omega
    have hz6 : rs.length ≤ 16777216 := by omega
    have hrk : ∀ r ∈ rs, Enc.okk r = true := fun r h => okk_rule (hr r h) hnm
    have hcl : cLoop (cStep (gN 14) (fT (fOp niF (fOp ixF (fV 5) (fV 14)) (fSl slF (fV 5) fNone (fSome (fV 14))))) (fOp ixF (fV 5) (fV 14)) [14] ρ') (rngD 0 rs.length) [pc q, .lst (rs.map rD)] = .ok ((dd rs).map rD) [pc q, .lst (rs.map rD)] := by
      rw [rngD, cLoop_filterT (f := fun i => (match rs[i]? with | some a => if a ∈ rs.take i then none else some (rD a) | none => none)) fun i hi => ?_]
      · unfold dd
        rw [List.map_filterMap]
        congr 2
        funext i
        cases rs[i]? with
        | none => rfl
        | some a => simp only; split <;> rfl
      · have hi := List.mem_range.mp hi
        have e1 := List.getElem?_eq_getElem hi
        have hri := hr _ (List.getElem_mem hi)
        have e2 := niF_en (v := rD rs[i]) (a := rs[i]) (l := rs.take i) (μ := [pc q, .lst (rs.map rD)]) (Is.en (hrk _ (List.getElem_mem hi))) (fun a ha => hrk a (List.mem_of_mem_take ha))
        have e3 : slF (.c 1) none (some (i : Int)) [pc q, .lst (rs.map rD)] = .ok (.d (.lst ((rs.map rD).take i))) [pc q, .lst (rs.map rD)] := by
          show R.ok (SV.d (.lst (cutD (rs.map rD) none (some (i : Int))))) _ = _
          rw [cutD_take (by omega), Int.toNat_natCast]
        rw [show (rs.take i).map Enc.en = (rs.map rD).take i from List.map_take] at e2
        rw [e1]
        by_cases hm2 : rs[i] ∈ rs.take i
        · simp only [hm2, decide_true, Bool.not_true] at e2
          simp [cStep, r5, ixOf_c, e1, e3, e2, hm2]
        · simp only [hm2, decide_false, Bool.not_false] at e2
          simp [cStep, r5, ixOf_c, e1, e3, e2, hm2]
    have hso : okSort ((dd rs).map rD) := okSort_pair (l := dd rs) fun a ha => hrk a (mem_dd ha)
    have hsr : srtD ((dd rs).map rD) = (srt (dd rs)).map rD := srtD_en (dd rs)
    simp [r4, r5, lenOf_c, sizeLine_eq, hz5, hz6, hcl, finLF, hso, hsr, cutD_take]
    refine gives_ok ⟨(srt (dd rs)).take 60, _, _, by rw [← List.map_take], rfl, rfl, ht, fun r h => hr r (mem_dd (mem_srt.mp (List.mem_of_mem_take h))), by simp; omega, (srt_lt dd_nodup).sublist (List.take_sublist _ _)⟩
  obtain ⟨_, _, e, rs, p', R', rfl, rfl, h⟩ := key
  exact ⟨ths, rs, p', R', e, h, hlen⟩
theorem pool_ok {c0 c1 c2 c3 c4 c5 c6 c7 c8 c9 c10 c11 : Int} {ns : List Int} {lap : Nat} (hlap : lap < 100) (h0 : 0 < c0 ∧ c0 < 1073741824) (h1 : 0 < c1 ∧ c1 < 4611686018427387904) (h2 : 0 < c2 ∧ c2 < 1073741824) (h3 : 0 < c3) (h4 : 0 ≤ c4) (h5 : 0 < c5 ∧ c5 < 1073741824) (h6 : 0 < c6) (h7 : 0 < c7) (h9 : 0 < c9 ∧ c9 < 1073741824) (h10 : 0 < c10 ∧ c10 < 1073741824) :
    ∃ p, f__law_pool c0 c1 c2 c3 c4 c5 c6 c7 c8 c9 c10 c11 [.d (.scr ns), .d (.int lap)] [] = .ok (.c 0) [pc p] := by
  have key : gives (f__law_pool c0 c1 c2 c3 c4 c5 c6 c7 c8 c9 c10 c11 [.d (.scr ns), .d (.int lap)] []) fun s μ => ∃ p, s = .c 0 ∧ μ = [pc p] := by
    have g0 : ∀ z, CMul z c0 := fun z => .inr ⟨by omega, by omega⟩
    have g2 : ∀ z, CMul z c2 := fun z => .inr ⟨by omega, by omega⟩
    have g5 : ∀ z, CMul z c5 := fun z => .inr ⟨by omega, by omega⟩
    have g9 : CMul c9 lap := .inl ⟨by omega, by omega⟩
    have g10 : CMul c10 lap := .inl ⟨by omega, by omega⟩
    have gp : CPow 10 18 := ⟨by decide, by decide, by decide⟩
    have hcell : ∃ z : Int, ∀ ρ, ρ 0 = .d (.scr ns) → ρ 1 = .d (.int lap) → (fIf (fT (fOp ltF (fV 1) (fCall lenF (fCons (fV 0) fNil)))) (fCall intF (fCons (fOp ixF (fV 0) (fV 1)) fNil)) (fOp addF (fOp mulF (fC (.int c10)) (fV 1)) (fC (.int c11)))) ρ [] = .ok (.d (.int z)) [] := by
      by_cases hl : (lap : Int) < ns.length
      · have hl2 : lap < ns.length := by omega
        exact ⟨ns[lap], fun ρ r0 r1 => by simp [r0, r1, hl, hl2]⟩
      · exact ⟨c10 * lap + c11, fun ρ r0 r1 => by simp [r0, r1, hl, g10]⟩
    obtain ⟨z, hz⟩ := hcell
    have hz := hz (fstart [.d (.scr ns), .d (.int lap)]) rfl rfl
    simp only [f__law_pool, fDef_s, fSeq_s, fAsg_s, hz, List.length_cons, List.length_nil, bR_ok, bnd_s, gN_s, ret_s, sK_nx]
    simp [g9]
    generalize el : fLoop _ _ _ _ = w
    obtain ⟨ρ', μ', rfl, r0, r2, ⟨s, r3⟩, rfl⟩ := loop_inv el (fun _ ρ μ => ρ 0 = .d (.scr ns) ∧ ρ 2 = .d (.int z) ∧ (∃ s : Int, ρ 3 = .d (.int s)) ∧ μ = []) ⟨rfl, rfl, ⟨_, rfl⟩, rfl⟩ (by
      rintro i d ρ μ hd ⟨r0, r2, ⟨s, r3⟩, rfl⟩
      obtain ⟨x, _, rfl⟩ := List.mem_map.mp (cutD_mem (List.mem_of_getElem? hd))
      simp [r3, g5, h6, h7]
      exact ⟨by simp [r0], by simp [r2], ⟨_, by simp; rfl⟩, rfl⟩)
    by_cases hn : z < 0
    · simp [r2, r3, g0, g2, h1.1, h3, hn, sizeLine_eq]
      exact gives_ok ⟨(_, _, _), rfl, rfl⟩
    · by_cases hn2 : (1000000000000000000 : Int) ≤ z
      · simp [r2, r3, g0, g2, h1.1, h3, hn, hn2, gp, sizeLine_eq]
        exact gives_ok ⟨(_, _, _), rfl, rfl⟩
      · simp [r2, r3, g0, g2, h1.1, h3, hn, hn2, gp, sizeLine_eq]
        exact gives_ok ⟨(_, _, _), rfl, rfl⟩
  obtain ⟨_, _, e, p, rfl, rfl⟩ := key
  exact ⟨p, e⟩
theorem sideOf_sD {ths : List Str} {s : Side} (h : okS ths s) (hnm : ∀ x ∈ ths, nmB x = true) : sideOf (sD s) = some s := by
  unfold sideOf
  simp only [tupD_t, hnm _ h.1, Bool.true_and]
  have h1 : (0 : Int) ≤ s.2 := by rcases h.2 with e | e <;> rw [e] <;> decide
  have h2 : s.2 ≤ 1 := by rcases h.2 with e | e <;> rw [e] <;> decide
  simp [h1, h2]
theorem ruleOf_rD {ths : List Str} {r : Rule} (h : okR ths r) (hnm : ∀ x ∈ ths, nmB x = true) : ruleOf (rD r) = some r := by
  unfold ruleOf
  simp only [tupD_t, sideOf_sD h.1 hnm, sideOf_sD h.2.1 hnm]
  rw [if_pos h.2.2]
theorem ruleIn_rD {ths : List Str} {r : Rule} (h : okR ths r) (hnm : ∀ x ∈ ths, nmB x = true) : ruleIn ths (rD r) = true := by
  unfold ruleIn; rw [ruleOf_rD h hnm]; simp [h.1.1, h.2.1.1]
theorem rD_is {ths : List Str} {r : Rule} (h : okR ths r) (hnm : ∀ x ∈ ths, nmB x = true) : Is (rD r) r := Is.en (okk_rule h hnm)
theorem rising_rules : ∀ {rs : List Rule} {ths : List Str}, (∀ r ∈ rs, okR ths r) → (∀ x ∈ ths, nmB x = true) → rs.Pairwise (fun a b => DatumOrd.lt a b = true) → risingB ltD (rs.map rD) = true := fun {rs ths} hr hnm hp => by
  have e : ∀ (rs : List Rule), (∀ r ∈ rs, okR ths r) → rs.Pairwise (fun a b => DatumOrd.lt a b = true) → risingB ltD (rs.map rD) = true := by
    intro rs
    induction rs with
    | nil => intro _ _; rfl
    | cons a l ih =>
      intro hr hp
      cases l with
      | nil => rfl
      | cons c l =>
        have h1 := List.pairwise_cons.mp hp
        have h2 := ih (fun r h => hr r (List.mem_cons_of_mem _ h)) h1.2
        simp only [List.map_cons, risingB, Bool.and_eq_true] at h2 ⊢
        refine ⟨?_, h2⟩
        rw [(rD_is (hr a List.mem_cons_self) hnm).ltD (rD_is (hr c (by simp)) hnm)]
        exact h1.1 c List.mem_cons_self
  exact e rs hr hp
theorem rules_true {ths : List Str} {rs : List Rule} {n : Nat} (hr : ∀ r ∈ rs, okR ths r) (hnm : ∀ x ∈ ths, nmB x = true) (hp : rs.Pairwise fun a b => DatumOrd.lt a b = true) (hz : rs.length ≤ n) : rulesIn ths (.ntp (rs.map rD)) n = true := by
  unfold rulesIn
  simp only [tupD_n, List.length_map, decide_eq_true hz, rising_rules hr hnm hp, Bool.true_and, Bool.and_true, List.all_map, List.all_eq_true]
  exact fun r h => ruleIn_rD (hr r h) hnm
theorem Book.true {v : D} {ths : List Str} {rs : List Rule} (h : Book v ths rs) : bookB v = true := by
  rw [h.eq]
  unfold bookB
  simp only [tupD_t, h.tth.thingsB, h.tth.names, rules_true h.rule (fun x hx => (h.tth.name x hx).1) h.rise h.few, Bool.and_self]

end PL
namespace PL
open PySem PySem.Spec PyProof.Rows L2
open PySem.W (Datum DatumOrd)
noncomputable def f__law_is_number : List SV → M SV := fDef 2 (fRet (fAnd (fUn (isiF .int) (fV 0)) (fAnd (fNot (fUn (isiF .bool) (fV 0))) (fChain ileF ileF (fC (.int 0)) (fV 0) (fV 1)))))
--.
noncomputable def f__law_is_name : List SV → M SV := fDef 1 (fRet (fAnd (fUn (isiF .str) (fV 0)) (fAnd (fChain iltF iltF (fC (.int 0)) (fCall lenF (fCons (fV 0) fNil)) (fC (.int 9))) (fCall allF (fCons (fLc finLF (itF (fV 0)) (gN 1) fYes (fOp inF (fV 1) (fC (.str "abcdefghijklmnopqrstuvwxyz"))) [1]) fNil)))))
--.
noncomputable def f__law_same : Nat → List SV → M SV
  | 0 => fun _ _ => .no
  | n + 1 => fDef 2 (fSeq (fIfS (fT (fUn isNF (fV 1))) (fRet (fUn isNF (fV 0))) fSkip)
  (fSeq (fIfS (fT (fUn (isiF .bool) (fV 1))) (fRet (fAnd (fUn (isiF .bool) (fV 0)) (fOp eqF (fV 0) (fV 1)))) fSkip)
  (fSeq (fIfS (fT (fUn (isiF .int) (fV 1))) (fRet (fAnd (fUn (isiF .int) (fV 0)) (fAnd (fNot (fUn (isiF .bool) (fV 0))) (fOp eqF (fV 0) (fV 1))))) fSkip)
  (fSeq (fIfS (fT (fUn (isiF .str) (fV 1))) (fRet (fAnd (fUn (isiF .str) (fV 0)) (fOp eqF (fV 0) (fV 1)))) fSkip)
  (fSeq (fIfS (fTOr (fTNot (fT (fUn (isiF .tuple) (fV 0)))) (fT (fOp neF (fCall lenF (fCons (fV 0) fNil)) (fCall lenF (fCons (fV 1) fNil))))) (fRet (fC (.bl false))) fSkip)
  (fRet (fCall allF (fCons (fLc finLF (zipF (fCons (fV 0) (fCons (fV 1) fNil))) (gT [(gN 2), (gN 3)]) fYes (fCall (callM (f__law_same n)) (fCons (fV 2) (fCons (fV 3) fNil))) [2, 3]) fNil))))))))
--.
noncomputable def f__law_are_things : List SV → M SV := fDef 1 (fSeq (fIfS (fTOr (fTNot (fT (fUn (isiF .tuple) (fV 0)))) (fTOr (fTNot (fT (fChain iltF iltF (fC (.int 0)) (fCall lenF (fCons (fV 0) fNil)) (fC (.int 15))))) (fTNot (fT (fCall allF (fCons (fLc finLF (itF (fV 0)) (gN 1) fYes (fCall (callM f__law_is_name) (fCons (fV 1) fNil)) [1]) fNil)))))) (fRet (fC (.bl false))) fSkip)
  (fRet (fCall allF (fCons (fLc finLF (rng1F (fCons (fOp subF (fCall lenF (fCons (fV 0) fNil)) (fC (.int 1))) fNil)) (gN 2) fYes (fOp ltF (fOp ixF (fV 0) (fV 2)) (fOp ixF (fV 0) (fOp addF (fV 2) (fC (.int 1))))) [2]) fNil))))
--.
noncomputable def f__law_is_side : List SV → M SV := fDef 2 (fRet (fAnd (fUn (isiF .tuple) (fV 1)) (fAnd (fOp eqF (fCall lenF (fCons (fV 1) fNil)) (fC (.int 2))) (fAnd (fUn (isiF .str) (fOp ixF (fV 1) (fC (.int 0)))) (fAnd (fOp inF (fOp ixF (fV 1) (fC (.int 0))) (fV 0)) (fCall (callM f__law_is_number) (fCons (fOp ixF (fV 1) (fC (.int 1))) (fCons (fC (.int 1)) fNil))))))))
--.
noncomputable def f__law_thing (BEL : List SV → M SV) : List SV → M SV := fDef 1 (fRet (fCall (callM (f__law_one BEL)) (fCons (fV 0) (fCons (fTup (fCons (fC .non) (fCons (fC (.bl true)) (fCons (fC (.bl false)) (fCons (fUn negF (fC (.int 1))) (fCons (fC (.str "")) (fCons (fC (.str "3")) (fCons (fC (.str "ann")) (fCons (fLst fNil) (fCons (fLst (fCons (fC (.int 1)) fNil)) (fCons (fC (.dic false [] [])) (fCons (fDisp (fpCons (fC (.str "a")) (fC (.int 1)) fpNil)) (fCons (fTup (fCons (fC .non) fNil)) (fCons (fTup (fCons (fTup (fCons (fTup (fCons (fTup (fCons (fC (.int 5)) fNil)) fNil)) fNil)) fNil)) (fCons (fTup (fCons (fC (.bl true)) fNil)) (fCons (fC (.int 4)) (fCons (fLst (fCons (fTup (fCons (fC (.int 1)) (fCons (fC (.int 2)) fNil))) fNil)) (fCons (fOp powF (fC (.int 10)) (fC (.int 29))) (fCons (fUn negF (fC (.int 5))) (fCons (fTup (fCons (fTup fNil) fNil)) (fCons (fTup (fCons (fC (.str "ann")) fNil)) (fCons (fTup (fCons (fC (.int 1)) (fCons (fC (.int 2)) (fCons (fC (.int 3)) (fCons (fC (.int 4)) fNil))))) (fCons (fTup (fCons (fC (.int 1)) (fCons (fC (.int 2)) fNil))) (fCons (fTup (fCons (fTup (fCons (fC (.int 1)) (fCons (fC (.int 2)) fNil))) fNil)) (fCons (fTup (fCons (fTup (fCons (fC (.int 0)) (fCons (fC (.int 1)) fNil))) fNil)) (fCons (fC (.str "1/2")) (fCons (fLst (fCons (fLst (fCons (fTup (fCons (fC (.int 1)) (fCons (fC (.int 1)) fNil))) fNil)) fNil)) fNil))))))))))))))))))))))))))) fNil))))
--.
noncomputable def f__law_is_rule : List SV → M SV := fDef 2 (fSeq (fIfS (fTOr (fTNot (fT (fUn (isiF .tuple) (fV 1)))) (fTOr (fT (fOp neF (fCall lenF (fCons (fV 1) fNil)) (fC (.int 2)))) (fTOr (fTNot (fT (fCall (callM f__law_is_side) (fCons (fV 0) (fCons (fOp ixF (fV 1) (fC (.int 0))) fNil))))) (fTNot (fT (fCall (callM f__law_is_side) (fCons (fV 0) (fCons (fOp ixF (fV 1) (fC (.int 1))) fNil)))))))) (fRet (fC (.bl false))) fSkip)
  (fRet (fOr (fAnd (fOp ltF (fOp ixF (fV 1) (fC (.int 0))) (fOp ixF (fV 1) (fC (.int 1)))) (fOp neF (fOp ixF (fOp ixF (fV 1) (fC (.int 0))) (fC (.int 0))) (fOp ixF (fOp ixF (fV 1) (fC (.int 1))) (fC (.int 0))))) (fOp eqF (fOp ixF (fV 1) (fC (.int 0))) (fOp ixF (fV 1) (fC (.int 1)))))))
--.
noncomputable def f__law_is_book : List SV → M SV := fDef 1 (fSeq (fIfS (fTOr (fTNot (fT (fUn (isiF .tuple) (fV 0)))) (fTOr (fT (fOp neF (fCall lenF (fCons (fV 0) fNil)) (fC (.int 2)))) (fTOr (fTNot (fT (fCall (callM f__law_are_things) (fCons (fOp ixF (fV 0) (fC (.int 0))) fNil)))) (fTOr (fTNot (fT (fUn (isiF .tuple) (fOp ixF (fV 0) (fC (.int 1)))))) (fT (fOp gtF (fCall lenF (fCons (fOp ixF (fV 0) (fC (.int 1))) fNil)) (fC (.int 60)))))))) (fRet (fC (.bl false))) fSkip)
  (fSeq (fIfS (fTNot (fT (fCall allF (fCons (fLc finLF (itF (fOp ixF (fV 0) (fC (.int 1)))) (gN 1) fYes (fCall (callM f__law_is_rule) (fCons (fOp ixF (fV 0) (fC (.int 0))) (fCons (fV 1) fNil))) [1]) fNil)))) (fRet (fC (.bl false))) fSkip)
  (fRet (fCall allF (fCons (fLc finLF (rng1F (fCons (fOp subF (fCall lenF (fCons (fOp ixF (fV 0) (fC (.int 1))) fNil)) (fC (.int 1))) fNil)) (gN 2) fYes (fOp ltF (fOp ixF (fOp ixF (fV 0) (fC (.int 1))) (fV 2)) (fOp ixF (fOp ixF (fV 0) (fC (.int 1))) (fOp addF (fV 2) (fC (.int 1))))) [2]) fNil)))))
--.
theorem is_number_ok {v : D} {hi : Int} {μ : Mem} (h : plain v = true) : f__law_is_number [.d v, .d (.int hi)] μ = .ok (.d (.bl (betwB v 0 hi))) μ := by
  simp [isK, isKB, tupD, sizeLine_eq, f__law_is_number, isK_plain h]
  cases v, h using plain_cases <;> simp [isK, isKB, tupD, sizeLine_eq, betwB]
  rename_i i _
  by_cases h1 : 0 ≤ i <;> by_cases h2 : i ≤ hi <;> simp [h1, h2]
theorem law_is_name_ok {v : D} {μ : Mem} (h : plain v = true) : f__law_is_name [.d v] μ = .ok (.d (.bl (nameB v))) μ := by
  simp [isK, isKB, tupD, sizeLine_eq, f__law_is_name, isK_plain h]
  cases v, h using plain_cases <;> simp [isK, isKB, tupD, sizeLine_eq, nameB]
  rename_i x h
  simp at h
  have hx : x.length ≤ 16777216 := by omega
  simp [isK, isKB, tupD, sizeLine_eq, lenOf_str hx, nmB]
  by_cases h1 : 0 < x.length
  · by_cases h2 : (x.length : Int) < 9
    · have h3 : 1 ≤ x.length := by omega
      have h4 : x.length ≤ 8 := by omega
      simp [isK, isKB, tupD, sizeLine_eq, h1, h2, hx, h3, h4]
      rw [strD, cLoop_mapT (f := fun c => .bl (letterB c)) fun c hc => by simp [isK, isKB, tupD, sizeLine_eq, in_letters, letterB]]
      simp [isK, isKB, tupD, sizeLine_eq, all_id_map]
    · have h4 : ¬ x.length ≤ 8 := by omega
      simp [isK, isKB, tupD, sizeLine_eq, h1, h2, h4]
  · have h3 : ¬ 1 ≤ x.length := by omega
    simp [isK, isKB, tupD, sizeLine_eq, h1, h3]
theorem same_ok {a b : Bool} {n : Nat} {μ : Mem} : f__law_same (n + 1) [.d (.bl a), .d (.bl b)] μ = .ok (.d (.bl (a == b))) μ := by
  simp [isK, isKB, tupD, sizeLine_eq, f__law_same]
theorem rising_ok {l : List D} {v : D} {i : Nat} {ρ : FEnv} {lt : D → D → Bool} {μ : Mem} {xe : FX} (hx : ∀ ρ' : FEnv, (∀ j, j ≠ i → ρ' j = ρ j) → ∀ μ, xe ρ' μ = .ok (.d v) μ) (hv : v = .tup l ∨ v = .ntp l) (hlt : ∀ e e', e ∈ l → e' ∈ l → ∀ μ, ltF (.d e) (.d e') μ = .ok (.d (.bl (lt e e'))) μ) :
    cLoop (cStep (gN i) fYes (fOp ltF (fOp ixF xe (fV i)) (fOp ixF xe (fOp addF (fV i) (fC (.int 1))))) [i] ρ) (rngD 0 (l.length - 1)) μ = .ok ((List.range (l.length - 1)).map fun i => .bl (match l[i]?, l[i + 1]? with | some a, some b => lt a b | _, _ => true)) μ := by
  rw [rngD, cLoop_mapT (f := fun i => .bl (match l[i]?, l[i + 1]? with | some a, some b => lt a b | _, _ => true)) fun j hj => ?_]
  have hj := List.mem_range.mp hj
  have g1 := List.getElem?_eq_getElem (show j < l.length by omega)
  have g2 := List.getElem?_eq_getElem (show j + 1 < l.length by omega)
  have hx := hx (put (put ρ i .un) i (.d (.int j))) fun k hk => by rw [put_ne hk, put_ne hk]
  rcases hv with rfl | rfl <;> simp [cStep, hx, g1, g2, hlt _ _ (List.mem_of_getElem? g1) (List.mem_of_getElem? g2)]
theorem law_are_things_ok {v : D} {μ : Mem} (h : plain v = true) : f__law_are_things [.d v] μ = .ok (.d (.bl (thingsB v))) μ := by
  simp [isK, isKB, tupD, sizeLine_eq, f__law_are_things, isK_plain h, thingsB]
  cases v, h using plain_cases
  case tup l h | ntp l h =>
    simp at h
    have hz : l.length ≤ 16777216 := by omega
    by_cases h1 : 0 < l.length
    · have h3 : 1 ≤ l.length := by omega
      by_cases h2 : (l.length : Int) < 15
      · have h4 : l.length ≤ 14 := by omega
        have hz1 : (l.length : Int) - 1 < 4611686018427387904 := by omega
        have hz2 : (-4611686018427387904 : Int) ≤ (l.length : Int) - 1 := by omega
        have hz3 : ((l.length : Int) - 1).toNat = l.length - 1 := by omega
        have hz4 : l.length - 1 ≤ 16777216 := by omega
        simp [isK, isKB, tupD, sizeLine_eq, h1, h2, h3, h4, hz]
        rw [cLoop_map (f := fun e => .bl (nameB e)) fun d hd => by simp [isK, isKB, tupD, sizeLine_eq, law_is_name_ok (plains_iff.mp h.2 d hd)]]
        cases ha : l.all nameB with
        | false => simp [isK, isKB, tupD, sizeLine_eq, all_id_map, ha]
        | true =>
          have ha2 := List.all_eq_true.mp ha
          have key := fun v hv ρ hx μ => rising_ok (l := l) (v := v) (i := 2) (ρ := ρ) (lt := sltD) (μ := μ) (xe := fV 0) hx hv fun e e' he he' μ => by
            obtain ⟨x, rfl, _⟩ := nameB_str (ha2 e he)
            obtain ⟨y, rfl, _⟩ := nameB_str (ha2 e' he')
            rfl
          first
          | have k2 := fun μ => key (.tup l) (.inl rfl) (fstart [.d (.tup l)]) (fun ρ' h μ => by rw [fV_s, h 0 (by decide)]; rfl) μ
            simp [isK, isKB, tupD, sizeLine_eq, all_id_map, ha, hz1, hz2, hz3, hz4, k2]
            exact rising_range
          | have k2 := fun μ => key (.ntp l) (.inr rfl) (fstart [.d (.ntp l)]) (fun ρ' h μ => by rw [fV_s, h 0 (by decide)]; rfl) μ
            simp [isK, isKB, tupD, sizeLine_eq, all_id_map, ha, hz1, hz2, hz3, hz4, k2]
            exact rising_range
      · have h4 : ¬ l.length ≤ 14 := by omega
        simp [isK, isKB, tupD, sizeLine_eq, h1, h2, h3, h4]
    · have h3 : ¬ 1 ≤ l.length := by omega
      simp [isK, isKB, tupD, sizeLine_eq, h1, h3]
  all_goals simp [isK, isKB, tupD, sizeLine_eq, ]
theorem law_is_side_ok {t v : D} {ths : List Str} {μ : Mem} (ht : Ths t ths) (h : plain v = true) : f__law_is_side [.d t, .d v] μ = .ok (.d (.bl (sideIn ths v))) μ := by
  simp [isK, isKB, tupD, sizeLine_eq, f__law_is_side, isK_plain h, sideIn, sideOf]
  cases v, h using plain_cases
  case tup l h | ntp l h =>
    match l, h with
    | [], _ => simp [isK, isKB, tupD, sizeLine_eq, ]
    | [a], _ => simp [isK, isKB, tupD, sizeLine_eq, ]
    | a :: b :: c :: r, _ =>
      have : ¬ ((r.length : Int) + 1 + 1 + 1 = 2) := by omega
      simp [isK, isKB, tupD, sizeLine_eq, this]
    | [a, b], h =>
      simp at h
      simp [isK, isKB, tupD, sizeLine_eq, isK_plain h.1]
      cases a with
      | str n =>
        have hn : PyData.strOk n = true := by have := h.1; simp at this; exact this.1
        have k1 := fun μ => inF_things (μ := μ) ht hn
        have k2 := fun μ => is_number_ok (μ := μ) (hi := 1) h.2
        by_cases m : n ∈ ths
        · have hnm := (ht.name n m).1
          cases b with
          | int i => by_cases h1 : 0 ≤ i <;> by_cases h2 : i ≤ 1 <;> simp [isK, isKB, tupD, sizeLine_eq, k1, k2, m, hnm, betwB, h1, h2]
          | _ => simp [isK, isKB, tupD, sizeLine_eq, k1, k2, m, hnm, betwB]
        · cases b with
          | int i => by_cases h1 : 0 ≤ i <;> by_cases h2 : i ≤ 1 <;> cases hnm : nmB n <;> simp [isK, isKB, tupD, sizeLine_eq, k1, k2, m, hnm, betwB, h1, h2]
          | _ => simp [isK, isKB, tupD, sizeLine_eq, k1, k2, m, betwB]
      | _ => first | (simp [isK, isKB, tupD, sizeLine_eq, ]; done) | (exfalso; have := h.1; simp [plain] at this; done)
  all_goals simp [isK, isKB, tupD, sizeLine_eq, ]
theorem lt_side {s u : Side} : DatumOrd.lt s u = if s.1 = u.1 then decide (s.2 < u.2) else DatumOrd.lt s.1 u.1 := rfl
theorem law_is_rule_ok {t v : D} {ths : List Str} {μ : Mem} (ht : Ths t ths) (h : plain v = true) : f__law_is_rule [.d t, .d v] μ = .ok (.d (.bl (ruleIn ths v))) μ := by
  simp [isK, isKB, tupD, sizeLine_eq, f__law_is_rule, isK_plain h, ruleIn, ruleOf]
  cases v, h using plain_cases
  case tup l h | ntp l h =>
    match l, h with
    | [], _ => simp [isK, isKB, tupD, sizeLine_eq, ]
    | [a], _ => simp [isK, isKB, tupD, sizeLine_eq, ]
    | a :: b :: c :: r, _ =>
      have : ¬ ((r.length : Int) + 1 + 1 + 1 = 2) := by omega
      simp [isK, isKB, tupD, sizeLine_eq, this]
    | [a, b], h =>
      simp at h
      have k1 := fun μ => law_is_side_ok (μ := μ) ht h.1
      have k2 := fun μ => law_is_side_ok (μ := μ) ht h.2
      unfold sideIn at k1 k2
      cases ea : sideOf a with
      | none => simp [isK, isKB, tupD, sizeLine_eq, k1, ea]
      | some s =>
        cases eb : sideOf b with
        | none => by_cases m1 : s.1 ∈ ths <;> simp [isK, isKB, tupD, sizeLine_eq, k1, k2, ea, eb, m1]
        | some u =>
          have ha := sideOf_is ea h.1
          have hb := sideOf_is eb h.2
          obtain ⟨a1, a2, _⟩ := sideOf_some ea
          obtain ⟨b1, b2, _⟩ := sideOf_some eb
          have q := fun μ => ha.1.eqF (μ := μ) hb.1
          have q2 := fun μ => ha.1.ltF (μ := μ) hb.1 ha.2 hb.2
          have q3 : ∀ μ, neF (.d (.str s.1)) (.d (.str u.1)) μ = .ok (.d (.bl (!decide (s.1 = u.1)))) μ := fun μ => (Is.str (nmB_strOk a2)).neF (Is.str (nmB_strOk b2))
          have i1 : ∀ μ, ixOf (.d a) μ 0 = some (.str s.1) := by rcases a1 with a1 | a1 <;> rw [a1] <;> simp
          have i2 : ∀ μ, ixOf (.d b) μ 0 = some (.str u.1) := by rcases b1 with b1 | b1 <;> rw [b1] <;> simp
          by_cases e : s = u
          · have q2 := fun μ => (q2 μ).trans (by rw [show DatumOrd.lt s u = false by rw [e]; exact dlt_self u])
            subst e
            by_cases m1 : s.1 ∈ ths <;> simp [isK, isKB, tupD, k1, k2, ea, eb, m1, q, q2, i1, i2, goodRule]
          · by_cases e1 : s.1 = u.1
            · have q3 := fun μ => (q3 μ).trans (by rw [decide_eq_true e1])
              have hg : goodRule (s, u) = false := by unfold goodRule; simp [e, e1]
              have m3 : s.1 ∈ ths ↔ u.1 ∈ ths := by rw [e1]
              by_cases m1 : s.1 ∈ ths
              · have m2 := m3.mp m1
                cases e2 : DatumOrd.lt s u <;> simp [isK, isKB, tupD, k1, k2, ea, eb, m1, m2, q, q2, q3, i1, i2, e, e2, hg]
              · simp [isK, isKB, tupD, k1, k2, ea, eb, m1, hg]
            · have hg : goodRule (s, u) = DatumOrd.lt s u := by unfold goodRule; rw [lt_side, if_neg e1]; simp [e]
              by_cases m1 : s.1 ∈ ths <;> by_cases m2 : u.1 ∈ ths <;> cases e2 : DatumOrd.lt s u <;> simp [isK, isKB, tupD, k1, k2, ea, eb, m1, m2, q, q2, q3, i1, i2, e, e1, e2, hg]
  all_goals simp [isK, isKB, tupD, sizeLine_eq, ]
theorem law_is_book_ok {v : D} {μ : Mem} (h : plain v = true) : f__law_is_book [.d v] μ = .ok (.d (.bl (bookB v))) μ := by
  simp [isK, isKB, tupD, sizeLine_eq, f__law_is_book, isK_plain h, bookB]
  cases v, h using plain_cases
  case tup l h | ntp l h =>
    match l, h with
    | [], _ => simp [isK, isKB, tupD, sizeLine_eq, ]
    | [a], _ => simp [isK, isKB, tupD, sizeLine_eq, ]
    | a :: b :: c :: r, _ =>
      have : ¬ ((r.length : Int) + 1 + 1 + 1 = 2) := by omega
      simp [isK, isKB, tupD, sizeLine_eq, this]
    | [a, b], h =>
      simp at h
      have k1 := fun μ => law_are_things_ok (μ := μ) h.1
      cases ha : thingsB a with
      | false => simp [isK, isKB, tupD, sizeLine_eq, k1, ha]
      | true =>
        have ht := thingsB_names ha h.1
        have hb := h.2
        simp [isK, isKB, tupD, sizeLine_eq, k1, ha, isK_plain hb, rulesIn]
        cases b, hb using plain_cases
        case tup r hb | ntp r hb =>
          simp at hb
          have hz : r.length ≤ 16777216 := by omega
          have hz1 : (r.length : Int) - 1 < 4611686018427387904 := by omega
          have hz2 : (-4611686018427387904 : Int) ≤ (r.length : Int) - 1 := by omega
          have hz3 : ((r.length : Int) - 1).toNat = r.length - 1 := by omega
          have hz4 : r.length - 1 ≤ 16777216 := by omega
          by_cases hm : r.length ≤ 60
          · have hm2 : ¬ ((60 : Int) < r.length) := by omega
            simp [isK, isKB, tupD, sizeLine_eq, k1, ha, hm, hm2, hz]
            rw [cLoop_map (f := fun e => .bl (ruleIn (namesOf a) e)) fun d hd => by simp [isK, isKB, tupD, sizeLine_eq, law_is_rule_ok ht (plains_iff.mp hb.2 d hd)]]
            cases hal : r.all (ruleIn (namesOf a)) with
            | false => simp [isK, isKB, tupD, sizeLine_eq, all_id_map, hal]
            | true =>
              have ha2 := List.all_eq_true.mp hal
              have key := fun v hv ρ xe hx μ => rising_ok (l := r) (v := v) (i := 2) (ρ := ρ) (lt := ltD) (μ := μ) (xe := xe) hx hv fun e e' he he' μ => ruleIn_ltF (ha2 e he) (ha2 e' he') (plains_iff.mp hb.2 e he) (plains_iff.mp hb.2 e' he')
              first
              | have k2 := fun μ => key (.tup r) (.inl rfl) (fstart [.d (.tup [a, .tup r])]) (fOp ixF (fV 0) (fC (.int 1))) (fun ρ' h μ => by simp [h 0 (by decide)]) μ
                simp [isK, isKB, tupD, sizeLine_eq, all_id_map, hal, hz1, hz2, hz3, hz4, k2]
                exact rising_range
              | have k2 := fun μ => key (.ntp r) (.inr rfl) (fstart [.d (.tup [a, .ntp r])]) (fOp ixF (fV 0) (fC (.int 1))) (fun ρ' h μ => by simp [h 0 (by decide)]) μ
                simp [isK, isKB, tupD, sizeLine_eq, all_id_map, hal, hz1, hz2, hz3, hz4, k2]
                exact rising_range
              | have k2 := fun μ => key (.tup r) (.inl rfl) (fstart [.d (.ntp [a, .tup r])]) (fOp ixF (fV 0) (fC (.int 1))) (fun ρ' h μ => by simp [h 0 (by decide)]) μ
                simp [isK, isKB, tupD, sizeLine_eq, all_id_map, hal, hz1, hz2, hz3, hz4, k2]
                exact rising_range
              | have k2 := fun μ => key (.ntp r) (.inr rfl) (fstart [.d (.ntp [a, .ntp r])]) (fOp ixF (fV 0) (fC (.int 1))) (fun ρ' h μ => by simp [h 0 (by decide)]) μ
                simp [isK, isKB, tupD, sizeLine_eq, all_id_map, hal, hz1, hz2, hz3, hz4, k2]
                exact rising_range
          · have hm2 : (60 : Int) < r.length := by omega
            simp [isK, isKB, tupD, sizeLine_eq, k1, ha, hm, hm2]
        all_goals simp [isK, isKB, tupD, sizeLine_eq, k1, ha]
  all_goals simp [isK, isKB, tupD, sizeLine_eq, ]
theorem thing_ok {B : List SV → M SV} (b : Bel B) {p : Pool} : ∃ d p', plain d = true ∧ f__law_thing B [.c 0] [pc p] = .ok (.d d) [pc p'] := by
  have key : gives (f__law_thing B [.c 0] [pc p]) fun s μ => ∃ d p', plain d = true ∧ s = .d d ∧ μ = [pc p'] := by
    have gp : CPow 10 29 := ⟨by decide, by decide, by decide⟩
    simp [isK, isKB, tupD, sizeLine_eq, f__law_thing, gp, fitK]
    have key2 : ∀ L : List D, plains L = true → 0 < L.length → L.length < 1073741824 → gives (oR (bR (callR [pc p] [0] (f__law_one B [.c 0, .d (.tup L)] [pc p])) fun s => ret (Out.rt s))) fun s μ => ∃ d p', plain d = true ∧ s = .d d ∧ μ = [pc p'] := fun L h1 h2 h3 => by
      obtain ⟨d, p', hd, e⟩ := one_ok b (p := p) (v := .tup L) (.inl rfl) h2 h3
      simp [isK, isKB, tupD, sizeLine_eq, e]
      exact gives_ok ⟨d, p', plains_iff.mp h1 d hd, rfl, rfl⟩
    refine key2 _ ?_ (by simp) (by simp)
    simp [plain, plains]
    decide +kernel
  obtain ⟨_, _, e, d, p', hd, rfl, rfl⟩ := key
  exact ⟨d, p', hd, e⟩
theorem pre_loop {x : Str} {ρ : FEnv} {μ : Mem} : cLoop (cStep (gN 7) fYes (fOp addF (fC (.str "a")) (fV 7)) [7] ρ) (strD x) μ = .ok ((cs x).map fun c => .str (("a" : Str) ++ ⟨#[c]⟩)) μ := by
  unfold strD
  rw [cLoop_mapT (f := fun c => .str (("a" : Str) ++ ⟨#[c]⟩)) fun c hc => ?_]
  have l1 : Str.length "a" = 1 := rfl
  have l2 : Str.length ⟨#[c]⟩ = 1 := rfl
  simp [isK, isKB, tupD, sizeLine_eq, cStep, l1, l2]
theorem pre_plain {x : Str} (h : PyData.strOk x = true) : plains ((cs x).map fun c => .str (("a" : Str) ++ ⟨#[c]⟩)) = true := plains_iff.mpr fun d hd => by
  obtain ⟨c, hc, rfl⟩ := List.mem_map.mp hd
  refine plain_s ?_ (by rw [cs_app]; simp; decide)
  rw [cs_app]
  intro e he
  rcases List.mem_append.mp he with he | he
  · exact strOk_iff.mp (show PyData.strOk "a" = true by decide +kernel) e he
  · simp at he; subst he; exact strOk_iff.mp h _ hc
theorem same_loop {l : List D} {x y : FX} {ρ : FEnv} {μ : Mem} {n : Nat} {z : R Out} (f : D → Bool) (h : ∀ d ∈ l, ∀ ρ', (∀ j, j ≠ 5 → ρ' j = ρ j) → ρ' 5 = .d d → x ρ' μ = .ok (.d (.bl (f d))) μ ∧ y ρ' μ = .ok (.d (.bl (f d))) μ)
    (el : fLoop (bF (gN 5) (fIfS (fTNot (fT (fCall (callM (f__law_same (n + 1))) (fCons x (fCons y fNil))))) (fRet (fC (.bl false))) fSkip)) l ρ μ = z) : ∃ ρ2, z = .ok (.nx ρ2) μ ∧ ∀ j, j ≠ 5 → ρ2 j = ρ j := by
  obtain ⟨ρ', μ', rfl, h1, rfl⟩ := loop_inv el (fun i ρ2 μ2 => (∀ j, j ≠ 5 → ρ2 j = ρ j) ∧ μ2 = μ) ⟨fun _ _ => rfl, rfl⟩ (by
    rintro i d ρ1 μ1 hd ⟨h1, rfl⟩
    obtain ⟨e1, e2⟩ := h d (List.mem_of_getElem? hd) (put ρ1 5 (.d d)) (fun j hj => by rw [put_ne hj, h1 j hj]) (by simp)
    simp [isK, isKB, tupD, sizeLine_eq, e1, e2, same_ok]
    exact ⟨fun j hj => by rw [put_ne hj, h1 j hj], rfl⟩)
  exact ⟨ρ', rfl, h1⟩
theorem plain_side {ths : List Str} {s : Side} (hs : okS ths s) (hnm : ∀ x ∈ ths, nmB x = true) : plain (sD s) = true := by
  simp [plain_name (nmB_good (hnm _ hs.1)), -plain_str]
theorem plain_rule {ths : List Str} {r : Rule} (hr : okR ths r) (hnm : ∀ x ∈ ths, nmB x = true) : plain (rD r) = true := by
  have h1 := plain_side hr.1 hnm
  have h2 := plain_side hr.2.1 hnm
  simp only [plain_tup, plains_cons, plains_nil, List.length_cons, List.length_nil] at h1 h2 ⊢
  simp [h1, h2] at *
  exact ⟨h1, h2⟩
theorem plain_rules {ths : List Str} {rs : List Rule} (hr : ∀ r ∈ rs, okR ths r) (hnm : ∀ x ∈ ths, nmB x = true) : plains (rs.map rD) = true := plains_iff.mpr fun d hd => by
  obtain ⟨r, h, rfl⟩ := List.mem_map.mp hd; exact plain_rule (hr r h) hnm
theorem book_plain {v : D} {ths : List Str} {rs : List Rule} (h : Book v ths rs) : plain v = true := by
  have e := h.eq
  subst e
  have e1 : plains (ths.map .str) = true := names_plain fun x hx => (h.tth.name x hx).1
  have e2 : plains (rs.map rD) = true := plain_rules h.rule fun x hx => (h.tth.name x hx).1
  have h1 := h.tth.hi
  have h2 := h.few
  simp [e1, e2]
  omega

end PL
namespace PL
open PySem PySem.Spec PyProof.Rows L2
open PySem.W (Datum DatumOrd)
noncomputable def f_sides_by : List SV → M SV := fDef 2 (fRet (fCall tupF (fCons (fCall lzipF (fCons (fV 0) (fCons (fV 1) fNil))) fNil)))
--.
noncomputable def f_broken_by : List SV → M SV := fDef 2 (fSeq (fAsg (fCall dzipF (fCons (fOp ixF (fV 0) (fC (.int 0))) (fCons (fV 1) fNil))) (gN 2))
  (fSeq (fAsg (fLstC fNil) (gN 3))
  (fSeq (fFor (enumF (fCons (fOp ixF (fV 0) (fC (.int 1))) fNil)) (gT [(gN 4), (gT [(gT [(gN 5), (gN 6)]), (gT [(gN 7), (gN 8)])])]) (fIfS (fTAnd (fT (fOp neF (fOp dgetF (fV 2) (fV 5)) (fV 6))) (fT (fOp neF (fOp dgetF (fV 2) (fV 7)) (fV 8)))) (fExpr (fMethL appendF (fV 3) (fCons (fV 4) fNil))) fSkip))
  (fRet (fCall tupF (fCons (fV 3) fNil))))))
--.
noncomputable def f_keeps_by : List SV → M SV := fDef 2 (fRet (fOp eqF (fCall (callM f_broken_by) (fCons (fV 0) (fCons (fV 1) fNil))) (fTup fNil)))
--.
noncomputable def f_is_choosing_by : List SV → M SV := fDef 2 (fRet (fCall (callM f_are_between) (fCons (fV 1) (fCons (fCall lenF (fCons (fV 0) fNil)) (fCons (fC (.int 0)) (fCons (fC (.int 1)) fNil))))))
--.
noncomputable def f_check_choosing : List SV → M SV := fDef 2 (fIfS (fTNot (fT (fCall (callM f_is_choosing_by) (fCons (fV 0) (fCons (fV 1) fNil))))) fNever fSkip)
--.
noncomputable def f_is_choosing : List SV → M SV := fDef 2 (fSeq (fExpr (fCall (callM f_check_things) (fCons (fV 0) fNil)))
  (fRet (fCall (callM f_is_choosing_by) (fCons (fV 0) (fCons (fV 1) fNil)))))
--.
noncomputable def f_sides_of : List SV → M SV := fDef 2 (fSeq (fExpr (fCall (callM f_check_things) (fCons (fV 0) fNil)))
  (fSeq (fExpr (fCall (callM f_check_choosing) (fCons (fV 0) (fCons (fV 1) fNil))))
  (fRet (fCall (callM f_sides_by) (fCons (fV 0) (fCons (fV 1) fNil))))))
--.
noncomputable def f_check_book : List SV → M SV := fDef 1 (fIfS (fTNot (fT (fCall (callM f_is_book_by) (fCons (fV 0) fNil)))) fNever fSkip)
--.
noncomputable def f_check_chosen : List SV → M SV := fDef 2 (fSeq (fExpr (fCall (callM f_check_book) (fCons (fV 0) fNil)))
  (fExpr (fCall (callM f_check_choosing) (fCons (fOp ixF (fV 0) (fC (.int 0))) (fCons (fV 1) fNil)))))
--.
noncomputable def f_keeps : List SV → M SV := fDef 2 (fSeq (fExpr (fCall (callM f_check_chosen) (fCons (fV 0) (fCons (fV 1) fNil))))
  (fRet (fCall (callM f_keeps_by) (fCons (fV 0) (fCons (fV 1) fNil)))))
--.
noncomputable def f_broken_rules : List SV → M SV := fDef 2 (fSeq (fExpr (fCall (callM f_check_chosen) (fCons (fV 0) (fCons (fV 1) fNil))))
  (fRet (fCall (callM f_broken_by) (fCons (fV 0) (fCons (fV 1) fNil)))))
--.
noncomputable def f__law_all : List SV → M SV := fDef 1 (fSeq (fAsg (fLst (fCons (fTup fNil) fNil)) (gN 1))
  (fSeq (fFor (rng1F (fCons (fV 0) fNil)) (gN 2) (fAsg (fOp addF (fLc finLF (itF (fV 1)) (gN 3) fYes (fOp addF (fV 3) (fTup (fCons (fC (.int 0)) fNil))) [3]) (fLc finLF (itF (fV 1)) (gN 3) fYes (fOp addF (fV 3) (fTup (fCons (fC (.int 1)) fNil))) [3])) (gN 1)))
  (fRet (fV 1))))
--.
noncomputable def f__law_is_choosing : List SV → M SV := fDef 2 (fRet (fAnd (fUn (isiF .tuple) (fV 1)) (fAnd (fOp eqF (fCall lenF (fCons (fV 1) fNil)) (fCall lenF (fCons (fV 0) fNil))) (fCall allF (fCons (fLc finLF (itF (fV 1)) (gN 2) fYes (fCall (callM f__law_is_number) (fCons (fV 2) (fCons (fC (.int 1)) fNil))) [2]) fNil)))))
--.
/-- a choosing of n things -/
def choB (n : Nat) (v : D) : Bool := match tupD v with
  | some l => decide (l.length = n) && l.all fun e => betwB e 0 1
  | none => false
theorem Ths.lenF {t : D} {ths : List Str} {μ : Mem} (h : Ths t ths) : lenF [.d t] μ = .ok (.d (.int ths.length)) μ := by
  rcases h.tup with e | e <;> subst e <;> simp [lenF, lenOf]
theorem Ths.lenOf {t : D} {ths : List Str} {μ : Mem} (h : Ths t ths) : lenOf (.d t) μ = some ths.length := by
  rcases h.tup with e | e <;> subst e <;> simp [PL.lenOf]
theorem is_choosing_by_ok {t v : D} {ths : List Str} {μ : Mem} (ht : Ths t ths) (h : plain v = true) : f_is_choosing_by [.d t, .d v] μ = .ok (.d (.bl (choB ths.length v))) μ := by
  have e := fun μ => are_between_ok (n := ths.length) (lo := 0) (hi := 1) (μ := μ) h
  simp [isK, isKB, tupD, sizeLine_eq, f_is_choosing_by, callM_s, e, ht.lenF]
  rfl
theorem is_choosing_ok {t v : D} {ths : List Str} {μ : Mem} (ht : Ths t ths) (h : plain v = true) : f_is_choosing [.d t, .d v] μ = .ok (.d (.bl (choB ths.length v))) μ := by
  simp [isK, isKB, tupD, sizeLine_eq, f_is_choosing, check_things_ok ht, is_choosing_by_ok ht h]
theorem check_choosing_ok {t v : D} {ths : List Str} {μ : Mem} (ht : Ths t ths) (h : plain v = true) (hv : choB ths.length v = true) : f_check_choosing [.d t, .d v] μ = .ok (.d .non) μ := by
  simp [isK, isKB, tupD, sizeLine_eq, f_check_choosing, is_choosing_by_ok ht h, hv]
theorem check_book_ok {v : D} {ths : List Str} {rs : List Rule} {μ : Mem} (h : Book v ths rs) : f_check_book [.d v] μ = .ok (.d .non) μ := by
  simp [isK, isKB, tupD, sizeLine_eq, f_check_book, is_book_by_ok (book_plain h), h.true]
/-- what a choosing says of a name -/
def vl : List Str → List Int → Str → Int
  | x :: xs, c :: cs, y => if x = y then c else vl xs cs y
  | _, _, _ => 0
theorem find_vl {y : Str} : ∀ {ths : List Str} {cs : List Int}, ths.length = cs.length → y ∈ ths → findD (ths.map .str) (cs.map .int) (.str y) = some (.int (vl ths cs y))
  | [], _, _, h => by simp at h
  | x :: xs, [], e, _ => by simp at e
  | x :: xs, c :: cs, e, h => by
    simp only [List.map_cons, findD, vl, D.str.injEq]
    by_cases q : x = y
    · simp [q]
    · rw [if_neg q, if_neg q]
      exact find_vl (by simpa using e) ((List.mem_cons.mp h).resolve_left fun z => q z.symm)
def hasS (ths : List Str) (cs : List Int) (s : Side) : Bool := decide (vl ths cs s.1 = s.2)
/-- a rule of which neither side is taken -/
def lost (ths : List Str) (cs : List Int) (r : Rule) : Bool := !hasS ths cs r.1 && !hasS ths cs r.2
def brkTo (ths : List Str) (cs : List Int) (rs : List Rule) (n : Nat) : List Nat := (List.range n).filter fun i => match rs[i]? with
  | some r => lost ths cs r
  | none => false
theorem brkTo_succ {ths : List Str} {cs : List Int} {rs : List Rule} {n : Nat} {r : Rule} (h : rs[n]? = some r) : brkTo ths cs rs (n + 1) = if lost ths cs r = true then brkTo ths cs rs n ++ [n] else brkTo ths cs rs n := by
  unfold brkTo
  rw [List.range_succ, List.filter_append]
  by_cases q : lost ths cs r = true <;> simp [h, q]
theorem brkTo_len {ths : List Str} {cs : List Int} {rs : List Rule} {n : Nat} : (brkTo ths cs rs n).length ≤ n := Nat.le_trans (List.length_filter_le _ _) (Nat.le_of_eq List.length_range)
theorem keys_of {ths : List Str} {cs : List Int} (hn : ths.Nodup) (e : ths.length = cs.length) : KeysOf (ths.map .str) (cs.map .int) := by
  refine ⟨⟨?_, by simpa using e⟩, fun d hd => ?_⟩
  · exact List.pairwise_map.mpr (hn.imp fun h q => h (by injection q))
  · obtain ⟨x, _, rfl⟩ := List.mem_map.mp hd
    rfl
theorem rise_ne {α : Type} [DecidableEq α] [DatumOrd α] {a b : α} (h : DatumOrd.lt a b = true) : a ≠ b := fun e => by
  subst e
  rw [← DatumOrd.lt_eq, PySem.W.dataLt_self] at h
  cases h
theorem Ths.nodup {t : D} {ths : List Str} (h : Ths t ths) : ths.Nodup := h.rise.imp rise_ne
theorem dgetF_dic {t : Bool} {ks vs : List D} {k d : D} {μ : Mem} (hf : fitK t k = true) (h : findD ks vs k = some d) : dgetF (.d (.dic t ks vs)) (.d k) μ = .ok (.d d) μ := by
  simp [dgetF, dicOf, grd, hf, h]
theorem dzip_ok {t v : D} {l m : List D} {μ : Mem} (ht : tupD t = some l) (hv : tupD v = some m) (h : KeysOf l m) : dzipF [.d t, .d v] μ = .ok (.d (.dic false l m)) μ := by
  have e1 : tupOf (.d t) = some l := by cases t <;> exact ht
  have e2 : tupOf (.d v) = some m := by cases v <;> exact hv
  simp [dzipF, e1, e2, grd, h, ret]
theorem has_ok {ths : List Str} {cs : List Int} {s : Side} {μ : Mem} (e : ths.length = cs.length) (hs : s.1 ∈ ths) : dgetF (.d (.dic false (ths.map .str) (cs.map .int))) (.d (.str s.1)) μ = .ok (.d (.int (vl ths cs s.1))) μ := dgetF_dic rfl (find_vl e hs)
theorem broken_by_ok {v c : D} {ths : List Str} {rs : List Rule} {cs : List Int} (hb : Book v ths rs) (hc : tupD c = some (cs.map .int)) (e : ths.length = cs.length) : ∃ R', f_broken_by [.d v, .d c] [] = .ok (.d (.ntp ((brkTo ths cs rs rs.length).map fun i => .int (i : Nat)))) R' := by
  have hv := hb.eq
  subst hv
  have hk := fun μ => dzip_ok (μ := μ) (tupD_n (l := ths.map .str)) hc (keys_of hb.tth.nodup e)
  simp [isK, isKB, tupD, sizeLine_eq, f_broken_by, hk]
  generalize el : fLoop _ _ _ _ = z
  obtain ⟨ρ', μ', rfl, r2, r3, rfl⟩ := loop_inv el (fun i ρ μ => ρ 2 = .d (.dic false (ths.map .str) (cs.map .int)) ∧ ρ 3 = .c 0 ∧ μ = [.lst ((brkTo ths cs rs i).map fun i => .int (i : Nat))]) ⟨by simp, by simp, rfl⟩ (by
    rintro i d ρ μ hd ⟨r2, r3, rfl⟩
    obtain ⟨d', h1, _, rfl⟩ := enumD_get hd
    rw [List.getElem?_map] at h1
    obtain ⟨⟨s, t⟩, hr, rfl⟩ := Option.map_eq_some_iff.mp h1
    obtain ⟨hs, ht, _⟩ := hb.rule _ (List.mem_of_getElem? hr)
    have f1 := fun μ => has_ok (μ := μ) e hs.1
    have f2 := fun μ => has_ok (μ := μ) e ht.1
    have hz : ((brkTo ths cs rs i).map fun i => D.int (i : Nat)).length < sizeLine := by
      have h2 := brkTo_len (ths := ths) (cs := cs) (rs := rs) (n := i)
      have h3 := (List.getElem?_eq_some_iff.mp hr).1
      have h4 := hb.few
      have h5 := sizeLine_le (n := 61) (by decide)
      rw [List.length_map]
      omega
    have ap := fun y => appendF_c (k := 0) (y := y) (μ := [.lst ((brkTo ths cs rs i).map fun i => .int (i : Nat))]) rfl hz
    rw [brkTo_succ hr]
    simp only [lost, hasS]
    by_cases g1 : vl ths cs s.1 = s.2 <;> by_cases g2 : vl ths cs t.1 = t.2 <;> simp [isK, isKB, tupD, sizeLine_eq, r2, r3, f1, f2, g1, g2, ap]
    all_goals exact ⟨by simp [r2], by simp [r3], by simp [g1, g2]⟩)
  simp [isK, isKB, tupD, sizeLine_eq, r3, tupF_c (k := 0) (μ := [.lst ((brkTo ths cs rs rs.length).map fun i => .int (i : Nat))]) rfl]
abbrev brk (ths : List Str) (cs : List Int) (rs : List Rule) : List Nat := brkTo ths cs rs rs.length
abbrev natsD (l : List Nat) : List D := l.map fun i => .int (i : Nat)
theorem okEq_nats {l : List Nat} : okEq (.ntp (natsD l)) = true := by
  have h := okEq_ntp (α := Int) (l := l.map fun i : Nat => (i : Int)) (fun _ _ => rfl)
  rwa [List.map_map] at h
theorem okEq_natsT {l : List Nat} : okEq (.tup (natsD l)) = true := by
  have h := okEq_tup (α := Int) (l := l.map fun i : Nat => (i : Int)) (fun _ _ => rfl)
  rwa [List.map_map] at h
theorem nats_nil {l : List Nat} {μ : Mem} : eqF (.d (.ntp (natsD l))) (.d (.tup [])) μ = .ok (.d (.bl (decide (l = [])))) μ := by
  rw [eqF_d okEq_nats (show okEq (.tup []) = true from rfl)]
  cases l <;> simp [deq, toPy, toPys, PyData.eqv, PyData.eqvAll]
theorem keeps_by_ok {v c : D} {ths : List Str} {rs : List Rule} {cs : List Int} (hb : Book v ths rs) (hc : tupD c = some (cs.map .int)) (e : ths.length = cs.length) : ∃ R', f_keeps_by [.d v, .d c] [] = .ok (.d (.bl (decide (brk ths cs rs = [])))) R' := by
  obtain ⟨R', h⟩ := broken_by_ok hb hc e
  have q : ∀ μ, eqF (.d (.ntp (natsD (brk ths cs rs)))) (.d (.tup [])) μ = .ok (.d (.bl (decide (brk ths cs rs = [])))) μ := fun μ => nats_nil
  simp [isK, isKB, tupD, sizeLine_eq, f_keeps_by, h, q]
theorem choB_of {c : D} {cs : List Int} {n : Nat} (hc : tupD c = some (cs.map .int)) (e : n = cs.length) (h : ∀ x ∈ cs, x = 0 ∨ x = 1) : choB n c = true := by
  simp only [choB, hc, Bool.and_eq_true, decide_eq_true_eq, List.length_map, List.all_eq_true, List.mem_map]
  refine ⟨e.symm, ?_⟩
  rintro d ⟨x, hx, rfl⟩
  rcases h x hx with q | q <;> subst q <;> rfl
theorem check_chosen_ok {v c : D} {ths : List Str} {rs : List Rule} {cs : List Int} {μ : Mem} (hb : Book v ths rs) (hc : tupD c = some (cs.map .int)) (e : ths.length = cs.length) (h : ∀ x ∈ cs, x = 0 ∨ x = 1) (hp : plain c = true) : f_check_chosen [.d v, .d c] μ = .ok (.d .non) μ := by
  have e1 := fun μ => check_book_ok (μ := μ) hb
  have e2 := fun μ => check_choosing_ok (μ := μ) hb.tth hp (choB_of hc e h)
  have hv := hb.eq
  subst hv
  simp [isK, isKB, tupD, sizeLine_eq, f_check_chosen, e1, e2]
theorem keeps_ok {v c : D} {ths : List Str} {rs : List Rule} {cs : List Int} (hb : Book v ths rs) (hc : tupD c = some (cs.map .int)) (e : ths.length = cs.length) (h : ∀ x ∈ cs, x = 0 ∨ x = 1) (hp : plain c = true) : ∃ R', f_keeps [.d v, .d c] [] = .ok (.d (.bl (decide (brk ths cs rs = [])))) R' := by
  obtain ⟨R', h1⟩ := keeps_by_ok hb hc e
  simp [isK, isKB, tupD, sizeLine_eq, f_keeps, check_chosen_ok hb hc e h hp, h1]
theorem broken_rules_ok {v c : D} {ths : List Str} {rs : List Rule} {cs : List Int} (hb : Book v ths rs) (hc : tupD c = some (cs.map .int)) (e : ths.length = cs.length) (h : ∀ x ∈ cs, x = 0 ∨ x = 1) (hp : plain c = true) : ∃ R', f_broken_rules [.d v, .d c] [] = .ok (.d (.ntp (natsD (brk ths cs rs)))) R' := by
  obtain ⟨R', h1⟩ := broken_by_ok hb hc e
  simp [isK, isKB, tupD, sizeLine_eq, f_broken_rules, check_chosen_ok hb hc e h hp, h1]
theorem law_is_choosing_ok {t v : D} {ths : List Str} {μ : Mem} (ht : Ths t ths) (h : plain v = true) : f__law_is_choosing [.d t, .d v] μ = .ok (.d (.bl (choB ths.length v))) μ := by
  simp [isK, isKB, tupD, sizeLine_eq, f__law_is_choosing, isK_plain h]
  cases v, h using plain_cases
  case tup l h | ntp l h =>
    simp at h
    have hz : l.length ≤ 16777216 := by omega
    by_cases h1 : l.length = ths.length
    · have lp : ∀ ρ : FEnv, cLoop (cStep (gN 2) fYes (fCall (callM f__law_is_number) (fCons (fV 2) (fCons (fC (.int 1)) fNil))) [2] ρ) l μ = .ok (l.map fun d => .bl (betwB d 0 1)) μ := fun ρ => cLoop_map (fun d => .bl (betwB d 0 1)) fun d hd => by
        simp [isK, isKB, tupD, sizeLine_eq, cStep, is_number_ok (plains_iff.mp h.2 d hd)]
      have h3 : ths.length ≤ 16777216 := by omega
      simp [isK, isKB, tupD, sizeLine_eq, choB, h1, h3, lp, ht.lenOf, bools_map, all_id_map]
    · have h2 : ¬ ((l.length : Int) = ths.length) := by omega
      simp [isK, isKB, tupD, sizeLine_eq, choB, h1, h2, hz, ht.lenOf]
  all_goals simp [isK, isKB, tupD, sizeLine_eq, choB]
theorem lzip_ok {t v : D} {l m : List D} {μ : Mem} (ht : tupD t = some l) (hv : tupD v = some m) : lzipF [.d t, .d v] μ = .ok (.d (.lst (zipD l m))) μ := by
  have e1 : tupOf (.d t) = some l := by cases t <;> exact ht
  have e2 : tupOf (.d v) = some m := by cases v <;> exact hv
  simp [lzipF, e1, e2]
theorem zipD_sides : ∀ {ths : List Str} {cs : List Int}, zipD (ths.map .str) (cs.map .int) = (ths.zip cs).map sD
  | [], _ => rfl
  | _ :: _, [] => rfl
  | x :: xs, c :: cs => by
    have h := zipD_sides (ths := xs) (cs := cs)
    unfold zipD at h ⊢
    simp only [List.map_cons, List.zipWith_cons_cons, List.zip_cons_cons, h]
theorem Ths.tupD {t : D} {ths : List Str} (h : Ths t ths) : tupD t = some (ths.map .str) := by
  rcases h.tup with e | e <;> subst e <;> rfl
theorem sides_of_ok {t c : D} {ths : List Str} {cs : List Int} {μ : Mem} (ht : Ths t ths) (hc : tupD c = some (cs.map .int)) (e : ths.length = cs.length) (h : ∀ x ∈ cs, x = 0 ∨ x = 1) (hp : plain c = true) : f_sides_of [.d t, .d c] μ = .ok (.d (.ntp ((ths.zip cs).map sD))) μ := by
  have e1 := fun μ => check_things_ok (μ := μ) ht
  have e2 := fun μ => check_choosing_ok (μ := μ) ht hp (choB_of hc e h)
  have e3 := fun μ => lzip_ok (μ := μ) ht.tupD hc
  rw [zipD_sides] at e3
  simp [isK, isKB, tupD, sizeLine_eq, f_sides_of, f_sides_by, e1, e2, e3]
/-- the same data, however their tuples came about -/
def alikeD : Nat → D → D → Bool
  | _, .int a, .int b => decide (a = b)
  | _, .str a, .str b => decide (a = b)
  | _, .bl a, .bl b => decide (a = b)
  | n + 1, v, w => match tupD v, tupD w with
    | some l, some m => decide (l.length = m.length) && (List.zip l m).all fun p => alikeD n p.1 p.2
    | _, _ => false
  | _, _, _ => false
theorem same_int {a : Int} {n : Nat} {μ : Mem} : f__law_same (n + 1) [.d (.int a), .d (.int a)] μ = .ok (.d (.bl true)) μ := by simp [isK, isKB, tupD, sizeLine_eq, f__law_same]
theorem same_str {a : Str} {n : Nat} {μ : Mem} (h : PyData.strOk a = true) : f__law_same (n + 1) [.d (.str a), .d (.str a)] μ = .ok (.d (.bl true)) μ := by
  simp [isK, isKB, tupD, sizeLine_eq, f__law_same, (Is.str h).eqF (Is.str h)]
theorem mem_zipD {l m : List D} {d : D} (h : d ∈ zipD l m) : ∃ p ∈ l.zip m, d = .tup [p.1, p.2] := by
  unfold zipD at h
  rw [← List.map_uncurry_zip_eq_zipWith] at h
  obtain ⟨p, hp, rfl⟩ := List.mem_map.mp h
  exact ⟨p, hp, rfl⟩
theorem same_tup {l m : List D} {v w : D} {n : Nat} {μ : Mem} (hv : tupD v = some l) (hw : tupD w = some m) (e : l.length = m.length) (hz : m.length ≤ 1000000) (h : ∀ p ∈ l.zip m, ∀ μ, f__law_same n [.d p.1, .d p.2] μ = .ok (.d (.bl true)) μ) : f__law_same (n + 1) [.d v, .d w] μ = .ok (.d (.bl true)) μ := by
  have lp : ∀ ρ : FEnv, cLoop (cStep (gT [gN 2, gN 3]) fYes (fCall (callM (f__law_same n)) (fCons (fV 2) (fCons (fV 3) fNil))) [2, 3] ρ) (zipD l m) μ = .ok ((zipD l m).map fun d => .bl ((fun _ => true) d)) μ := fun ρ => cLoop_map (fun d => .bl ((fun _ => true) d)) fun d hd => by
    obtain ⟨p, hp, rfl⟩ := mem_zipD hd
    simp [isK, isKB, tupD, sizeLine_eq, cStep, h p hp]
  have hl : (zipD l m).length = m.length := by rw [zipD_length, e]; omega
  have h2 : m.length ≤ 16777216 := by omega
  cases v <;> simp only [tupD, Option.some.injEq, reduceCtorEq] at hv <;> cases w <;> simp only [tupD, Option.some.injEq, reduceCtorEq] at hw <;> subst hv <;> subst hw
  all_goals simp [isK, isKB, tupD, sizeLine_eq, f__law_same, e, lp, hl, h2]
/-- data that judges of sameness can look through -/
def tameB : Nat → D → Bool
  | _, .int _ => true
  | _, .bl _ => true
  | _, .non => true
  | _, .str x => PyData.strOk x
  | n + 1, .tup l => decide (l.length ≤ 1000000) && l.all (tameB n)
  | n + 1, .ntp l => decide (l.length ≤ 1000000) && l.all (tameB n)
  | _, _ => false
theorem toPys_map : ∀ {l : List D}, toPys l = l.map toPy
  | [] => rfl
  | d :: l => by simp [toPys, toPys_map (l := l)]
theorem same_py : ∀ {n : Nat} {v w : D}, tameB n v = true → tameB n w = true → toPy v = toPy w → ∀ {μ : Mem}, f__law_same (n + 1) [.d v, .d w] μ = .ok (.d (.bl true)) μ := by
  intro n
  induction n with
  | zero =>
    intro v w hv hw e μ
    cases v <;> cases w <;> simp [tameB, toPy] at hv hw e
    all_goals try subst e
    · simp [isK, isKB, tupD, sizeLine_eq, f__law_same]
    · exact (same_ok).trans (by simp)
    · exact same_int
    · exact same_str hv
  | succ n ih =>
    intro v w hv hw e μ
    have tt : ∀ {l m : List D} {v w : D}, tupD v = some l → tupD w = some m → (l.length ≤ 1000000 ∧ l.all (tameB n) = true) → (m.length ≤ 1000000 ∧ m.all (tameB n) = true) → toPys l = toPys m → f__law_same (n + 2) [.d v, .d w] μ = .ok (.d (.bl true)) μ := fun {l m v w} h1 h2 h3 h4 e => by
      rw [toPys_map, toPys_map] at e
      have hl : l.length = m.length := by have := congrArg List.length e; simpa using this
      refine same_tup h1 h2 hl h4.1 fun p hp μ => ?_
      obtain ⟨i, hi⟩ := List.getElem?_of_mem hp
      rw [List.getElem?_zip_eq_some] at hi
      have h5 := List.all_eq_true.mp h3.2 _ (List.mem_of_getElem? hi.1)
      have h6 := List.all_eq_true.mp h4.2 _ (List.mem_of_getElem? hi.2)
      refine ih h5 h6 ?_
      have := congrArg (·[i]?) e
      simpa [hi.1, hi.2] using this
    cases v <;> cases w <;> simp [tameB, toPy] at hv hw e
    all_goals try subst e
    all_goals first
    | exact tt rfl rfl (by simpa using hv) (by simpa using hw) e
    | (simp [isK, isKB, tupD, sizeLine_eq, f__law_same]; done)
    | exact (same_ok).trans (by simp)
    | exact same_int
    | exact same_str hv
theorem same_mono : ∀ {n k : Nat} {v : D}, tameB n v = true → n ≤ k → tameB k v = true
  | n, k, .int _, _, _ | n, k, .bl _, _, _ | n, k, .non, _, _ => by cases k <;> rfl
  | n, k, .str x, h, _ => by cases n <;> cases k <;> exact h
  | 0, _, .tup _, h, _ | 0, _, .ntp _, h, _ => by cases h
  | n + 1, 0, _, _, h => by omega
  | n + 1, k + 1, .tup l, h, g | n + 1, k + 1, .ntp l, h, g => by
    simp only [tameB, Bool.and_eq_true, decide_eq_true_eq, List.all_eq_true] at h ⊢
    exact ⟨h.1, fun d hd => same_mono (h.2 d hd) (by omega)⟩
  | n, k, .lst _, h, _ | n, k, .dic _ _ _, h, _ | n, k, .fn _, h, _ | n, k, .ty _, h, _ | n, k, .scr _, h, _ | n, k, .obj _ _ _, h, _ => by cases n <;> cases h
theorem all_ok {n : Nat} {μ : Mem} (hn : n ≤ 14) : ∃ css : List (List Int), css.length = 2 ^ n ∧ (∀ cs ∈ css, cs.length = n ∧ ∀ x ∈ cs, x = 0 ∨ x = 1) ∧ f__law_all [.d (.int n)] μ = .ok (.d (.lst (css.map fun cs => .tup (cs.map .int)))) μ := by
  have key : gives (f__law_all [.d (.int n)] μ) fun s μ2 => ∃ css : List (List Int), css.length = 2 ^ n ∧ (∀ cs ∈ css, cs.length = n ∧ ∀ x ∈ cs, x = 0 ∨ x = 1) ∧ s = .d (.lst (css.map fun cs => .tup (cs.map .int))) ∧ μ2 = μ := by
    have z1 : (n : Int) < 4611686018427387904 := by omega
    have z2 : (-4611686018427387904 : Int) ≤ n := by omega
    have z3 : n ≤ 16777216 := by omega
    simp [isK, isKB, tupD, sizeLine_eq, f__law_all, z1, z2, z3]
    generalize el : fLoop _ _ _ _ = z
    obtain ⟨ρ', μ', rfl, css, c1, c2, r1, rfl⟩ := loop_inv el (fun i ρ μ2 => ∃ css : List (List Int), css.length = 2 ^ i ∧ (∀ cs ∈ css, cs.length = i ∧ ∀ x ∈ cs, x = 0 ∨ x = 1) ∧ ρ 1 = .d (.lst (css.map fun cs => .tup (cs.map .int))) ∧ μ2 = μ) ⟨[[]], rfl, by simp, by simp, rfl⟩ (by
      rintro i d ρ μ2 hd ⟨css, c1, c2, r1, rfl⟩
      have hi : i < n := by
        have := (List.getElem?_eq_some_iff.mp hd).1
        simpa [rngD] using this
      have hp : 2 ^ i ≤ 2 ^ 13 := Nat.pow_le_pow_right (by omega) (by omega)
      have hp : css.length ≤ 8192 := by rw [c1]; exact hp
      have lp : ∀ (b : Int) (ρ : FEnv), cLoop (cStep (gN 3) fYes (fOp addF (fV 3) (fTup (fCons (fC (.int b)) fNil))) [3] ρ) (css.map fun cs => .tup (cs.map .int)) μ2 = .ok (css.map fun cs => .tup ((cs ++ [b]).map .int)) μ2 := fun b ρ => by
        refine cLoop_mapT _ fun cs hcs => ?_
        have h1 := (c2 cs hcs).1
        have h2 : cs.length + 1 ≤ 16777216 := by omega
        simp [isK, isKB, tupD, sizeLine_eq, cStep, h2]
      have q1 : css.length ≤ 8388608 := by omega
      have q2 : css.length + css.length ≤ 16777216 := by omega
      have q0 : css.length ≤ 16777216 := by omega
      simp [isK, isKB, tupD, sizeLine_eq, r1, lp, finLF, q0, q1, q2]
      refine ⟨css.map (fun cs => cs ++ [0]) ++ css.map (fun cs => cs ++ [1]), ?_, ?_, ?_, rfl⟩
      · simp [c1, Nat.pow_succ]; omega
      · intro cs hcs
        simp only [List.mem_append, List.mem_map] at hcs
        rcases hcs with ⟨a, ha, rfl⟩ | ⟨a, ha, rfl⟩ <;> refine ⟨by simp [(c2 a ha).1], fun x hx => ?_⟩ <;> simp at hx <;> rcases hx with hx | hx
        · exact (c2 a ha).2 x hx
        · exact .inl hx
        · exact (c2 a ha).2 x hx
        · exact .inr hx
      · simp [Function.comp_def])
    simp [isK, isKB, tupD, sizeLine_eq, r1]
    have hL : (rngD 0 n).length = n := by simp [rngD]
    refine gives_ok ⟨css, ?_, ?_, rfl, rfl⟩
    · simpa using c1
    · simpa using c2
  obtain ⟨_, _, e, css, h1, h2, rfl, rfl⟩ := key
  exact ⟨css, h1, h2, e⟩
theorem enumD_map {α : Type} {en : α → D} {l : List α} : enumD (l.map en) = l.zipIdx.map fun p => .tup [.int (p.2 : Nat), en p.1] := by
  apply List.ext_getElem?
  intro i
  unfold enumD
  rw [List.getElem?_mapIdx, List.getElem?_map, List.getElem?_map, List.getElem?_zipIdx]
  cases l[i]? <;> simp
theorem pick_idx {α : Type} {P : α → Bool} {l : List α} : (l.zipIdx.filterMap fun p => if P p.1 = true then some (D.int (p.2 : Nat)) else none) = natsD ((List.range l.length).filter fun i => match l[i]? with
    | some a => P a
    | none => false) := by
  have h : ∀ n, n ≤ l.length → ((l.zipIdx.take n).filterMap fun p => if P p.1 = true then some (D.int (p.2 : Nat)) else none) = natsD ((List.range n).filter fun i => match l[i]? with
    | some a => P a
    | none => false) := fun n => by
    induction n with
    | zero => intro _; rfl
    | succ n ih =>
      intro hn
      have e := List.getElem?_eq_getElem (show n < l.length by omega)
      rw [List.take_succ, List.getElem?_zipIdx, e, List.filterMap_append, ih (by omega), List.range_succ, List.filter_append]
      unfold natsD
      rw [List.map_append]
      congr 1
      by_cases q : P l[n] = true <;> simp [e, q]
  have := h l.length (Nat.le_refl _)
  rwa [List.take_of_length_le (by simp)] at this
theorem same_nats {l : List Nat} {μ : Mem} (h : l.length ≤ 1000000) : f__law_same 12 [.d (.ntp (natsD l)), .d (.ntp (natsD l))] μ = .ok (.d (.bl true)) μ := by
  have q : tameB 11 (.ntp (natsD l)) = true := by
    simp only [tameB, Bool.and_eq_true, decide_eq_true_eq, List.all_eq_true, List.length_map]
    refine ⟨h, fun d hd => ?_⟩
    obtain ⟨x, _, rfl⟩ := List.mem_map.mp hd
    rfl
  exact same_py q q rfl
theorem same_sides {ss : List Side} {μ : Mem} (h : ss.length ≤ 1000000) (hs : ∀ s ∈ ss, PyData.strOk s.1 = true) : f__law_same 12 [.d (.ntp (ss.map sD)), .d (.ntp (ss.map sD))] μ = .ok (.d (.bl true)) μ := by
  have q : tameB 11 (.ntp (ss.map sD)) = true := by
    simp only [tameB, Bool.and_eq_true, decide_eq_true_eq, List.all_eq_true, List.length_map]
    refine ⟨h, fun d hd => ?_⟩
    obtain ⟨x, hx, rfl⟩ := List.mem_map.mp hd
    simp [tameB, hs x hx]
  exact same_py q q rfl
/-- a row of truths that are all true -/
theorem trues {ys : List D} (hg : ∀ y ∈ ys, y = .bl true) : ∃ bs, bools ys = some bs ∧ bs.all id = true := by
  induction ys with
  | nil => exact ⟨[], rfl, rfl⟩
  | cons a l ih =>
    obtain ⟨bs, h1, h2⟩ := ih fun y hy => hg y (by simp [hy])
    have h3 := hg a (by simp)
    subst h3
    exact ⟨true :: bs, by simp [bools, h1], by simpa using h2⟩

end PL
namespace PL
open PySem PySem.Spec PyProof.Rows L2
open PySem.W (Datum DatumOrd)
noncomputable def f__wall : List SV → M SV := fDef 1 (fWhile (fT (fC (.bl true))) fSkip)
--.
noncomputable def f_all_sides : List SV → M SV := fDef 1 (fRet (fCall tupF (fCons (fLc2 finLF (itF (fV 0)) (gN 1) fYes (itF (fTup (fCons (fC (.int 0)) (fCons (fC (.int 1)) fNil)))) (gN 2) fYes (fTup (fCons (fV 1) (fCons (fV 2) fNil))) [1, 2] [2]) fNil)))
--.
noncomputable def f_Leads___init__ : List SV → M SV := fDef 2 (fSeq (fFld "Leads" "things" (fV 0) (fOp ixF (fV 1) (fC (.int 0))))
  (fSeq (fFld "Leads" "steps" (fV 0) (fDcC (itF (fCall (callM f_all_sides) (fCons (fAttr "Leads" "things" (fV 0)) fNil))) (gN 3) fYes (fV 3) (fLstC fNil) [3]))
  (fFor (enumF (fCons (fOp ixF (fV 1) (fC (.int 1))) fNil)) (gT [(gN 2), (gT [(gN 3), (gN 4)])]) (fSeq (fExpr (fMethL appendF (fOp cgetF (fAttr "Leads" "steps" (fV 0)) (fCall (callM f__law_back) (fCons (fV 3) fNil))) (fCons (fTup (fCons (fV 2) (fCons (fV 4) fNil))) fNil)))
  (fIfS (fT (fOp neF (fV 3) (fV 4))) (fExpr (fMethL appendF (fOp cgetF (fAttr "Leads" "steps" (fV 0)) (fCall (callM f__law_back) (fCons (fV 4) fNil))) (fCons (fTup (fCons (fV 2) (fCons (fV 3) fNil))) fNil))) fSkip)))))
--.
noncomputable def f_back : List SV → M SV := fDef 1 (fSeq (fIfS (fTNot (fT (fCall (callM f_is_some_side) (fCons (fV 0) fNil)))) fNever fSkip)
  (fRet (fCall (callM f__law_back) (fCons (fV 0) fNil))))
--.
noncomputable def f_check_side : List SV → M SV := fDef 2 (fIfS (fTNot (fT (fCall (callM f_is_side_by) (fCons (fV 0) (fCons (fV 1) fNil))))) fNever fSkip)
--.
noncomputable def f_rules_of : List SV → M SV := fDef 2 (fSeq (fExpr (fCall (callM f_check_book) (fCons (fV 0) fNil)))
  (fSeq (fExpr (fCall (callM f_check_side) (fCons (fOp ixF (fV 0) (fC (.int 0))) (fCons (fV 1) fNil))))
  (fRet (fCall tupF (fCons (fLc finLF (itF (fOp dgetF (fAttr "Leads" "steps" (fCall (makeF "Leads" f_Leads___init__) (fCons (fV 0) fNil))) (fV 1))) (gT [(gN 2), (gN 3)]) fYes (fV 2) [2, 3]) fNil)))))
--.
theorem all_sides_ok {v : D} {ths : List Str} {μ : Mem} (h : Ths v ths) : f_all_sides [.d v] μ = .ok (.d (.ntp ((sidesOf ths).map sD))) μ := by
  have hz := h.hi
  have lp : ∀ (ρ : FEnv), cLoop2 (cStep2 (gN 1) fYes (itF (fTup (fCons (fC (.int 0)) (fCons (fC (.int 1)) fNil)))) (gN 2) fYes (fTup (fCons (fV 1) (fCons (fV 2) fNil))) [1, 2] [2] ρ) (ths.map .str) μ = .ok ((sidesOf ths).map sD) μ := fun ρ => by
    rw [cLoop2_mapT (f := fun x => [sD (x, 0), sD (x, 1)]) fun x hx => ?_]
    · refine congrArg (R.ok · μ) ?_
      unfold sidesOf
      rw [List.map_flatMap]
      rfl
    · simp (disch := first | assumption | omega | (simp [sizeLine_eq]; done) | (simp [sizeLine_eq]; omega) | fail) [isK, isKB, tupD, sizeLine_eq, grd_pos, cStep2]
      rw [cLoop_map (f := fun d => .tup [.str x, d]) fun d _ => by simp (disch := first | assumption | omega | (simp [sizeLine_eq]; done) | (simp [sizeLine_eq]; omega) | fail) [isK, isKB, tupD, sizeLine_eq, grd_pos, cStep]]
      rfl
  have hl : (sidesOf ths).length ≤ 28 := by rw [sidesOf_len]; omega
  rcases h.tup with e | e <;> subst e <;> simp (disch := first | assumption | omega | (simp [sizeLine_eq]; done) | (simp [sizeLine_eq]; omega) | fail) [isK, isKB, tupD, sizeLine_eq, grd_pos, f_all_sides, lp, finLF]
theorem sD_inj {s t : Side} (h : sD s = sD t) : s = t := by
  obtain ⟨a, b⟩ := s
  obtain ⟨c, d⟩ := t
  simp at h
  simp [h]
theorem fit_sD {s : Side} : fitK true (sD s) = true := rfl
theorem findS_at {α : Type} {en : α → D} (inj : ∀ a b, en a = en b → a = b) : ∀ {l : List α} {vs : List SV} {i : Nat} {a : α} {v : SV}, l.Nodup → l[i]? = some a → vs[i]? = some v → findS (l.map en) vs (en a) = some v
  | [], _, _, _, _, _, h, _ => by simp at h
  | b :: l, [], _, _, _, _, _, h => by simp at h
  | b :: l, w :: vs, 0, a, v, _, h, h2 => by
    simp at h h2
    subst h h2
    simp [findS]
  | b :: l, w :: vs, i + 1, a, v, hn, h, h2 => by
    simp only [List.getElem?_cons_succ] at h h2
    obtain ⟨h3, h4⟩ := List.nodup_cons.mp hn
    have ne : ¬ en b = en a := fun z => h3 (by rw [inj _ _ z]; exact List.mem_of_getElem? h)
    simp only [List.map_cons, findS]
    rw [if_neg ne]
    exact findS_at inj h4 h h2
theorem findD_at {α : Type} {en : α → D} (inj : ∀ a b, en a = en b → a = b) (g : α → D) : ∀ {l : List α} {a : α}, a ∈ l → findD (l.map en) (l.map g) (en a) = some (g a)
  | [], _, h => by simp at h
  | b :: l, a, h => by
    simp only [List.map_cons, findD]
    by_cases z : en b = en a
    · rw [if_pos z, inj _ _ z]
    · rw [if_neg z]
      exact findD_at inj g ((List.mem_cons.mp h).resolve_left fun q => z (by rw [q]))
theorem map_set {α β : Type} [DecidableEq α] {l : List α} (hn : l.Nodup) {i : Nat} {a : α} (h : l[i]? = some a) {f g : α → β} (hg : ∀ b ∈ l, b ≠ a → g b = f b) : (l.map f).set i (g a) = l.map g := by
  apply List.ext_getElem?
  intro j
  by_cases e : i = j
  · subst e
    have hl : i < (l.map f).length := by rw [List.length_map]; exact (List.getElem?_eq_some_iff.mp h).1
    rw [List.getElem?_set_self hl, List.getElem?_map, h]
    rfl
  · rw [List.getElem?_set_ne e, List.getElem?_map, List.getElem?_map]
    cases h2 : l[j]? with
    | none => rfl
    | some b =>
      have ne : b ≠ a := fun z => e ((List.getElem?_inj (List.getElem?_eq_some_iff.mp h).1 hn).mp (by rw [h, h2, z]))
      simp only [Option.map_some]
      rw [hg b (List.mem_of_getElem? h2) ne]
/-- {k: [] for k in ..} -/
abbrev cellsAt (j n : Nat) : List SV := (List.range n).map fun k => .c (j + 1 + k)
theorem dc_lists {α : Type} {en : α → D} (inj : ∀ a b, en a = en b → a = b) (fit : ∀ a, fitK true (en a) = true) {i : Nat} {ρ : FEnv} {μ : Mem} : ∀ (l done : List α), (done ++ l).Nodup → (done ++ l).length ≤ 1000000 →
    dcLoop (dcStep (gN i) fYes (fV i) (fLstC fNil) [i] ρ μ.length) (l.map en) (μ ++ .dC (done.map en) (cellsAt μ.length done.length) :: done.map fun _ => .lst []) = .ok () (μ ++ .dC ((done ++ l).map en) (cellsAt μ.length (done ++ l).length) :: (done ++ l).map fun _ => .lst [])
  | [], done, _, _ => by simp [dcLoop]
  | a :: l, done, hn, hz => by
    have ih := dc_lists inj fit (i := i) (ρ := ρ) (μ := μ) l (done ++ [a]) (by simpa using hn) (by simpa using hz)
    have na : en a ∉ done.map en := fun h => by
      obtain ⟨b, hb, e⟩ := List.mem_map.mp h
      have := (List.nodup_append.mp hn).2.2 b hb a (by simp)
      exact this (inj _ _ e)
    have nz : done.length < sizeLine := by
      have := sizeLine_le (n := 1000000) (by decide)
      simp at hz
      omega
    have st : dcStep (gN i) fYes (fV i) (fLstC fNil) [i] ρ μ.length (en a) (μ ++ .dC (done.map en) (cellsAt μ.length done.length) :: done.map fun _ => .lst []) = .ok () (μ ++ .dC ((done ++ [a]).map en) (cellsAt μ.length (done ++ [a]).length) :: (done ++ [a]).map fun _ => .lst []) := by
      have pc := cputM_c (j := μ.length) (d := en a) (s := .c (μ.length + 1 + done.length)) (ks := done.map en) (us := cellsAt μ.length done.length) (μ := (μ ++ .dC (done.map en) (cellsAt μ.length done.length) :: done.map fun _ => .lst []) ++ [.lst []])
        (by simp) (fit a) (by simpa using nz) (by simp)
      have e1 : (μ ++ Cell.dC (done.map en) (cellsAt μ.length done.length) :: done.map fun _ => Cell.lst []).length = μ.length + 1 + done.length := by simp; omega
      unfold dcStep
      simp [isK, isKB, tupD, sizeLine_eq, e1]
      rw [show μ ++ Cell.dC (done.map en) (cellsAt μ.length done.length) :: (List.map (fun x => Cell.lst []) done ++ [Cell.lst []]) = (μ ++ .dC (done.map en) (cellsAt μ.length done.length) :: done.map fun _ => .lst []) ++ [.lst []] by simp]
      rw [pc]
      refine congrArg (R.ok ()) ?_
      have h1 : putKs (done.map en) (en a) = (done ++ [a]).map en := by unfold putKs; rw [if_neg na]; simp
      have h2 : putSs (done.map en) (cellsAt μ.length done.length) (en a) (.c (μ.length + 1 + done.length)) = cellsAt μ.length (done ++ [a]).length := by
        unfold putSs; rw [if_neg na]; simp [cellsAt, List.range_succ]
      rw [h1, h2]
      simp
    rw [List.map_cons, dcLoop]
    simp only [st]
    rw [show done ++ a :: l = done ++ [a] ++ l by simp]
    exact ih
/-! where rules lead -/
abbrev stD (p : Nat × Side) : D := .tup [.int (p.1 : Nat), sD p.2]
/-- the steps from a side by one rule -/
def stp (s : Side) (p : Rule × Nat) : List (Nat × Side) := (if s = sBack p.1.1 then [(p.2, p.1.2)] else []) ++ (if p.1.1 ≠ p.1.2 ∧ s = sBack p.1.2 then [(p.2, p.1.1)] else [])
def stpsTo (rs : List Rule) (n : Nat) (s : Side) : List (Nat × Side) := (rs.zipIdx.take n).flatMap (stp s)
abbrev stps (rs : List Rule) (s : Side) : List (Nat × Side) := stpsTo rs rs.length s
theorem stpsTo_succ {rs : List Rule} {n : Nat} {r : Rule} {s : Side} (h : rs[n]? = some r) : stpsTo rs (n + 1) s = stpsTo rs n s ++ stp s (r, n) := by
  unfold stpsTo
  rw [List.take_succ, List.getElem?_zipIdx, h, List.flatMap_append]
  simp
theorem stp_map {s a b : Side} {i : Nat} : (stp s ((a, b), i)).map stD = (if s = sBack a then [stD (i, b)] else []) ++ (if a ≠ b ∧ s = sBack b then [stD (i, a)] else []) := by
  unfold stp
  rw [List.map_append]
  congr 1 <;> split <;> rfl
theorem add_if {α : Type} {P : Prop} [Decidable P] {F x : List α} : (if P then F ++ x else F) = F ++ (if P then x else []) := by
  split <;> simp
theorem stp_len {s : Side} {p : Rule × Nat} : (stp s p).length ≤ 2 := by
  unfold stp
  rw [List.length_append]
  split <;> split <;> simp
theorem stpsTo_len {rs : List Rule} {s : Side} : ∀ {n : Nat}, n ≤ rs.length → (stpsTo rs n s).length ≤ 2 * n
  | 0, _ => by simp [stpsTo]
  | n + 1, h => by
    rw [stpsTo_succ (List.getElem?_eq_getElem (show n < rs.length by omega)), List.length_append]
    have := stpsTo_len (rs := rs) (s := s) (n := n) (by omega)
    have := stp_len (s := s) (p := (rs[n], n))
    omega
abbrev stepsD (ths : List Str) (f : Side → List D) : D := .dic true ((sidesOf ths).map sD) ((sidesOf ths).map fun s => .lst (f s))
def leadsD (ths : List Str) (rs : List Rule) : D := .obj "Leads" ["things", "steps"] [.ntp (ths.map .str), stepsD ths fun s => (stps rs s).map stD]
/-- while it is made -/
abbrev leadsM (ths : List Str) (f : Side → List D) : Mem := .inC "Leads" ["things", "steps"] [.d (.ntp (ths.map .str)), .c 1] :: .dC ((sidesOf ths).map sD) (cellsAt 1 (sidesOf ths).length) :: (sidesOf ths).map fun s => .lst (f s)
theorem sides_nodup {ths : List Str} (h : ths.Nodup) : (sidesOf ths).Nodup := by
  unfold sidesOf List.Nodup
  rw [List.pairwise_flatMap]
  refine ⟨fun a _ => by simp, h.imp fun {a b} hab x hx y hy e => ?_⟩
  simp at hx hy
  rcases hx with rfl | rfl <;> rcases hy with rfl | rfl <;> simp at e <;> exact hab e
/-- one append -/
theorem steps_add {ths : List Str} (hn : ths.Nodup) {f : Side → List D} {t : Side} (ht : okS ths t) : ∃ k, cgetF (.c 1) (.d (sD t)) (leadsM ths f) = .ok (.c k) (leadsM ths f) ∧ lstOf (.c k) (leadsM ths f) = some (f t) ∧
    ∀ x, (f t).length < sizeLine → appendF (.c k) [.d x] (leadsM ths f) = .ok (.d .non) (leadsM ths fun s => if s = t then f s ++ [x] else f s) := by
  have hs := sides_nodup hn
  obtain ⟨i, hi⟩ := List.getElem?_of_mem (mem_sidesOf.mpr ht)
  have hl := (List.getElem?_eq_some_iff.mp hi).1
  have hc : (leadsM ths f)[1 + 1 + i]? = some (.lst (f t)) := by
    rw [show 1 + 1 + i = i + 1 + 1 by omega, List.getElem?_cons_succ, List.getElem?_cons_succ, List.getElem?_map, hi]
    rfl
  refine ⟨1 + 1 + i, ?_, lstOf_c hc, fun x hz => ?_⟩
  · refine cgetF_c (ks := (sidesOf ths).map sD) (us := cellsAt 1 (sidesOf ths).length) rfl fit_sD (findS_at (fun _ _ => sD_inj) hs hi ?_)
    simp [hl]
  · rw [appendF_c hc hz]
    refine congrArg (R.ok _) ?_
    rw [show 1 + 1 + i = i + 1 + 1 by omega]
    simp only [leadsM, List.set_cons_succ]
    congr 2
    have := map_set hs hi (f := fun s => Cell.lst (f s)) (g := fun s => Cell.lst (if s = t then f s ++ [x] else f s)) fun b _ hb => by simp [hb]
    simpa using this
theorem putFn_2 : putFn "steps" ["things"] = (["things", "steps"] : List Str) := by decide +kernel
theorem putFv_2 {u v : SV} : putFv "steps" v ["things"] [u] = [u, v] := by
  unfold putFv
  rw [if_neg (by decide +kernel)]
  rfl
theorem find_things {α : Type} {ns : List Str} {vs : List α} {v : α} : findF "things" ("things" :: ns) (v :: vs) = some v := by
  unfold findF
  rw [if_pos (by decide +kernel)]
theorem find_steps {α : Type} {ns : List Str} {vs : List α} {u v : α} : findF "steps" ("things" :: "steps" :: ns) (u :: v :: vs) = some v := by
  unfold findF
  rw [if_neg (by decide +kernel)]
  unfold findF
  rw [if_pos (by decide +kernel)]
theorem leads_init {v : D} {ths : List Str} {rs : List Rule} (hb : Book v ths rs) : f_Leads___init__ [.c 0, .d v] [.inC "Leads" [] []] = .ok (.d .non) (leadsM ths fun s => (stps rs s).map stD) := by
  have hv := hb.eq
  subst hv
  have ht := hb.tth
  have hnm : ∀ x ∈ ths, nmB x = true := fun x hx => (ht.name x hx).1
  have h14 := ht.hi
  have h60 := hb.few
  have hs2 : (sidesOf ths).length ≤ 28 := by rw [sidesOf_len]; omega
  have k1 : fldK "Leads" "things" (.d (.ntp (ths.map .str))) (.c 0) [.inC "Leads" [] []] = .ok () [.inC "Leads" ["things"] [.d (.ntp (ths.map .str))]] := fldK_c (ns := []) (us := []) rfl (by decide) (by simp)
  have k2 : attrK "Leads" "things" (.c 0) [.inC "Leads" ["things"] [.d (.ntp (ths.map .str))]] = .ok (.d (.ntp (ths.map .str))) [.inC "Leads" ["things"] [.d (.ntp (ths.map .str))]] := attrK_c rfl find_things
  have k3 := fun μ => all_sides_ok (μ := μ) ht
  have k4 : ∀ ρ, dcK (dcStep (gN 3) fYes (fV 3) (fLstC fNil) [3] ρ) ((sidesOf ths).map sD) [.inC "Leads" ["things"] [.d (.ntp (ths.map .str))]] = .ok (.c 1) (.inC "Leads" ["things"] [.d (.ntp (ths.map .str))] :: .dC ((sidesOf ths).map sD) (cellsAt 1 (sidesOf ths).length) :: (sidesOf ths).map fun s => .lst []) := fun ρ => by
    have e := dc_lists (en := sD) (fun _ _ => sD_inj) (fun _ => fit_sD) (i := 3) (ρ := ρ) (μ := [.inC "Leads" ["things"] [.d (.ntp (ths.map .str))]]) (sidesOf ths) [] (by simpa using sides_nodup ht.nodup) (by simp; omega)
    unfold dcK
    simp only [List.map_nil, List.nil_append, List.length_nil, List.range_zero, List.length_cons, Nat.zero_add, cellsAt] at e ⊢
    rw [e]
    rfl
  have k5 : fldK "Leads" "steps" (.c 1) (.c 0) (.inC "Leads" ["things"] [.d (.ntp (ths.map .str))] :: .dC ((sidesOf ths).map sD) (cellsAt 1 (sidesOf ths).length) :: (sidesOf ths).map fun s => .lst []) = .ok () (leadsM ths fun _ => []) := by
    rw [fldK_c (ns := ["things"]) (us := [.d (.ntp (ths.map .str))]) rfl (by decide) (by simp), putFn_2, putFv_2]
    rfl
  simp (disch := first | assumption | omega | (simp [sizeLine_eq]; done) | (simp [sizeLine_eq]; omega) | fail) [isK, isKB, tupD, sizeLine_eq, grd_pos, f_Leads___init__, k1, k2, k3, k4, k5]
  generalize el : fLoop _ _ _ _ = z
  obtain ⟨ρ', μ', rfl, r0, rfl⟩ := loop_inv el (fun i ρ μ => ρ 0 = .c 0 ∧ μ = leadsM ths fun s => (stpsTo rs i s).map stD) ⟨by simp, by simp [stpsTo]⟩ (by
    rintro i d ρ μ hd ⟨r0, rfl⟩
    obtain ⟨d', g1, _, rfl⟩ := enumD_get hd
    rw [List.getElem?_map] at g1
    obtain ⟨⟨a, b⟩, hr, rfl⟩ := Option.map_eq_some_iff.mp g1
    obtain ⟨ha, hbb, _⟩ := hb.rule _ (List.mem_of_getElem? hr)
    have hi := (List.getElem?_eq_some_iff.mp hr).1
    have at1 : ∀ f, attrK "Leads" "steps" (.c 0) (leadsM ths f) = .ok (.c 1) (leadsM ths f) := fun f => attrK_c rfl find_steps
    have bk := fun s => back_ok (s := s) (μ := [])
    have sz : ∀ s, ((stpsTo rs i s).map stD).length + 1 < sizeLine := fun s => by
      have := stpsTo_len (s := s) (n := i) (rs := rs) (by omega)
      have := sizeLine_le (n := 1000000) (by decide)
      simp; omega
    obtain ⟨k, a1, a2, a3⟩ := steps_add ht.nodup (f := fun s => (stpsTo rs i s).map stD) (okS_back ha)
    have a3 := a3 (stD (i, b)) (by have := sz (sBack a); simp only at this ⊢; omega)
    have ne := fun μ => (is_side_is ha hnm).neF (μ := μ) (is_side_is hbb hnm)
    by_cases e : a = b
    · have ne := fun μ => (ne μ).trans (by rw [decide_eq_true e])
      simp (disch := first | assumption | omega | (simp [sizeLine_eq]; done) | (simp [sizeLine_eq]; omega) | fail) [isK, isKB, tupD, sizeLine_eq, grd_pos, r0, at1, bk, a1, a2, a3, ne]
      refine ⟨by simp [r0], congrArg (leadsM ths) (funext fun s => ?_)⟩
      rw [stpsTo_succ hr, List.map_append, stp_map, add_if]
      simp only [e, ne_eq, not_true_eq_false, false_and, if_false, List.append_nil]
    · have ne := fun μ => (ne μ).trans (by rw [decide_eq_false e])
      obtain ⟨k', b1, b2, b3⟩ := steps_add ht.nodup (f := fun s => if s = sBack a then (stpsTo rs i s).map stD ++ [stD (i, b)] else (stpsTo rs i s).map stD) (okS_back hbb)
      have b3 := b3 (stD (i, a)) (by have := sz (sBack b); split <;> simp at this ⊢ <;> omega)
      simp (disch := first | assumption | omega | (simp [sizeLine_eq]; done) | (simp [sizeLine_eq]; omega) | fail) [isK, isKB, tupD, sizeLine_eq, grd_pos, r0, at1, bk, a1, a2, a3, ne, b1, b2, b3]
      refine ⟨by simp [r0], congrArg (leadsM ths) (funext fun s => ?_)⟩
      rw [stpsTo_succ hr, List.map_append, stp_map]
      simp only [add_if, e, ne_eq, not_false_eq_true, true_and, List.append_assoc]
      clear el k1 k2 k3 k4 k5 a1 a2 a3 b1 b2 b3
      split <;> rename_i q2 <;> simp [q2])
  simp (disch := first | assumption | omega | (simp [sizeLine_eq]; done) | (simp [sizeLine_eq]; omega) | fail) [isK, isKB, tupD, sizeLine_eq, grd_pos, ]
theorem optAll_some {α : Type} : ∀ {l : List α}, optAll (l.map some) = some l
  | [] => rfl
  | a :: l => by
    simp only [List.map_cons, optAll, optAll_some (l := l)]
    rfl
theorem leads_frz {ths : List Str} {f : Side → List D} : frzS 0 (leadsM ths f) 3 (.c 0) = some (.obj "Leads" ["things", "steps"] [.ntp (ths.map .str), stepsD ths f]) := by
  have h1 : (cellsAt 1 (sidesOf ths).length).map (fun s => frzS 0 (leadsM ths f) 1 s) = ((sidesOf ths).map fun s => D.lst (f s)).map some := by
    apply List.ext_getElem?
    intro i
    rw [List.getElem?_map, List.getElem?_map, List.getElem?_map, List.getElem?_map]
    by_cases h : i < (sidesOf ths).length
    · rw [List.getElem?_range h, List.getElem?_eq_getElem h]
      simp only [Option.map_some]
      refine congrArg some (frzS_lst (Nat.zero_le _) ?_)
      rw [show 1 + 1 + i = i + 1 + 1 by omega, List.getElem?_cons_succ, List.getElem?_cons_succ, List.getElem?_map, List.getElem?_eq_getElem h]
      rfl
    · rw [List.getElem?_eq_none (by simpa using h), List.getElem?_eq_none (l := sidesOf ths) (by omega)]
      rfl
  have h2 : frzS 0 (leadsM ths f) 2 (.c 1) = some (stepsD ths f) := by
    show (optAll ((cellsAt 1 (sidesOf ths).length).map fun s => frzS 0 (leadsM ths f) 1 s)).map (D.dic true ((sidesOf ths).map sD)) = _
    rw [h1, optAll_some]
    rfl
  show (optAll ([SV.d (.ntp (ths.map .str)), .c 1].map fun s => frzS 0 (leadsM ths f) 2 s)).map (D.obj "Leads" ["things", "steps"]) = _
  simp only [List.map_cons, List.map_nil, h2]
  rfl
theorem leads_ok {v : D} {ths : List Str} {rs : List Rule} {μ : Mem} (hb : Book v ths rs) : makeF "Leads" f_Leads___init__ [.d v] μ = .ok (.d (leadsD ths rs)) μ := makeF_ok rfl (leads_init hb) leads_frz
theorem leads_things {ths : List Str} {rs : List Rule} {μ : Mem} : attrK "Leads" "things" (.d (leadsD ths rs)) μ = .ok (.d (.ntp (ths.map .str))) μ := attrK_d find_things
theorem leads_steps {ths : List Str} {rs : List Rule} {μ : Mem} : attrK "Leads" "steps" (.d (leadsD ths rs)) μ = .ok (.d (stepsD ths fun s => (stps rs s).map stD)) μ := attrK_d find_steps
theorem steps_at {ths : List Str} {f : Side → List D} {s : Side} {μ : Mem} (h : okS ths s) : dgetF (.d (stepsD ths f)) (.d (sD s)) μ = .ok (.d (.lst (f s))) μ := dgetF_dic fit_sD (findD_at (fun _ _ => sD_inj) (fun s => .lst (f s)) (mem_sidesOf.mpr h))
theorem sideOf_in {ths : List Str} {s : Side} (h : okS ths s) (hnm : ∀ x ∈ ths, nmB x = true) : sideIn ths (sD s) = true := by unfold sideIn; rw [sideOf_sD h hnm]; simp [h.1]
theorem prog_back_ok {ths : List Str} {s : Side} {μ : Mem} (h : okS ths s) (hnm : ∀ x ∈ ths, nmB x = true) : f_back [.d (sD s)] μ = .ok (.d (sD (sBack s))) μ := by
  have e1 := fun μ => (is_some_side_ok (μ := μ) (plain_side h hnm)).trans (by rw [sideOf_sD h hnm])
  simp (disch := first | assumption | omega | (simp [sizeLine_eq]; done) | (simp [sizeLine_eq]; omega) | fail) [isK, isKB, tupD, sizeLine_eq, grd_pos, f_back, e1, back_ok]
theorem check_side_ok {t : D} {ths : List Str} {s : Side} {μ : Mem} (ht : Ths t ths) (h : okS ths s) : f_check_side [.d t, .d (sD s)] μ = .ok (.d .non) μ := by
  have hnm : ∀ x ∈ ths, nmB x = true := fun x hx => (ht.name x hx).1
  have e1 := fun μ => (is_side_by_ok (μ := μ) ht (plain_side h hnm)).trans (by rw [sideOf_in h hnm])
  simp (disch := first | assumption | omega | (simp [sizeLine_eq]; done) | (simp [sizeLine_eq]; omega) | fail) [isK, isKB, tupD, sizeLine_eq, grd_pos, f_check_side, e1]
theorem rules_of_ok {v : D} {ths : List Str} {rs : List Rule} {s : Side} {μ : Mem} (hb : Book v ths rs) (h : okS ths s) : f_rules_of [.d v, .d (sD s)] μ = .ok (.d (.ntp (natsD ((stps rs s).map (·.1))))) μ := by
  have e1 := fun μ => check_book_ok (μ := μ) hb
  have e2 := fun μ => check_side_ok (μ := μ) hb.tth h
  have e3 := fun μ => leads_ok (μ := μ) hb
  have e4 := fun μ => leads_steps (ths := ths) (rs := rs) (μ := μ)
  have e5 := fun μ => steps_at (f := fun s => (stps rs s).map stD) (μ := μ) h
  have hz : (stps rs s).length ≤ 2 * rs.length := stpsTo_len (Nat.le_refl _)
  have hf := hb.few
  have hv := hb.eq
  subst hv
  have lp : ∀ ρ μ, cLoop (cStep (gT [gN 2, gN 3]) fYes (fV 2) [2, 3] ρ) ((stps rs s).map stD) μ = .ok (natsD ((stps rs s).map (·.1))) μ := fun ρ μ => by
    rw [cLoop_mapT (f := fun p : Nat × Side => .int (p.1 : Nat)) fun p hp => by simp (disch := first | assumption | omega | (simp [sizeLine_eq]; done) | (simp [sizeLine_eq]; omega) | fail) [isK, isKB, tupD, sizeLine_eq, grd_pos, cStep]]
    simp [natsD, Function.comp_def]
  simp (disch := first | assumption | omega | (simp [sizeLine_eq]; done) | (simp [sizeLine_eq]; omega) | fail) [isK, isKB, tupD, sizeLine_eq, grd_pos, f_rules_of, e1, e2, e3, e4, e5, lp, finLF]
/-- the indexes of the rules that lead from a side: those that have its back -/
theorem stps_idx {rs : List Rule} {s : Side} : natsD ((stps rs s).map (·.1)) = natsD ((List.range rs.length).filter fun i => match rs[i]? with
    | some r => decide (sBack s = r.1 ∨ sBack s = r.2)
    | none => false) := by
  have inv : ∀ t, (s = sBack t) ↔ (sBack s = t) := fun t => by
    obtain ⟨a, b⟩ := s
    obtain ⟨c, d⟩ := t
    simp only [sBack, Prod.mk.injEq]
    constructor <;> rintro ⟨h1, h2⟩ <;> exact ⟨h1, by omega⟩
  refine Eq.trans ?_ ((pick_idx (P := fun r : Rule => decide (sBack s = r.1 ∨ sBack s = r.2)) (l := rs)).trans (congrArg natsD (List.filter_congr fun i _ => ?_)))
  · unfold stps stpsTo natsD
    rw [List.take_of_length_le (by simp)]
    generalize rs.zipIdx = Z
    have one : ∀ p : Rule × Nat, ((stp s p).map (·.1)).map (fun i : Nat => D.int i) = if sBack s = p.1.1 ∨ sBack s = p.1.2 then [.int (p.2 : Nat)] else [] := fun ⟨⟨a, b⟩, i⟩ => by
      unfold stp
      simp only [inv]
      by_cases h1 : sBack s = a <;> by_cases h2 : sBack s = b
      · simp [h1, h2]
      · simp [h1, h2]
      · have n1 : ¬ a = b := fun h => h1 (by rw [h, h2])
        have n2 : ¬ b = a := fun h => n1 h.symm
        simp [h1, h2, n1, n2]
      · simp [h1, h2]
    induction Z with
    | nil => rfl
    | cons p Z ih =>
      rw [List.flatMap_cons, List.map_append, List.map_append, ih, List.filterMap_cons, one]
      by_cases h : sBack s = p.1.1 ∨ sBack s = p.1.2 <;> simp [h]
  · cases rs[i]? <;> rfl

end PL
namespace PL
open PySem PySem.Spec PyProof.Rows L2
open PySem.W (Datum DatumOrd)
noncomputable def f__law_is_told_k03 : List SV → M SV := fDef 2 (fSeq (fFor (itF (fCall (callM f__law_sides) (fCons (fOp ixF (fV 0) (fC (.int 0))) fNil))) (gN 2) (fSeq (fIfS (fTOr (fTNot (fT (fCall (callM (f__law_same 12)) (fCons (fIf (fT (fV 1)) (permM [0] (callM f_back) 0 1 fNil (fCons (fV 2) fNil)) (fCall (callM f_back) (fCons (fV 2) fNil))) (fCons (fCall (callM f__law_back) (fCons (fV 2) fNil)) fNil))))) (fTNot (fT (fCall (callM (f__law_same 12)) (fCons (fCall (callM f_back) (fCons (fCall (callM f_back) (fCons (fV 2) fNil)) fNil)) (fCons (fV 2) fNil)))))) (fRet (fC (.bl false))) fSkip)
  (fSeq (fAsg (fCall tupF (fCons (fLc finLF (enumF (fCons (fOp ixF (fV 0) (fC (.int 1))) fNil)) (gT [(gN 4), (gN 5)]) (fT (fOp inF (fCall (callM f__law_back) (fCons (fV 2) fNil)) (fV 5))) (fV 4) [4, 5]) fNil)) (gN 3))
  (fIfS (fTNot (fT (fCall (callM (f__law_same 12)) (fCons (fIf (fT (fV 1)) (permM [1, 0] (callM f_rules_of) 0 2 fNil (fCons (fV 2) (fCons (fV 0) fNil))) (fCall (callM f_rules_of) (fCons (fV 0) (fCons (fV 2) fNil)))) (fCons (fV 3) fNil))))) (fRet (fC (.bl false))) fSkip))))
  (fRet (fC (.bl true))))
--.
noncomputable def f__law_right_k03 (BEL : List SV → M SV) : List SV → M SV := fDef 1 (fSeq (fAsg (fCall (callM (f__law_book BEL)) (fCons (fV 0) (fCons (fC (.int 3)) (fCons (fC (.int 4)) (fCons (fC (.int 0)) fNil))))) (gN 1))
  (fSeq (fFor (rng1F (fCons (fC (.int 10)) fNil)) (gN 2) (fSeq (fAsg (fIf (fT (fOp eqF (fV 2) (fC (.int 0)))) (fC (.int 14)) (fOp addF (fC (.int 1)) (fCall (callM BEL) (fCons (fV 0) (fCons (fC (.int 14)) fNil))))) (gN 3))
  (fSeq (fAsg (fCall (callM (f__law_book BEL)) (fCons (fV 0) (fCons (fV 3) (fCons (fIf (fT (fOp eqF (fV 2) (fC (.int 0)))) (fC (.int 120)) (fCall (callM BEL) (fCons (fV 0) (fCons (fC (.int 40)) fNil)))) (fCons (fOp modF (fCall intF (fCons (fV 2) fNil)) (fC (.int 4))) fNil))))) (gN 4))
  (fSeq (fIfS (fTOr (fTNot (fT (fCall (callM f__law_is_told_k03) (fCons (fV 4) (fCons (fOp eqF (fCall (callM BEL) (fCons (fV 0) (fCons (fC (.int 2)) fNil))) (fC (.int 0))) fNil))))) (fTNot (fT (fCall (callM f__law_is_told_k03) (fCons (fV 1) (fCons (fC (.bl false)) fNil)))))) (fRet (fC (.bl false))) fSkip)
  (fAsg (fIf (fT (fOp ltF (fV 3) (fC (.int 6)))) (fV 4) (fV 1)) (gN 1))))))
  (fRet (fC (.bl true)))))
--.
noncomputable def f_law_k03 : List SV → M SV := fDef 1 (fRet (fCall allF (fCons (fLc finLF (rng1F (fCons (fCall maxF (fCons (fC (.int 1)) (fCons (fCall minF (fCons (fCall lenF (fCons (fV 0) fNil)) (fCons (fC (.int 2)) fNil))) fNil))) fNil)) (gN 1) fYes (fCall (callM (f__law_right_k03 (f__law_below 61 4093 66643 2147483563 43089 12431 2147483647))) (fCons (fCall (callM (f__law_pool 69621 2147483629 16807 2147483647 63 48271 2147483629 2147483647 221419 7919 4141 3283)) (fCons (fV 0) (fCons (fV 1) fNil))) fNil)) [1]) fNil)))
--.
theorem sBack_back {s : Side} : sBack (sBack s) = s := by
  obtain ⟨a, b⟩ := s
  simp only [sBack, Prod.mk.injEq, true_and]
  omega
theorem same_side {s : Side} {μ : Mem} (h : PyData.strOk s.1 = true) : f__law_same 12 [.d (sD s), .d (sD s)] μ = .ok (.d (.bl true)) μ := by
  have q : tameB 11 (sD s) = true := by simp [tameB, h]
  exact same_py q q rfl
theorem inF_rule {ths : List Str} {s : Side} {r : Rule} {μ : Mem} (hs : okS ths s) (hr : okR ths r) (hnm : ∀ x ∈ ths, nmB x = true) : inF (.d (sD s)) (.d (rD r)) μ = .ok (.d (.bl (decide (s = r.1 ∨ s = r.2)))) μ := by
  have e1 : okEq (sD s) = true := (is_side_is hs hnm).okEq
  have e2 := inD_en (l := [r.1, r.2]) (is_side_is hs hnm)
  have e3 : okEq (rD r) = true := (rD_is hr hnm).okEq
  have e2 : inD (sD s) [sD r.1, sD r.2] = decide (s = r.1 ∨ s = r.2) := by
    refine Eq.trans e2 ?_
    simp
  unfold inF
  simp only [inO]
  simp only [e1, e3, e2, grd_pos (And.intro trivial trivial)]
  rfl
theorem rule_loop {ths : List Str} {rs : List Rule} {s : Side} {ρ : FEnv} {μ : Mem} (hr : ∀ r ∈ rs, okR ths r) (hnm : ∀ x ∈ ths, nmB x = true) (hs : okS ths s) (r2 : ρ 2 = .d (sD s)) :
    cLoop (cStep (gT [gN 4, gN 5]) (fT (fOp inF (fCall (callM f__law_back) (fCons (fV 2) fNil)) (fV 5))) (fV 4) [4, 5] ρ) (enumD (rs.map rD)) μ = .ok (natsD ((List.range rs.length).filter fun i => match rs[i]? with
    | some r => decide (sBack s = r.1 ∨ sBack s = r.2)
    | none => false)) μ := by
  rw [enumD_map]
  rw [cLoop_filterT (f := fun p : Rule × Nat => if decide (sBack s = p.1.1 ∨ sBack s = p.1.2) = true then some (.int (p.2 : Nat)) else none) fun p hp => ?_]
  · refine congrArg (R.ok · μ) ((pick_idx (P := fun r : Rule => decide (sBack s = r.1 ∨ sBack s = r.2)) (l := rs)).trans (congrArg natsD (List.filter_congr fun i _ => ?_)))
    cases rs[i]? <;> rfl
  · obtain ⟨r, i⟩ := p
    have hr := hr _ (List.fst_mem_of_mem_zipIdx hp)
    have bk := back_ok (s := s) (μ := [])
    have q := fun μ => inF_rule (μ := μ) (okS_back hs) hr hnm
    by_cases g : sBack s = r.1 ∨ sBack s = r.2
    · have q := fun μ => (q μ).trans (by rw [decide_eq_true g])
      simp (disch := first | assumption | omega | (simp [sizeLine_eq]; done) | (simp [sizeLine_eq]; omega) | fail) [isK, isKB, tupD, sizeLine_eq, grd_pos, cStep, r2, bk, q, g]
    · have q := fun μ => (q μ).trans (by rw [decide_eq_false g])
      simp (disch := first | assumption | omega | (simp [sizeLine_eq]; done) | (simp [sizeLine_eq]; omega) | fail) [isK, isKB, tupD, sizeLine_eq, grd_pos, cStep, r2, bk, q, g]
theorem told_k03_ok {v : D} {ths : List Str} {rs : List Rule} {n : Bool} {μ : Mem} (hb : Book v ths rs) : f__law_is_told_k03 [.d v, .d (.bl n)] μ = .ok (.d (.bl true)) μ := by
  have e1 := fun μ => sides_ok (μ := μ) hb.tth
  have ht := hb.tth
  have hnm : ∀ x ∈ ths, nmB x = true := fun x hx => (ht.name x hx).1
  have hf := hb.few
  have hro := fun s μ (h : okS ths s) => rules_of_ok (μ := μ) hb h
  have hv := hb.eq
  subst hv
  simp (disch := first | assumption | omega | (simp [sizeLine_eq]; done) | (simp [sizeLine_eq]; omega) | fail) [isK, isKB, tupD, sizeLine_eq, grd_pos, f__law_is_told_k03, e1]
  generalize el : fLoop _ _ _ _ = z
  obtain ⟨ρ', μ', rfl, -, -, rfl⟩ := loop_invT (en := sD) el (fun done ρ μ2 => ρ 0 = .d (.tup [.ntp (ths.map .str), .ntp (rs.map rD)]) ∧ ρ 1 = .d (.bl n) ∧ μ2 = μ) ⟨by simp, by simp, rfl⟩ (by
    rintro pre s post ρ μ2 hd ⟨r0, r1, rfl⟩
    have hs : okS ths s := mem_sidesOf.mp (by rw [hd]; simp)
    have b1 := fun μ => prog_back_ok (μ := μ) hs hnm
    have b2 := fun μ => (prog_back_ok (μ := μ) (okS_back hs) hnm).trans (by rw [sBack_back])
    have b3 := back_ok (s := s) (μ := [])
    have s1 := fun μ => same_side (s := s) (μ := μ) (nmB_strOk (hnm _ hs.1))
    have s2 := fun μ => same_side (s := sBack s) (μ := μ) (nmB_strOk (hnm _ hs.1))
    have ro := fun μ => (hro s μ hs).trans (by rw [stps_idx])
    have lp := fun ρ μ => rule_loop (ρ := ρ) (μ := μ) hb.rule hnm hs
    generalize hF : ((List.range rs.length).filter fun i => match rs[i]? with
      | some r => decide (sBack s = r.1 ∨ sBack s = r.2)
      | none => false) = F at ro lp
    have hFl : F.length ≤ 60 := by rw [← hF]; exact Nat.le_trans (List.length_filter_le _ _) (by simpa using hf)
    have sn := fun μ => same_nats (l := F) (μ := μ) (by omega)
    cases n <;> simp (disch := first | assumption | omega | (simp [sizeLine_eq]; done) | (simp [sizeLine_eq]; omega) | fail) [isK, isKB, tupD, sizeLine_eq, grd_pos, r0, r1, b1, b2, b3, s1, s2, ro, lp, sn, finLF] <;> exact ⟨by simp [r0], by simp [r1], rfl⟩)
  simp (disch := first | assumption | omega | (simp [sizeLine_eq]; done) | (simp [sizeLine_eq]; omega) | fail) [isK, isKB, tupD, sizeLine_eq, grd_pos, ]
theorem right_ok_k03 {B : List SV → M SV} (b : Bel B) {p : Pool} : ∃ p', f__law_right_k03 B [.c 0] [pc p] = .ok (.d (.bl true)) [pc p'] := by
  have key : gives (f__law_right_k03 B [.c 0] [pc p]) fun s μ => ∃ p', s = .d (.bl true) ∧ μ = [pc p'] := by
    obtain ⟨ths, rs, q1, R1, e1, hb, hlen⟩ := book_ok b (n := 3) (m := 4) (k := 0) (p := p) (by omega) (by omega) (by omega)
    have e1 : f__law_book B [.c 0, .d (.int 3), .d (.int 4), .d (.int 0)] [pc p] = .ok (.d (.tup [.ntp (ths.map .str), .ntp (rs.map rD)])) (pc q1 :: R1) := e1
    simp (disch := first | assumption | omega | (simp [sizeLine_eq]; done) | (simp [sizeLine_eq]; omega) | fail) [isK, isKB, tupD, sizeLine_eq, grd_pos, f__law_right_k03, e1]
    generalize el : fLoop _ _ _ _ = z
    obtain ⟨ρ', μ', rfl, r0, -, p2, rfl⟩ := loop_inv el (fun i ρ μ => ρ 0 = .c 0 ∧ (∃ v ths rs, ρ 1 = .d v ∧ Book v ths rs) ∧ ∃ p, μ = [pc p]) ⟨by simp, ⟨_, ths, rs, by simp, hb⟩, q1, rfl⟩ (by
      rintro i d ρ μ hd ⟨r0, ⟨va, tha, rsa, r1, hba⟩, p, rfl⟩
      obtain ⟨x, hx, rfl⟩ := List.mem_map.mp (List.mem_of_getElem? hd)
      have hN : ∃ (n : Nat) (q : Pool), 1 ≤ n ∧ n ≤ 14 ∧ (fIf (fT (fOp eqF (fV 2) (fC (.int 0)))) (fC (.int 14)) (fOp addF (fC (.int 1)) (fCall (callM B) (fCons (fV 0) (fCons (fC (.int 14)) fNil))))) (put ρ 2 (.d (.int x))) [pc p] = .ok (.d (.int n)) [pc q] := by
        by_cases h2 : x = 0
        · exact ⟨14, p, by omega, by omega, by simp [isK, isKB, tupD, sizeLine_eq, h2]⟩
        · obtain ⟨r, q, h0, h1, e⟩ := b.ok 14 p (by omega) (by omega)
          obtain ⟨r, rfl⟩ := Int.eq_ofNat_of_zero_le h0
          exact ⟨1 + r, q, by omega, by omega, by simp [isK, isKB, tupD, sizeLine_eq, r0, h2, e]⟩
      obtain ⟨n, q1, n1, n2, eN⟩ := hN
      have hM : ∃ (m : Nat) (q : Pool), m ≤ 1000 ∧ (fIf (fT (fOp eqF (fV 2) (fC (.int 0)))) (fC (.int 120)) (fCall (callM B) (fCons (fV 0) (fCons (fC (.int 40)) fNil)))) (put (put ρ 2 (.d (.int x))) 3 (.d (.int n))) [pc q1] = .ok (.d (.int m)) [pc q] := by
        by_cases h2 : x = 0
        · exact ⟨120, q1, by omega, by simp [isK, isKB, tupD, sizeLine_eq, h2]⟩
        · obtain ⟨r, q, h0, h1, e⟩ := b.ok 40 q1 (by omega) (by omega)
          obtain ⟨r, rfl⟩ := Int.eq_ofNat_of_zero_le h0
          exact ⟨r, q, by omega, by simp [isK, isKB, tupD, sizeLine_eq, r0, h2, e]⟩
      obtain ⟨m, q2, m1, eM⟩ := hM
      obtain ⟨ths2, rs2, q3, R3, e3, hb2, hlen2⟩ := book_ok b (n := n) (m := m) (k := (x : Int) % 4) (p := q2) n1 n2 m1
      obtain ⟨r, q4, g0, g1, e4⟩ := b.ok 2 q3 (by omega) (by omega)
      have t1 := fun c μ => told_k03_ok (n := c) (μ := μ) hb2
      have t2 := fun c μ => told_k03_ok (n := c) (μ := μ) hba
      simp only [bF_s, gN_s, bR_ok, Int.zero_add]
      by_cases h6 : (n : Int) < 6
      · simp (disch := first | assumption | omega | (simp [sizeLine_eq]; done) | (simp [sizeLine_eq]; omega) | fail) [isK, isKB, tupD, sizeLine_eq, grd_pos, ↓eN, ↓eM, -fIf_s, r0, r1, e3, e4, t1, t2]
        simp (disch := first | assumption | omega | (simp [sizeLine_eq]; done) | (simp [sizeLine_eq]; omega) | fail) [isK, isKB, tupD, sizeLine_eq, grd_pos, h6]
        exact ⟨by simp [r0], ⟨_, ths2, rs2, by simp, hb2⟩, q4, rfl⟩
      · simp (disch := first | assumption | omega | (simp [sizeLine_eq]; done) | (simp [sizeLine_eq]; omega) | fail) [isK, isKB, tupD, sizeLine_eq, grd_pos, ↓eN, ↓eM, -fIf_s, r0, r1, e3, e4, t1, t2]
        simp (disch := first | assumption | omega | (simp [sizeLine_eq]; done) | (simp [sizeLine_eq]; omega) | fail) [isK, isKB, tupD, sizeLine_eq, grd_pos, h6, r1]
        exact ⟨by simp [r0], ⟨_, tha, rsa, by simp, hba⟩, q4, rfl⟩)
    simp (disch := first | assumption | omega | (simp [sizeLine_eq]; done) | (simp [sizeLine_eq]; omega) | fail) [isK, isKB, tupD, sizeLine_eq, grd_pos, ]
    exact gives_ok ⟨p2, rfl, rfl⟩
  obtain ⟨_, _, e, p', rfl, rfl⟩ := key
  exact ⟨p', e⟩
theorem law_ok_k03 (ns : List Int) (hl : ns.length ≤ 63) : ∃ μ, f_law_k03 [.d (.scr ns)] [] = .ok (.d (.bl true)) μ := by
  have bel : Bel (f__law_below 61 4093 66643 2147483563 43089 12431 2147483647) := below_bel (by decide) (by decide) (by decide) (by decide) (by decide) (by decide) (by decide)
  have hmin : ∃ n : Nat, n ≤ 2 ∧ (if (1 : Int) < (if (2 : Int) < (ns.length : Int) then (2 : Int) else (ns.length : Int)) then (if (2 : Int) < (ns.length : Int) then (2 : Int) else (ns.length : Int)) else (1 : Int)) = (n : Int) := by
    by_cases h1 : (2 : Int) < ns.length
    · exact ⟨2, by omega, by simp [h1]⟩
    · by_cases h2 : (1 : Int) < ns.length
      · exact ⟨ns.length, by omega, by simp [h1, h2]⟩
      · exact ⟨1, by omega, by simp [h1, h2]⟩
  obtain ⟨n, hn, hmin⟩ := hmin
  have key : gives (f_law_k03 [.d (.scr ns)] []) fun s μ => s = .d (.bl true) := by
    have hz : (n : Int) < 4611686018427387904 := by omega
    have hz2 : (-4611686018427387904 : Int) ≤ n := by omega
    have hz3 : n ≤ 16777216 := by omega
    simp (disch := first | assumption | omega | (simp [sizeLine_eq]; done) | (simp [sizeLine_eq]; omega) | fail) [isK, isKB, tupD, sizeLine_eq, grd_pos, f_law_k03]
    simp only [hmin]
    simp (disch := first | assumption | omega | (simp [sizeLine_eq]; done) | (simp [sizeLine_eq]; omega) | fail) [isK, isKB, tupD, sizeLine_eq, grd_pos, hz, hz2, hz3]
    generalize el : cLoop _ _ _ = z
    obtain ⟨ys, μ', rfl, hl, hg, -⟩ := loop_draw el (fun _ => True) (fun y => y = .bl true) trivial (by
      rintro d hd μ -
      obtain ⟨x, hx, rfl⟩ := List.mem_map.mp hd
      have hx := List.mem_range.mp hx
      obtain ⟨q, e1⟩ := pool_ok (c0 := 69621) (c1 := 2147483629) (c2 := 16807) (c3 := 2147483647) (c4 := 63) (c5 := 48271) (c6 := 2147483629) (c7 := 2147483647) (c8 := 221419) (c9 := 7919) (c10 := 4141) (c11 := 3283) (ns := ns) (lap := x) (by omega) (by decide) (by decide) (by decide) (by decide) (by decide) (by decide) (by decide) (by decide) (by decide) (by decide)
      obtain ⟨q2, e2⟩ := right_ok_k03 bel (p := q)
      refine ⟨.bl true, (μ ++ [pc q]).set μ.length (pc q2), ?_, rfl, trivial⟩
      simp (disch := first | assumption | omega | (simp [sizeLine_eq]; done) | (simp [sizeLine_eq]; omega) | fail) [isK, isKB, tupD, sizeLine_eq, grd_pos, cStep, e1, e2])
    obtain ⟨bs, hb1, hb2⟩ := trues hg
    simp (disch := first | assumption | omega | (simp [sizeLine_eq]; done) | (simp [sizeLine_eq]; omega) | fail) [isK, isKB, tupD, sizeLine_eq, grd_pos, finLF, hb1, hb2]
    exact gives_ok rfl
  obtain ⟨_, μ, e, rfl⟩ := key
  exact ⟨μ, e⟩

end PL
namespace Lk03
open PySem PySem.Spec PyProof.Rows L2 PL
def top (i : Nat) : Stmt := PySem.Challenge.pw_takenorleft_k03_whole_backs_and_rules_of.main.body.getD i (.Pass ⟨0, 0, 0, 0⟩)
def kids : Stmt → List Stmt
  | .ClassDef _ _ _ b _ _ _ _ _ _ _ => b
  | _ => []
abbrev s__wall : Stmt := top 0
abbrev N__wall : List Str := ["k"]
theorem sc__wall : FnScope N__wall ["k"] (defScope s__wall) := ⟨rfl, rfl, rfl, by decide +kernel, rfl, by decide +kernel, by decide +kernel⟩
abbrev s_is_whole : Stmt := top 4
abbrev N_is_whole : List Str := ["value"]
theorem sc_is_whole : FnScope N_is_whole ["value"] (defScope s_is_whole) := ⟨rfl, rfl, rfl, by decide +kernel, rfl, by decide +kernel, by decide +kernel⟩
abbrev s_is_name : Stmt := top 6
abbrev N_is_name : List Str := ["value", "letter"]
theorem sc_is_name : FnScope N_is_name ["value"] (defScope s_is_name) := ⟨rfl, rfl, rfl, by decide +kernel, rfl, by decide +kernel, by decide +kernel⟩
abbrev s_is_tuple_of : Stmt := top 7
abbrev N_is_tuple_of : List Str := ["value", "many"]
theorem sc_is_tuple_of : FnScope N_is_tuple_of ["value", "many"] (defScope s_is_tuple_of) := ⟨rfl, rfl, rfl, by decide +kernel, rfl, by decide +kernel, by decide +kernel⟩
abbrev s_are_rising : Stmt := top 8
abbrev N_are_rising : List Str := ["value", "index"]
theorem sc_are_rising : FnScope N_are_rising ["value"] (defScope s_are_rising) := ⟨rfl, rfl, rfl, by decide +kernel, rfl, by decide +kernel, by decide +kernel⟩
abbrev s_back_of : Stmt := top 24
abbrev N_back_of : List Str := ["side"]
theorem sc_back_of : FnScope N_back_of ["side"] (defScope s_back_of) := ⟨rfl, rfl, rfl, by decide +kernel, rfl, by decide +kernel, by decide +kernel⟩
abbrev s_all_sides : Stmt := top 25
abbrev N_all_sides : List Str := ["things", "name", "taken"]
theorem sc_all_sides : FnScope N_all_sides ["things"] (defScope s_all_sides) := ⟨rfl, rfl, rfl, by decide +kernel, rfl, by decide +kernel, by decide +kernel⟩
abbrev s__law_pool : Stmt := top 39
abbrev N__law_pool : List Str := ["script", "lap", "cell", "stirred", "each"]
theorem sc__law_pool : FnScope N__law_pool ["script", "lap"] (defScope s__law_pool) := ⟨rfl, rfl, rfl, by decide +kernel, rfl, by decide +kernel, by decide +kernel⟩
abbrev s__law_below : Stmt := top 40
abbrev N__law_below : List Str := ["pool", "many", "figure", "mixed"]
theorem sc__law_below : FnScope N__law_below ["pool", "many"] (defScope s__law_below) := ⟨rfl, rfl, rfl, by decide +kernel, rfl, by decide +kernel, by decide +kernel⟩
abbrev s__law_back : Stmt := top 43
abbrev N__law_back : List Str := ["side"]
theorem sc__law_back : FnScope N__law_back ["side"] (defScope s__law_back) := ⟨rfl, rfl, rfl, by decide +kernel, rfl, by decide +kernel, by decide +kernel⟩
abbrev s__law_sides : Stmt := top 44
abbrev N__law_sides : List Str := ["things", "found", "name"]
theorem sc__law_sides : FnScope N__law_sides ["things"] (defScope s__law_sides) := ⟨rfl, rfl, rfl, by decide +kernel, rfl, by decide +kernel, by decide +kernel⟩
abbrev s__law_rule : Stmt := top 45
abbrev N__law_rule : List Str := ["one", "two"]
theorem sc__law_rule : FnScope N__law_rule ["one", "two"] (defScope s__law_rule) := ⟨rfl, rfl, rfl, by decide +kernel, rfl, by decide +kernel, by decide +kernel⟩
abbrev s__law_same : Stmt := top 47
abbrev N__law_same : List Str := ["told", "due", "x", "y"]
theorem sc__law_same : FnScope N__law_same ["told", "due"] (defScope s__law_same) := ⟨rfl, rfl, rfl, by decide +kernel, rfl, by decide +kernel, by decide +kernel⟩
abbrev s_is_between : Stmt := top 5
abbrev N_is_between : List Str := ["value", "low", "high"]
theorem sc_is_between : FnScope N_is_between ["value", "low", "high"] (defScope s_is_between) := ⟨rfl, rfl, rfl, by decide +kernel, rfl, by decide +kernel, by decide +kernel⟩
abbrev s_first_wrong : Stmt := top 9
abbrev N_first_wrong : List Str := ["value", "low", "high", "is_one", "is_rising", "index", "each"]
theorem sc_first_wrong : FnScope N_first_wrong ["value", "low", "high", "is_one", "is_rising"] (defScope s_first_wrong) := ⟨rfl, rfl, rfl, by decide +kernel, rfl, by decide +kernel, by decide +kernel⟩
abbrev s_Leads___init__ : Stmt := (kids (top 27)).getD 0 (.Pass ⟨0, 0, 0, 0⟩)
abbrev N_Leads___init__ : List Str := ["self", "book", "index", "side", "other"]
theorem sc_Leads___init__ : FnScope N_Leads___init__ ["self", "book"] (defScope s_Leads___init__) := ⟨rfl, rfl, rfl, by decide +kernel, rfl, by decide +kernel, by decide +kernel⟩
abbrev s__law_one : Stmt := top 41
abbrev N__law_one : List Str := ["pool", "some"]
theorem sc__law_one : FnScope N__law_one ["pool", "some"] (defScope s__law_one) := ⟨rfl, rfl, rfl, by decide +kernel, rfl, by decide +kernel, by decide +kernel⟩
abbrev s_wrong_in_things : Stmt := top 17
abbrev N_wrong_in_things : List Str := ["value"]
theorem sc_wrong_in_things : FnScope N_wrong_in_things ["value"] (defScope s_wrong_in_things) := ⟨rfl, rfl, rfl, by decide +kernel, rfl, by decide +kernel, by decide +kernel⟩
abbrev s_is_some_side : Stmt := top 19
abbrev N_is_some_side : List Str := ["value"]
theorem sc_is_some_side : FnScope N_is_some_side ["value"] (defScope s_is_some_side) := ⟨rfl, rfl, rfl, by decide +kernel, rfl, by decide +kernel, by decide +kernel⟩
abbrev s__law_things : Stmt := top 42
abbrev N__law_things : List Str := ["pool", "many", "letters", "found", "lap", "base", "name", "letter", "sign"]
theorem sc__law_things : FnScope N__law_things ["pool", "many"] (defScope s__law_things) := ⟨rfl, rfl, rfl, by decide +kernel, rfl, by decide +kernel, by decide +kernel⟩
abbrev s_are_things_by : Stmt := top 18
abbrev N_are_things_by : List Str := ["value"]
theorem sc_are_things_by : FnScope N_are_things_by ["value"] (defScope s_are_things_by) := ⟨rfl, rfl, rfl, by decide +kernel, rfl, by decide +kernel, by decide +kernel⟩
abbrev s_is_side_by : Stmt := top 20
abbrev N_is_side_by : List Str := ["things", "value"]
theorem sc_is_side_by : FnScope N_is_side_by ["things", "value"] (defScope s_is_side_by) := ⟨rfl, rfl, rfl, by decide +kernel, rfl, by decide +kernel, by decide +kernel⟩
abbrev s_back : Stmt := top 36
abbrev N_back : List Str := ["side"]
theorem sc_back : FnScope N_back ["side"] (defScope s_back) := ⟨rfl, rfl, rfl, by decide +kernel, rfl, by decide +kernel, by decide +kernel⟩
abbrev s__law_book : Stmt := top 46
abbrev N__law_book : List Str := ["pool", "many", "rules", "sort", "things", "found", "sides", "kept", "here", "lap", "one", "two", "some", "name", "at"]
theorem sc__law_book : FnScope N__law_book ["pool", "many", "rules", "sort"] (defScope s__law_book) := ⟨rfl, rfl, rfl, by decide +kernel, rfl, by decide +kernel, by decide +kernel⟩
abbrev s_is_rule_by : Stmt := top 21
abbrev N_is_rule_by : List Str := ["things", "value"]
theorem sc_is_rule_by : FnScope N_is_rule_by ["things", "value"] (defScope s_is_rule_by) := ⟨rfl, rfl, rfl, by decide +kernel, rfl, by decide +kernel, by decide +kernel⟩
abbrev s_check_side : Stmt := top 34
abbrev N_check_side : List Str := ["things", "value"]
theorem sc_check_side : FnScope N_check_side ["things", "value"] (defScope s_check_side) := ⟨rfl, rfl, rfl, by decide +kernel, rfl, by decide +kernel, by decide +kernel⟩
abbrev s_are_rules_by : Stmt := top 22
abbrev N_are_rules_by : List Str := ["things", "value", "most", "each"]
theorem sc_are_rules_by : FnScope N_are_rules_by ["things", "value", "most"] (defScope s_are_rules_by) := ⟨rfl, rfl, rfl, by decide +kernel, rfl, by decide +kernel, by decide +kernel⟩
abbrev s_is_book_by : Stmt := top 23
abbrev N_is_book_by : List Str := ["value"]
theorem sc_is_book_by : FnScope N_is_book_by ["value"] (defScope s_is_book_by) := ⟨rfl, rfl, rfl, by decide +kernel, rfl, by decide +kernel, by decide +kernel⟩
abbrev s_check_book : Stmt := top 33
abbrev N_check_book : List Str := ["value"]
theorem sc_check_book : FnScope N_check_book ["value"] (defScope s_check_book) := ⟨rfl, rfl, rfl, by decide +kernel, rfl, by decide +kernel, by decide +kernel⟩
abbrev s_rules_of : Stmt := top 37
abbrev N_rules_of : List Str := ["book", "side", "index", "_"]
theorem sc_rules_of : FnScope N_rules_of ["book", "side"] (defScope s_rules_of) := ⟨rfl, rfl, rfl, by decide +kernel, rfl, by decide +kernel, by decide +kernel⟩
abbrev s__law_is_told : Stmt := top 48
abbrev N__law_is_told : List Str := ["book", "is_named", "side", "due", "at", "rule"]
theorem sc__law_is_told : FnScope N__law_is_told ["book", "is_named"] (defScope s__law_is_told) := ⟨rfl, rfl, rfl, by decide +kernel, rfl, by decide +kernel, by decide +kernel⟩
abbrev s__law_right : Stmt := top 49
abbrev N__law_right : List Str := ["pool", "ahead", "lap", "many", "book"]
theorem sc__law_right : FnScope N__law_right ["pool"] (defScope s__law_right) := ⟨rfl, rfl, rfl, by decide +kernel, rfl, by decide +kernel, by decide +kernel⟩
abbrev s_law : Stmt := top 50
abbrev N_law : List Str := ["script", "lap"]
theorem sc_law : FnScope N_law ["script"] (defScope s_law) := ⟨rfl, rfl, rfl, by decide +kernel, rfl, by decide +kernel, by decide +kernel⟩
structure C (K : PySem.W.Frag) (mg : Str → Option Value) : Prop where
  d__wall : Def K mg "_wall" s__wall
  d_is_whole : Def K mg "is_whole" s_is_whole
  d_is_name : Def K mg "is_name" s_is_name
  d_is_tuple_of : Def K mg "is_tuple_of" s_is_tuple_of
  d_are_rising : Def K mg "are_rising" s_are_rising
  d_back_of : Def K mg "back_of" s_back_of
  d_all_sides : Def K mg "all_sides" s_all_sides
  d__law_pool : Def K mg "_law_pool" s__law_pool
  d__law_below : Def K mg "_law_below" s__law_below
  d__law_back : Def K mg "_law_back" s__law_back
  d__law_sides : Def K mg "_law_sides" s__law_sides
  d__law_rule : Def K mg "_law_rule" s__law_rule
  d__law_same : Def K mg "_law_same" s__law_same
  d_is_between : Def K mg "is_between" s_is_between
  d_first_wrong : Def K mg "first_wrong" s_first_wrong
  d_Leads___init__ : MDef K "Leads" "__init__" "Leads.__init__" s_Leads___init__
  d__law_one : Def K mg "_law_one" s__law_one
  d_wrong_in_things : Def K mg "wrong_in_things" s_wrong_in_things
  d_is_some_side : Def K mg "is_some_side" s_is_some_side
  d__law_things : Def K mg "_law_things" s__law_things
  d_are_things_by : Def K mg "are_things_by" s_are_things_by
  d_is_side_by : Def K mg "is_side_by" s_is_side_by
  d_back : Def K mg "back" s_back
  d__law_book : Def K mg "_law_book" s__law_book
  d_is_rule_by : Def K mg "is_rule_by" s_is_rule_by
  d_check_side : Def K mg "check_side" s_check_side
  d_are_rules_by : Def K mg "are_rules_by" s_are_rules_by
  d_is_book_by : Def K mg "is_book_by" s_is_book_by
  d_check_book : Def K mg "check_book" s_check_book
  d_rules_of : Def K mg "rules_of" s_rules_of
  d__law_is_told : Def K mg "_law_is_told" s__law_is_told
  d__law_right : Def K mg "_law_right" s__law_right
  d_law : Def K mg "law" s_law
  f_cls_Leads : Cls K (He.ga K "Leads")
  f_noat_Leads_steps : NoAttr K (He.ga K "Leads") "steps"
  f_noat_Leads_things : NoAttr K (He.ga K "Leads") "things"
  f_mkr_Leads : Mk K (He.ga K "Leads") (He.fAd K ("Leads", some "__init__"))
  f_glo_Leads : mg "Leads" = some (.ref (He.ga K "Leads"))
  n_abs : mg "abs" = none
  n_all : mg "all" = none
  n_bool : mg "bool" = none
  n_enumerate : mg "enumerate" = none
  n_int : mg "int" = none
  n_isinstance : mg "isinstance" = none
  n_len : mg "len" = none
  n_max : mg "max" = none
  n_min : mg "min" = none
  n_range : mg "range" = none
  n_sorted : mg "sorted" = none
  n_str : mg "str" = none
  n_tuple : mg "tuple" = none
  n_zip : mg "zip" = none
  m_IS_TAKEN : ∃ t, mg "IS_TAKEN" = some (.int 1 t)
  m_LETTERS : ∃ t, mg "LETTERS" = some (.str "abcdefghijklmnopqrstuvwxyz" t)
  m_MOST_LETTERS : ∃ t, mg "MOST_LETTERS" = some (.int 8 t)
  m_MOST_RULES : ∃ t, mg "MOST_RULES" = some (.int 60 t)
  m_MOST_THINGS : ∃ t, mg "MOST_THINGS" = some (.int 14 t)
  m_NAME : ∃ t, mg "NAME" = some (.int 0 t)
  m_RULES : ∃ t, mg "RULES" = some (.int 1 t)
  m_THINGS : ∃ t, mg "THINGS" = some (.int 0 t)
section
variable {P : Program} {w : World} {K : PySem.W.Frag} {mg : Str → Option Value} {base : Heap}
theorem h__wall (c : C K mg) : Has P w K mg base 1 "_wall" ["k"] (pF f__wall) := by
  exact has_f (k := 0) c.d__wall sc__wall (fun _ _ _ _ _ _ us hl => match us, hl with | [_], _ => rfl) rfl rfl (by decide) (fun f cdv A outer s H E hr => (pfss_one (pfs_while hp_of (pft_val (pf_c px_bl)) (pfss_one pfs_pass))))
theorem h_is_whole (c : C K mg) : Has P w K mg base 1 "is_whole" ["value"] (pF f_is_whole) := by
  exact has_f (k := 0) c.d_is_whole sc_is_whole (fun _ _ _ _ _ _ us hl => match us, hl with | [_], _ => rfl) rfl rfl (by decide) (fun f cdv A outer s H E hr => (pfss_one (pfs_ret (pf_and (pf_isiK .int rfl c.n_isinstance rfl c.n_int (by decide +kernel) (pf_name 0)) (pf_one (pf_not (pf_isiK .bool rfl c.n_isinstance rfl c.n_bool (by decide +kernel) (pf_name 0))))))))
theorem h_is_name (c : C K mg) : Has P w K mg base 1 "is_name" ["value"] (pF f_is_name) := by
  exact has_f (k := 0) c.d_is_name sc_is_name (fun _ _ _ _ _ _ us hl => match us, hl with | [_], _ => rfl) rfl rfl (by decide) (fun f cdv A outer s H E hr => (pfss_cons (pfs_if (PXW.pt (pfw_or (pft_not (pft_val (pf_isiK .str rfl c.n_isinstance rfl c.n_str (by decide +kernel) (pf_name 0)))) (pfw_or1 (pft_not (pft_lele (pf_c px_int) (pf_len rfl c.n_len (pfa_cons (pf_name 0) pfa_nil)) (pf_c (px_gintC rfl c.m_MOST_LETTERS))))))) (pfss_one (pfs_ret (pf_c px_bl))) pfss_nil)
  (pfss_one (pfs_ret (pf_all rfl rfl c.n_all (pfa_cons (pf_lc (own := [("letter", 1)]) rfl sc_is_name.nd (pfi_U (pf_name 0)) (by exact (show BlkOk N_is_name (defScope s_is_name) _ _ from ⟨rfl, by decide +kernel, by decide +kernel, by decide +kernel, by decide +kernel⟩)) (fun _ _ _ _ _ => (pfg_name (own := [1]) (by decide) sc_is_name.nd (i := 1) rfl (by first | exact Or.inl rfl | exact Or.inr rfl))) (fun _ _ _ _ _ => pfts_nil) (fun _ _ _ _ _ => (pf_in (pf_name 1) (pf_c (px_gstrC rfl c.m_LETTERS)) (hu_of hr)))) pfa_nil))))))
theorem h_is_tuple_of (c : C K mg) : Has P w K mg base 1 "is_tuple_of" ["value", "many"] (pF f_is_tuple_of) := by
  exact has_f (k := 0) c.d_is_tuple_of sc_is_tuple_of (fun _ _ _ _ _ _ us hl => match us, hl with | [_, _], _ => rfl) rfl rfl (by decide) (fun f cdv A outer s H E hr => (pfss_one (pfs_ret (pf_and (pf_isiK .tuple rfl c.n_isinstance rfl c.n_tuple (by decide +kernel) (pf_name 0)) (pf_one (pf_eq (pf_len rfl c.n_len (pfa_cons (pf_name 0) pfa_nil)) (pf_name 1) (hu_of hr)))))))
theorem h_are_rising (c : C K mg) : Has P w K mg base 1 "are_rising" ["value"] (pF f_are_rising) := by
  exact has_f (k := 0) c.d_are_rising sc_are_rising (fun _ _ _ _ _ _ us hl => match us, hl with | [_], _ => rfl) rfl rfl (by decide) (fun f cdv A outer s H E hr => (pfss_one (pfs_ret (pf_all rfl rfl c.n_all (pfa_cons (pf_lc (own := [("index", 1)]) rfl sc_are_rising.nd (pfi_range2 rfl c.n_range (pfa_cons (pf_c px_int) (pfa_cons (pf_len rfl c.n_len (pfa_cons (pf_name 0) pfa_nil)) pfa_nil))) (by exact (show BlkOk N_are_rising (defScope s_are_rising) _ _ from ⟨rfl, by decide +kernel, by decide +kernel, by decide +kernel, by decide +kernel⟩)) (fun _ _ _ _ _ => (pfg_name (own := [1]) (by decide) sc_are_rising.nd (i := 1) rfl (by first | exact Or.inl rfl | exact Or.inr rfl))) (fun _ _ _ _ _ => pfts_nil) (fun _ _ _ _ _ => (pf_lt (pf_ix (pf_name 0) (pf_sub (pf_name 1) (pf_c px_int))) (pf_ix (pf_name 0) (pf_name 1)) (hu_of hr)))) pfa_nil)))))
theorem h_back_of (c : C K mg) : Has P w K mg base 1 "back_of" ["side"] (pF f__law_back) := by
  exact has_f (k := 0) c.d_back_of sc_back_of (fun _ _ _ _ _ _ us hl => match us, hl with | [_], _ => rfl) rfl rfl (by decide) (fun f cdv A outer s H E hr => (pfss_one (pfs_ret (pf_tup (pfa_cons (pf_ix (pf_name 0) (pf_c (px_gintC rfl c.m_NAME))) (pfa_cons (pf_sub (pf_c px_int) (pf_ix (pf_name 0) (pf_c (px_gintC rfl c.m_IS_TAKEN)))) pfa_nil))))))
theorem h_all_sides (c : C K mg) : Has P w K mg base 1 "all_sides" ["things"] (pF f_all_sides) := by
  exact has_f (k := 0) c.d_all_sides sc_all_sides (fun _ _ _ _ _ _ us hl => match us, hl with | [_], _ => rfl) rfl rfl (by decide) (fun f cdv A outer s H E hr => (pfss_one (pfs_ret (pf_tuple rfl c.n_tuple (pfa_cons (pf_lc2 (own := [("name", 1), ("taken", 2)]) [2] rfl sc_all_sides.nd (pfi_U (pf_name 0)) (by exact (show BlkOk N_all_sides (defScope s_all_sides) _ _ from ⟨rfl, by decide +kernel, by decide +kernel, by decide +kernel, by decide +kernel⟩)) (by decide) (fun _ _ _ _ _ => (pfg_name (own := [1, 2]) (by decide) sc_all_sides.nd (i := 1) rfl (by first | exact Or.inl rfl | exact Or.inr rfl))) (fun _ _ _ _ _ => pfts_nil) (fun _ _ _ _ _ => (pfi_U (pf_tup (pfa_cons (pf_c px_int) (pfa_cons (pf_c px_int) pfa_nil))))) (fun _ _ _ _ _ => (pfg_name (own := [2]) (by decide) sc_all_sides.nd (i := 2) rfl (by first | exact Or.inl rfl | exact Or.inr rfl))) (fun _ _ _ _ _ => pfts_nil) (fun _ _ _ _ _ => (pf_tup (pfa_cons (pf_name 1) (pfa_cons (pf_name 2) pfa_nil))))) pfa_nil)))))
theorem h__law_pool (c : C K mg) : Has P w K mg base 1 "_law_pool" ["script", "lap"] (pF (f__law_pool 69621 2147483629 16807 2147483647 63 48271 2147483629 2147483647 221419 7919 4141 3283)) := by
  exact has_f (k := 0) c.d__law_pool sc__law_pool (fun _ _ _ _ _ _ us hl => match us, hl with | [_, _], _ => rfl) rfl rfl (by decide) (fun f cdv A outer s H E hr => (pfss_cons (pfs_set (i := 2) sc__law_pool.nd rfl (by first | exact Or.inl rfl | exact Or.inr rfl) (pf_if (pft_lt (pf_name 1) (pf_len rfl c.n_len (pfa_cons (pf_name 0) pfa_nil)) (hu_of hr)) (pf_intc rfl c.n_int (pfa_cons (pf_ix (pf_name 0) (pf_name 1)) pfa_nil)) (pf_add (pf_mul (pf_c px_int) (pf_name 1)) (pf_c px_int))))
  (pfss_cons (pfs_set (i := 3) sc__law_pool.nd rfl (by first | exact Or.inl rfl | exact Or.inr rfl) (pf_add (pf_c px_int) (pf_mul (pf_c px_int) (pf_name 1))))
  (pfss_cons (pfs_for hp_of rfl (pfi_U (pf_sl (pf_name 0) pfo_none (pfo_some (pf_c px_int)))) (pfg_name (own := [4]) (by decide) sc__law_pool.nd (i := 4) rfl (by first | exact Or.inl rfl | exact Or.inr rfl)) (pfss_one (pfs_set (i := 3) sc__law_pool.nd rfl (by first | exact Or.inl rfl | exact Or.inr rfl) (pf_mod (pf_intc rfl c.n_int (pfa_cons (pf_add (pf_add (pf_mul (pf_name 3) (pf_c px_int)) (pf_mod (pf_intc rfl c.n_int (pfa_cons (pf_name 4) pfa_nil)) (pf_c px_int))) (pf_c px_int)) pfa_nil)) (pf_c px_int)))))
  (pfss_cons (pfs_set (i := 3) sc__law_pool.nd rfl (by first | exact Or.inl rfl | exact Or.inr rfl) (pf_mod (pf_intc rfl c.n_int (pfa_cons (pf_add (pf_add (pf_mul (pf_name 3) (pf_c px_int)) (pf_mul (pf_mod (pf_intc rfl c.n_int (pfa_cons (pf_name 2) pfa_nil)) (pf_c px_int)) (pf_c px_int))) (pf_c px_int)) pfa_nil)) (pf_c px_int)))
  (pfss_one (pfs_ret (pf_lstC (pfa_cons (pf_if (PXW.pt (pfw_or (pft_lt (pf_name 2) (pf_c px_int) (hu_of hr)) (pfw_or1 (pft_ge (pf_name 2) (pf_pow (pf_c px_int) (pf_c px_int)) (hu_of hr))))) (pf_abs rfl c.n_abs (pfa_cons (pf_name 2) pfa_nil)) (pf_c px_int)) (pfa_cons (pf_name 3) (pfa_cons (pf_c px_int) pfa_nil)))))))))))
theorem h__law_below (c : C K mg) : Has P w K mg base 1 "_law_below" ["pool", "many"] (pF (f__law_below 61 4093 66643 2147483563 43089 12431 2147483647)) := by
  exact has_f (k := 0) c.d__law_below sc__law_below (fun _ _ _ _ _ _ us hl => match us, hl with | [_, _], _ => rfl) rfl rfl (by decide) (fun f cdv A outer s H E hr => (pfss_cons (pfs_if (pft_gt (pf_ix (pf_name 0) (pf_c px_int)) (pf_c px_int) (hu_of hr)) (pfss_cons (pfs_set (i := 2) sc__law_below.nd rfl (by first | exact Or.inl rfl | exact Or.inr rfl) (pf_mod (pf_intc rfl c.n_int (pfa_cons (pf_ix (pf_name 0) (pf_c px_int)) pfa_nil)) (pf_name 1)))
  (pfss_cons (pfs_asg (pf_div (pf_ix (pf_name 0) (pf_c px_int)) (pf_name 1)) (pfg_sub (own := []) (pf_name 0) (pf_c px_int)))
  (pfss_one (pfs_ret (pf_name 2))))) pfss_nil)
  (pfss_cons (pfs_asg (pf_add (pf_ix (pf_name 0) (pf_c px_int)) (pf_c px_int)) (pfg_sub (own := []) (pf_name 0) (pf_c px_int)))
  (pfss_cons (pfs_set (i := 3) sc__law_below.nd rfl (by first | exact Or.inl rfl | exact Or.inr rfl) (pf_mod (pf_intc rfl c.n_int (pfa_cons (pf_add (pf_add (pf_mul (pf_ix (pf_name 0) (pf_c px_int)) (pf_c px_int)) (pf_mul (pf_ix (pf_name 0) (pf_c px_int)) (pf_c px_int))) (pf_c px_int)) pfa_nil)) (pf_c px_int)))
  (pfss_cons (pfs_asg (pf_mod (pf_intc rfl c.n_int (pfa_cons (pf_add (pf_mul (pf_name 3) (pf_add (pf_mod (pf_intc rfl c.n_int (pfa_cons (pf_name 3) pfa_nil)) (pf_c px_int)) (pf_c px_int))) (pf_ix (pf_name 0) (pf_c px_int))) pfa_nil)) (pf_c px_int)) (pfg_sub (own := []) (pf_name 0) (pf_c px_int)))
  (pfss_one (pfs_ret (pf_mod (pf_intc rfl c.n_int (pfa_cons (pf_div (pf_ix (pf_name 0) (pf_c px_int)) (pf_c px_int)) pfa_nil)) (pf_name 1)))))))))
theorem h__law_back (c : C K mg) : Has P w K mg base 1 "_law_back" ["side"] (pF f__law_back) := by
  exact has_f (k := 0) c.d__law_back sc__law_back (fun _ _ _ _ _ _ us hl => match us, hl with | [_], _ => rfl) rfl rfl (by decide) (fun f cdv A outer s H E hr => (pfss_one (pfs_ret (pf_tup (pfa_cons (pf_ix (pf_name 0) (pf_c px_int)) (pfa_cons (pf_sub (pf_c px_int) (pf_ix (pf_name 0) (pf_c px_int))) pfa_nil))))))
theorem h__law_sides (c : C K mg) : Has P w K mg base 1 "_law_sides" ["things"] (pF f__law_sides) := by
  exact has_f (k := 0) c.d__law_sides sc__law_sides (fun _ _ _ _ _ _ us hl => match us, hl with | [_], _ => rfl) rfl rfl (by decide) (fun f cdv A outer s H E hr => (pfss_cons (pfs_set (i := 1) sc__law_sides.nd rfl (by first | exact Or.inl rfl | exact Or.inr rfl) (pf_lst pfa_nil))
  (pfss_cons (pfs_for hp_of rfl (pfi_U (pf_name 0)) (pfg_name (own := [2]) (by decide) sc__law_sides.nd (i := 2) rfl (by first | exact Or.inl rfl | exact Or.inr rfl)) (pfss_one (pfs_set (i := 1) sc__law_sides.nd rfl (by first | exact Or.inl rfl | exact Or.inr rfl) (pf_add (pf_name 1) (pf_lst (pfa_cons (pf_tup (pfa_cons (pf_name 2) (pfa_cons (pf_c px_int) pfa_nil))) (pfa_cons (pf_tup (pfa_cons (pf_name 2) (pfa_cons (pf_c px_int) pfa_nil))) pfa_nil)))))))
  (pfss_one (pfs_ret (pf_name 1))))))
theorem h__law_rule (c : C K mg) : Has P w K mg base 1 "_law_rule" ["one", "two"] (pF f__law_rule) := by
  exact has_f (k := 0) c.d__law_rule sc__law_rule (fun _ _ _ _ _ _ us hl => match us, hl with | [_, _], _ => rfl) rfl rfl (by decide) (fun f cdv A outer s H E hr => (pfss_cons (pfs_if (pft_eq (pf_ix (pf_name 0) (pf_c px_int)) (pf_ix (pf_name 1) (pf_c px_int)) (hu_of hr)) (pfss_one (pfs_ret (pf_tup (pfa_cons (pf_name 0) (pfa_cons (pf_name 0) pfa_nil))))) pfss_nil)
  (pfss_one (pfs_ret (pf_tup (pfa_cons (pf_min (hu_of hr) rfl rfl c.n_min (pfa_cons (pf_name 0) (pfa_cons (pf_name 1) pfa_nil))) (pfa_cons (pf_max (hu_of hr) rfl rfl c.n_max (pfa_cons (pf_name 0) (pfa_cons (pf_name 1) pfa_nil))) pfa_nil)))))))
theorem h__law_same (c : C K mg) : ∀ n : Nat, Has P w K mg base (1 + n) "_law_same" ["told", "due"] (pF (f__law_same n))
 | 0 => has_no c.d__law_same (fun _ _ _ _ _ _ us hl => match us, hl with | [_, _], _ => rfl)
 | n + 1 => by
  have ih := h__law_same c n
  exact has_f (k := 1 + n) c.d__law_same sc__law_same (fun _ _ _ _ _ _ us hl => match us, hl with | [_, _], _ => rfl) rfl rfl (by decide) (fun f cdv A outer s H E hr => (pfss_cons (pfs_if (pft_isN (pf_name 1)) (pfss_one (pfs_ret (pf_isN (pf_name 0)))) pfss_nil)
  (pfss_cons (pfs_if (pft_val (pf_isiK .bool rfl c.n_isinstance rfl c.n_bool (by decide +kernel) (pf_name 1))) (pfss_one (pfs_ret (pf_and (pf_isiK .bool rfl c.n_isinstance rfl c.n_bool (by decide +kernel) (pf_name 0)) (pf_one (pf_eq (pf_name 0) (pf_name 1) (hu_of hr)))))) pfss_nil)
  (pfss_cons (pfs_if (pft_val (pf_isiK .int rfl c.n_isinstance rfl c.n_int (by decide +kernel) (pf_name 1))) (pfss_one (pfs_ret (pf_and (pf_isiK .int rfl c.n_isinstance rfl c.n_int (by decide +kernel) (pf_name 0)) (pf_and (pf_not (pf_isiK .bool rfl c.n_isinstance rfl c.n_bool (by decide +kernel) (pf_name 0))) (pf_one (pf_eq (pf_name 0) (pf_name 1) (hu_of hr))))))) pfss_nil)
  (pfss_cons (pfs_if (pft_val (pf_isiK .str rfl c.n_isinstance rfl c.n_str (by decide +kernel) (pf_name 1))) (pfss_one (pfs_ret (pf_and (pf_isiK .str rfl c.n_isinstance rfl c.n_str (by decide +kernel) (pf_name 0)) (pf_one (pf_eq (pf_name 0) (pf_name 1) (hu_of hr)))))) pfss_nil)
  (pfss_cons (pfs_if (PXW.pt (pfw_or (pft_not (pft_val (pf_isiK .tuple rfl c.n_isinstance rfl c.n_tuple (by decide +kernel) (pf_name 0)))) (pfw_or1 (pft_ne (pf_len rfl c.n_len (pfa_cons (pf_name 0) pfa_nil)) (pf_len rfl c.n_len (pfa_cons (pf_name 1) pfa_nil)) (hu_of hr))))) (pfss_one (pfs_ret (pf_c px_bl))) pfss_nil)
  (pfss_one (pfs_ret (pf_all rfl rfl c.n_all (pfa_cons (pf_lc (own := [("x", 2), ("y", 3)]) rfl sc__law_same.nd (pfi_zip rfl c.n_zip (pfa_cons (pf_name 0) (pfa_cons (pf_name 1) pfa_nil))) (by exact (show BlkOk N__law_same (defScope s__law_same) _ _ from ⟨rfl, by decide +kernel, by decide +kernel, by decide +kernel, by decide +kernel⟩)) (fun _ _ _ _ _ => (pfg_tup (own := [2, 3]) rfl (pfgs_cons (pfg_name (own := [2, 3]) (by decide) sc__law_same.nd (i := 2) rfl (by first | exact Or.inl rfl | exact Or.inr rfl)) (pfgs_cons (pfg_name (own := [2, 3]) (by decide) sc__law_same.nd (i := 3) rfl (by first | exact Or.inl rfl | exact Or.inr rfl)) pfgs_nil)))) (fun _ _ _ _ _ => pfts_nil) (fun _ _ _ _ _ => (pf_user (ih) takes0 hr (by omega) rfl (pfa_cons (pf_name 2) (pfa_cons (pf_name 3) pfa_nil))))) pfa_nil))))))))))
theorem h_is_between (c : C K mg) : Has P w K mg base 2 "is_between" ["value", "low", "high"] (pF f_is_between) := by
  exact has_f (k := 1) c.d_is_between sc_is_between (fun _ _ _ _ _ _ us hl => match us, hl with | [_, _, _], _ => rfl) rfl rfl (by decide) (fun f cdv A outer s H E hr => (pfss_one (pfs_ret (pf_and (pf_user (h_is_whole c) tk_of hr (by omega) rfl (pfa_cons (pf_name 0) pfa_nil)) (pf_one (pf_lele (pf_name 1) (pf_name 0) (pf_name 2)))))))
theorem h_first_wrong (c : C K mg) (T : Tab) (hT : TabOk P w K mg base 1 T) : Has P w K mg base 2 "first_wrong" ["value", "low", "high", "is_one", "is_rising"] (pF (f_first_wrong T)) := by
  exact has_f (k := 1) c.d_first_wrong sc_first_wrong (fun _ _ _ _ _ _ us hl => match us, hl with | [_, _, _, _, _], _ => rfl) rfl rfl (by decide) (fun f cdv A outer s H E hr => (pfss_cons (pfs_if (PXW.pt (pfw_or (pft_not (pft_val (pf_isiK .tuple rfl c.n_isinstance rfl c.n_tuple (by decide +kernel) (pf_name 0)))) (pfw_or1 (pft_not (pft_lele (pf_name 1) (pf_len rfl c.n_len (pfa_cons (pf_name 0) pfa_nil)) (pf_name 2)))))) (pfss_one (pfs_ret (pf_lst (pfa_cons (pf_c px_non) pfa_nil)))) pfss_nil)
  (pfss_cons (pfs_for hp_of rfl (pfi_enum rfl c.n_enumerate (pfa_cons (pf_name 0) pfa_nil)) (pfg_tup (own := [5, 6]) rfl (pfgs_cons (pfg_name (own := [5, 6]) (by decide) sc_first_wrong.nd (i := 5) rfl (by first | exact Or.inl rfl | exact Or.inr rfl)) (pfgs_cons (pfg_name (own := [5, 6]) (by decide) sc_first_wrong.nd (i := 6) rfl (by first | exact Or.inl rfl | exact Or.inr rfl)) pfgs_nil))) (pfss_one (pfs_if (PXW.pt (pfw_or (pft_not (pft_val (pf_local (i := 3) tk_of hT hr (by omega) rfl (by decide) (by first | exact Or.inl rfl | exact Or.inr (Or.inl rfl) | exact Or.inr (Or.inr rfl)) (pfa_cons (pf_name 6) pfa_nil)))) (pfw_or1 (PXW.pt (pfw_and (pft_val (pf_name 4)) (pfw_and (pft_gt (pf_name 5) (pf_c px_int) (hu_of hr)) (pfw_and1 (pft_le (pf_name 6) (pf_ix (pf_name 0) (pf_sub (pf_name 5) (pf_c px_int))) (hu_of hr))))))))) (pfss_one (pfs_ret (pf_lst (pfa_cons (pf_name 5) pfa_nil)))) pfss_nil)))
  (pfss_one (pfs_ret (pf_lst pfa_nil))))))
theorem h_Leads___init__ (c : C K mg) : HasM P w K mg base 2 "Leads" "__init__" ["self", "book"] (pF f_Leads___init__) := by
  exact hasM_f (k := 1) c.d_Leads___init__ sc_Leads___init__ (fun _ _ _ _ _ _ us hl => match us, hl with | [_, _], _ => rfl) rfl rfl (by decide) (fun f cdv A outer s H E hr => (pfss_cons (pfs_fld (C := "Leads") c.f_cls_Leads c.f_noat_Leads_things (pf_name 0) (pf_ix (pf_name 1) (pf_c (px_gintC rfl c.m_THINGS))))
  (pfss_cons (pfs_fld (C := "Leads") c.f_cls_Leads c.f_noat_Leads_steps (pf_name 0) (pf_dcC (own := [("side", 3)]) rfl (Nat.lt_of_succ_lt (hu1_of hr)) sc_Leads___init__.nd (pfi_U (pf_user (h_all_sides c) tk_of hr (by omega) rfl (pfa_cons (pf_attr (C := "Leads") c.f_cls_Leads c.f_noat_Leads_things (pf_name 0)) pfa_nil))) (by exact (show BlkOk N_Leads___init__ (defScope s_Leads___init__) _ _ from ⟨rfl, by decide +kernel, by decide +kernel, by decide +kernel, by decide +kernel⟩)) (fun _ _ _ _ _ => (pfg_name (own := [3]) (by decide) sc_Leads___init__.nd (i := 3) rfl (by first | exact Or.inl rfl | exact Or.inr rfl))) (fun _ _ _ _ _ => pfts_nil) (fun _ _ _ _ _ => (pf_name 3)) (fun _ _ _ _ _ => (pf_lstC pfa_nil))))
  (pfss_one (pfs_for hp_of rfl (pfi_enum rfl c.n_enumerate (pfa_cons (pf_ix (pf_name 1) (pf_c (px_gintC rfl c.m_RULES))) pfa_nil)) (pfg_tup (own := [2, 3, 4]) rfl (pfgs_cons (pfg_name (own := [2, 3, 4]) (by decide) sc_Leads___init__.nd (i := 2) rfl (by first | exact Or.inl rfl | exact Or.inr rfl)) (pfgs_cons (pfg_tup (own := [2, 3, 4]) rfl (pfgs_cons (pfg_name (own := [2, 3, 4]) (by decide) sc_Leads___init__.nd (i := 3) rfl (by first | exact Or.inl rfl | exact Or.inr rfl)) (pfgs_cons (pfg_name (own := [2, 3, 4]) (by decide) sc_Leads___init__.nd (i := 4) rfl (by first | exact Or.inl rfl | exact Or.inr rfl)) pfgs_nil))) pfgs_nil))) (pfss_cons (pfs_expr (pf_append (pf_cget (hu1_of hr) (pf_attr (C := "Leads") c.f_cls_Leads c.f_noat_Leads_steps (pf_name 0)) (pf_user (h_back_of c) tk_of hr (by omega) rfl (pfa_cons (pf_name 3) pfa_nil))) (pfa_cons (pf_tup (pfa_cons (pf_name 2) (pfa_cons (pf_name 4) pfa_nil))) pfa_nil)))
  (pfss_one (pfs_if (pft_ne (pf_name 3) (pf_name 4) (hu_of hr)) (pfss_one (pfs_expr (pf_append (pf_cget (hu1_of hr) (pf_attr (C := "Leads") c.f_cls_Leads c.f_noat_Leads_steps (pf_name 0)) (pf_user (h_back_of c) tk_of hr (by omega) rfl (pfa_cons (pf_name 4) pfa_nil))) (pfa_cons (pf_tup (pfa_cons (pf_name 2) (pfa_cons (pf_name 3) pfa_nil))) pfa_nil)))) pfss_nil))))))))
theorem h__law_one (c : C K mg) : Has P w K mg base 2 "_law_one" ["pool", "some"] (pF (f__law_one (f__law_below 61 4093 66643 2147483563 43089 12431 2147483647))) := by
  exact has_f (k := 1) c.d__law_one sc__law_one (fun _ _ _ _ _ _ us hl => match us, hl with | [_, _], _ => rfl) rfl rfl (by decide) (fun f cdv A outer s H E hr => (pfss_one (pfs_ret (pf_ix (pf_name 1) (pf_user (h__law_below c) tk_of hr (by omega) rfl (pfa_cons (pf_name 0) (pfa_cons (pf_len rfl c.n_len (pfa_cons (pf_name 1) pfa_nil)) pfa_nil)))))))
theorem h_wrong_in_things (c : C K mg) : Has P w K mg base 3 "wrong_in_things" ["value"] (pF f_wrong_in_things) := by
  exact has_f (k := 2) c.d_wrong_in_things sc_wrong_in_things (fun _ _ _ _ _ _ us hl => match us, hl with | [_], _ => rfl) rfl rfl (by decide) (fun f cdv A outer s H E hr => (pfss_one (pfs_ret (pf_user (h_first_wrong c (tabC "is_name" f_is_name tab0) (tabOkC (h_is_name c) (by omega) tabOk0)) tk_of hr (by omega) rfl (pfa_cons (pf_name 0) (pfa_cons (pf_c px_int) (pfa_cons (pf_c (px_gintC rfl c.m_MOST_THINGS)) (pfa_cons (pf_c (px_fn (h_is_name c) rfl)) (pfa_cons (pf_c px_bl) pfa_nil)))))))))
theorem h_is_some_side (c : C K mg) : Has P w K mg base 3 "is_some_side" ["value"] (pF f_is_some_side) := by
  exact has_f (k := 2) c.d_is_some_side sc_is_some_side (fun _ _ _ _ _ _ us hl => match us, hl with | [_], _ => rfl) rfl rfl (by decide) (fun f cdv A outer s H E hr => (pfss_one (pfs_ret (pf_and (pf_user (h_is_tuple_of c) tk_of hr (by omega) rfl (pfa_cons (pf_name 0) (pfa_cons (pf_c px_int) pfa_nil))) (pf_and (pf_user (h_is_name c) tk_of hr (by omega) rfl (pfa_cons (pf_ix (pf_name 0) (pf_c (px_gintC rfl c.m_NAME))) pfa_nil)) (pf_one (pf_user (h_is_between c) tk_of hr (by omega) rfl (pfa_cons (pf_ix (pf_name 0) (pf_c (px_gintC rfl c.m_IS_TAKEN))) (pfa_cons (pf_c px_int) (pfa_cons (pf_c px_int) pfa_nil))))))))))
theorem h__law_things (c : C K mg) : Has P w K mg base 3 "_law_things" ["pool", "many"] (pF (f__law_things (f__law_below 61 4093 66643 2147483563 43089 12431 2147483647))) := by
  exact has_f (k := 2) c.d__law_things sc__law_things (fun _ _ _ _ _ _ us hl => match us, hl with | [_, _], _ => rfl) rfl rfl (by decide) (fun f cdv A outer s H E hr => (pfss_cons (pfs_par2 (i := 2) (j := 3) rfl sc__law_things.nd rfl rfl (by first | exact Or.inl rfl | exact Or.inr rfl) (by first | exact Or.inl rfl | exact Or.inr rfl) (pfa_cons (pf_c px_str) (pfa_cons (pf_lstC pfa_nil) pfa_nil)) (by first | exact Or.inl rfl | exact Or.inr rfl) (by first | exact Or.inl rfl | exact Or.inr rfl))
  (pfss_cons (pfs_for hp_of rfl (pfi_range1 rfl c.n_range (pfa_cons (pf_name 1) pfa_nil)) (pfg_name (own := [4]) (by decide) sc__law_things.nd (i := 4) rfl (by first | exact Or.inl rfl | exact Or.inr rfl)) (pfss_cons (pfs_set (i := 5) sc__law_things.nd rfl (by first | exact Or.inl rfl | exact Or.inr rfl) (pf_join (pf_c px_str) (pf_lc (own := [("sign", 8)]) rfl sc__law_things.nd (pfi_range1 rfl c.n_range (pfa_cons (pf_add (pf_c px_int) (pf_user (h__law_below c) tk_of hr (by omega) rfl (pfa_cons (pf_name 0) (pfa_cons (pf_c px_int) pfa_nil)))) pfa_nil)) (by exact (show BlkOk N__law_things (defScope s__law_things) _ _ from ⟨rfl, by decide +kernel, by decide +kernel, by decide +kernel, by decide +kernel⟩)) (fun _ _ _ _ _ => (pfg_name (own := [8]) (by decide) sc__law_things.nd (i := 8) rfl (by first | exact Or.inl rfl | exact Or.inr rfl))) (fun _ _ _ _ _ => pfts_nil) (fun _ _ _ _ _ => (pf_ix (pf_name 2) (pf_user (h__law_below c) takes0 hr (by omega) rfl (pfa_cons (pf_name 0) (pfa_cons (pf_c px_int) pfa_nil))))))))
  (pfss_cons (pfs_set (i := 5) sc__law_things.nd rfl (by first | exact Or.inl rfl | exact Or.inr rfl) (pf_if (pft_eq (pf_user (h__law_below c) tk_of hr (by omega) rfl (pfa_cons (pf_name 0) (pfa_cons (pf_c px_int) pfa_nil))) (pf_c px_int) (hu_of hr)) (pf_user (h__law_one c) tk_of hr (by omega) rfl (pfa_cons (pf_name 0) (pfa_cons (pf_tup (pfa_cons (pf_c px_str) (pfa_cons (pf_c px_str) (pfa_cons (pf_c px_str) (pfa_cons (pf_c px_str) (pfa_cons (pf_c px_str) (pfa_cons (pf_c px_str) (pfa_cons (pf_c px_str) (pfa_cons (pf_c px_str) pfa_nil))))))))) pfa_nil))) (pf_name 5)))
  (pfss_cons (pfs_set (i := 6) sc__law_things.nd rfl (by first | exact Or.inl rfl | exact Or.inr rfl) (pf_name 5))
  (pfss_cons (pfs_for hp_of rfl (pfi_U (pf_name 2)) (pfg_name (own := [7]) (by decide) sc__law_things.nd (i := 7) rfl (by first | exact Or.inl rfl | exact Or.inr rfl)) (pfss_one (pfs_set (i := 6) sc__law_things.nd rfl (by first | exact Or.inl rfl | exact Or.inr rfl) (pf_if (pft_in (pf_name 6) (pf_name 3) (hu_of hr)) (pf_add (pf_sl (pf_name 5) pfo_none (pfo_some (pf_c px_int))) (pf_name 7)) (pf_name 6)))))
  (pfss_one (pfs_expr (pf_append (pf_name 3) (pfa_cons (pf_name 6) pfa_nil)))))))))
  (pfss_one (pfs_ret (pf_tuple rfl c.n_tuple (pfa_cons (pf_sorted (hu_of hr) rfl c.n_sorted (pfa_cons (pf_name 3) pfa_nil)) pfa_nil)))))))
theorem h_are_things_by (c : C K mg) : Has P w K mg base 4 "are_things_by" ["value"] (pF f_are_things_by) := by
  exact has_f (k := 3) c.d_are_things_by sc_are_things_by (fun _ _ _ _ _ _ us hl => match us, hl with | [_], _ => rfl) rfl rfl (by decide) (fun f cdv A outer s H E hr => (pfss_one (pfs_ret (pf_eq (pf_user (h_wrong_in_things c) tk_of hr (by omega) rfl (pfa_cons (pf_name 0) pfa_nil)) (pf_lst pfa_nil) (hu_of hr)))))
theorem h_is_side_by (c : C K mg) : Has P w K mg base 4 "is_side_by" ["things", "value"] (pF f_is_side_by) := by
  exact has_f (k := 3) c.d_is_side_by sc_is_side_by (fun _ _ _ _ _ _ us hl => match us, hl with | [_, _], _ => rfl) rfl rfl (by decide) (fun f cdv A outer s H E hr => (pfss_one (pfs_ret (pf_and (pf_user (h_is_some_side c) tk_of hr (by omega) rfl (pfa_cons (pf_name 1) pfa_nil)) (pf_one (pf_in (pf_ix (pf_name 1) (pf_c (px_gintC rfl c.m_NAME))) (pf_name 0) (hu_of hr)))))))
theorem h_back (c : C K mg) : Has P w K mg base 4 "back" ["side"] (pF f_back) := by
  exact has_f (k := 3) c.d_back sc_back (fun _ _ _ _ _ _ us hl => match us, hl with | [_], _ => rfl) rfl rfl (by decide) (fun f cdv A outer s H E hr => (pfss_cons (pfs_if (pft_not (pft_val (pf_user (h_is_some_side c) tk_of hr (by omega) rfl (pfa_cons (pf_name 0) pfa_nil)))) (pfss_one pfs_never) pfss_nil)
  (pfss_one (pfs_ret (pf_user (h_back_of c) tk_of hr (by omega) rfl (pfa_cons (pf_name 0) pfa_nil))))))
theorem h__law_book (c : C K mg) : Has P w K mg base 4 "_law_book" ["pool", "many", "rules", "sort"] (pF (f__law_book (f__law_below 61 4093 66643 2147483563 43089 12431 2147483647))) := by
  exact has_f (k := 3) c.d__law_book sc__law_book (fun _ _ _ _ _ _ us hl => match us, hl with | [_, _, _, _], _ => rfl) rfl rfl (by decide) (fun f cdv A outer s H E hr => (pfss_cons (pfs_par2 (i := 4) (j := 5) rfl sc__law_book.nd rfl rfl (by first | exact Or.inl rfl | exact Or.inr rfl) (by first | exact Or.inl rfl | exact Or.inr rfl) (pfa_cons (pf_user (h__law_things c) tk_of hr (by omega) rfl (pfa_cons (pf_name 0) (pfa_cons (pf_name 1) pfa_nil))) (pfa_cons (pf_lstC pfa_nil) pfa_nil)) (by first | exact Or.inl rfl | exact Or.inr rfl) (by first | exact Or.inl rfl | exact Or.inr rfl))
  (pfss_cons (pfs_par (i := 6) (j := 7) rfl sc__law_book.nd rfl rfl (by decide) rfl rfl (pfa_cons (pf_user (h__law_sides c) tk_of hr (by omega) rfl (pfa_cons (pf_name 4) pfa_nil)) (pfa_cons (pf_lc (own := [("name", 13)]) rfl sc__law_book.nd (pfi_U (pf_name 4)) (by exact (show BlkOk N__law_book (defScope s__law_book) _ _ from ⟨rfl, by decide +kernel, by decide +kernel, by decide +kernel, by decide +kernel⟩)) (fun _ _ _ _ _ => (pfg_name (own := [13]) (by decide) sc__law_book.nd (i := 13) rfl (by first | exact Or.inl rfl | exact Or.inr rfl))) (fun _ _ _ _ _ => pfts_nil) (fun _ _ _ _ _ => (pf_user (h__law_below c) takes0 hr (by omega) rfl (pfa_cons (pf_name 0) (pfa_cons (pf_c px_int) pfa_nil))))) pfa_nil)) (by rfl))
  (pfss_cons (pfs_set (i := 8) sc__law_book.nd rfl (by first | exact Or.inl rfl | exact Or.inr rfl) (pf_user (h__law_one c) tk_of hr (by omega) rfl (pfa_cons (pf_name 0) (pfa_cons (pf_name 6) pfa_nil))))
  (pfss_cons (pfs_for hp_of rfl (pfi_range1 rfl c.n_range (pfa_cons (pf_name 2) pfa_nil)) (pfg_name (own := [9]) (by decide) sc__law_book.nd (i := 9) rfl (by first | exact Or.inl rfl | exact Or.inr rfl)) (pfss_cons (pfs_par (i := 10) (j := 11) rfl sc__law_book.nd rfl rfl (by decide) rfl rfl (pfa_cons (pf_user (h__law_one c) tk_of hr (by omega) rfl (pfa_cons (pf_name 0) (pfa_cons (pf_name 6) pfa_nil))) (pfa_cons (pf_user (h__law_one c) tk_of hr (by omega) rfl (pfa_cons (pf_name 0) (pfa_cons (pf_name 6) pfa_nil))) pfa_nil)) (by rfl))
  (pfss_cons (pfs_if (PXW.pt (pfw_and (pft_eq (pf_name 3) (pf_c px_int) (hu_of hr)) (pfw_and (pft_ne (pf_ix (pf_name 7) (pf_index' (hu65_of hr) (pf_name 4) (pfa_cons (pf_ix (pf_name 10) (pf_c px_int)) pfa_nil))) (pf_ix (pf_name 10) (pf_c px_int)) (hu_of hr)) (pfw_and1 (pft_ne (pf_ix (pf_name 7) (pf_index' (hu65_of hr) (pf_name 4) (pfa_cons (pf_ix (pf_name 11) (pf_c px_int)) pfa_nil))) (pf_ix (pf_name 11) (pf_c px_int)) (hu_of hr)))))) (pfss_one (pfs_set (i := 10) sc__law_book.nd rfl (by first | exact Or.inl rfl | exact Or.inr rfl) (pf_user (h__law_back c) tk_of hr (by omega) rfl (pfa_cons (pf_name 10) pfa_nil)))) pfss_nil)
  (pfss_cons (pfs_if (pft_eq (pf_name 3) (pf_c px_int) (hu_of hr)) (pfss_cons (pfs_par (i := 10) (j := 8) rfl sc__law_book.nd rfl rfl (by decide) rfl rfl (pfa_cons (pf_user (h__law_back c) tk_of hr (by omega) rfl (pfa_cons (pf_name 8) pfa_nil)) (pfa_cons (pf_if (pft_ne (pf_ix (pf_name 11) (pf_c px_int)) (pf_ix (pf_name 8) (pf_c px_int)) (hu_of hr)) (pf_name 11) (pf_name 8)) pfa_nil)) (by rfl))
  (pfss_one (pfs_set (i := 11) sc__law_book.nd rfl (by first | exact Or.inl rfl | exact Or.inr rfl) (pf_name 8)))) pfss_nil)
  (pfss_cons (pfs_expr (pf_append (pf_name 5) (pfa_cons (pf_user (h__law_rule c) tk_of hr (by omega) rfl (pfa_cons (pf_name 10) (pfa_cons (pf_name 11) pfa_nil))) pfa_nil)))
  (pfss_one (pfs_if (PXW.pt (pfw_and (pft_eq (pf_name 3) (pf_c px_int) (hu_of hr)) (pfw_and1 (pft_ne (pf_ix (pf_name 10) (pf_c px_int)) (pf_ix (pf_name 11) (pf_c px_int)) (hu_of hr))))) (pfss_one (pfs_expr (pf_append (pf_name 5) (pfa_cons (pf_user (h__law_rule c) tk_of hr (by omega) rfl (pfa_cons (pf_user (h__law_back c) tk_of hr (by omega) rfl (pfa_cons (pf_name 10) pfa_nil)) (pfa_cons (pf_user (h__law_back c) tk_of hr (by omega) rfl (pfa_cons (pf_name 11) pfa_nil)) pfa_nil))) pfa_nil)))) pfss_nil)))))))
  (pfss_cons (pfs_set (i := 12) sc__law_book.nd rfl (by first | exact Or.inl rfl | exact Or.inr rfl) (pf_sorted (hu_of hr) rfl c.n_sorted (pfa_cons (pf_lc (own := [("at", 14)]) rfl sc__law_book.nd (pfi_range1 rfl c.n_range (pfa_cons (pf_len rfl c.n_len (pfa_cons (pf_name 5) pfa_nil)) pfa_nil)) (by exact (show BlkOk N__law_book (defScope s__law_book) _ _ from ⟨rfl, by decide +kernel, by decide +kernel, by decide +kernel, by decide +kernel⟩)) (fun _ _ _ _ _ => (pfg_name (own := [14]) (by decide) sc__law_book.nd (i := 14) rfl (by first | exact Or.inl rfl | exact Or.inr rfl))) (fun _ _ _ _ _ => (pfts_one (pft_notin (pf_ix (pf_name 5) (pf_name 14)) (pf_sl (pf_name 5) pfo_none (pfo_some (pf_name 14))) (hu_of hr)))) (fun _ _ _ _ _ => (pf_ix (pf_name 5) (pf_name 14)))) pfa_nil)))
  (pfss_one (pfs_ret (pf_tup (pfa_cons (pf_name 4) (pfa_cons (pf_tuple rfl c.n_tuple (pfa_cons (pf_sl (pf_name 12) pfo_none (pfo_some (pf_c px_int))) pfa_nil)) pfa_nil)))))))))))
theorem h_is_rule_by (c : C K mg) : Has P w K mg base 5 "is_rule_by" ["things", "value"] (pF f_is_rule_by) := by
  exact has_f (k := 4) c.d_is_rule_by sc_is_rule_by (fun _ _ _ _ _ _ us hl => match us, hl with | [_, _], _ => rfl) rfl rfl (by decide) (fun f cdv A outer s H E hr => (pfss_cons (pfs_if (PXW.pt (pfw_or (pft_not (pft_val (pf_user (h_is_tuple_of c) tk_of hr (by omega) rfl (pfa_cons (pf_name 1) (pfa_cons (pf_c px_int) pfa_nil))))) (pfw_or (pft_not (pft_val (pf_user (h_is_side_by c) tk_of hr (by omega) rfl (pfa_cons (pf_name 0) (pfa_cons (pf_ix (pf_name 1) (pf_c px_int)) pfa_nil))))) (pfw_or1 (pft_not (pft_val (pf_user (h_is_side_by c) tk_of hr (by omega) rfl (pfa_cons (pf_name 0) (pfa_cons (pf_ix (pf_name 1) (pf_c px_int)) pfa_nil))))))))) (pfss_one (pfs_ret (pf_c px_bl))) pfss_nil)
  (pfss_one (pfs_ret (pf_or (pf_eq (pf_ix (pf_name 1) (pf_c px_int)) (pf_ix (pf_name 1) (pf_c px_int)) (hu_of hr)) (pf_one (pf_lt (pf_ix (pf_ix (pf_name 1) (pf_c px_int)) (pf_c (px_gintC rfl c.m_NAME))) (pf_ix (pf_ix (pf_name 1) (pf_c px_int)) (pf_c (px_gintC rfl c.m_NAME))) (hu_of hr))))))))
theorem h_check_side (c : C K mg) : Has P w K mg base 5 "check_side" ["things", "value"] (pF f_check_side) := by
  exact has_f (k := 4) c.d_check_side sc_check_side (fun _ _ _ _ _ _ us hl => match us, hl with | [_, _], _ => rfl) rfl rfl (by decide) (fun f cdv A outer s H E hr => (pfss_one (pfs_if (pft_not (pft_val (pf_user (h_is_side_by c) tk_of hr (by omega) rfl (pfa_cons (pf_name 0) (pfa_cons (pf_name 1) pfa_nil))))) (pfss_one pfs_never) pfss_nil)))
theorem h_are_rules_by (c : C K mg) : Has P w K mg base 6 "are_rules_by" ["things", "value", "most"] (pF f_are_rules_by) := by
  exact has_f (k := 5) c.d_are_rules_by sc_are_rules_by (fun _ _ _ _ _ _ us hl => match us, hl with | [_, _, _], _ => rfl) rfl rfl (by decide) (fun f cdv A outer s H E hr => (pfss_cons (pfs_if (PXW.pt (pfw_or (pft_not (pft_val (pf_isiK .tuple rfl c.n_isinstance rfl c.n_tuple (by decide +kernel) (pf_name 1)))) (pfw_or1 (pft_gt (pf_len rfl c.n_len (pfa_cons (pf_name 1) pfa_nil)) (pf_name 2) (hu_of hr))))) (pfss_one (pfs_ret (pf_c px_bl))) pfss_nil)
  (pfss_one (pfs_ret (pf_and (pf_all rfl rfl c.n_all (pfa_cons (pf_lc (own := [("each", 3)]) rfl sc_are_rules_by.nd (pfi_U (pf_name 1)) (by exact (show BlkOk N_are_rules_by (defScope s_are_rules_by) _ _ from ⟨rfl, by decide +kernel, by decide +kernel, by decide +kernel, by decide +kernel⟩)) (fun _ _ _ _ _ => (pfg_name (own := [3]) (by decide) sc_are_rules_by.nd (i := 3) rfl (by first | exact Or.inl rfl | exact Or.inr rfl))) (fun _ _ _ _ _ => pfts_nil) (fun _ _ _ _ _ => (pf_user (h_is_rule_by c) takes0 hr (by omega) rfl (pfa_cons (pf_name 0) (pfa_cons (pf_name 3) pfa_nil))))) pfa_nil)) (pf_one (pf_user (h_are_rising c) tk_of hr (by omega) rfl (pfa_cons (pf_name 1) pfa_nil))))))))
theorem h_is_book_by (c : C K mg) : Has P w K mg base 7 "is_book_by" ["value"] (pF f_is_book_by) := by
  exact has_f (k := 6) c.d_is_book_by sc_is_book_by (fun _ _ _ _ _ _ us hl => match us, hl with | [_], _ => rfl) rfl rfl (by decide) (fun f cdv A outer s H E hr => (pfss_cons (pfs_if (PXW.pt (pfw_or (pft_not (pft_val (pf_user (h_is_tuple_of c) tk_of hr (by omega) rfl (pfa_cons (pf_name 0) (pfa_cons (pf_c px_int) pfa_nil))))) (pfw_or1 (pft_not (pft_val (pf_user (h_are_things_by c) tk_of hr (by omega) rfl (pfa_cons (pf_ix (pf_name 0) (pf_c (px_gintC rfl c.m_THINGS))) pfa_nil))))))) (pfss_one (pfs_ret (pf_c px_bl))) pfss_nil)
  (pfss_one (pfs_ret (pf_user (h_are_rules_by c) tk_of hr (by omega) rfl (pfa_cons (pf_ix (pf_name 0) (pf_c (px_gintC rfl c.m_THINGS))) (pfa_cons (pf_ix (pf_name 0) (pf_c (px_gintC rfl c.m_RULES))) (pfa_cons (pf_c (px_gintC rfl c.m_MOST_RULES)) pfa_nil))))))))
theorem h_check_book (c : C K mg) : Has P w K mg base 8 "check_book" ["value"] (pF f_check_book) := by
  exact has_f (k := 7) c.d_check_book sc_check_book (fun _ _ _ _ _ _ us hl => match us, hl with | [_], _ => rfl) rfl rfl (by decide) (fun f cdv A outer s H E hr => (pfss_one (pfs_if (pft_not (pft_val (pf_user (h_is_book_by c) tk_of hr (by omega) rfl (pfa_cons (pf_name 0) pfa_nil)))) (pfss_one pfs_never) pfss_nil)))
theorem h_rules_of (c : C K mg) : Has P w K mg base 9 "rules_of" ["book", "side"] (pF f_rules_of) := by
  exact has_f (k := 8) c.d_rules_of sc_rules_of (fun _ _ _ _ _ _ us hl => match us, hl with | [_, _], _ => rfl) rfl rfl (by decide) (fun f cdv A outer s H E hr => (pfss_cons (pfs_expr (pf_user (h_check_book c) tk_of hr (by omega) rfl (pfa_cons (pf_name 0) pfa_nil)))
  (pfss_cons (pfs_expr (pf_user (h_check_side c) tk_of hr (by omega) rfl (pfa_cons (pf_ix (pf_name 0) (pf_c (px_gintC rfl c.m_THINGS))) (pfa_cons (pf_name 1) pfa_nil))))
  (pfss_one (pfs_ret (pf_tuple rfl c.n_tuple (pfa_cons (pf_lc (own := [("index", 2), ("_", 3)]) rfl sc_rules_of.nd (pfi_U (pf_dget (pf_attr (C := "Leads") c.f_cls_Leads c.f_noat_Leads_steps (pf_make (h_Leads___init__ c) c.f_mkr_Leads c.f_glo_Leads tk_of hr (by omega) rfl (pfa_cons (pf_name 0) pfa_nil))) (pf_name 1) (hu1_of hr))) (by exact (show BlkOk N_rules_of (defScope s_rules_of) _ _ from ⟨rfl, by decide +kernel, by decide +kernel, by decide +kernel, by decide +kernel⟩)) (fun _ _ _ _ _ => (pfg_tup (own := [2, 3]) rfl (pfgs_cons (pfg_name (own := [2, 3]) (by decide) sc_rules_of.nd (i := 2) rfl (by first | exact Or.inl rfl | exact Or.inr rfl)) (pfgs_cons (pfg_name (own := [2, 3]) (by decide) sc_rules_of.nd (i := 3) rfl (by first | exact Or.inl rfl | exact Or.inr rfl)) pfgs_nil)))) (fun _ _ _ _ _ => pfts_nil) (fun _ _ _ _ _ => (pf_name 2))) pfa_nil)))))))
theorem h__law_is_told (c : C K mg) : Has P w K mg base 14 "_law_is_told" ["book", "is_named"] (pF f__law_is_told_k03) := by
  exact has_f (k := 13) c.d__law_is_told sc__law_is_told (fun _ _ _ _ _ _ us hl => match us, hl with | [_, _], _ => rfl) rfl rfl (by decide) (fun f cdv A outer s H E hr => (pfss_cons (pfs_for hp_of rfl (pfi_U (pf_user (h__law_sides c) tk_of hr (by omega) rfl (pfa_cons (pf_ix (pf_name 0) (pf_c px_int)) pfa_nil))) (pfg_name (own := [2]) (by decide) sc__law_is_told.nd (i := 2) rfl (by first | exact Or.inl rfl | exact Or.inr rfl)) (pfss_cons (pfs_if (PXW.pt (pfw_or (pft_not (pft_val (pf_user (h__law_same c 12) tk_of hr (by omega) rfl (pfa_cons (pf_if (pft_val (pf_name 1)) (pf_userK0 (ks := ["side"]) (perm := [0]) (Has.withK (h_back c) c.d_back) tk_of hr (by omega) rfl (fun _ _ _ _ _ _ us ws h1 h2 => match us, ws, h1, h2 with | [], [_], _, _ => rfl) (pfk_cons (pf_name 2) pfk_nil)) (pf_user (h_back c) tk_of hr (by omega) rfl (pfa_cons (pf_name 2) pfa_nil))) (pfa_cons (pf_user (h__law_back c) tk_of hr (by omega) rfl (pfa_cons (pf_name 2) pfa_nil)) pfa_nil))))) (pfw_or1 (pft_not (pft_val (pf_user (h__law_same c 12) tk_of hr (by omega) rfl (pfa_cons (pf_user (h_back c) tk_of hr (by omega) rfl (pfa_cons (pf_user (h_back c) tk_of hr (by omega) rfl (pfa_cons (pf_name 2) pfa_nil)) pfa_nil)) (pfa_cons (pf_name 2) pfa_nil)))))))) (pfss_one (pfs_ret (pf_c px_bl))) pfss_nil)
  (pfss_cons (pfs_set (i := 3) sc__law_is_told.nd rfl (by first | exact Or.inl rfl | exact Or.inr rfl) (pf_tuple rfl c.n_tuple (pfa_cons (pf_lc (own := [("at", 4), ("rule", 5)]) rfl sc__law_is_told.nd (pfi_enum rfl c.n_enumerate (pfa_cons (pf_ix (pf_name 0) (pf_c px_int)) pfa_nil)) (by exact (show BlkOk N__law_is_told (defScope s__law_is_told) _ _ from ⟨rfl, by decide +kernel, by decide +kernel, by decide +kernel, by decide +kernel⟩)) (fun _ _ _ _ _ => (pfg_tup (own := [4, 5]) rfl (pfgs_cons (pfg_name (own := [4, 5]) (by decide) sc__law_is_told.nd (i := 4) rfl (by first | exact Or.inl rfl | exact Or.inr rfl)) (pfgs_cons (pfg_name (own := [4, 5]) (by decide) sc__law_is_told.nd (i := 5) rfl (by first | exact Or.inl rfl | exact Or.inr rfl)) pfgs_nil)))) (fun _ _ _ _ _ => (pfts_one (pft_in (pf_user (h__law_back c) takes0 hr (by omega) rfl (pfa_cons (pf_name 2) pfa_nil)) (pf_name 5) (hu_of hr)))) (fun _ _ _ _ _ => (pf_name 4))) pfa_nil)))
  (pfss_one (pfs_if (pft_not (pft_val (pf_user (h__law_same c 12) tk_of hr (by omega) rfl (pfa_cons (pf_if (pft_val (pf_name 1)) (pf_userK0 (ks := ["side", "book"]) (perm := [1, 0]) (Has.withK (h_rules_of c) c.d_rules_of) tk_of hr (by omega) rfl (fun _ _ _ _ _ _ us ws h1 h2 => match us, ws, h1, h2 with | [], [_, _], _, _ => rfl) (pfk_cons (pf_name 2) (pfk_cons (pf_name 0) pfk_nil))) (pf_user (h_rules_of c) tk_of hr (by omega) rfl (pfa_cons (pf_name 0) (pfa_cons (pf_name 2) pfa_nil)))) (pfa_cons (pf_name 3) pfa_nil))))) (pfss_one (pfs_ret (pf_c px_bl))) pfss_nil)))))
  (pfss_one (pfs_ret (pf_c px_bl)))))
theorem h__law_right (c : C K mg) : Has P w K mg base 15 "_law_right" ["pool"] (pF (f__law_right_k03 (f__law_below 61 4093 66643 2147483563 43089 12431 2147483647))) := by
  exact has_f (k := 14) c.d__law_right sc__law_right (fun _ _ _ _ _ _ us hl => match us, hl with | [_], _ => rfl) rfl rfl (by decide) (fun f cdv A outer s H E hr => (pfss_cons (pfs_set (i := 1) sc__law_right.nd rfl (by first | exact Or.inl rfl | exact Or.inr rfl) (pf_user (h__law_book c) tk_of hr (by omega) rfl (pfa_cons (pf_name 0) (pfa_cons (pf_c px_int) (pfa_cons (pf_c px_int) (pfa_cons (pf_c px_int) pfa_nil))))))
  (pfss_cons (pfs_for hp_of rfl (pfi_range1 rfl c.n_range (pfa_cons (pf_c px_int) pfa_nil)) (pfg_name (own := [2]) (by decide) sc__law_right.nd (i := 2) rfl (by first | exact Or.inl rfl | exact Or.inr rfl)) (pfss_cons (pfs_set (i := 3) sc__law_right.nd rfl (by first | exact Or.inl rfl | exact Or.inr rfl) (pf_if (pft_eq (pf_name 2) (pf_c px_int) (hu_of hr)) (pf_c px_int) (pf_add (pf_c px_int) (pf_user (h__law_below c) tk_of hr (by omega) rfl (pfa_cons (pf_name 0) (pfa_cons (pf_c px_int) pfa_nil))))))
  (pfss_cons (pfs_set (i := 4) sc__law_right.nd rfl (by first | exact Or.inl rfl | exact Or.inr rfl) (pf_user (h__law_book c) tk_of hr (by omega) rfl (pfa_cons (pf_name 0) (pfa_cons (pf_name 3) (pfa_cons (pf_if (pft_eq (pf_name 2) (pf_c px_int) (hu_of hr)) (pf_c px_int) (pf_user (h__law_below c) tk_of hr (by omega) rfl (pfa_cons (pf_name 0) (pfa_cons (pf_c px_int) pfa_nil)))) (pfa_cons (pf_mod (pf_intc rfl c.n_int (pfa_cons (pf_name 2) pfa_nil)) (pf_c px_int)) pfa_nil))))))
  (pfss_cons (pfs_if (PXW.pt (pfw_or (pft_not (pft_val (pf_user (h__law_is_told c) tk_of hr (by omega) rfl (pfa_cons (pf_name 4) (pfa_cons (pf_eq (pf_user (h__law_below c) tk_of hr (by omega) rfl (pfa_cons (pf_name 0) (pfa_cons (pf_c px_int) pfa_nil))) (pf_c px_int) (hu_of hr)) pfa_nil))))) (pfw_or1 (pft_not (pft_val (pf_user (h__law_is_told c) tk_of hr (by omega) rfl (pfa_cons (pf_name 1) (pfa_cons (pf_c px_bl) pfa_nil)))))))) (pfss_one (pfs_ret (pf_c px_bl))) pfss_nil)
  (pfss_one (pfs_set (i := 1) sc__law_right.nd rfl (by first | exact Or.inl rfl | exact Or.inr rfl) (pf_if (pft_lt (pf_name 3) (pf_c px_int) (hu_of hr)) (pf_name 4) (pf_name 1))))))))
  (pfss_one (pfs_ret (pf_c px_bl))))))
theorem h_law (c : C K mg) : Has P w K mg base 16 "law" ["script"] (pF f_law_k03) := by
  exact has_f (k := 15) c.d_law sc_law (fun _ _ _ _ _ _ us hl => match us, hl with | [_], _ => rfl) rfl rfl (by decide) (fun f cdv A outer s H E hr => (pfss_one (pfs_ret (pf_all rfl rfl c.n_all (pfa_cons (pf_lc (own := [("lap", 1)]) rfl sc_law.nd (pfi_range1 rfl c.n_range (pfa_cons (pf_max (hu_of hr) rfl rfl c.n_max (pfa_cons (pf_c px_int) (pfa_cons (pf_min (hu_of hr) rfl rfl c.n_min (pfa_cons (pf_len rfl c.n_len (pfa_cons (pf_name 0) pfa_nil)) (pfa_cons (pf_c px_int) pfa_nil))) pfa_nil))) pfa_nil)) (by exact (show BlkOk N_law (defScope s_law) _ _ from ⟨rfl, by decide +kernel, by decide +kernel, by decide +kernel, by decide +kernel⟩)) (fun _ _ _ _ _ => (pfg_name (own := [1]) (by decide) sc_law.nd (i := 1) rfl (by first | exact Or.inl rfl | exact Or.inr rfl))) (fun _ _ _ _ _ => pfts_nil) (fun _ _ _ _ _ => (pf_user (h__law_right c) takes0 hr (by omega) rfl (pfa_cons (pf_user (h__law_pool c) takes0 hr (by omega) rfl (pfa_cons (pf_name 0) (pfa_cons (pf_name 1) pfa_nil))) pfa_nil)))) pfa_nil)))))
end
def hd__wall : He.DefD := ⟨("_wall", none), "_wall", "_wall", defArgs s__wall, defBody s__wall, defScope s__wall, [], []⟩
def hd_is_whole : He.DefD := ⟨("is_whole", none), "is_whole", "is_whole", defArgs s_is_whole, defBody s_is_whole, defScope s_is_whole, [], []⟩
def hd_is_name : He.DefD := ⟨("is_name", none), "is_name", "is_name", defArgs s_is_name, defBody s_is_name, defScope s_is_name, [], []⟩
def hd_is_tuple_of : He.DefD := ⟨("is_tuple_of", none), "is_tuple_of", "is_tuple_of", defArgs s_is_tuple_of, defBody s_is_tuple_of, defScope s_is_tuple_of, [], []⟩
def hd_are_rising : He.DefD := ⟨("are_rising", none), "are_rising", "are_rising", defArgs s_are_rising, defBody s_are_rising, defScope s_are_rising, [], []⟩
def hd_back_of : He.DefD := ⟨("back_of", none), "back_of", "back_of", defArgs s_back_of, defBody s_back_of, defScope s_back_of, [], []⟩
def hd_all_sides : He.DefD := ⟨("all_sides", none), "all_sides", "all_sides", defArgs s_all_sides, defBody s_all_sides, defScope s_all_sides, [], []⟩
def hd__law_pool : He.DefD := ⟨("_law_pool", none), "_law_pool", "_law_pool", defArgs s__law_pool, defBody s__law_pool, defScope s__law_pool, [], []⟩
def hd__law_below : He.DefD := ⟨("_law_below", none), "_law_below", "_law_below", defArgs s__law_below, defBody s__law_below, defScope s__law_below, [], []⟩
def hd__law_back : He.DefD := ⟨("_law_back", none), "_law_back", "_law_back", defArgs s__law_back, defBody s__law_back, defScope s__law_back, [], []⟩
def hd__law_sides : He.DefD := ⟨("_law_sides", none), "_law_sides", "_law_sides", defArgs s__law_sides, defBody s__law_sides, defScope s__law_sides, [], []⟩
def hd__law_rule : He.DefD := ⟨("_law_rule", none), "_law_rule", "_law_rule", defArgs s__law_rule, defBody s__law_rule, defScope s__law_rule, [], []⟩
def hd__law_same : He.DefD := ⟨("_law_same", none), "_law_same", "_law_same", defArgs s__law_same, defBody s__law_same, defScope s__law_same, [], []⟩
def hd_is_between : He.DefD := ⟨("is_between", none), "is_between", "is_between", defArgs s_is_between, defBody s_is_between, defScope s_is_between, [], []⟩
def hd_first_wrong : He.DefD := ⟨("first_wrong", none), "first_wrong", "first_wrong", defArgs s_first_wrong, defBody s_first_wrong, defScope s_first_wrong, [], []⟩
def hd_Leads___init__ : He.DefD := ⟨("Leads", some "__init__"), "__init__", "Leads.__init__", defArgs s_Leads___init__, defBody s_Leads___init__, defScope s_Leads___init__, [], []⟩
def hd__law_one : He.DefD := ⟨("_law_one", none), "_law_one", "_law_one", defArgs s__law_one, defBody s__law_one, defScope s__law_one, [], []⟩
def hd_wrong_in_things : He.DefD := ⟨("wrong_in_things", none), "wrong_in_things", "wrong_in_things", defArgs s_wrong_in_things, defBody s_wrong_in_things, defScope s_wrong_in_things, [], []⟩
def hd_is_some_side : He.DefD := ⟨("is_some_side", none), "is_some_side", "is_some_side", defArgs s_is_some_side, defBody s_is_some_side, defScope s_is_some_side, [], []⟩
def hd__law_things : He.DefD := ⟨("_law_things", none), "_law_things", "_law_things", defArgs s__law_things, defBody s__law_things, defScope s__law_things, [], []⟩
def hd_are_things_by : He.DefD := ⟨("are_things_by", none), "are_things_by", "are_things_by", defArgs s_are_things_by, defBody s_are_things_by, defScope s_are_things_by, [], []⟩
def hd_is_side_by : He.DefD := ⟨("is_side_by", none), "is_side_by", "is_side_by", defArgs s_is_side_by, defBody s_is_side_by, defScope s_is_side_by, [], []⟩
def hd_back : He.DefD := ⟨("back", none), "back", "back", defArgs s_back, defBody s_back, defScope s_back, [], []⟩
def hd__law_book : He.DefD := ⟨("_law_book", none), "_law_book", "_law_book", defArgs s__law_book, defBody s__law_book, defScope s__law_book, [], []⟩
def hd_is_rule_by : He.DefD := ⟨("is_rule_by", none), "is_rule_by", "is_rule_by", defArgs s_is_rule_by, defBody s_is_rule_by, defScope s_is_rule_by, [], []⟩
def hd_check_side : He.DefD := ⟨("check_side", none), "check_side", "check_side", defArgs s_check_side, defBody s_check_side, defScope s_check_side, [], []⟩
def hd_are_rules_by : He.DefD := ⟨("are_rules_by", none), "are_rules_by", "are_rules_by", defArgs s_are_rules_by, defBody s_are_rules_by, defScope s_are_rules_by, [], []⟩
def hd_is_book_by : He.DefD := ⟨("is_book_by", none), "is_book_by", "is_book_by", defArgs s_is_book_by, defBody s_is_book_by, defScope s_is_book_by, [], []⟩
def hd_check_book : He.DefD := ⟨("check_book", none), "check_book", "check_book", defArgs s_check_book, defBody s_check_book, defScope s_check_book, [], []⟩
def hd_rules_of : He.DefD := ⟨("rules_of", none), "rules_of", "rules_of", defArgs s_rules_of, defBody s_rules_of, defScope s_rules_of, [], []⟩
def hd__law_is_told : He.DefD := ⟨("_law_is_told", none), "_law_is_told", "_law_is_told", defArgs s__law_is_told, defBody s__law_is_told, defScope s__law_is_told, [], []⟩
def hd__law_right : He.DefD := ⟨("_law_right", none), "_law_right", "_law_right", defArgs s__law_right, defBody s__law_right, defScope s__law_right, [], []⟩
def hd_law : He.DefD := ⟨("law", none), "law", "law", defArgs s_law, defBody s_law, defScope s_law, [], []⟩
def hdFn : List He.DefD := [hd__wall, hd_is_whole, hd_is_name, hd_is_tuple_of, hd_are_rising, hd_back_of, hd_all_sides, hd__law_pool, hd__law_below, hd__law_back, hd__law_sides, hd__law_rule, hd__law_same, hd_is_between, hd_first_wrong, hd_Leads___init__, hd__law_one, hd_wrong_in_things, hd_is_some_side, hd__law_things, hd_are_things_by, hd_is_side_by, hd_back, hd__law_book, hd_is_rule_by, hd_check_side, hd_are_rules_by, hd_is_book_by, hd_check_book, hd_rules_of, hd__law_is_told, hd__law_right, hd_law]
def hdFa : List He.Fa := [.glo "_wall", .glo "is_whole", .glo "is_name", .glo "is_tuple_of", .glo "are_rising", .glo "back_of", .glo "all_sides", .glo "_law_pool", .glo "_law_below", .glo "_law_back", .glo "_law_sides", .glo "_law_rule", .glo "_law_same", .glo "is_between", .glo "first_wrong", .glo "_law_one", .glo "wrong_in_things", .glo "is_some_side", .glo "_law_things", .glo "are_things_by", .glo "is_side_by", .glo "back", .glo "_law_book", .glo "is_rule_by", .glo "check_side", .glo "are_rules_by", .glo "is_book_by", .glo "check_book", .glo "rules_of", .glo "_law_is_told", .glo "_law_right", .glo "law", .cls "Leads", .noat "Leads" "steps", .noat "Leads" "things", .mkr "Leads", .glo "Leads", .free "abs", .free "all", .free "bool", .free "enumerate", .free "int", .free "isinstance", .free "len", .free "max", .free "min", .free "range", .free "sorted", .free "str", .free "tuple", .free "zip", .int "IS_TAKEN" 1, .str "LETTERS" "abcdefghijklmnopqrstuvwxyz", .int "MOST_LETTERS" 8, .int "MOST_RULES" 60, .int "MOST_THINGS" 14, .int "NAME" 0, .int "RULES" 1, .int "THINGS" 0]
abbrev hdR : PySem.W.OpenRow := PySem.W.OpenLaw.row PySem.Challenge.rw_takenorleft_k03_whole_backs_and_rules_of
abbrev hdK : PySem.W.Hook := He.hookD 4 hdFa hdFn
def hdOb (s : PySem.W.SharedT) : He.AlD := He.obsDG 4 hdFa hdFn (HandSHeadRun.getT s)
theorem hdOb_eq (s : PySem.W.SharedT) : hdOb s = hdK.obs s.abs := He.obsDG_eq (HandSHeadRun.getT_eq s)
def hdL0 : List PySem.Str := ["_wall", "LETTERS", "MOST_LETTERS", "is_whole", "is_between", "is_name", "is_tuple_of", "are_rising", "first_wrong", "MOST_THINGS", "MOST_RULES", "THINGS", "RULES", "NAME", "IS_TAKEN", "wrong_in_things", "are_things_by", "is_some_side", "is_side_by", "is_rule_by", "are_rules_by", "is_book_by", "back_of", "all_sides", "Leads", "RuleError", "InvalidBook", "InvalidSide", "check_book", "check_side"]
def hdL1 : List PySem.Str := ["back", "rules_of", "_law_pool", "_law_below", "_law_one", "_law_things", "_law_back", "_law_sides", "_law_rule", "_law_book", "_law_same", "_law_is_told", "_law_right"]
abbrev hdLoose : List PySem.Str := hdL0 ++ hdL1
theorem hdRun (w : World) : HandSHeadRun.RunEq hdR (PySem.W.view hdR.prog [50]) hdK hdOb 6000 hdLoose w := by
  intro os
  kernel_rfl
theorem hdC {K : PySem.W.Frag} {h : Heap} {mg : Str → Option Value} (X : K.In h) (G : h.Ns mainGlobals mg) (c : He.SaysD hdFa hdFn K) : C K mg where
  d__wall := by
    obtain ⟨fd, F⟩ := c.def_ 0 (d := hd__wall) rfl
    exact ⟨fd, F, He.glo_ok X G (c.fact 0 (f := .glo "_wall") rfl)⟩
  d_is_whole := by
    obtain ⟨fd, F⟩ := c.def_ 1 (d := hd_is_whole) rfl
    exact ⟨fd, F, He.glo_ok X G (c.fact 1 (f := .glo "is_whole") rfl)⟩
  d_is_name := by
    obtain ⟨fd, F⟩ := c.def_ 2 (d := hd_is_name) rfl
    exact ⟨fd, F, He.glo_ok X G (c.fact 2 (f := .glo "is_name") rfl)⟩
  d_is_tuple_of := by
    obtain ⟨fd, F⟩ := c.def_ 3 (d := hd_is_tuple_of) rfl
    exact ⟨fd, F, He.glo_ok X G (c.fact 3 (f := .glo "is_tuple_of") rfl)⟩
  d_are_rising := by
    obtain ⟨fd, F⟩ := c.def_ 4 (d := hd_are_rising) rfl
    exact ⟨fd, F, He.glo_ok X G (c.fact 4 (f := .glo "are_rising") rfl)⟩
  d_back_of := by
    obtain ⟨fd, F⟩ := c.def_ 5 (d := hd_back_of) rfl
    exact ⟨fd, F, He.glo_ok X G (c.fact 5 (f := .glo "back_of") rfl)⟩
  d_all_sides := by
    obtain ⟨fd, F⟩ := c.def_ 6 (d := hd_all_sides) rfl
    exact ⟨fd, F, He.glo_ok X G (c.fact 6 (f := .glo "all_sides") rfl)⟩
  d__law_pool := by
    obtain ⟨fd, F⟩ := c.def_ 7 (d := hd__law_pool) rfl
    exact ⟨fd, F, He.glo_ok X G (c.fact 7 (f := .glo "_law_pool") rfl)⟩
  d__law_below := by
    obtain ⟨fd, F⟩ := c.def_ 8 (d := hd__law_below) rfl
    exact ⟨fd, F, He.glo_ok X G (c.fact 8 (f := .glo "_law_below") rfl)⟩
  d__law_back := by
    obtain ⟨fd, F⟩ := c.def_ 9 (d := hd__law_back) rfl
    exact ⟨fd, F, He.glo_ok X G (c.fact 9 (f := .glo "_law_back") rfl)⟩
  d__law_sides := by
    obtain ⟨fd, F⟩ := c.def_ 10 (d := hd__law_sides) rfl
    exact ⟨fd, F, He.glo_ok X G (c.fact 10 (f := .glo "_law_sides") rfl)⟩
  d__law_rule := by
    obtain ⟨fd, F⟩ := c.def_ 11 (d := hd__law_rule) rfl
    exact ⟨fd, F, He.glo_ok X G (c.fact 11 (f := .glo "_law_rule") rfl)⟩
  d__law_same := by
    obtain ⟨fd, F⟩ := c.def_ 12 (d := hd__law_same) rfl
    exact ⟨fd, F, He.glo_ok X G (c.fact 12 (f := .glo "_law_same") rfl)⟩
  d_is_between := by
    obtain ⟨fd, F⟩ := c.def_ 13 (d := hd_is_between) rfl
    exact ⟨fd, F, He.glo_ok X G (c.fact 13 (f := .glo "is_between") rfl)⟩
  d_first_wrong := by
    obtain ⟨fd, F⟩ := c.def_ 14 (d := hd_first_wrong) rfl
    exact ⟨fd, F, He.glo_ok X G (c.fact 14 (f := .glo "first_wrong") rfl)⟩
  d_Leads___init__ := by
    obtain ⟨fd, F⟩ := c.def_ 15 (d := hd_Leads___init__) rfl
    exact ⟨⟨fd, F⟩⟩
  d__law_one := by
    obtain ⟨fd, F⟩ := c.def_ 16 (d := hd__law_one) rfl
    exact ⟨fd, F, He.glo_ok X G (c.fact 15 (f := .glo "_law_one") rfl)⟩
  d_wrong_in_things := by
    obtain ⟨fd, F⟩ := c.def_ 17 (d := hd_wrong_in_things) rfl
    exact ⟨fd, F, He.glo_ok X G (c.fact 16 (f := .glo "wrong_in_things") rfl)⟩
  d_is_some_side := by
    obtain ⟨fd, F⟩ := c.def_ 18 (d := hd_is_some_side) rfl
    exact ⟨fd, F, He.glo_ok X G (c.fact 17 (f := .glo "is_some_side") rfl)⟩
  d__law_things := by
    obtain ⟨fd, F⟩ := c.def_ 19 (d := hd__law_things) rfl
    exact ⟨fd, F, He.glo_ok X G (c.fact 18 (f := .glo "_law_things") rfl)⟩
  d_are_things_by := by
    obtain ⟨fd, F⟩ := c.def_ 20 (d := hd_are_things_by) rfl
    exact ⟨fd, F, He.glo_ok X G (c.fact 19 (f := .glo "are_things_by") rfl)⟩
  d_is_side_by := by
    obtain ⟨fd, F⟩ := c.def_ 21 (d := hd_is_side_by) rfl
    exact ⟨fd, F, He.glo_ok X G (c.fact 20 (f := .glo "is_side_by") rfl)⟩
  d_back := by
    obtain ⟨fd, F⟩ := c.def_ 22 (d := hd_back) rfl
    exact ⟨fd, F, He.glo_ok X G (c.fact 21 (f := .glo "back") rfl)⟩
  d__law_book := by
    obtain ⟨fd, F⟩ := c.def_ 23 (d := hd__law_book) rfl
    exact ⟨fd, F, He.glo_ok X G (c.fact 22 (f := .glo "_law_book") rfl)⟩
  d_is_rule_by := by
    obtain ⟨fd, F⟩ := c.def_ 24 (d := hd_is_rule_by) rfl
    exact ⟨fd, F, He.glo_ok X G (c.fact 23 (f := .glo "is_rule_by") rfl)⟩
  d_check_side := by
    obtain ⟨fd, F⟩ := c.def_ 25 (d := hd_check_side) rfl
    exact ⟨fd, F, He.glo_ok X G (c.fact 24 (f := .glo "check_side") rfl)⟩
  d_are_rules_by := by
    obtain ⟨fd, F⟩ := c.def_ 26 (d := hd_are_rules_by) rfl
    exact ⟨fd, F, He.glo_ok X G (c.fact 25 (f := .glo "are_rules_by") rfl)⟩
  d_is_book_by := by
    obtain ⟨fd, F⟩ := c.def_ 27 (d := hd_is_book_by) rfl
    exact ⟨fd, F, He.glo_ok X G (c.fact 26 (f := .glo "is_book_by") rfl)⟩
  d_check_book := by
    obtain ⟨fd, F⟩ := c.def_ 28 (d := hd_check_book) rfl
    exact ⟨fd, F, He.glo_ok X G (c.fact 27 (f := .glo "check_book") rfl)⟩
  d_rules_of := by
    obtain ⟨fd, F⟩ := c.def_ 29 (d := hd_rules_of) rfl
    exact ⟨fd, F, He.glo_ok X G (c.fact 28 (f := .glo "rules_of") rfl)⟩
  d__law_is_told := by
    obtain ⟨fd, F⟩ := c.def_ 30 (d := hd__law_is_told) rfl
    exact ⟨fd, F, He.glo_ok X G (c.fact 29 (f := .glo "_law_is_told") rfl)⟩
  d__law_right := by
    obtain ⟨fd, F⟩ := c.def_ 31 (d := hd__law_right) rfl
    exact ⟨fd, F, He.glo_ok X G (c.fact 30 (f := .glo "_law_right") rfl)⟩
  d_law := by
    obtain ⟨fd, F⟩ := c.def_ 32 (d := hd_law) rfl
    exact ⟨fd, F, He.glo_ok X G (c.fact 31 (f := .glo "law") rfl)⟩
  f_cls_Leads := He.cls_ok (c.fact 32 (f := .cls "Leads") rfl)
  f_noat_Leads_steps := He.noat_ok (c.fact 33 (f := .noat "Leads" "steps") rfl)
  f_noat_Leads_things := He.noat_ok (c.fact 34 (f := .noat "Leads" "things") rfl)
  f_mkr_Leads := He.mkr_ok (c.fact 35 (f := .mkr "Leads") rfl)
  f_glo_Leads := He.glo_ok X G (c.fact 36 (f := .glo "Leads") rfl)
  n_abs := He.free_ok X G (c.fact 37 (f := .free "abs") rfl)
  n_all := He.free_ok X G (c.fact 38 (f := .free "all") rfl)
  n_bool := He.free_ok X G (c.fact 39 (f := .free "bool") rfl)
  n_enumerate := He.free_ok X G (c.fact 40 (f := .free "enumerate") rfl)
  n_int := He.free_ok X G (c.fact 41 (f := .free "int") rfl)
  n_isinstance := He.free_ok X G (c.fact 42 (f := .free "isinstance") rfl)
  n_len := He.free_ok X G (c.fact 43 (f := .free "len") rfl)
  n_max := He.free_ok X G (c.fact 44 (f := .free "max") rfl)
  n_min := He.free_ok X G (c.fact 45 (f := .free "min") rfl)
  n_range := He.free_ok X G (c.fact 46 (f := .free "range") rfl)
  n_sorted := He.free_ok X G (c.fact 47 (f := .free "sorted") rfl)
  n_str := He.free_ok X G (c.fact 48 (f := .free "str") rfl)
  n_tuple := He.free_ok X G (c.fact 49 (f := .free "tuple") rfl)
  n_zip := He.free_ok X G (c.fact 50 (f := .free "zip") rfl)
  m_IS_TAKEN := He.int_ok X G (c.fact 51 (f := .int "IS_TAKEN" 1) rfl)
  m_LETTERS := He.str_ok X G (c.fact 52 (f := .str "LETTERS" "abcdefghijklmnopqrstuvwxyz") rfl)
  m_MOST_LETTERS := He.int_ok X G (c.fact 53 (f := .int "MOST_LETTERS" 8) rfl)
  m_MOST_RULES := He.int_ok X G (c.fact 54 (f := .int "MOST_RULES" 60) rfl)
  m_MOST_THINGS := He.int_ok X G (c.fact 55 (f := .int "MOST_THINGS" 14) rfl)
  m_NAME := He.int_ok X G (c.fact 56 (f := .int "NAME" 0) rfl)
  m_RULES := He.int_ok X G (c.fact 57 (f := .int "RULES" 1) rfl)
  m_THINGS := He.int_ok X G (c.fact 58 (f := .int "THINGS" 0) rfl)
theorem hdLaw {P : Program} {w : World} {K : PySem.W.Frag} {h : Heap} {mg : Str → Option Value} {f : Addr} (X : K.In h) (G : h.Ns mainGlobals mg) (hfa : mg ("law" : Str) = some (.ref f)) (c : He.SaysD hdFa hdFn K) :
    ∃ fd : FuncData, (∀ (s : Shared) (v : Value), BindsTo s fd ⟨[v], []⟩ [("script", v)]) ∧ ∀ base : Heap, K.In base → base.Ns mainGlobals mg → FnOk P w K mg base (L2.CX P w) 16 f fd ["script"] (low K (pF f_law_k03)) := by
  obtain ⟨fd, F⟩ := c.def_ 32 (d := hd_law) rfl
  have e := hfa.symm.trans (He.glo_ok X G (c.fact 31 (f := .glo "law") rfl))
  cases e
  have b := FunD.bindsA (ps := ["script"]) F fun _ _ _ _ _ _ us hl => match us, hl with | [_], _ => rfl
  refine ⟨fd, fun s v => b s [v] rfl, fun base _ _ => ?_⟩
  obtain ⟨fd2, Fk, hm, _, _, st, F2⟩ := (h_law (P := P) (w := w) (base := base) (hdC X G c)).ex
  have e3 : fd2 = fd := by
    obtain ⟨_, _, _, _, _, _, _, _, _, _, _, l1, _⟩ := F2.ex
    obtain ⟨_, _, _, _, _, _, _, _, _, _, _, l2, _⟩ := F.ex
    rw [show (He.fAd K hd_law.at_) = He.ga K "law" from rfl] at l2
    rw [l1] at l2
    cases l2
    rfl
  rw [← e3]
  exact Fk
theorem hdSp {K : PySem.W.Frag} {H : Hp} {a : Addr} {ns : List Int} (hl : ns.length ≤ 63) (hS : SqL K H a (ns.map V.int)) : low K (pF f_law_k03) [.ref a] H (fun v _ => v = .bl true) (fun _ _ _ => False) := by
  obtain ⟨μ', e⟩ := law_ok_k03 ns hl
  refine ⟨[], [.d (.scr ns)], [], H, fun r _ => r = .d (.bl true), fun _ _ _ => False, ⟨Le.refl H, rfl, List.nodup_nil, fun a ha => by simp at ha, fun k a c h => by simp at h⟩, .cons (.scr hS) .nil, ?_, fun _ _ _ _ _ _ _ z => z.elim, fun r μ' A' G' H' v q _ _ rr => ?_⟩
  · show (f_law_k03 [.d (.scr ns)] []).fin _ _
    rw [e]; rfl
  · subst q
    cases rr
    rfl
end Lk03
open PySem PySem.W PySem.Calls PyProof.Rows
theorem PySem.Challenge.cw_takenorleft_k03_whole_backs_and_rules_of_holds : PySem.Challenge.rw_takenorleft_k03_whole_backs_and_rules_of.Holds := by
  w_on; o_law
  refine HandSHeadRun.head_any (r := OpenLaw.row PySem.Challenge.rw_takenorleft_k03_whole_backs_and_rules_of) (q := view (OpenLaw.row PySem.Challenge.rw_takenorleft_k03_whole_backs_and_rules_of).prog [50]) (H := Lk03.hdK) (ob := Lk03.hdOb) (M := 6000) (loose := Lk03.hdLoose) (d := HandSHeadRun.topDef (OpenLaw.row PySem.Challenge.rw_takenorleft_k03_whole_backs_and_rules_of).prog 50) (kwd := []) Lk03.hdOb_eq
    (by kernel_rfl) (fun s => by kernel_rfl) Lk03.hdRun (by kernel_rfl) (by kernel_rfl) (by kernel_rfl) (by rfl) (by first | assumption | decide +kernel) (by decide +kernel) ⟨rfl, rfl, rfl, rfl, rfl, by decide +kernel⟩ ?hw ?hc
  case hw => w_witness2
  case hc =>
    refine L2.walk_ofE (l := PySem.Challenge.rw_takenorleft_k03_whole_backs_and_rules_of) (n := 63) (k := 16) (x := "script") (CX := L2.CX0) rfl (by decide) (by kernel_rfl) ⟨rfl, by decide, by decide⟩ ?F (fun _ _ _ _ z => z)
    intro w mg fa h Y G hmg0
    obtain ⟨K, KX, c⟩ := Y
    have hmg : mg ("law" : PySem.Str) = some (.ref fa) := by
      have e : (HandSHeadRun.topDef (OpenLaw.row PySem.Challenge.rw_takenorleft_k03_whole_backs_and_rules_of).prog 50).name = ("law" : PySem.Str) := by kernel_rfl
      rw [← e]
      exact hmg0
    obtain ⟨fd, hb, hF⟩ := Lk03.hdLaw (P := (PySem.Challenge.rw_takenorleft_k03_whole_backs_and_rules_of).prog) (w := w) KX G hmg c
    exact ⟨K, fd, fun vs H Q _ => PL.low K (PL.pF PL.f_law_k03) vs H Q fun _ _ _ => False, KX, hb, fun H a ns hl _ hS => Lk03.hdSp hl hS, fun base kb gb => (hF base kb gb).ground⟩
