import PyProof.Rows.All
import Wide.All
import OpenK.AllK
import Wide.FinOn
import HandS.ForMost
import HandS.Walk
import HandS.Exc
import HandS.WordsExc
import HandS.ExcInit
import HandS.IsInst
import HandS.TupAny
import KE.GoesMore
import KE.GoesEnum
import HandS.Zip
import HandS.Iter
import HandS.Defaults
import HandS.MakeKwOnly
import HandS.CallLocal
import HandS.Dict
import HandS.HeadHook2
import HandS.Deep
import HandS.Text
import KE.KStateDown
import HandS.Ends
import HandS.More
import HandS.Head0
import HandS.Head1
import HandS.Head2
import HandS.HeadEnd
import HandS.HeadHook1
import PySem.Challenge.RW_takenorleft_k61_whole_strips_and_clashes
set_option Elab.async false
set_option linter.all false
set_option maxRecDepth 100000
set_option maxHeartbeats 0
/-! The P-layer, core: data without addresses, what stands for them, states. -/
namespace PL
open PySem PySem.Spec PyProof.Rows L2

/-- data, without the heap -/
inductive D where
  | non | bl (b : Bool) | int (i : Int) | str (x : Str) | fn (a : Addr) | ty (n : String)
  | scr (l : List Int) | tup (l : List D) | lst (l : List D) | dic (t : Bool) (ks vs : List D) | obj (C : Addr) (ns : List Str) (vs : List D)

def keyD : Key → D
  | .inl i => .int i
  | .inr x => .str x

mutual
/-- v stands for d, by what is frozen in G -/
inductive Rep (K : PySem.W.Frag) (G : Hp) : D → V → Prop
  | non : Rep K G .non .non
  | bl (b : Bool) : Rep K G (.bl b) (.bl b)
  | int (i : Int) : Rep K G (.int i) (.int i)
  | str (x : Str) : Rep K G (.str x) (.str x)
  | fn (a : Addr) : Rep K G (.fn a) (.ref a)
  | ty (n : String) : Rep K G (.ty n) (.ty n)
  | tup {a : Addr} {l : List D} {vs : List V} : G a = some (.tup vs) → Reps K G l vs → Rep K G (.tup l) (.ref a)
  | scr {a : Addr} {l : List Int} : SqL K G a (l.map V.int) → Rep K G (.scr l) (.ref a)
  | lst {a : Addr} {l : List D} {vs : List V} : G a = some (.lst vs) → Reps K G l vs → Rep K G (.lst l) (.ref a)
  | dicK {a : Addr} {kvs : List (Key × V)} {ks vs : List D} : Rd G a (.dK kvs) → ks = kvs.map (fun p => keyD p.1) → Reps K G vs (kvs.map Prod.snd) → Rep K G (.dic false ks vs) (.ref a)
  | dicT {a : Addr} {kvs : List (List Key × V)} {ks vs : List D} : Rd G a (.dT kvs) → ks = kvs.map (fun p => .tup (p.1.map keyD)) → Reps K G vs (kvs.map Prod.snd) → Rep K G (.dic true ks vs) (.ref a)
  | obj {a C dx : Addr} {fs : List (Str × V)} {ns : List Str} {vs : List D} : G a = some (.ins C dx fs) → ns = fs.map Prod.fst → Reps K G vs (fs.map Prod.snd) → Rep K G (.obj C ns vs) (.ref a)
inductive Reps (K : PySem.W.Frag) (G : Hp) : List D → List V → Prop
  | nil : Reps K G [] []
  | cons {d : D} {v : V} {ds : List D} {vs : List V} : Rep K G d v → Reps K G ds vs → Reps K G (d :: ds) (v :: vs)
end

/-- all of G is in H -/
def Le (G H : Hp) : Prop := ∀ a o, G a = some o → H a = some o
theorem Le.refl (G : Hp) : Le G G := fun _ _ h => h
theorem Le.trans {G H J : Hp} (a : Le G H) (b : Le H J) : Le G J := fun x o h => b x o (a x o h)
theorem Le.rd {G H : Hp} {a : Addr} {u : HO} (e : Le G H) (h : Rd G a u) : Rd H a u := by
  rcases h with h | ⟨o, h⟩
  · exact .inl (e _ _ h)
  · exact .inr ⟨o, e _ _ h⟩
theorem Le.sqL {K : PySem.W.Frag} {G H : Hp} {a : Addr} {xs : List V} (e : Le G H) (h : SqL K G a xs) : SqL K H a xs := Same.seq e h
theorem Le.sqT {K : PySem.W.Frag} {G H : Hp} {a : Addr} {xs : List V} (e : Le G H) (h : SqT K G a xs) : SqT K H a xs := by
  rcases h with (h | ⟨o, h⟩) | h
  · exact .inl (.inl (e _ _ h))
  · exact .inl (.inr ⟨o, e _ _ h⟩)
  · exact .inr h
def isDic : HO → Bool
  | .dK _ => true
  | .dT _ => true
  | _ => false
/-- all of G is in H, but that dicts may have been locked -/
def LeZ (G H : Hp) : Prop := ∀ a o, G a = some o → H a = some o ∨ (isDic o = true ∧ ∃ ob, H a = some (.frz ob o))
theorem Le.z {G H : Hp} (e : Le G H) : LeZ G H := fun a o h => .inl (e a o h)
theorem LeZ.refl (G : Hp) : LeZ G G := fun _ _ h => .inl h
theorem LeZ.trans {G H J : Hp} (a : LeZ G H) (b : LeZ H J) : LeZ G J := fun x o h => by
  rcases a x o h with q | ⟨z, ob, q⟩
  · exact b x o q
  · rcases b x _ q with q | ⟨z2, _⟩
    · exact .inr ⟨z, ob, q⟩
    · cases z2
theorem LeZ.same {G H : Hp} {a : Addr} {o : HO} (e : LeZ G H) (h : G a = some o) (n : isDic o = false) : H a = some o := by
  rcases e a o h with q | ⟨z, _⟩
  · exact q
  · rw [n] at z; cases z
theorem LeZ.rd {G H : Hp} {a : Addr} {u : HO} (e : LeZ G H) (h : Rd G a u) : Rd H a u := by
  rcases h with h | ⟨o, h⟩
  · rcases e a u h with q | ⟨_, ob, q⟩
    · exact .inl q
    · exact .inr ⟨ob, q⟩
  · exact .inr ⟨o, e.same h rfl⟩
theorem LeZ.sqL {K : PySem.W.Frag} {G H : Hp} {a : Addr} {xs : List V} (e : LeZ G H) (h : SqL K G a xs) : SqL K H a xs := by
  rcases h with h | h
  · exact .inl (e.rd h)
  · exact .inr h
theorem LeZ.sqT {K : PySem.W.Frag} {G H : Hp} {a : Addr} {xs : List V} (e : LeZ G H) (h : SqT K G a xs) : SqT K H a xs := by
  rcases h with h | h
  · exact .inl (e.rd h)
  · exact .inr h
mutual
theorem Rep.mono {K : PySem.W.Frag} {G H : Hp} (e : LeZ G H) : ∀ {d : D} {v : V}, Rep K G d v → Rep K H d v
  | _, _, .non => .non
  | _, _, .bl b => .bl b
  | _, _, .int i => .int i
  | _, _, .str x => .str x
  | _, _, .fn a => .fn a
  | _, _, .ty a => .ty a
  | _, _, .tup h hs => .tup (e.same h rfl) (Reps.mono e hs)
  | _, _, .scr h => .scr (e.sqL h)
  | _, _, .lst h hs => .lst (e.same h rfl) (Reps.mono e hs)
  | _, _, .dicK h k hs => .dicK (e.rd h) k (Reps.mono e hs)
  | _, _, .dicT h k hs => .dicT (e.rd h) k (Reps.mono e hs)
  | _, _, .obj h k hs => .obj (e.same h rfl) k (Reps.mono e hs)
theorem Reps.mono {K : PySem.W.Frag} {G H : Hp} (e : LeZ G H) : ∀ {ds : List D} {vs : List V}, Reps K G ds vs → Reps K H ds vs
  | _, _, .nil => .nil
  | _, _, .cons h hs => .cons (Rep.mono e h) (Reps.mono e hs)
end
section
variable {K : PySem.W.Frag} {G : Hp}
theorem Reps.length : ∀ {ds : List D} {vs : List V}, Reps K G ds vs → ds.length = vs.length
  | _, _, .nil => rfl
  | _, _, .cons _ hs => congrArg (· + 1) (Reps.length hs)
theorem Reps.get : ∀ {ds : List D} {vs : List V} {i : Nat} {v : V}, Reps K G ds vs → vs[i]? = some v → ∃ d, ds[i]? = some d ∧ Rep K G d v
  | _, _, _, _, .nil, e => by simp at e
  | _, _, 0, _, .cons r _, e => by simp at e; subst e; exact ⟨_, rfl, r⟩
  | _, _, i + 1, v, .cons _ t, e => by
    obtain ⟨u, h1, h2⟩ := Reps.get (i := i) (v := v) t (by simpa using e)
    exact ⟨u, by simpa using h1, h2⟩
theorem Reps.at : ∀ {ds : List D} {vs : List V} {i : Nat} {d : D}, Reps K G ds vs → ds[i]? = some d → ∃ v, vs[i]? = some v ∧ Rep K G d v
  | _, _, _, _, .nil, e => by simp at e
  | _, _, 0, _, .cons r _, e => by simp at e; subst e; exact ⟨_, rfl, r⟩
  | _, _, i + 1, d, .cons _ t, e => by
    obtain ⟨u, h1, h2⟩ := Reps.at (i := i) (d := d) t (by simpa using e)
    exact ⟨u, by simpa using h1, h2⟩
theorem Reps.app : ∀ {ds es : List D} {vs us : List V}, Reps K G ds vs → Reps K G es us → Reps K G (ds ++ es) (vs ++ us)
  | _, _, _, _, .nil, t => t
  | _, _, _, _, .cons r s, t => .cons r (Reps.app s t)
theorem Reps.set {d : D} {v : V} (r : Rep K G d v) : ∀ {ds : List D} {vs : List V} (i : Nat), Reps K G ds vs → Reps K G (ds.set i d) (vs.set i v)
  | _, _, _, .nil => .nil
  | _, _, 0, .cons _ t => .cons r t
  | _, _, i + 1, .cons q t => .cons q (Reps.set r i t)
theorem Reps.take : ∀ {ds : List D} {vs : List V} (n : Nat), Reps K G ds vs → Reps K G (ds.take n) (vs.take n)
  | _, _, 0, _ => .nil
  | _, _, _ + 1, .nil => .nil
  | _, _, n + 1, .cons r t => .cons r (Reps.take n t)
theorem Reps.drop : ∀ {ds : List D} {vs : List V} (n : Nat), Reps K G ds vs → Reps K G (ds.drop n) (vs.drop n)
  | _, _, 0, r => r
  | _, _, _ + 1, .nil => .nil
  | _, _, n + 1, .cons _ t => Reps.drop n t
theorem Reps.rev : ∀ {ds : List D} {vs : List V}, Reps K G ds vs → Reps K G ds.reverse vs.reverse
  | _, _, .nil => .nil
  | _, _, .cons r t => by
    rw [List.reverse_cons, List.reverse_cons]
    exact (Reps.rev t).app (.cons r .nil)
end

/-! ### cells: what a def may change -/
inductive Cell where
  | lst (l : List D)
  | dK (ks vs : List D)
  | dT (ks vs : List D)
  | ins (C : Addr) (ns : List Str) (vs : List D)
  | raw (o : HO)
abbrev Mem := List Cell
/-- a value at the level of slots -/
inductive SV where
  | d (x : D)
  | c (k : Nat)
  | un
abbrev Env' := List SV

def CellOk (K : PySem.W.Frag) (G H : Hp) (a : Addr) : Cell → Prop
  | .lst l => ∃ vs, H a = some (.lst vs) ∧ Reps K G l vs
  | .dK ks vs => ∃ kvs : List (Key × V), H a = some (.dK kvs) ∧ ks = kvs.map (fun p => keyD p.1) ∧ Reps K G vs (kvs.map Prod.snd)
  | .dT ks vs => ∃ kvs : List (List Key × V), H a = some (.dT kvs) ∧ ks = kvs.map (fun p => .tup (p.1.map keyD)) ∧ Reps K G vs (kvs.map Prod.snd)
  | .ins C ns vs => ∃ dx fs, H a = some (.ins C dx fs) ∧ ns = fs.map Prod.fst ∧ Reps K G vs (fs.map Prod.snd)
  | .raw o => H a = some o ∧ ∀ xs, o ≠ .tup xs
theorem CellOk.some {K : PySem.W.Frag} {G H : Hp} {a : Addr} {c : Cell} (h : CellOk K G H a c) : ∃ o, H a = some o := by
  cases c with
  | lst l => obtain ⟨_, e, _⟩ := h; exact ⟨_, e⟩
  | dK k v => obtain ⟨_, e, _⟩ := h; exact ⟨_, e⟩
  | dT k v => obtain ⟨_, e, _⟩ := h; exact ⟨_, e⟩
  | ins C n v => obtain ⟨_, _, e, _⟩ := h; exact ⟨_, e⟩
  | raw o => exact ⟨_, h.1⟩
theorem CellOk.mono {K : PySem.W.Frag} {G H G' H' : Hp} {a : Addr} {c : Cell} (g : LeZ G G') (e : H' a = H a) (h : CellOk K G H a c) : CellOk K G' H' a c := by
  cases c with
  | lst l => obtain ⟨vs, q, r⟩ := h; exact ⟨vs, e.trans q, r.mono g⟩
  | dK k v => obtain ⟨kvs, q, z, r⟩ := h; exact ⟨kvs, e.trans q, z, r.mono g⟩
  | dT k v => obtain ⟨kvs, q, z, r⟩ := h; exact ⟨kvs, e.trans q, z, r.mono g⟩
  | ins C n v => obtain ⟨dx, fs, q, z, r⟩ := h; exact ⟨dx, fs, e.trans q, z, r.mono g⟩
  | raw o => exact ⟨e.trans h.1, h.2⟩

theorem CellOk.notup {K : PySem.W.Frag} {G H : Hp} {a : Addr} {c : Cell} (h : CellOk K G H a c) {xs : List V} : H a ≠ Option.some (HO.tup xs) := by
  intro z
  cases c with
  | lst l => obtain ⟨_, e, _⟩ := h; rw [e] at z; cases z
  | dK k v => obtain ⟨_, e, _⟩ := h; rw [e] at z; cases z
  | dT k v => obtain ⟨_, e, _⟩ := h; rw [e] at z; cases z
  | ins C n v => obtain ⟨_, _, e, _⟩ := h; rw [e] at z; cases z
  | raw o => rw [h.1] at z; cases z; exact h.2 _ rfl
/-- a value at a slot, by the cells' addresses -/
def RepS (K : PySem.W.Frag) (A : List Addr) (G : Hp) : SV → V → Prop
  | .d x, v => Rep K G x v
  | .c k, v => ∃ a, A[k]? = some a ∧ v = .ref a
  | .un, _ => True
inductive RepsS (K : PySem.W.Frag) (A : List Addr) (G : Hp) : List SV → List V → Prop
  | nil : RepsS K A G [] []
  | cons {d : SV} {v : V} {ds : List SV} {vs : List V} : RepS K A G d v → RepsS K A G ds vs → RepsS K A G (d :: ds) (v :: vs)
theorem RepsS.length {K : PySem.W.Frag} {A : List Addr} {G : Hp} : ∀ {ds : List SV} {vs : List V}, RepsS K A G ds vs → ds.length = vs.length
  | _, _, .nil => rfl
  | _, _, .cons _ hs => congrArg (· + 1) (RepsS.length hs)

/-- the cells stand -/
structure Cells (K : PySem.W.Frag) (A : List Addr) (μ : Mem) (G H : Hp) : Prop where
  le : Le G H
  len : A.length = μ.length
  nd : A.Nodup
  free : ∀ a ∈ A, G a = none
  ok : ∀ (k : Nat) (a : Addr) (c : Cell), A[k]? = some a → μ[k]? = some c → CellOk K G H a c
/-- a slot -/
def SlotOk (K : PySem.W.Frag) (A : List Addr) (G : Hp) (s : SV) (o : Option V) : Prop :=
  match s with
  | .un => True
  | s => ∃ v, o = some v ∧ RepS K A G s v
structure Sim (K : PySem.W.Frag) (A : List Addr) (σ : L2.St) (ρ : Env') (μ : Mem) (G H : Hp) : Prop extends Cells K A μ G H where
  sl : ρ.length = σ.length
  at_ : ∀ (i : Nat) (s : SV), ρ[i]? = some s → ∃ o, σ[i]? = some o ∧ SlotOk K A G s o
/-- a step: what is no cell stays, cells stay, new things are new -/
structure Step (A : List Addr) (G H : Hp) (A' : List Addr) (G' H' : Hp) : Prop where
  pre : A <+: A'
  le : LeZ G G'
  keep : ∀ a o, H a = some o → a ∉ A → H' a = some o ∨ (G a = some o ∧ isDic o = true ∧ ∃ ob, H' a = some (.frz ob o))
  new : ∀ a, G' a ≠ none → G a ≠ none ∨ H a = none ∨ ∃ xs, H a = some (.tup xs)
  tups : ∀ a xs, H' a = some (.tup xs) → H a = none ∨ H a = some (.tup xs)
  cells : ∀ a ∈ A', a ∈ A ∨ H a = none
  there : ∀ a, H a ≠ none → H' a ≠ none
theorem Step.refl {A : List Addr} {G H : Hp} : Step A G H A G H :=
  ⟨List.prefix_refl _, LeZ.refl _, fun _ _ h _ => .inl h, fun _ h => .inl h, fun _ _ h => .inr h, fun _ h => .inl h, fun _ h => h⟩
theorem Step.trans {A A1 A2 : List Addr} {G G1 G2 H H1 H2 : Hp} (x : Step A G H A1 G1 H1) (y : Step A1 G1 H1 A2 G2 H2) : Step A G H A2 G2 H2 where
  pre := x.pre.trans y.pre
  le := x.le.trans y.le
  keep := fun a o h n => by
    have n1 : a ∉ A1 := fun z => (x.cells a z).elim n fun q => by rw [h] at q; cases q
    rcases x.keep a o h n with q | ⟨g, z, ob, q⟩
    · rcases y.keep a o q n1 with r | ⟨g1, z, ob, r⟩
      · exact .inl r
      · refine .inr ⟨?_, z, ob, r⟩
        rcases x.new a (by rw [g1]; simp) with w | w
        · cases e : G a with
          | none => exact absurd e w
          | some u =>
            rcases x.le a u e with e2 | ⟨_, _, e2⟩
            · rw [g1] at e2; exact e2.symm ▸ rfl
            · rw [g1] at e2
              have e3 : o = _ := Option.some.inj e2
              rw [e3] at z; cases z
        · rw [h] at w
          rcases w with w | ⟨xs, w⟩
          · cases w
          · cases w; cases z
    · rcases y.keep a _ q n1 with r | ⟨_, z2, _⟩
      · exact .inr ⟨g, z, ob, r⟩
      · cases z2
  new := fun a h => by
    rcases y.new a h with q | q | ⟨xs, q⟩
    · exact x.new a q
    · exact .inr (.inl (Classical.byContradiction fun z => x.there a z q))
    · rcases x.tups a xs q with w | w
      · exact .inr (.inl w)
      · exact .inr (.inr ⟨xs, w⟩)
  tups := fun a xs h => by
    rcases y.tups a xs h with q | q
    · exact .inl (Classical.byContradiction fun z => x.there a z q)
    · exact x.tups a xs q
  cells := fun a h => by
    rcases y.cells a h with q | q
    · exact x.cells a q
    · exact .inr (Classical.byContradiction fun z => x.there a z q)
  there := fun a h => y.there a (x.there a h)
theorem RepS.mono {K : PySem.W.Frag} {A A' : List Addr} {G G' : Hp} (p : A <+: A') (g : LeZ G G') {s : SV} {v : V} (h : RepS K A G s v) : RepS K A' G' s v := by
  cases s with
  | d x => exact Rep.mono g h
  | c k =>
    obtain ⟨a, e, r⟩ := h
    obtain ⟨B, rfl⟩ := p
    refine ⟨a, ?_, r⟩
    rw [List.getElem?_append_left (List.getElem?_eq_some_iff.mp e).1]; exact e
  | un => trivial
theorem RepsS.mono {K : PySem.W.Frag} {A A' : List Addr} {G G' : Hp} (p : A <+: A') (g : LeZ G G') : ∀ {ss : List SV} {vs : List V}, RepsS K A G ss vs → RepsS K A' G' ss vs
  | _, _, .nil => .nil
  | _, _, .cons h t => .cons (h.mono p g) (RepsS.mono p g t)
theorem SlotOk.mono {K : PySem.W.Frag} {A A' : List Addr} {G G' : Hp} (p : A <+: A') (g : LeZ G G') {s : SV} {o : Option V} (h : SlotOk K A G s o) : SlotOk K A' G' s o := by
  cases s with
  | un => trivial
  | d x => obtain ⟨v, e, r⟩ := h; exact ⟨v, e, RepS.mono p g (s := .d x) r⟩
  | c k => obtain ⟨v, e, r⟩ := h; exact ⟨v, e, RepS.mono p g (s := .c k) r⟩
/-- the cells of a later state, the slots as they were -/
theorem Sim.after {K : PySem.W.Frag} {A A' : List Addr} {σ : L2.St} {ρ : Env'} {μ μ' : Mem} {G G' H H' : Hp} (S : Sim K A σ ρ μ G H) (st : Step A G H A' G' H') (c : Cells K A' μ' G' H') : Sim K A' σ ρ μ' G' H' where
  toCells := c
  sl := S.sl
  at_ := fun i s h => let ⟨o, e, q⟩ := S.at_ i s h; ⟨o, e, q.mono st.pre st.le⟩

/-! ### readings without the heap -/
/-- what is wanted of an exception: its class, its one attribute -/
abbrev XP := Addr → List (Str × D) → Mem → Prop
abbrev VP := SV → Mem → Prop
abbrev TX := XP → Env' → Mem → VP → Prop
abbrev TXT := XP → Env' → Mem → (Bool → Mem → Prop) → Prop
abbrev TXA := XP → Env' → Mem → (List SV → Mem → Prop) → Prop
abbrev TXI := XP → Env' → Mem → (List D → Mem → Prop) → Prop
structure EndsP where
  nx : Env' → Mem → Prop
  rt : VP
  ex : XP
  bk : Env' → Mem → Prop := fun _ _ => False
  ct : Env' → Mem → Prop := fun _ _ => False
abbrev TXS := EndsP → Env' → Mem → Prop

/-- an exception in the heap: its class at C, its attributes -/
def ExOk (K : PySem.W.Frag) (G H : Hp) (fs : List (Str × D)) (d : Option Addr) : Prop :=
  (fs = [] ∧ d = none) ∨ ∃ (p : Addr) (ws : List (Str × V)), d = some p ∧ H p = some (.xd ws) ∧ fs.map Prod.fst = ws.map Prod.fst ∧ Reps K G (fs.map Prod.snd) (ws.map Prod.snd)
/-- the outer wish W takes what x wants -/
def ExTo (K : PySem.W.Frag) (W : WX) (A : List Addr) (G H : Hp) (x : XP) : Prop :=
  ∀ (C : Addr) (fs : List (Str × D)) (μ' : Mem) (A' : List Addr) (G' H' : Hp) (d : Option Addr) (σ : L2.St), x C fs μ' → Cells K A' μ' G' H' → Step A G H A' G' H' → ExOk K G' H' fs d → W (.ref C) d σ H'
theorem ExTo.after {K : PySem.W.Frag} {W : WX} {A A' : List Addr} {G G' H H' : Hp} {x : XP} (h : ExTo K W A G H x) (st : Step A G H A' G' H') : ExTo K W A' G' H' x :=
  fun C fs μ' A2 G2 H2 d σ q c s2 e => h C fs μ' A2 G2 H2 d σ q c (st.trans s2) e

def lift (K : PySem.W.Frag) (W : WX) (t : TX) : TE := fun σ H Q => ∃ A ρ μ G Qp x, Sim K A σ ρ μ G H ∧ t x ρ μ Qp ∧ ExTo K W A G H x ∧
  ∀ r μ' A' G' H' v, Qp r μ' → Cells K A' μ' G' H' → Step A G H A' G' H' → RepS K A' G' r v → Q v H'
def liftT (K : PySem.W.Frag) (W : WX) (t : TXT) : TT := fun σ H Q => ∃ A ρ μ G Qp x, Sim K A σ ρ μ G H ∧ t x ρ μ Qp ∧ ExTo K W A G H x ∧
  ∀ b μ' A' G' H', Qp b μ' → Cells K A' μ' G' H' → Step A G H A' G' H' → Q b H'
def liftA (K : PySem.W.Frag) (W : WX) (t : TXA) : TA := fun σ H Q => ∃ A ρ μ G Qp x, Sim K A σ ρ μ G H ∧ t x ρ μ Qp ∧ ExTo K W A G H x ∧
  ∀ rs μ' A' G' H' vs, Qp rs μ' → Cells K A' μ' G' H' → Step A G H A' G' H' → RepsS K A' G' rs vs → Q vs H'
/-- a statement's ends -/
structure EndsOk (K : PySem.W.Frag) (W : WX) (A : List Addr) (G H : Hp) (E : EndsP) (D : Ends) : Prop where
  nx : ∀ ρ' μ' A' σ' G' H', E.nx ρ' μ' → Sim K A' σ' ρ' μ' G' H' → Step A G H A' G' H' → D.nx σ' H'
  bk : ∀ ρ' μ' A' σ' G' H', E.bk ρ' μ' → Sim K A' σ' ρ' μ' G' H' → Step A G H A' G' H' → D.bk σ' H'
  ct : ∀ ρ' μ' A' σ' G' H', E.ct ρ' μ' → Sim K A' σ' ρ' μ' G' H' → Step A G H A' G' H' → D.ct σ' H'
  rt : ∀ r μ' A' G' H' v, E.rt r μ' → Cells K A' μ' G' H' → Step A G H A' G' H' → RepS K A' G' r v → D.rt v H'
  ex : ExTo K W A G H E.ex
theorem EndsOk.after {K : PySem.W.Frag} {W : WX} {A A' : List Addr} {G G' H H' : Hp} {E : EndsP} {D : Ends} (e : EndsOk K W A G H E D) (st : Step A G H A' G' H') : EndsOk K W A' G' H' E D :=
  ⟨fun ρ' μ' A2 σ' G2 H2 q s s2 => e.nx ρ' μ' A2 σ' G2 H2 q s (st.trans s2), fun ρ' μ' A2 σ' G2 H2 q s s2 => e.bk ρ' μ' A2 σ' G2 H2 q s (st.trans s2),
    fun ρ' μ' A2 σ' G2 H2 q s s2 => e.ct ρ' μ' A2 σ' G2 H2 q s (st.trans s2), fun r μ' A2 G2 H2 v q s s2 => e.rt r μ' A2 G2 H2 v q s (st.trans s2), e.ex.after st⟩
def liftS (K : PySem.W.Frag) (W : WX) (t : TXS) : TS := fun D σ H => ∃ A ρ μ G E, Sim K A σ ρ μ G H ∧ t E ρ μ ∧ EndsOk K W A G H E D

/-! ### judgements -/
structure PX (X : Cx) (W : WX) (e : Expr) (t : TX) : Prop where
  pe : PE X e (lift X.K W t)
structure PXT (X : Cx) (W : WX) (e : Expr) (t : TXT) : Prop where
  pt : PT X e (liftT X.K W t)
structure PXA (X : Cx) (W : WX) (es : List Expr) (t : TXA) : Prop where
  pa : PA X es (liftA X.K W t)
structure PXS (X : Cx) (W : WX) (st : Stmt) (t : TXS) : Prop where
  ps : PS X st (liftS X.K W t)
structure PXSs (X : Cx) (W : WX) (st : List Stmt) (t : TXS) : Prop where
  ps : PSs X st (liftS X.K W t)
theorem _root_.L2.PE.imp {X : Cx} {e : Expr} {t t' : TE} (h : PE X e t) (i : ∀ σ H Q, t' σ H Q → t σ H Q) : PE X e t' := ⟨fun pins s σ H Q I q => h.run pins s σ H Q I (i _ _ _ q)⟩
theorem _root_.L2.PT.imp {X : Cx} {e : Expr} {t t' : TT} (h : PT X e t) (i : ∀ σ H Q, t' σ H Q → t σ H Q) : PT X e t' := ⟨fun pins s σ H Q I q => h.run pins s σ H Q I (i _ _ _ q)⟩
theorem _root_.L2.PA.imp {X : Cx} {e : List Expr} {t t' : TA} (h : PA X e t) (i : ∀ σ H Q, t' σ H Q → t σ H Q) : PA X e t' := ⟨fun pos pins s σ H Q I q => h.run pos pins s σ H Q I (i _ _ _ q)⟩
theorem _root_.L2.PS.imp {X : Cx} {e : Stmt} {t t' : TS} (h : PS X e t) (i : ∀ D σ H, t' D σ H → t D σ H) : PS X e t' := ⟨fun pins s σ H D I q => h.run pins s σ H D I (i _ _ _ q)⟩
theorem _root_.L2.PSs.imp {X : Cx} {e : List Stmt} {t t' : TS} (h : PSs X e t) (i : ∀ D σ H, t' D σ H → t D σ H) : PSs X e t' := ⟨fun pins s σ H D I q => h.run pins s σ H D I (i _ _ _ q)⟩

/-! ### the usual steps -/
section
variable {K : PySem.W.Frag} {A : List Addr} {μ : Mem} {G H : Hp}
theorem Cells.ne_of_lt (c : Cells K A μ G H) {a p : Addr} (ha : a ∈ A) (hp : H p = none) : a ≠ p := fun z => by
  subst z
  obtain ⟨k, hk⟩ := List.mem_iff_getElem?.mp ha
  have h1 : k < μ.length := by rw [← c.len]; exact (List.getElem?_eq_some_iff.mp hk).1
  obtain ⟨o, e⟩ := (c.ok k a _ hk (List.getElem?_eq_getElem h1)).some
  rw [hp] at e; cases e
theorem Cells.gnone (c : Cells K A μ G H) {p : Addr} (hp : H p = none) : G p = none := by
  cases e : G p with
  | none => rfl
  | some o => rw [c.le p o e] at hp; cases hp
/-- a new frozen thing at p -/
theorem Cells.laid (c : Cells K A μ G H) {p : Addr} {o : HO} (hp : H p = none) : Cells K A μ (upd G p o) (upd H p o) ∧ Step A G H A (upd G p o) (upd H p o) := by
  have gp := c.gnone hp
  have lg : Le G (upd G p o) := fun a u e => by rw [upd_ne (ne_of_none e gp)]; exact e
  refine ⟨⟨fun a u e => ?_, c.len, c.nd, fun a ha => ?_, fun k a cl h1 h2 => ?_⟩, ⟨List.prefix_refl _, lg.z, fun a u e _ => .inl ?_, fun a e => ?_, fun a xs e => ?_, fun a ha => .inl ha, fun a e => ?_⟩⟩
  · by_cases z : a = p
    · subst z; rw [upd_same] at e ⊢; exact e
    · rw [upd_ne z] at e ⊢; exact c.le a u e
  · rw [upd_ne (c.ne_of_lt ha hp)]; exact c.free a ha
  · exact (c.ok k a cl h1 h2).mono lg.z (upd_ne (c.ne_of_lt (List.mem_of_getElem? h1) hp))
  · rw [upd_ne (ne_of_none e hp)]; exact e
  · by_cases z : a = p
    · subst z; exact .inr (.inl hp)
    · rw [upd_ne z] at e; exact .inl e
  · by_cases z : a = p
    · subst z; exact .inl hp
    · rw [upd_ne z] at e; exact .inr e
  · by_cases z : a = p
    · subst z; rw [upd_same]; simp
    · rw [upd_ne z]; exact e
theorem getElem?_append_one {α : Type} {l : List α} {x y : α} {k : Nat} (h : (l ++ [x])[k]? = some y) : (l[k]? = some y) ∨ (k = l.length ∧ y = x) := by
  by_cases hk : k < l.length
  · rw [List.getElem?_append_left hk] at h; exact .inl h
  · rw [List.getElem?_append_right (by omega)] at h
    have : k - l.length = 0 := by
      cases e : k - l.length with
      | zero => rfl
      | succ n => rw [e] at h; simp at h
    rw [this] at h
    simp at h
    exact .inr ⟨by omega, h.symm⟩
/-- a new cell at p -/
theorem Cells.cell (c : Cells K A μ G H) {p : Addr} {o : HO} {cl : Cell} (hp : H p = none) (ok : CellOk K G (upd H p o) p cl) : Cells K (A ++ [p]) (μ ++ [cl]) G (upd H p o) ∧ Step A G H (A ++ [p]) G (upd H p o) := by
  have gp := c.gnone hp
  have np : p ∉ A := fun z => c.ne_of_lt z hp rfl
  refine ⟨⟨fun a u e => ?_, by simp [c.len], ?_, fun a ha => ?_, fun k a cl' h1 h2 => ?_⟩, ⟨List.prefix_append _ _, LeZ.refl _, fun a u e _ => .inl ?_, fun a e => .inl e, fun a xs e => ?_, fun a ha => ?_, fun a e => ?_⟩⟩
  · rw [upd_ne (ne_of_none e gp)]; exact c.le a u e
  · refine List.nodup_append.mpr ⟨c.nd, by simp, fun a ha b hb => ?_⟩
    simp at hb; subst hb
    exact c.ne_of_lt ha hp
  · rcases List.mem_append.mp ha with h | h
    · exact c.free a h
    · simp at h; subst h; exact gp
  · rcases getElem?_append_one h1 with h1 | ⟨e1, e2⟩
    · have hk : k < μ.length := by rw [← c.len]; exact (List.getElem?_eq_some_iff.mp h1).1
      rw [List.getElem?_append_left hk] at h2
      exact (c.ok k a cl' h1 h2).mono (LeZ.refl _) (upd_ne (c.ne_of_lt (List.mem_of_getElem? h1) hp))
    · subst e2
      rw [e1, c.len, List.getElem?_append_right (Nat.le_refl _)] at h2
      simp at h2; subst h2; exact ok
  · rw [upd_ne (ne_of_none e hp)]; exact e
  · by_cases z : a = p
    · subst z; exact .inl hp
    · rw [upd_ne z] at e; exact .inr e
  · rcases List.mem_append.mp ha with h | h
    · exact .inl h
    · simp at h; subst h; exact .inr hp
  · by_cases z : a = p
    · subst z; rw [upd_same]; simp
    · rw [upd_ne z]; exact e
/-- a cell is changed -/
theorem Cells.write (c : Cells K A μ G H) {k : Nat} {p : Addr} {o : HO} {cl : Cell} (hk : A[k]? = some p) (ok : CellOk K G (upd H p o) p cl) : Cells K A (μ.set k cl) G (upd H p o) ∧ Step A G H A G (upd H p o) := by
  have hm : p ∈ A := List.mem_of_getElem? hk
  have gp := c.free p hm
  have hkl : k < A.length := (List.getElem?_eq_some_iff.mp hk).1
  refine ⟨⟨fun a u e => ?_, by simp [c.len], c.nd, c.free, fun j a cl' h1 h2 => ?_⟩, ⟨List.prefix_refl _, LeZ.refl _, fun a u e n => .inl ?_, fun a e => .inl e, fun a xs e => ?_, fun a ha => .inl ha, fun a e => ?_⟩⟩
  · rw [upd_ne (ne_of_none e gp)]; exact c.le a u e
  · by_cases z : j = k
    · subst z
      rw [hk] at h1; cases h1
      rw [List.getElem?_set_self (by rw [← c.len]; exact hkl)] at h2
      cases h2; exact ok
    · rw [List.getElem?_set_ne (Ne.symm z)] at h2
      refine (c.ok j a cl' h1 h2).mono (LeZ.refl _) (upd_ne fun q => z ?_)
      subst q
      obtain ⟨l1, e1⟩ := List.getElem?_eq_some_iff.mp h1
      obtain ⟨l2, e2⟩ := List.getElem?_eq_some_iff.mp hk
      exact (List.getElem_inj c.nd).mp (e1.trans e2.symm)
  · rw [upd_ne (fun z : a = p => n (by rw [z]; exact hm))]; exact e
  · by_cases z : a = p
    · subst z; exact absurd e ok.notup
    · rw [upd_ne z] at e; exact .inr e
  · by_cases z : a = p
    · subst z; rw [upd_same]; simp
    · rw [upd_ne z]; exact e
end
end PL
/-! The P-layer: expressions. -/
namespace PL
open PySem PySem.Spec PyProof.Rows L2
theorem Reps.sq {K : PySem.W.Frag} {G : Hp} {l : List D} {v : V} (h : Rep K G (.tup l) v) : ∃ a vs, v = .ref a ∧ SqT K G a vs ∧ Reps K G l vs := by
  cases h with
  | tup h hs => exact ⟨_, _, rfl, SqT.of h, hs⟩
theorem Reps.sql {K : PySem.W.Frag} {G : Hp} {l : List D} {v : V} (h : Rep K G (.lst l) v) : ∃ a vs, v = .ref a ∧ G a = some (.lst vs) ∧ Reps K G l vs := by
  cases h with
  | lst h hs => exact ⟨_, _, rfl, h, hs⟩
section
variable {X : Cx} {W : WX} {a b c e : Expr} {es : List Expr} {ta tb tc : TX} {pos : Pos}

/-- the one or the other, by a truth -/
def Br (b : Bool) (A B : Prop) : Prop := match b with
  | true => A
  | false => B
/-! ### names, constants -/
def xVar (i : Nat) : TX := fun _ ρ μ Q => match ρ[i]? with
  | some (.d a) => Q (.d a) μ
  | some (.c k) => Q (.c k) μ
  | _ => False
theorem px_name (i : Nat) {x : Str} {pos : Pos} (hN : X.N[i]? = some x := by rfl) (hv : Vis X.env.scope x := by first | exact Or.inl rfl | exact Or.inr (Or.inl rfl) | exact Or.inr (Or.inr rfl)) (hd : (x == ("__debug__" : Str)) = false := by decide)
    (hcd : (x == ("__classdict__" : Str)) = false := by decide) : PX X W (.Name x pos) (xVar i) := by
  refine ⟨(pe_var hN hv hd hcd).imp fun σ H Q h => ?_⟩
  obtain ⟨A, ρ, μ, G, Qp, xp, S, ht, _, k⟩ := h
  unfold xVar at ht
  split at ht
  · rename_i a e
    obtain ⟨o, e1, v, rfl, r⟩ := S.at_ _ _ e
    exact ⟨v, e1, k _ _ A G H v ht S.toCells .refl r⟩
  · rename_i a e
    obtain ⟨o, e1, v, rfl, r⟩ := S.at_ _ _ e
    exact ⟨v, e1, k _ _ A G H v ht S.toCells .refl r⟩
  · exact ht.elim
def xC (d : D) : TX := fun _ _ μ Q => Q (.d d) μ
theorem px_const {v : V} {d : D} (h : PE X e (tC v)) (r : ∀ G, Rep X.K G d v) : PX X W e (xC d) := by
  refine ⟨h.imp fun σ H Q h => ?_⟩
  obtain ⟨A, ρ, μ, G, Qp, xp, S, ht, _, k⟩ := h
  exact k _ _ A G H v ht S.toCells .refl (r G)
theorem px_int {i : Int} {j pos} : PX X W (.Constant (.int i) j pos) (xC (.int i)) := px_const pe_int fun _ => .int i
theorem px_bl {b : Bool} {j pos} : PX X W (.Constant (.bool b) j pos) (xC (.bl b)) := px_const pe_bl fun _ => .bl b
theorem px_non {j pos} : PX X W (.Constant .none j pos) (xC .non) := px_const pe_non fun _ => .non
theorem px_str {x : Str} {j pos} : PX X W (.Constant (.str x) j pos) (xC (.str x)) := px_const pe_str fun _ => .str x
/-- a constant of the module: an int -/
theorem px_gint {x : Str} {i : Int} {t : Tok} {pos : Pos} (hg : Gl X x) (hm : X.mg x = some (.int i t)) (hd : (x == ("__debug__" : Str)) = false := by decide) : PX X W (.Name x pos) (xC (.int i)) :=
  px_const (pe_glob hg hm (v := .int i) ⟨t, rfl⟩ hd) fun _ => .int i
theorem px_gstr {x : Str} {i : Str} {t : Tok} {pos : Pos} (hg : Gl X x) (hm : X.mg x = some (.str i t)) (hd : (x == ("__debug__" : Str)) = false := by decide) : PX X W (.Name x pos) (xC (.str i)) :=
  px_const (pe_glob hg hm (v := .str i) ⟨t, rfl⟩ hd) fun _ => .str i
theorem px_gref {x : Str} {f : Addr} {pos : Pos} (hg : Gl X x) (hm : X.mg x = some (.ref f)) (hd : (x == ("__debug__" : Str)) = false := by decide) : PX X W (.Name x pos) (xC (.fn f)) :=
  px_const (pe_glob hg hm (v := .ref f) rfl hd) fun _ => .fn f
theorem px_bty {x : Str} {T : String} {pos : Pos} (hg : Gl X x) (hm : X.mg x = none) (hv : bootBuiltins x = some (.type T)) (hn : x ≠ "__name__" := by decide) (hd : (x == ("__debug__" : Str)) = false := by decide) : PX X W (.Name x pos) (xC (.ty T)) :=
  px_const (pe_bltn hg hm hv (v := .ty T) rfl hn hd) fun _ => .ty T

/-! ### operations on two values -/
/-- how an operation on the heap does what P says -/
def POp (K : PySem.W.Frag) (r : R2) (P : SV → SV → Mem → VP → Prop) : Prop := ∀ (sa sb : SV) (μ : Mem) (A : List Addr) (G H : Hp) (va vb : V) (Qp : VP) (Q : VK), P sa sb μ Qp → Cells K A μ G H → RepS K A G sa va → RepS K A G sb vb →
  (∀ r μ' A' G' H' v, Qp r μ' → Cells K A' μ' G' H' → Step A G H A' G' H' → RepS K A' G' r v → Q v H') → r va vb H Q
def xOp (P : SV → SV → Mem → VP → Prop) (ta tb : TX) : TX := fun x ρ μ Q => ta x ρ μ fun sa μ1 => tb x ρ μ1 fun sb μ2 => P sa sb μ2 Q
theorem lift_op {K : PySem.W.Frag} {r : R2} {P : SV → SV → Mem → VP → Prop} (hp : POp K r P) {σ : L2.St} {H : Hp} {Q : VK} (h : lift K W (xOp P ta tb) σ H Q) : tOp r (lift K W ta) (lift K W tb) σ H Q := by
  obtain ⟨A, ρ, μ, G, Qp, xp, S, ht, hx, k⟩ := h
  refine ⟨A, ρ, μ, G, _, xp, S, ht, hx, fun sa μ1 A1 G1 H1 va q c1 s1 r1 => ?_⟩
  refine ⟨A1, ρ, μ1, G1, _, xp, S.after s1 c1, q, hx.after s1, fun sb μ2 A2 G2 H2 vb q2 c2 s2 r2 => ?_⟩
  exact hp sa sb μ2 A2 G2 H2 va vb Qp Q q2 c2 (r1.mono s2.pre s2.le) r2 fun r μ' A' G' H' v q3 c3 s3 r3 => k r μ' A' G' H' v q3 c3 ((s1.trans s2).trans s3) r3
theorem px_op {op : Operator} {r : R2} {P : SV → SV → Mem → VP → Prop} (ho : OpR X (binaryOp op) r) (hp : POp X.K r P) (ha : PX X W a ta) (hb : PX X W b tb) : PX X W (.BinOp a op b pos) (xOp P ta tb) :=
  ⟨(pe_op ho ha.pe hb.pe).imp fun _ _ _ h => lift_op hp h⟩
theorem px_cmp {op : CmpOp} {r : R2} {P : SV → SV → Mem → VP → Prop} (ho : OpR X (compareOp op) r) (hp : POp X.K r P) (ha : PX X W a ta) (hb : PX X W b tb) (hm : behindInMarks op b = false := by first | exact nomark _ | rfl) : PX X W (.Compare a [op] [b] pos) (xOp P ta tb) :=
  ⟨(pe_cmpR ho ha.pe hb.pe hm).imp fun _ _ _ h => lift_op hp h⟩
/-- a reading as a test: a bool comes -/
def xTest (t : TX) : TXT := fun x ρ μ Q => t x ρ μ fun s μ1 => match s with
  | .d (.bl k) => Q k μ1
  | _ => False
theorem lift_test {K : PySem.W.Frag} {t : TX} {t0 : TE} (h0 : ∀ σ H Q, lift K W t σ H Q → t0 σ H Q) {σ : L2.St} {H : Hp} {Q : Bool → Hp → Prop} (h : liftT K W (xTest t) σ H Q) : tTest t0 σ H Q := by
  obtain ⟨A, ρ, μ, G, Qp, xp, S, ht, hx, k⟩ := h
  refine h0 _ _ _ ⟨A, ρ, μ, G, _, xp, S, ht, hx, fun r μ' A' G' H' v q c s rr => ?_⟩
  match r, q, rr with
  | .d (.bl b), q, rr => cases rr; exact ⟨b, rfl, k _ _ _ _ _ q c s⟩
theorem pxt_cmp {op : CmpOp} {r : R2} {P : SV → SV → Mem → VP → Prop} (ho : OpR X (compareOp op) r) (hp : POp X.K r P) (ha : PX X W a ta) (hb : PX X W b tb) (hm : behindInMarks op b = false := by first | exact nomark _ | rfl) : PXT X W (.Compare a [op] [b] pos) (xTest (xOp P ta tb)) :=
  ⟨(pt_cmpR ho ha.pe hb.pe hm).imp fun _ _ _ h => lift_test (fun _ _ _ z => lift_op hp z) h⟩
/-- an expression that gives True or False, as a test -/
theorem pxt_val {t : TX} (h : PX X W e t) (he : ∀ whole, isTrue e X.env whole = (do let v ← whole; standAt e.pos; holding [v] (truthy v)) := by intro _; rfl) : PXT X W e (xTest t) :=
  ⟨(pt_val h.pe he).imp fun _ _ _ h => by
    obtain ⟨A, ρ, μ, G, Qp, xp, S, ht, hx, k⟩ := h
    refine ⟨A, ρ, μ, G, _, xp, S, ht, hx, fun r μ' A' G' H' v q c s rr => ?_⟩
    match r, q, rr with
    | .d (.bl b), q, rr => cases rr; exact ⟨b, rfl, k _ _ _ _ _ q c s⟩⟩
/-- a < b < c -/
def xChain (P P' : SV → SV → Mem → VP → Prop) (ta tb tc : TX) : TX := fun x ρ μ Q => ta x ρ μ fun sa μ1 => tb x ρ μ1 fun sb μ2 => P sa sb μ2 fun z μ3 => match z with
  | .d (.bl b) => Br b (tc x ρ μ3 fun sc μ4 => P' sb sc μ4 Q) (Q (.d (.bl false)) μ3)
  | _ => False
theorem lift_chain {K : PySem.W.Frag} {r r' : R2} {P P' : SV → SV → Mem → VP → Prop} (hp : POp K r P) (hp' : POp K r' P') {σ : L2.St} {H : Hp} {Q : VK} (h : lift K W (xChain P P' ta tb tc) σ H Q) : tChain r r' (lift K W ta) (lift K W tb) (lift K W tc) σ H Q := by
  obtain ⟨A, ρ, μ, G, Qp, xp, S, ht, hx, k⟩ := h
  refine ⟨A, ρ, μ, G, _, xp, S, ht, hx, fun sa μ1 A1 G1 H1 va q c1 s1 r1 => ?_⟩
  refine ⟨A1, ρ, μ1, G1, _, xp, S.after s1 c1, q, hx.after s1, fun sb μ2 A2 G2 H2 vb q2 c2 s2 r2 => ?_⟩
  refine hp sa sb μ2 A2 G2 H2 va vb _ _ q2 c2 (r1.mono s2.pre s2.le) r2 fun z μ3 A3 G3 H3 v3 q3 c3 s3 r3 => ?_
  have s13 := (s1.trans s2).trans s3
  match z, q3, r3 with
  | .d (.bl true), q3, r3 =>
    cases r3
    refine ⟨true, rfl, ite_tt ?_⟩
    refine ⟨A3, ρ, μ3, G3, _, xp, S.after s13 c3, q3, hx.after s13, fun sc μ4 A4 G4 H4 vc q4 c4 s4 r4 => ?_⟩
    have s24 := s3.trans s4
    exact hp' sb sc μ4 A4 G4 H4 vb vc Qp Q q4 c4 (r2.mono s24.pre s24.le) r4 fun r μ' A' G' H' v q5 c5 s5 r5 => k r μ' A' G' H' v q5 c5 ((s13.trans s4).trans s5) r5
  | .d (.bl false), q3, r3 =>
    cases r3
    exact ⟨false, rfl, ite_ff (k _ _ _ _ _ _ q3 c3 s13 (.bl false))⟩
theorem px_chain {op op' : CmpOp} {r r' : R2} {P P' : SV → SV → Mem → VP → Prop} (ho : OpR X (compareOp op) r) (hp : POp X.K r P) (ho' : OpR X (compareOp op') r') (hp' : POp X.K r' P') (ha : PX X W a ta) (hb : PX X W b tb) (hc : PX X W c tc)
    (hm : lastMarks [op, op'] [b, c] = false := by with_unfolding_all rfl) : PX X W (.Compare a [op, op'] [b, c] pos) (xChain P P' ta tb tc) := ⟨(pe_chain ho ho' ha.pe hb.pe hc.pe hm).imp fun _ _ _ h => lift_chain hp hp' h⟩
theorem pxt_chain {op op' : CmpOp} {r r' : R2} {P P' : SV → SV → Mem → VP → Prop} (ho : OpR X (compareOp op) r) (hp : POp X.K r P) (ho' : OpR X (compareOp op') r') (hp' : POp X.K r' P') (ha : PX X W a ta) (hb : PX X W b tb) (hc : PX X W c tc)
    (hm : lastMarks [op, op'] [b, c] = false := by with_unfolding_all rfl) : PXT X W (.Compare a [op, op'] [b, c] pos) (xTest (xChain P P' ta tb tc)) := ⟨(pt_chain ho ho' ha.pe hb.pe hc.pe hm).imp fun _ _ _ h => lift_test (fun _ _ _ z => lift_chain hp hp' z) h⟩

/-! ### ints -/
def pI0 (f : Int → Int → D) : SV → SV → Mem → VP → Prop := fun sa sb μ Q => match sa, sb with
  | .d (.int i), .d (.int j) => Q (.d (f i j)) μ
  | _, _ => False
def pII (f : Int → Int → D) (C : Int → Int → Prop) : SV → SV → Mem → VP → Prop := fun sa sb μ Q => match sa, sb with
  | .d (.int i), .d (.int j) => C i j ∧ Q (.d (f i j)) μ
  | _, _ => False
abbrev cTrue : Int → Int → Prop := fun _ _ => True
theorem pop_I {K : PySem.W.Frag} {f : Int → Int → D} {g : Int → Int → V} {C : Int → Int → Prop} (hf : ∀ G i j, Rep K G (f i j) (g i j)) : POp K (rI C g) (pII f C) := by
  intro sa sb μ A G H va vb Qp Q h c ra rb k
  match sa, sb, h, ra, rb with
  | .d (.int i), .d (.int j), ⟨hc, h⟩, ra, rb =>
    cases ra; cases rb
    exact ⟨i, j, rfl, rfl, hc, k _ _ _ _ _ _ h c .refl (hf _ _ _)⟩
theorem pop_I0 {K : PySem.W.Frag} {f : Int → Int → D} {g : Int → Int → V} (hf : ∀ G i j, Rep K G (f i j) (g i j)) : POp K (rI0 g) (pI0 f) := by
  intro sa sb μ A G H va vb Qp Q h c ra rb k
  match sa, sb, h, ra, rb with
  | .d (.int i), .d (.int j), h, ra, rb =>
    cases ra; cases rb
    exact ⟨i, j, rfl, rfl, k _ _ _ _ _ _ h c .refl (hf _ _ _)⟩
abbrev pAdd := pI0 (fun i j => .int (i + j))
abbrev pSub := pI0 (fun i j => .int (i - j))
abbrev pMul := pII (fun i j => .int (i * j)) CMul
abbrev pMod := pII (fun i j => .int (i % j)) (fun _ j => 0 < j)
abbrev pDiv := pII (fun i j => .int (i / j)) CDiv
abbrev pPow := pII (fun i j => .int (i ^ j.toNat)) CPow
abbrev pLt := pI0 (fun i j => .bl (decide (i < j)))
abbrev pLe := pI0 (fun i j => .bl (decide (i ≤ j)))
abbrev pGt := pI0 (fun i j => .bl (decide (j < i)))
abbrev pGe := pI0 (fun i j => .bl (decide (j ≤ i)))
theorem px_addI (ha : PX X W a ta) (hb : PX X W b tb) : PX X W (.BinOp a .Add b pos) (xOp pAdd ta tb) := px_op op_add (pop_I0 fun _ _ _ => .int _) ha hb
theorem px_subI (ha : PX X W a ta) (hb : PX X W b tb) : PX X W (.BinOp a .Sub b pos) (xOp pSub ta tb) := px_op op_sub (pop_I0 fun _ _ _ => .int _) ha hb
theorem px_mulI (ha : PX X W a ta) (hb : PX X W b tb) : PX X W (.BinOp a .Mult b pos) (xOp pMul ta tb) := px_op op_mul (pop_I fun _ _ _ => .int _) ha hb
theorem px_modI (ha : PX X W a ta) (hb : PX X W b tb) : PX X W (.BinOp a .Mod b pos) (xOp pMod ta tb) := px_op op_mod (pop_I fun _ _ _ => .int _) ha hb
theorem px_divI (ha : PX X W a ta) (hb : PX X W b tb) : PX X W (.BinOp a .FloorDiv b pos) (xOp pDiv ta tb) := px_op op_fdiv (pop_I fun _ _ _ => .int _) ha hb
theorem px_powI (ha : PX X W a ta) (hb : PX X W b tb) : PX X W (.BinOp a .Pow b pos) (xOp pPow ta tb) := px_op op_pow (pop_I fun _ _ _ => .int _) ha hb
theorem px_ltI (ha : PX X W a ta) (hb : PX X W b tb) : PX X W (.Compare a [.Lt] [b] pos) (xOp pLt ta tb) := px_cmp op_lt (pop_I0 fun _ _ _ => .bl _) ha hb
theorem px_leI (ha : PX X W a ta) (hb : PX X W b tb) : PX X W (.Compare a [.LtE] [b] pos) (xOp pLe ta tb) := px_cmp op_le (pop_I0 fun _ _ _ => .bl _) ha hb
theorem px_gtI (ha : PX X W a ta) (hb : PX X W b tb) : PX X W (.Compare a [.Gt] [b] pos) (xOp pGt ta tb) := px_cmp op_gt (pop_I0 fun _ _ _ => .bl _) ha hb
theorem px_geI (ha : PX X W a ta) (hb : PX X W b tb) : PX X W (.Compare a [.GtE] [b] pos) (xOp pGe ta tb) := px_cmp op_ge (pop_I0 fun _ _ _ => .bl _) ha hb
theorem pxt_ltI (ha : PX X W a ta) (hb : PX X W b tb) : PXT X W (.Compare a [.Lt] [b] pos) (xTest (xOp pLt ta tb)) := pxt_cmp op_lt (pop_I0 fun _ _ _ => .bl _) ha hb
theorem pxt_leI (ha : PX X W a ta) (hb : PX X W b tb) : PXT X W (.Compare a [.LtE] [b] pos) (xTest (xOp pLe ta tb)) := pxt_cmp op_le (pop_I0 fun _ _ _ => .bl _) ha hb
theorem pxt_gtI (ha : PX X W a ta) (hb : PX X W b tb) : PXT X W (.Compare a [.Gt] [b] pos) (xTest (xOp pGt ta tb)) := pxt_cmp op_gt (pop_I0 fun _ _ _ => .bl _) ha hb
theorem pxt_geI (ha : PX X W a ta) (hb : PX X W b tb) : PXT X W (.Compare a [.GtE] [b] pos) (xTest (xOp pGe ta tb)) := pxt_cmp op_ge (pop_I0 fun _ _ _ => .bl _) ha hb
theorem px_leleI (ha : PX X W a ta) (hb : PX X W b tb) (hc : PX X W c tc) (hm : lastMarks [.LtE, .LtE] [b, c] = false := by with_unfolding_all rfl) : PX X W (.Compare a [.LtE, .LtE] [b, c] pos) (xChain pLe pLe ta tb tc) := px_chain op_le (pop_I0 fun _ _ _ => .bl _) op_le (pop_I0 fun _ _ _ => .bl _) ha hb hc hm
theorem pxt_leleI (ha : PX X W a ta) (hb : PX X W b tb) (hc : PX X W c tc) (hm : lastMarks [.LtE, .LtE] [b, c] = false := by with_unfolding_all rfl) : PXT X W (.Compare a [.LtE, .LtE] [b, c] pos) (xTest (xChain pLe pLe ta tb tc)) := pxt_chain op_le (pop_I0 fun _ _ _ => .bl _) op_le (pop_I0 fun _ _ _ => .bl _) ha hb hc hm

/-! ### == of data at any depth -/
mutual
def toPy : D → PyData
  | .non => .none
  | .bl b => .bool b
  | .int i => .int i
  | .str x => .str x
  | .tup l => .tuple (toPys l)
  | .lst l => .list (toPys l)
  | _ => .none
def toPys : List D → List PyData
  | [] => []
  | d :: ds => toPy d :: toPys ds
end
mutual
/-- data that == may look at: no dict, no object; nested less than n deep -/
def flat (n : Nat) : D → Bool
  | .non => true
  | .bl _ => true
  | .int _ => true
  | .str x => PyData.strOk x
  | .tup l => match n with | 0 => false | n + 1 => flats n l
  | .lst l => match n with | 0 => false | n + 1 => flats n l
  | _ => false
def flats (n : Nat) : List D → Bool
  | [] => true
  | d :: ds => flat n d && flats n ds
end

theorem flat_lay (n : Nat) : ∀ d : D, flat n d = true → (toPy d).canLay0 = true ∧ (toPy d).depth ≤ n := by
  intro d
  refine D.rec (motive_1 := fun d => ∀ n, flat n d = true → (toPy d).canLay0 = true ∧ (toPy d).depth ≤ n) (motive_2 := fun ds => ∀ n, flats n ds = true → PyData.canLayAll0 (toPys ds) = true ∧ PyData.depthAll (toPys ds) ≤ n) ?_ ?_ ?_ ?_ ?_ ?_ ?_ ?_ ?_ ?_ ?_ ?_ ?_ d n
  · intro n _; simp [toPy, PyData.canLay0, PyData.depth]
  · intro b n _; simp [toPy, PyData.canLay0, PyData.depth]
  · intro i n _; simp [toPy, PyData.canLay0, PyData.depth]
  · intro x n h; simp only [flat] at h; simp [toPy, PyData.canLay0, PyData.depth, h]
  · intro a n h; simp [flat] at h
  · intro a n h; simp [flat] at h
  · intro a n h; simp [flat] at h
  · intro l ih n h
    cases n with
    | zero => simp [flat] at h
    | succ n =>
      simp only [flat] at h
      obtain ⟨h1, h2⟩ := ih n h
      simp only [toPy, PyData.canLay0, PyData.depth]
      exact ⟨h1, by omega⟩
  · intro l ih n h
    cases n with
    | zero => simp [flat] at h
    | succ n =>
      simp only [flat] at h
      obtain ⟨h1, h2⟩ := ih n h
      simp only [toPy, PyData.canLay0, PyData.depth]
      exact ⟨h1, by omega⟩
  · intro t k v _ _ n h; simp [flat] at h
  · intro C k v _ n h; simp [flat] at h
  · intro n _; simp [toPys, PyData.canLayAll0, PyData.depthAll]
  · intro d ds i1 i2 n h
    simp only [flats, Bool.and_eq_true] at h
    obtain ⟨h1, h2⟩ := i1 n h.1
    obtain ⟨h3, h4⟩ := i2 n h.2
    simp only [toPys, PyData.canLayAll0, PyData.depthAll, Bool.and_eq_true]
    exact ⟨⟨h1, h3⟩, by omega⟩
/-- data for == -/
def okEq (d : D) : Bool := flat 60 d
theorem okEq_shaped {d : D} (h : okEq d = true) : SeqAt.shaped (toPy d) = true := by
  obtain ⟨h1, h2⟩ := flat_lay 60 d h
  show ((toPy d).canLay0 && decide ((toPy d).depth ≤ 64)) = true
  rw [h1, Bool.true_and]
  exact decide_eq_true (by omega)
mutual
theorem rep_dp {K : PySem.W.Frag} {G H : Hp} (le : Le G H) (n : Nat) : ∀ (d : D) (v : V), flat n d = true → Rep K G d v → Dp K H v (toPy d)
  | .non, _, _, h => by cases h; simp only [toPy]; exact .non
  | .bl b, _, _, h => by cases h; simp only [toPy]; exact .bl b
  | .int b, _, _, h => by cases h; simp only [toPy]; exact .int b
  | .str b, _, _, h => by cases h; simp only [toPy]; exact .str b
  | .fn _, _, f, _ => by simp [flat] at f
  | .ty _, _, f, _ => by simp [flat] at f
  | .dic _ _ _, _, f, _ => by simp [flat] at f
  | .scr _, _, f, _ => by simp [flat] at f
  | .obj _ _ _, _, f, _ => by simp [flat] at f
  | .tup l, _, f, h => by
    cases n with
    | zero => simp [flat] at f
    | succ n =>
      simp only [flat] at f
      cases h with
      | tup h hs => simp only [toPy]; exact .tup (SqT.of (le _ _ h)) (reps_dp le n l _ f hs)
  | .lst l, _, f, h => by
    cases n with
    | zero => simp [flat] at f
    | succ n =>
      simp only [flat] at f
      cases h with
      | lst h hs => simp only [toPy]; exact .lst (SqL.of (le _ _ h)) (reps_dp le n l _ f hs)
theorem reps_dp {K : PySem.W.Frag} {G H : Hp} (le : Le G H) (n : Nat) : ∀ (ds : List D) (vs : List V), flats n ds = true → Reps K G ds vs → DpAll K H vs (toPys ds)
  | [], _, _, h => by cases h; simp only [toPys]; exact .nil
  | d :: ds, _, f, h => by
    simp only [flats, Bool.and_eq_true] at f
    cases h with
    | cons h hs => simp only [toPys]; exact .cons (rep_dp le n d _ f.1 h) (reps_dp le n ds _ f.2 hs)
end
def deq (x y : D) : Bool := PyData.eqv (toPy x) (toPy y)
def pEq : SV → SV → Mem → VP → Prop := fun sa sb μ Q => match sa, sb with
  | .d x, .d y => (okEq x = true ∧ okEq y = true) ∧ Q (.d (.bl (deq x y))) μ
  | _, _ => False
def pNe : SV → SV → Mem → VP → Prop := fun sa sb μ Q => match sa, sb with
  | .d x, .d y => (okEq x = true ∧ okEq y = true) ∧ Q (.d (.bl (!deq x y))) μ
  | _, _ => False
theorem pop_eq {K : PySem.W.Frag} : POp K (rEqD K) pEq := by
  intro sa sb μ A G H va vb Qp Q h c ra rb k
  match sa, sb, h, ra, rb with
  | .d x, .d y, ⟨⟨h1, h2⟩, h⟩, ra, rb => exact ⟨toPy x, toPy y, rep_dp c.le 60 x _ h1 ra, rep_dp c.le 60 y _ h2 rb, okEq_shaped h1, okEq_shaped h2, k _ _ _ _ _ _ h c .refl (.bl _)⟩
theorem pop_ne {K : PySem.W.Frag} : POp K (rNeD K) pNe := by
  intro sa sb μ A G H va vb Qp Q h c ra rb k
  match sa, sb, h, ra, rb with
  | .d x, .d y, ⟨⟨h1, h2⟩, h⟩, ra, rb => exact ⟨toPy x, toPy y, rep_dp c.le 60 x _ h1 ra, rep_dp c.le 60 y _ h2 rb, okEq_shaped h1, okEq_shaped h2, k _ _ _ _ _ _ h c .refl (.bl _)⟩
theorem px_eq (hu : X.A.units + 64 < cLine) (ha : PX X W a ta) (hb : PX X W b tb) : PX X W (.Compare a [.Eq] [b] pos) (xOp pEq ta tb) := px_cmp (op_eqD hu) pop_eq ha hb
theorem px_ne (hu : X.A.units + 64 < cLine) (ha : PX X W a ta) (hb : PX X W b tb) : PX X W (.Compare a [.NotEq] [b] pos) (xOp pNe ta tb) := px_cmp (op_neD hu) pop_ne ha hb
theorem pxt_eq (hu : X.A.units + 64 < cLine) (ha : PX X W a ta) (hb : PX X W b tb) : PXT X W (.Compare a [.Eq] [b] pos) (xTest (xOp pEq ta tb)) := pxt_cmp (op_eqD hu) pop_eq ha hb
theorem pxt_ne (hu : X.A.units + 64 < cLine) (ha : PX X W a ta) (hb : PX X W b tb) : PXT X W (.Compare a [.NotEq] [b] pos) (xTest (xOp pNe ta tb)) := pxt_cmp (op_neD hu) pop_ne ha hb

/-! ### is None -/
def xIsN (ta : TX) : TX := fun x ρ μ Q => ta x ρ μ fun s μ1 => match s with
  | .d .non => Q (.d (.bl true)) μ1
  | .d _ => Q (.d (.bl false)) μ1
  | .c _ => Q (.d (.bl false)) μ1
  | .un => False
def xNotN (ta : TX) : TX := fun x ρ μ Q => ta x ρ μ fun s μ1 => match s with
  | .d .non => Q (.d (.bl false)) μ1
  | .d _ => Q (.d (.bl true)) μ1
  | .c _ => Q (.d (.bl true)) μ1
  | .un => False
theorem isN_of {K : PySem.W.Frag} {A : List Addr} {G : Hp} {s : SV} {v : V} (r : RepS K A G s v) : (s = .d .non ∧ v = .non) ∨ (s = .un) ∨ (s ≠ .d .non ∧ s ≠ .un ∧ decide (v = V.non) = false) := by
  match s, r with
  | .un, _ => exact .inr (.inl rfl)
  | .c k, r => obtain ⟨a, _, rfl⟩ := r; exact .inr (.inr ⟨by simp, by simp, by simp⟩)
  | .d d, r => cases r <;> first | exact .inl ⟨rfl, rfl⟩ | exact .inr (.inr ⟨by simp, by simp, by simp⟩)
theorem px_isN {j pos'} (ha : PX X W a ta) : PX X W (.Compare a [.Is] [.Constant .none j pos'] pos) (xIsN ta) := by
  refine ⟨(pe_cmp (pc_isN ha.pe)).imp fun σ H Q h => ?_⟩
  obtain ⟨A, ρ, μ, G, Qp, xp, S, ht, hx, k⟩ := h
  refine ⟨A, ρ, μ, G, _, xp, S, ht, hx, fun r μ' A' G' H' v q c s rr => ?_⟩
  rcases isN_of rr with ⟨rfl, rfl⟩ | rfl | ⟨h1, h2, h3⟩
  · exact k _ _ _ _ _ _ q c s (.bl _)
  · exact q.elim
  · rw [h3]
    match r, h1, h2, q with
    | .c _, _, _, q => exact k _ _ _ _ _ _ q c s (.bl _)
    | .d d, h1, _, q => cases d <;> first | exact absurd rfl h1 | exact k _ _ _ _ _ _ q c s (.bl _)
theorem px_notN {j pos'} (ha : PX X W a ta) : PX X W (.Compare a [.IsNot] [.Constant .none j pos'] pos) (xNotN ta) := by
  refine ⟨(pe_cmp (pc_notN ha.pe)).imp fun σ H Q h => ?_⟩
  obtain ⟨A, ρ, μ, G, Qp, xp, S, ht, hx, k⟩ := h
  refine ⟨A, ρ, μ, G, _, xp, S, ht, hx, fun r μ' A' G' H' v q c s rr => ?_⟩
  rcases isN_of rr with ⟨rfl, rfl⟩ | rfl | ⟨h1, h2, h3⟩
  · exact k _ _ _ _ _ _ q c s (.bl _)
  · exact q.elim
  · rw [h3]
    match r, h1, h2, q with
    | .c _, _, _, q => exact k _ _ _ _ _ _ q c s (.bl _)
    | .d d, h1, _, q => cases d <;> first | exact absurd rfl h1 | exact k _ _ _ _ _ _ q c s (.bl _)

/-! ### and, or, not, if -/
variable {tA tB : TXT} {rest : List Expr}
def xAnd (t u : TXT) : TXT := fun x ρ μ Q => t x ρ μ fun b μ1 => Br b (u x ρ μ1 Q) (Q false μ1)
def xOr (t u : TXT) : TXT := fun x ρ μ Q => t x ρ μ fun b μ1 => Br b (Q true μ1) (u x ρ μ1 Q)
def xNot (t : TXT) : TXT := fun x ρ μ Q => t x ρ μ fun b μ1 => Q (!b) μ1
/-- a test whatever its whole is -/
structure PXW (X : Cx) (W : WX) (e : Expr) (t : TXT) : Prop where
  pw : PW X e (liftT X.K W t)
theorem _root_.L2.PW.imp {X : Cx} {e : Expr} {t t' : TT} (h : PW X e t) (i : ∀ σ H Q, t' σ H Q → t σ H Q) : PW X e t' := ⟨fun wh pins s σ H Q I q => h.run wh pins s σ H Q I (i _ _ _ q)⟩
theorem PXW.pt {t : TXT} (h : PXW X W e t) : PXT X W e t := ⟨h.pw.pt⟩
theorem pxw_and1 (ha : PXT X W a tA) : PXW X W (.BoolOp .And [a] pos) tA := ⟨pw_and1 ha.pt⟩
theorem pxw_or1 (ha : PXT X W a tA) : PXW X W (.BoolOp .Or [a] pos) tA := ⟨pw_or1 ha.pt⟩
theorem pxw_and (ha : PXT X W a tA) (hb : PXW X W (.BoolOp .And (b :: rest) pos) tB) : PXW X W (.BoolOp .And (a :: b :: rest) pos) (xAnd tA tB) := by
  refine ⟨(pw_and ha.pt hb.pw).imp fun σ H Q h => ?_⟩
  obtain ⟨A, ρ, μ, G, Qp, xp, S, ht, hx, k⟩ := h
  refine ⟨A, ρ, μ, G, _, xp, S, ht, hx, fun r μ' A' G' H' q c s => ?_⟩
  cases r with
  | true => exact ite_tt ⟨A', ρ, μ', G', Qp, xp, S.after s c, q, hx.after s, fun b μ2 A2 G2 H2 q2 c2 s2 => k _ _ _ _ _ q2 c2 (s.trans s2)⟩
  | false => exact ite_ff (k _ _ _ _ _ q c s)
theorem pxw_or (ha : PXT X W a tA) (hb : PXW X W (.BoolOp .Or (b :: rest) pos) tB) : PXW X W (.BoolOp .Or (a :: b :: rest) pos) (xOr tA tB) := by
  refine ⟨(pw_or ha.pt hb.pw).imp fun σ H Q h => ?_⟩
  obtain ⟨A, ρ, μ, G, Qp, xp, S, ht, hx, k⟩ := h
  refine ⟨A, ρ, μ, G, _, xp, S, ht, hx, fun r μ' A' G' H' q c s => ?_⟩
  cases r with
  | true => exact ite_tt (k _ _ _ _ _ q c s)
  | false => exact ite_ff ⟨A', ρ, μ', G', Qp, xp, S.after s c, q, hx.after s, fun b μ2 A2 G2 H2 q2 c2 s2 => k _ _ _ _ _ q2 c2 (s.trans s2)⟩
theorem pxt_not (ha : PXT X W a tA) : PXT X W (.UnaryOp .Not a pos) (xNot tA) := by
  refine ⟨(pt_not ha.pt).imp fun σ H Q h => ?_⟩
  obtain ⟨A, ρ, μ, G, Qp, xp, S, ht, hx, k⟩ := h
  exact ⟨A, ρ, μ, G, _, xp, S, ht, hx, fun r μ' A' G' H' q c s => k _ _ _ _ _ q c s⟩
/-- .. as values: all but the last are bools -/
def xAndV (ta tb : TX) : TX := fun x ρ μ Q => ta x ρ μ fun s μ1 => match s with
  | .d (.bl b) => Br b (tb x ρ μ1 Q) (Q (.d (.bl false)) μ1)
  | _ => False
def xOrV (ta tb : TX) : TX := fun x ρ μ Q => ta x ρ μ fun s μ1 => match s with
  | .d (.bl b) => Br b (Q (.d (.bl true)) μ1) (tb x ρ μ1 Q)
  | _ => False
def xNotV (ta : TX) : TX := fun x ρ μ Q => ta x ρ μ fun s μ1 => match s with
  | .d (.bl b) => Q (.d (.bl (!b))) μ1
  | _ => False
theorem px_one {op} {t : TX} (h : PX X W a t) : PX X W (.BoolOp op [a] pos) t := ⟨pe_one h.pe⟩
theorem px_and (ha : PX X W a ta) (hb : PX X W (.BoolOp .And (b :: rest) pos) tb) : PX X W (.BoolOp .And (a :: b :: rest) pos) (xAndV ta tb) := by
  refine ⟨(pe_and ha.pe hb.pe).imp fun σ H Q h => ?_⟩
  obtain ⟨A, ρ, μ, G, Qp, xp, S, ht, hx, k⟩ := h
  refine ⟨A, ρ, μ, G, _, xp, S, ht, hx, fun r μ' A' G' H' v q c s rr => ?_⟩
  match r, q, rr with
  | .d (.bl true), q, rr => cases rr; exact ⟨true, rfl, ite_tt ⟨A', ρ, μ', G', Qp, xp, S.after s c, q, hx.after s, fun r2 μ2 A2 G2 H2 v2 q2 c2 s2 rr2 => k _ _ _ _ _ _ q2 c2 (s.trans s2) rr2⟩⟩
  | .d (.bl false), q, rr => cases rr; exact ⟨false, rfl, ite_ff (k _ _ _ _ _ _ q c s (.bl _))⟩
theorem px_or (ha : PX X W a ta) (hb : PX X W (.BoolOp .Or (b :: rest) pos) tb) : PX X W (.BoolOp .Or (a :: b :: rest) pos) (xOrV ta tb) := by
  refine ⟨(pe_or ha.pe hb.pe).imp fun σ H Q h => ?_⟩
  obtain ⟨A, ρ, μ, G, Qp, xp, S, ht, hx, k⟩ := h
  refine ⟨A, ρ, μ, G, _, xp, S, ht, hx, fun r μ' A' G' H' v q c s rr => ?_⟩
  match r, q, rr with
  | .d (.bl true), q, rr => cases rr; exact ⟨true, rfl, ite_tt (k _ _ _ _ _ _ q c s (.bl _))⟩
  | .d (.bl false), q, rr => cases rr; exact ⟨false, rfl, ite_ff ⟨A', ρ, μ', G', Qp, xp, S.after s c, q, hx.after s, fun r2 μ2 A2 G2 H2 v2 q2 c2 s2 rr2 => k _ _ _ _ _ _ q2 c2 (s.trans s2) rr2⟩⟩
theorem px_not (ha : PX X W a ta) : PX X W (.UnaryOp .Not a pos) (xNotV ta) := by
  refine ⟨(pe_not ha.pe).imp fun σ H Q h => ?_⟩
  obtain ⟨A, ρ, μ, G, Qp, xp, S, ht, hx, k⟩ := h
  refine ⟨A, ρ, μ, G, _, xp, S, ht, hx, fun r μ' A' G' H' v q c s rr => ?_⟩
  match r, q, rr with
  | .d (.bl b), q, rr => cases rr; exact ⟨b, rfl, k _ _ _ _ _ _ q c s (.bl _)⟩
/-- a if t else b -/
def xIf (t : TXT) (ta tb : TX) : TX := fun x ρ μ Q => t x ρ μ fun k μ1 => Br k (ta x ρ μ1 Q) (tb x ρ μ1 Q)
theorem px_if (hc : PXT X W c tA) (ha : PX X W a ta) (hb : PX X W b tb) : PX X W (.IfExp c a b pos) (xIf tA ta tb) := by
  refine ⟨(pe_ifExp hc.pt ha.pe hb.pe).imp fun σ H Q h => ?_⟩
  obtain ⟨A, ρ, μ, G, Qp, xp, S, ht, hx, k⟩ := h
  refine ⟨A, ρ, μ, G, _, xp, S, ht, hx, fun r μ' A' G' H' q c s => ?_⟩
  cases r with
  | true => exact ite_tt ⟨A', ρ, μ', G', Qp, xp, S.after s c, q, hx.after s, fun r2 μ2 A2 G2 H2 v2 q2 c2 s2 rr2 => k _ _ _ _ _ _ q2 c2 (s.trans s2) rr2⟩
  | false => exact ite_ff ⟨A', ρ, μ', G', Qp, xp, S.after s c, q, hx.after s, fun r2 μ2 A2 G2 H2 v2 q2 c2 s2 rr2 => k _ _ _ _ _ _ q2 c2 (s.trans s2) rr2⟩

/-! ### arguments, displays -/
def xNil : TXA := fun _ _ μ Q => Q [] μ
def xCons (ta : TX) (tr : TXA) : TXA := fun x ρ μ Q => ta x ρ μ fun s μ1 => tr x ρ μ1 fun ss μ2 => Q (s :: ss) μ2
variable {tL : TXA}
theorem pxa_nil : PXA X W [] xNil := by
  refine ⟨pa_nil.imp fun σ H Q h => ?_⟩
  obtain ⟨A, ρ, μ, G, Qp, xp, S, ht, hx, k⟩ := h
  exact k _ _ _ _ _ _ ht S.toCells .refl .nil
theorem pxa_cons (ha : PX X W e ta) (hr : PXA X W es tL) (hs : starEach (e :: es) X.env = (false, eval e X.env) :: starEach es X.env := by rfl) : PXA X W (e :: es) (xCons ta tL) := by
  refine ⟨(pa_cons ha.pe hr.pa hs).imp fun σ H Q h => ?_⟩
  obtain ⟨A, ρ, μ, G, Qp, xp, S, ht, hx, k⟩ := h
  refine ⟨A, ρ, μ, G, _, xp, S, ht, hx, fun r μ' A' G' H' v q c s rr => ?_⟩
  exact ⟨A', ρ, μ', G', _, xp, S.after s c, q, hx.after s, fun rs μ2 A2 G2 H2 vs q2 c2 s2 rr2 => k _ _ _ _ _ _ q2 c2 (s.trans s2) (.cons (rr.mono s2.pre s2.le) rr2)⟩
/-- all of them data -/
def allD : List SV → Option (List D)
  | [] => some []
  | .d x :: r => (allD r).map (x :: ·)
  | _ :: _ => none
theorem allD_reps {K : PySem.W.Frag} {A : List Addr} {G : Hp} : ∀ {ss : List SV} {ds : List D} {vs : List V}, allD ss = some ds → RepsS K A G ss vs → Reps K G ds vs
  | [], _, _, e, .nil => by simp [allD] at e; subst e; exact .nil
  | .d x :: r, ds, _, e, .cons h t => by
    simp only [allD, Option.map_eq_some_iff] at e
    obtain ⟨es, e1, rfl⟩ := e
    exact .cons h (allD_reps e1 t)
  | .c _ :: _, _, _, e, _ => by simp [allD] at e
  | .un :: _, _, _, e, _ => by simp [allD] at e
def onD (o : Option (List D)) (q : List D → Prop) : Prop := match o with
  | some ds => q ds
  | none => False
def xTup (t : TXA) : TX := fun x ρ μ Q => t x ρ μ fun ss μ1 => onD (allD ss) fun ds => ds.length ≤ sizeLine ∧ Q (.d (.tup ds)) μ1
def xLst (t : TXA) : TX := fun x ρ μ Q => t x ρ μ fun ss μ1 => onD (allD ss) fun ds => ds.length ≤ sizeLine ∧ Q (.d (.lst ds)) μ1
/-- a list of one's own -/
def xLstC (t : TXA) : TX := fun x ρ μ Q => t x ρ μ fun ss μ1 => onD (allD ss) fun ds => ds.length ≤ sizeLine ∧ Q (.c μ1.length) (μ1 ++ [.lst ds])
theorem onD_of {o : Option (List D)} {q : List D → Prop} (h : onD o q) : ∃ ds, o = some ds ∧ q ds := by
  cases o with
  | none => exact h.elim
  | some ds => exact ⟨ds, rfl, h⟩
theorem px_tup {x1} (h : PXA X W es tL) : PX X W (.Tuple es x1 pos) (xTup tL) := by
  refine ⟨(pe_tup h.pa).imp fun σ H Q h => ?_⟩
  obtain ⟨A, ρ, μ, G, Qp, xp, S, ht, hx, k⟩ := h
  refine ⟨A, ρ, μ, G, _, xp, S, ht, hx, fun rs μ' A' G' H' vs q c s rr => ?_⟩
  obtain ⟨ds, e, hz, q⟩ := onD_of q
  have r := allD_reps e rr
  refine ⟨by rw [← r.length]; exact hz, fun p hp => ?_⟩
  obtain ⟨c2, s2⟩ := c.laid (o := .tup vs) hp
  exact k _ _ _ _ _ _ q c2 (s.trans s2) (Rep.tup upd_same (r.mono s2.le))
theorem px_lst (h : PXA X W es tL) : PX X W (.List es pos) (xLst tL) := by
  refine ⟨(pe_lst h.pa).imp fun σ H Q h => ?_⟩
  obtain ⟨A, ρ, μ, G, Qp, xp, S, ht, hx, k⟩ := h
  refine ⟨A, ρ, μ, G, _, xp, S, ht, hx, fun rs μ' A' G' H' vs q c s rr => ?_⟩
  obtain ⟨ds, e, hz, q⟩ := onD_of q
  have r := allD_reps e rr
  refine ⟨by rw [← r.length]; exact hz, fun p hp => ?_⟩
  obtain ⟨c2, s2⟩ := c.laid (o := .lst vs) hp
  exact k _ _ _ _ _ _ q c2 (s.trans s2) (Rep.lst upd_same (r.mono s2.le))
theorem px_lstC (h : PXA X W es tL) : PX X W (.List es pos) (xLstC tL) := by
  refine ⟨(pe_lst h.pa).imp fun σ H Q h => ?_⟩
  obtain ⟨A, ρ, μ, G, Qp, xp, S, ht, hx, k⟩ := h
  refine ⟨A, ρ, μ, G, _, xp, S, ht, hx, fun rs μ' A' G' H' vs q c s rr => ?_⟩
  obtain ⟨ds, e, hz, q⟩ := onD_of q
  have r := allD_reps e rr
  refine ⟨by rw [← r.length]; exact hz, fun p hp => ?_⟩
  obtain ⟨c2, s2⟩ := c.cell (o := .lst vs) (cl := .lst ds) hp ⟨vs, upd_same, r⟩
  exact k _ _ _ _ _ _ q c2 (s.trans s2) ⟨p, by rw [← c.len]; simp, rfl⟩
end
end PL
/-! The P-layer: calls of built-ins, subscripts, slices, methods. -/
namespace PL
open PySem PySem.Spec PyProof.Rows L2
/-- there is such a thing, and q holds of it -/
def on {α : Type} (o : Option α) (q : α → Prop) : Prop := match o with
  | some a => q a
  | none => False
theorem on_of {α : Type} {o : Option α} {q : α → Prop} (h : on o q) : ∃ a, o = some a ∧ q a := by
  cases o with
  | none => exact h.elim
  | some a => exact ⟨a, rfl, h⟩
def lstOf (s : SV) (μ : Mem) : Option (List D) := match s with
  | .d (.lst l) => some l
  | .c k => match μ[k]? with
    | some (.lst l) => some l
    | _ => none
  | _ => none
def tupOf (s : SV) : Option (List D) := match s with
  | .d (.tup l) => some l
  | _ => none
section
variable {K : PySem.W.Frag} {A : List Addr} {μ : Mem} {G H : Hp} {s : SV} {v : V} {l : List D}
theorem lstOf_rep (e : lstOf s μ = some l) (c : Cells K A μ G H) (r : RepS K A G s v) : ∃ a vs, v = .ref a ∧ H a = some (.lst vs) ∧ Reps K G l vs := by
  unfold lstOf at e
  split at e
  · cases e
    obtain ⟨a, vs, rfl, h, hs⟩ := Reps.sql r
    exact ⟨a, vs, rfl, c.le _ _ h, hs⟩
  · rename_i k
    split at e
    · rename_i l' hk
      cases e
      obtain ⟨a, ha, rfl⟩ := r
      obtain ⟨vs, h, hs⟩ := c.ok _ _ _ ha hk
      exact ⟨a, vs, rfl, h, hs⟩
    · cases e
  · cases e
theorem tupOf_rep (e : tupOf s = some l) (c : Cells K A μ G H) (r : RepS K A G s v) : ∃ a vs, v = .ref a ∧ SqT K H a vs ∧ Reps K G l vs := by
  unfold tupOf at e
  split at e
  · cases e
    obtain ⟨a, vs, rfl, h, hs⟩ := Reps.sq r
    exact ⟨a, vs, rfl, c.le.sqT h, hs⟩
  · cases e
end

/-! ### calls of built-ins -/
def PCall (K : PySem.W.Frag) (r : List V → Hp → VK → Prop) (P : List SV → Mem → VP → Prop) : Prop := ∀ (ss : List SV) (μ : Mem) (A : List Addr) (G H : Hp) (vs : List V) (Qp : VP) (Q : VK), P ss μ Qp → Cells K A μ G H → RepsS K A G ss vs →
  (∀ r μ' A' G' H' v, Qp r μ' → Cells K A' μ' G' H' → Step A G H A' G' H' → RepS K A' G' r v → Q v H') → r vs H Q
def xCall (P : List SV → Mem → VP → Prop) (t : TXA) : TX := fun x ρ μ Q => t x ρ μ fun ss μ1 => P ss μ1 Q
section
variable {X : Cx} {W : WX} {a b c e : Expr} {es : List Expr} {ta tb tc : TX} {tL : TXA} {x : Str} {p pos apos cpos : Pos}
theorem lift_call {r : List V → Hp → VK → Prop} {P : List SV → Mem → VP → Prop} (hp : PCall X.K r P) {σ : L2.St} {H : Hp} {Q : VK} (h : lift X.K W (xCall P tL) σ H Q) : tCB r (liftA X.K W tL) σ H Q := by
  obtain ⟨A, ρ, μ, G, Qp, xp, S, ht, hx, k⟩ := h
  refine ⟨A, ρ, μ, G, _, xp, S, ht, hx, fun ss μ1 A1 G1 H1 vs q c1 s1 r1 => ?_⟩
  exact hp ss μ1 A1 G1 H1 vs Qp Q q c1 r1 fun r μ' A' G' H' v q3 c3 s3 r3 => k r μ' A' G' H' v q3 c3 (s1.trans s3) r3
theorem px_callB {id : String} {r : List V → Hp → VK → Prop} {P : List SV → Mem → VP → Prop} (hc : CallR X (.builtin id) r) (hp : PCall X.K r P) (hg : Gl X x) (hm : X.mg x = none) (hv : bootBuiltins x = some (.builtin id)) (ha : PXA X W (e :: es) tL)
    (hn : x ≠ "__name__" := by decide) (hdb : (x == ("__debug__" : Str)) = false := by decide)
    (he : starEach (e :: es) X.env = (false, eval e X.env) :: starEach es X.env := by rfl) (hpl : (backTo pos (starEach es X.env)).any (·.1) = false := by rfl) : PX X W (.Call (.Name x p) (e :: es) [] pos) (xCall P tL) :=
  ⟨(pe_callB hc hg hm hv ha.pa hn hdb he hpl).imp fun _ _ _ h => lift_call hp h⟩
theorem px_callTy {T : String} {r : List V → Hp → VK → Prop} {P : List SV → Mem → VP → Prop} (hc : CallR X (.type T) r) (hp : PCall X.K r P) (hg : Gl X x) (hm : X.mg x = none) (hv : bootBuiltins x = some (.type T)) (ha : PXA X W (e :: es) tL)
    (hn : x ≠ "__name__" := by decide) (hdb : (x == ("__debug__" : Str)) = false := by decide)
    (he : starEach (e :: es) X.env = (false, eval e X.env) :: starEach es X.env := by rfl) (hpl : (backTo pos (starEach es X.env)).any (·.1) = false := by rfl) : PX X W (.Call (.Name x p) (e :: es) [] pos) (xCall P tL) :=
  ⟨(pe_callTy hc hg hm hv ha.pa hn hdb he hpl).imp fun _ _ _ h => lift_call hp h⟩
theorem CallR.or {f : Value} {r r' : List V → Hp → VK → Prop} (h : CallR X f r) (h' : CallR X f r') : CallR X f (fun xs H Q => r xs H Q ∨ r' xs H Q) := by
  intro pins s σ H xs us Q I rx q
  rcases q with q | q
  · exact h pins s σ H xs us Q I rx q
  · exact h' pins s σ H xs us Q I rx q

/-! #### len -/
def lenOf (s : SV) (μ : Mem) : Option Nat := match s with
  | .d (.tup l) => some l.length
  | .d (.lst l) => some l.length
  | .d (.scr l) => some l.length
  | .d (.str x) => if x.length ≤ sizeLine then some x.length else none
  | .c k => match μ[k]? with
    | some (.lst l) => some l.length
    | _ => none
  | _ => none
def pLen : List SV → Mem → VP → Prop := fun ss μ Q => match ss with
  | [s] => on (lenOf s μ) fun n => Q (.d (.int (n : Nat))) μ
  | _ => False
theorem pcall_len : PCall X.K (fun xs H Q => ∃ x n, xs = [x] ∧ LenV X.K x H n ∧ Q (.int n) H) pLen := by
  intro ss μ A G H vs Qp Q h c rs k
  match ss, h, rs with
  | [s], h, .cons r .nil =>
    obtain ⟨n, e, q⟩ := on_of h
    refine ⟨_, n, rfl, ?_, k _ _ _ _ _ _ q c .refl (.int _)⟩
    unfold lenOf at e
    split at e
    · cases e
      obtain ⟨a, us, rfl, h1, h2⟩ := Reps.sq r
      exact .inr ⟨us, c.le.sqT h1, h2.length⟩
    · cases e
      obtain ⟨a, us, rfl, h1, h2⟩ := Reps.sql r
      exact .inl ⟨us, SqL.of (c.le _ _ h1), h2.length⟩
    · cases e
      cases r with
      | scr h1 => exact .inl ⟨_, c.le.sqL h1, by rw [List.length_map]⟩
    · split at e
      · rename_i hz
        cases e
        cases r
        exact ⟨hz, rfl⟩
      · cases e
    · rename_i k
      split at e
      · rename_i l hk
        cases e
        obtain ⟨a, ha, rfl⟩ := r
        obtain ⟨us, h1, h2⟩ := c.ok _ _ _ ha hk
        exact .inl ⟨us, SqL.of h1, h2.length⟩
      · cases e
    · cases e
theorem px_len (hg : Gl X "len") (hm : X.mg "len" = none) (ha : PXA X W [e] tL) (he : starEach [e] X.env = (false, eval e X.env) :: starEach [] X.env := by rfl) : PX X W (.Call (.Name "len" p) [e] [] pos) (xCall pLen tL) :=
  px_callB call_len pcall_len hg hm (by decide +kernel) ha (by decide) (by decide) he rfl

/-! #### isinstance(x, T), T a built-in class -/
def tyOf (s : SV) (μ : Mem) : Option String := match s with
  | .d .non => some "NoneType"
  | .d (.bl _) => some "bool"
  | .d (.int _) => some "int"
  | .d (.str _) => some "str"
  | .d (.tup _) => some "tuple"
  | .d (.lst _) => some "list"
  | .d (.scr _) => some "list"
  | .d (.dic _ _ _) => some "dict"
  | .c k => match μ[k]? with
    | some (.lst _) => some "list"
    | some (.dK _ _) => some "dict"
    | some (.dT _ _) => some "dict"
    | _ => none
  | _ => none
def tyD : D → Option String
  | .non => some "NoneType"
  | .bl _ => some "bool"
  | .int _ => some "int"
  | .str _ => some "str"
  | .tup _ => some "tuple"
  | .lst _ => some "list"
  | .scr _ => some "list"
  | .dic _ _ _ => some "dict"
  | _ => none
theorem tyOf_d (d : D) (μ : Mem) : tyOf (.d d) μ = tyD d := by cases d <;> rfl
/-- as TyX, and a locked dict with tuple keys -/
def TyY (K : PySem.W.Frag) (H : Hp) (v : V) (t : Value) : Prop := TyX K H v t ∨ ∃ (a : Addr) (o : Obj) (kvs : List (List Key × V)), H a = some (.frz o (.dT kvs)) ∧ v = .ref a ∧ t = .type "dict"
theorem kit_ofY {X : Cx} {pins : List (Addr × Obj)} {σ : L2.St} {H : Hp} {s : Shared} {x : V} {u t : Value} (I : Inv X pins σ H s) (rx : RelV x u) (ty : TyY X.K H x t) : ∃ P : Heap → Prop, PySem.W.KitX X.K u t P ∧ P s.heap ∧ u ≠ .builtin "__main__.__loader__#opaque" := by
  rcases ty with ty | ⟨a, ob, kvs, ea, rfl, rfl⟩
  · exact kit_of I rx ty
  · cases (show u = Value.ref a from rx)
    obtain ⟨_, _, _, xs, _, o, es, ep, h1, h2, _⟩ := (show ObjOk X.prog X.w H s.heap a (.frz ob (.dT kvs)) from I.hok a _ ea)
    exact ⟨_, PySem.W.kitx_dict, ⟨o, h1, h2.1⟩, fun z => nomatch z⟩
def rIsiY (K : PySem.W.Frag) : List V → Hp → VK → Prop := fun xs H Q => ∃ (x c : V) (t u : Value) (b : Bool), xs = [x, c] ∧ ClsV c u ∧ TyY K H x t ∧ PySem.W.kitOne K t u = some b ∧ Q (.bl b) H
theorem call_isiY {X : Cx} : CallR X (.builtin "isinstance") (rIsiY X.K) := by
  intro pins s σ H xs us Q I r h
  obtain ⟨x, c, t, u, b, rfl, k, ty, e, q⟩ := h
  obtain ⟨u1, u2, rfl, r1, r2⟩ := vals2 r
  have e2 := k.eq r2
  subst e2
  obtain ⟨P, Z, p, hx⟩ := kit_ofY I r1 ty
  exact PySem.W.kia_one Z I.kIn p e hx fun tk => ⟨.bl b, H, I.tok tk, rfl, q⟩
theorem tyOf_rep {K : PySem.W.Frag} {A : List Addr} {μ : Mem} {G H : Hp} {s : SV} {v : V} {T : String} (e : tyOf s μ = some T) (c : Cells K A μ G H) (r : RepS K A G s v) : TyY K H v (.type T) := by
  unfold tyOf at e
  split at e
  · cases e; cases r; exact .inl (.base .non)
  · cases e; cases r; exact .inl (.base (.bl _))
  · cases e; cases r; exact .inl (.base (.int _))
  · cases e; cases r; exact .inl (.base (.str _))
  · cases e
    obtain ⟨a, us, rfl, h1, _⟩ := Reps.sq r
    rcases c.le.sqT h1 with (h | ⟨o, h⟩) | ⟨o, _, _, h, hc, _⟩
    · exact .inl (.base (.tup h))
    · exact .inl (.fTuple h)
    · exact .inl (.kTuple h hc)
  · cases e
    obtain ⟨a, us, rfl, h1, _⟩ := Reps.sql r
    exact .inl (.base (.lst (c.le _ _ h1)))
  · cases e
    cases r with
    | scr h1 =>
      rcases c.le.sqL h1 with (h | ⟨o, h⟩) | ⟨o, _, _, h, hc, _⟩
      · exact .inl (.base (.lst h))
      · exact .inl (.base (.frz h))
      · exact .inl (.kList h hc)
  · cases e
    cases r with
    | dicK h _ _ =>
      rcases c.le.rd h with h | ⟨o, h⟩
      · exact .inl (.base (.dK h))
      · exact .inl (.fDict h)
    | dicT h _ _ =>
      rcases c.le.rd h with h | ⟨o, h⟩
      · exact .inl (.base (.dT h))
      · exact .inr ⟨_, _, _, h, rfl, rfl⟩
  · rename_i k
    obtain ⟨a, ha, rfl⟩ := r
    split at e
    · rename_i hk
      cases e
      obtain ⟨us, h1, _⟩ := c.ok _ _ _ ha hk
      exact .inl (.base (.lst h1))
    · rename_i hk
      cases e
      obtain ⟨us, h1, _⟩ := c.ok _ _ _ ha hk
      exact .inl (.base (.dK h1))
    · rename_i hk
      cases e
      obtain ⟨us, h1, _⟩ := c.ok _ _ _ ha hk
      exact .inl (.base (.dT h1))
    · cases e
  · cases e
/-- is the built-in class T that or above it -/
def isTy (T U : String) : Bool := T == U || (T == "bool" && U == "int")
def tyNames : List String := ["NoneType", "bool", "int", "str", "tuple", "list", "dict"]
theorem isTy_ok : (tyNames.all fun T => tyNames.all fun U => decide (kitB T U = some (isTy T U))) = true := by decide +kernel
def pIsi : List SV → Mem → VP → Prop := fun ss μ Q => match ss with
  | [s, .d (.ty U)] => on (tyOf s μ) fun T => (U ∈ tyNames) ∧ Q (.d (.bl (isTy T U))) μ
  | _ => False
theorem tyOf_mem {s : SV} {μ : Mem} {T : String} (e : tyOf s μ = some T) : T ∈ tyNames := by
  unfold tyOf at e
  split at e <;> first
    | (cases e; decide)
    | (split at e <;> first | (cases e; decide) | cases e)
    | cases e
theorem pcall_isi : PCall X.K (rIsiY X.K) pIsi := by
  intro ss μ A G H vs Qp Q h c rs k
  match ss, h, rs with
  | [s, .d (.ty U)], h, .cons r (.cons r2 .nil) =>
    obtain ⟨T, e, hU, q⟩ := on_of h
    cases r2
    have h1 := List.all_eq_true.mp (List.all_eq_true.mp isTy_ok T (tyOf_mem e)) U hU
    exact ⟨_, _, .type T, .type U, isTy T U, rfl, .ty U, tyOf_rep e c r, kit_ty (of_decide_eq_true h1), k _ _ _ _ _ _ q c .refl (.bl _)⟩
theorem px_isi (hg : Gl X "isinstance") (hm : X.mg "isinstance" = none) (ha : PXA X W [a, b] tL) (he : starEach [a, b] X.env = (false, eval a X.env) :: starEach [b] X.env := by rfl) (hpl : (backTo pos (starEach [b] X.env)).any (·.1) = false := by rfl) : PX X W (.Call (.Name "isinstance" p) [a, b] [] pos) (xCall pIsi tL) :=
  px_callB call_isiY pcall_isi hg hm (by decide +kernel) ha (by decide) (by decide) he hpl

/-! #### all, any of a list of bools -/
def bools : List D → Option (List Bool)
  | [] => some []
  | .bl b :: r => (bools r).map (b :: ·)
  | _ :: _ => none
theorem bools_reps {K : PySem.W.Frag} {G : Hp} : ∀ {l : List D} {bs : List Bool} {vs : List V}, bools l = some bs → Reps K G l vs → vs = bs.map V.bl
  | [], _, _, e, .nil => by simp [bools] at e; subst e; rfl
  | .bl b :: r, bs, _, e, .cons h t => by
    simp only [bools, Option.map_eq_some_iff] at e
    obtain ⟨es, e1, rfl⟩ := e
    cases h
    rw [bools_reps e1 t]; rfl
  | .non :: _, _, _, e, _ | .int _ :: _, _, _, e, _ | .str _ :: _, _, _, e, _ | .fn _ :: _, _, _, e, _ | .ty _ :: _, _, _, e, _ | .scr _ :: _, _, _, e, _ | .tup _ :: _, _, _, e, _ | .lst _ :: _, _, _, e, _ | .dic _ _ _ :: _, _, _, e, _ | .obj _ _ _ :: _, _, _, e, _ => by simp [bools] at e
def pAll : List SV → Mem → VP → Prop := fun ss μ Q => match ss with
  | [s] => on ((lstOf s μ).bind bools) fun bs => Q (.d (.bl (bs.all id))) μ
  | _ => False
def pAny : List SV → Mem → VP → Prop := fun ss μ Q => match ss with
  | [s] => on ((lstOf s μ).bind bools) fun bs => Q (.d (.bl (bs.any id))) μ
  | _ => False
theorem pcall_all : PCall X.K (rAll X.K) pAll := by
  intro ss μ A G H vs Qp Q h c rs k
  match ss, h, rs with
  | [s], h, .cons r .nil =>
    obtain ⟨bs, e, q⟩ := on_of h
    obtain ⟨l, e1, e2⟩ := Option.bind_eq_some_iff.mp e
    obtain ⟨a, us, rfl, h1, h2⟩ := lstOf_rep e1 c r
    have := bools_reps e2 h2
    subst this
    exact ⟨a, bs, rfl, SqL.of h1, k _ _ _ _ _ _ q c .refl (.bl _)⟩
theorem pcall_any : PCall X.K (rAny X.K) pAny := by
  intro ss μ A G H vs Qp Q h c rs k
  match ss, h, rs with
  | [s], h, .cons r .nil =>
    obtain ⟨bs, e, q⟩ := on_of h
    obtain ⟨l, e1, e2⟩ := Option.bind_eq_some_iff.mp e
    obtain ⟨a, us, rfl, h1, h2⟩ := lstOf_rep e1 c r
    have := bools_reps e2 h2
    subst this
    exact ⟨a, bs, rfl, SqL.of h1, k _ _ _ _ _ _ q c .refl (.bl _)⟩
theorem px_all (hc : X.calm = true) (hg : Gl X "all") (hm : X.mg "all" = none) (ha : PXA X W [e] tL) (he : starEach [e] X.env = (false, eval e X.env) :: starEach [] X.env := by rfl) : PX X W (.Call (.Name "all" p) [e] [] pos) (xCall pAll tL) :=
  px_callB (cr_all hc) pcall_all hg hm (by decide +kernel) ha (by decide) (by decide) he rfl
theorem px_any (hc : X.calm = true) (hg : Gl X "any") (hm : X.mg "any" = none) (ha : PXA X W [e] tL) (he : starEach [e] X.env = (false, eval e X.env) :: starEach [] X.env := by rfl) : PX X W (.Call (.Name "any" p) [e] [] pos) (xCall pAny tL) :=
  px_callB (cr_any hc) pcall_any hg hm (by decide +kernel) ha (by decide) (by decide) he rfl

/-! #### tuple(x), list(x) -/
def pTupOf : List SV → Mem → VP → Prop := fun ss μ Q => match ss with
  | [s] => on ((lstOf s μ).or (tupOf s)) fun l => Q (.d (.tup l)) μ
  | _ => False
theorem pcall_tup : PCall X.K (fun xs H Q => ∃ p ys, xs = [.ref p] ∧ ((SqL X.K H p ys ∧ ∀ l, H l = none → Q (.ref l) (upd H l (.tup ys))) ∨ (SqT X.K H p ys ∧ Q (.ref p) H))) pTupOf := by
  intro ss μ A G H vs Qp Q h c rs k
  match ss, h, rs with
  | [s], h, .cons r .nil =>
    obtain ⟨l, e, q⟩ := on_of h
    cases e1 : lstOf s μ with
    | some l' =>
      rw [e1] at e
      cases e
      obtain ⟨a, us, rfl, h1, h2⟩ := lstOf_rep e1 c r
      refine ⟨a, us, rfl, .inl ⟨SqL.of h1, fun p hp => ?_⟩⟩
      obtain ⟨c2, s2⟩ := c.laid (o := .tup us) hp
      exact k _ _ _ _ _ _ q c2 s2 (Rep.tup upd_same (h2.mono s2.le))
    | none =>
      rw [e1] at e
      have e2 : tupOf s = some l := e
      obtain ⟨a, us, rfl, h1, h2⟩ := tupOf_rep e2 c r
      refine ⟨a, us, rfl, .inr ⟨h1, k _ _ _ _ _ _ q c .refl ?_⟩⟩
      match s, e2, r with
      | .d (.tup _), e2, r => cases e2; exact r
theorem px_tuple (hg : Gl X "tuple") (hm : X.mg "tuple" = none) (ha : PXA X W [e] tL) (he : starEach [e] X.env = (false, eval e X.env) :: starEach [] X.env := by rfl) : PX X W (.Call (.Name "tuple" p) [e] [] pos) (xCall pTupOf tL) :=
  px_callTy call_tuple_of pcall_tup hg hm (by decide +kernel) ha (by decide) (by decide) he rfl

/-! #### int, abs, divmod, max, min of ints -/
def pInt : List SV → Mem → VP → Prop := fun ss μ Q => match ss with
  | [.d (.int i)] => Q (.d (.int i)) μ
  | [.d (.bl b)] => Q (.d (.int (if b then 1 else 0))) μ
  | _ => False
theorem pcall_int : PCall X.K (fun xs H Q => (∃ i, xs = [.int i] ∧ Q (.int i) H) ∨ ∃ k, xs = [.bl k] ∧ Q (.int (if k then 1 else 0)) H) pInt := by
  intro ss μ A G H vs Qp Q h c rs k
  match ss, h, rs with
  | [.d (.int i)], h, .cons r .nil => cases r; exact .inl ⟨i, rfl, k _ _ _ _ _ _ h c .refl (.int _)⟩
  | [.d (.bl b)], h, .cons r .nil => cases r; exact .inr ⟨b, rfl, k _ _ _ _ _ _ h c .refl (.int _)⟩
theorem px_intc (hg : Gl X "int") (hm : X.mg "int" = none) (ha : PXA X W [e] tL) (he : starEach [e] X.env = (false, eval e X.env) :: starEach [] X.env := by rfl) : PX X W (.Call (.Name "int" p) [e] [] pos) (xCall pInt tL) :=
  px_callTy call_int1 pcall_int hg hm (by decide +kernel) ha (by decide) (by decide) he rfl
def pAbs : List SV → Mem → VP → Prop := fun ss μ Q => match ss with
  | [.d (.int i)] => Q (.d (.int (if i < 0 then -i else i))) μ
  | _ => False
theorem pcall_abs : PCall X.K (fun xs H Q => ∃ i, xs = [.int i] ∧ Q (.int (if i < 0 then -i else i)) H) pAbs := by
  intro ss μ A G H vs Qp Q h c rs k
  match ss, h, rs with
  | [.d (.int i)], h, .cons r .nil => cases r; exact ⟨i, rfl, k _ _ _ _ _ _ h c .refl (.int _)⟩
theorem px_abs (hg : Gl X "abs") (hm : X.mg "abs" = none) (ha : PXA X W [e] tL) (he : starEach [e] X.env = (false, eval e X.env) :: starEach [] X.env := by rfl) : PX X W (.Call (.Name "abs" p) [e] [] pos) (xCall pAbs tL) :=
  px_callB call_abs pcall_abs hg hm (by decide +kernel) ha (by decide) (by decide) he rfl
def pMax : List SV → Mem → VP → Prop := fun ss μ Q => match ss with
  | [.d (.int i), .d (.int j)] => Q (.d (.int (if j > i then j else i))) μ
  | _ => False
def pMin : List SV → Mem → VP → Prop := fun ss μ Q => match ss with
  | [.d (.int i), .d (.int j)] => Q (.d (.int (if j < i then j else i))) μ
  | _ => False
theorem pcall_max : PCall X.K (fun xs H Q => ∃ i j, xs = [.int i, .int j] ∧ Q (.int (if j > i then j else i)) H) pMax := by
  intro ss μ A G H vs Qp Q h c rs k
  match ss, h, rs with
  | [.d (.int i), .d (.int j)], h, .cons r (.cons r2 .nil) => cases r; cases r2; exact ⟨i, j, rfl, k _ _ _ _ _ _ h c .refl (.int _)⟩
theorem pcall_min : PCall X.K (fun xs H Q => ∃ i j, xs = [.int i, .int j] ∧ Q (.int (if j < i then j else i)) H) pMin := by
  intro ss μ A G H vs Qp Q h c rs k
  match ss, h, rs with
  | [.d (.int i), .d (.int j)], h, .cons r (.cons r2 .nil) => cases r; cases r2; exact ⟨i, j, rfl, k _ _ _ _ _ _ h c .refl (.int _)⟩
theorem px_maxI (hc : X.calm = true) (hg : Gl X "max") (hm : X.mg "max" = none) (ha : PXA X W [a, b] tL) (he : starEach [a, b] X.env = (false, eval a X.env) :: starEach [b] X.env := by rfl) (hpl : (backTo pos (starEach [b] X.env)).any (·.1) = false := by rfl) : PX X W (.Call (.Name "max" p) [a, b] [] pos) (xCall pMax tL) :=
  px_callB (call_max2 hc) pcall_max hg hm (by decide +kernel) ha (by decide) (by decide) he hpl
theorem px_minI (hc : X.calm = true) (hg : Gl X "min") (hm : X.mg "min" = none) (ha : PXA X W [a, b] tL) (he : starEach [a, b] X.env = (false, eval a X.env) :: starEach [b] X.env := by rfl) (hpl : (backTo pos (starEach [b] X.env)).any (·.1) = false := by rfl) : PX X W (.Call (.Name "min" p) [a, b] [] pos) (xCall pMin tL) :=
  px_callB (call_min2 hc) pcall_min hg hm (by decide +kernel) ha (by decide) (by decide) he hpl
def pDivmod : List SV → Mem → VP → Prop := fun ss μ Q => match ss with
  | [.d (.int i), .d (.int j)] => CDiv i j ∧ Q (.d (.tup [.int (i / j), .int (i % j)])) μ
  | _ => False
theorem pcall_divmod : PCall X.K (fun xs H Q => ∃ i j, xs = [.int i, .int j] ∧ CDiv i j ∧ ∀ p, H p = none → Q (.ref p) (upd H p (.tup [.int (i / j), .int (i % j)]))) pDivmod := by
  intro ss μ A G H vs Qp Q h c rs k
  match ss, h, rs with
  | [.d (.int i), .d (.int j)], ⟨hd, h⟩, .cons r (.cons r2 .nil) =>
    cases r; cases r2
    refine ⟨i, j, rfl, hd, fun p hp => ?_⟩
    obtain ⟨c2, s2⟩ := c.laid (o := .tup [.int (i / j), .int (i % j)]) hp
    exact k _ _ _ _ _ _ h c2 s2 (Rep.tup upd_same (.cons (.int _) (.cons (.int _) .nil)))
theorem px_divmod (hg : Gl X "divmod") (hm : X.mg "divmod" = none) (ha : PXA X W [a, b] tL) (he : starEach [a, b] X.env = (false, eval a X.env) :: starEach [b] X.env := by rfl) (hpl : (backTo pos (starEach [b] X.env)).any (·.1) = false := by rfl) : PX X W (.Call (.Name "divmod" p) [a, b] [] pos) (xCall pDivmod tL) :=
  px_callB call_divmod pcall_divmod hg hm (by decide +kernel) ha (by decide) (by decide) he hpl

/-! ### subscripts -/
def ixOf (s : SV) (μ : Mem) (i : Int) : Option D := match s with
  | .d (.tup l) => atI l i
  | .d (.lst l) => atI l i
  | .d (.scr l) => (atI l i).map .int
  | .d (.str x) => if x.length ≤ sizeLine then (atI x.cps.toList i).map fun c => .str ⟨#[c]⟩ else none
  | .c k => match μ[k]? with
    | some (.lst l) => atI l i
    | _ => none
  | _ => none
def pIx : SV → SV → Mem → VP → Prop := fun sa sb μ Q => match sb with
  | .d (.int i) => on (ixOf sa μ i) fun d => Q (.d d) μ
  | _ => False
theorem atI_rep {K : PySem.W.Frag} {G : Hp} {l : List D} {vs : List V} {i : Int} {d : D} (r : Reps K G l vs) (e : atI l i = some d) : ∃ v, atI vs i = some v ∧ Rep K G d v := by
  unfold atI at e ⊢
  rw [← r.length]
  obtain ⟨j, e1, e2⟩ := Option.bind_eq_some_iff.mp e
  rw [e1]
  exact r.at e2
theorem pop_ix : POp X.K (rIx X.K) pIx := by
  intro sa sb μ A G H va vb Qp Q h c ra rb k
  match sb, h, rb with
  | .d (.int i), h, rb =>
    cases rb
    obtain ⟨d, e, q⟩ := on_of h
    unfold ixOf at e
    split at e
    · obtain ⟨a, us, rfl, h1, h2⟩ := Reps.sq ra
      obtain ⟨v, e1, r1⟩ := atI_rep h2 e
      exact .inr (.inl ⟨a, us, i, v, rfl, rfl, c.le.sqT h1, e1, k _ _ _ _ _ _ q c .refl r1⟩)
    · obtain ⟨a, us, rfl, h1, h2⟩ := Reps.sql ra
      obtain ⟨v, e1, r1⟩ := atI_rep h2 e
      exact .inl ⟨a, us, i, v, rfl, rfl, SqL.of (c.le _ _ h1), e1, k _ _ _ _ _ _ q c .refl r1⟩
    · obtain ⟨n, e1, rfl⟩ := Option.map_eq_some_iff.mp e
      cases ra with
      | scr h1 =>
        refine .inl ⟨_, _, i, .int n, rfl, rfl, c.le.sqL h1, ?_, k _ _ _ _ _ _ q c .refl (.int _)⟩
        unfold atI at e1 ⊢
        obtain ⟨j, e2, e3⟩ := Option.bind_eq_some_iff.mp e1
        rw [List.length_map, e2]
        simp only [Option.bind_some, List.getElem?_map, e3, Option.map_some]
    · split at e
      · rename_i x hz
        obtain ⟨n, e1, rfl⟩ := Option.map_eq_some_iff.mp e
        cases ra
        exact .inr (.inr ⟨_, i, n, rfl, rfl, hz, e1, k _ _ _ _ _ _ q c .refl (.str _)⟩)
      · cases e
    · rename_i kk
      split at e
      · rename_i l hk
        obtain ⟨a, ha, rfl⟩ := ra
        obtain ⟨us, h1, h2⟩ := c.ok _ _ _ ha hk
        obtain ⟨v, e1, r1⟩ := atI_rep h2 e
        exact .inl ⟨a, us, i, v, rfl, rfl, SqL.of h1, e1, k _ _ _ _ _ _ q c .refl r1⟩
      · cases e
    · cases e
theorem px_ix (ha : PX X W a ta) (hb : PX X W b tb) (hs : PlainIx b := by intro _ _; rfl) : PX X W (.Subscript a b pos) (xOp pIx ta tb) :=
  ⟨(pe_ix ix_seq ha.pe hb.pe hs).imp fun _ _ _ h => lift_op pop_ix h⟩

/-! ### slices -/
def cutD (xs : List D) (lo hi : Option Int) : List D := (xs.drop (HT.sIx xs.length 0 lo)).take (HT.sIx xs.length xs.length hi - HT.sIx xs.length 0 lo)
theorem cutD_rep {K : PySem.W.Frag} {G : Hp} {l : List D} {vs : List V} (r : Reps K G l vs) (lo hi : Option Int) : Reps K G (cutD l lo hi) (cutV vs lo hi) := by
  unfold cutD cutV
  rw [← r.length]
  exact (r.drop _).take _
abbrev TXO := XP → Env' → Mem → (Option Int → Mem → Prop) → Prop
def liftO (K : PySem.W.Frag) (W : WX) (t : TXO) : TO := fun σ H Q => ∃ A ρ μ G Qp x, Sim K A σ ρ μ G H ∧ t x ρ μ Qp ∧ ExTo K W A G H x ∧
  ∀ o μ' A' G' H', Qp o μ' → Cells K A' μ' G' H' → Step A G H A' G' H' → Q o H'
structure PXO (X : Cx) (W : WX) (e : Option Expr) (t : TXO) : Prop where
  po : PO X e (liftO X.K W t)
theorem _root_.L2.PO.imp {X : Cx} {e : Option Expr} {t t' : TO} (h : PO X e t) (i : ∀ σ H Q, t' σ H Q → t σ H Q) : PO X e t' := ⟨fun pins s σ H Q I q => h.run pins s σ H Q I (i _ _ _ q)⟩
def xNoPart : TXO := fun _ _ μ Q => Q none μ
def xPart (t : TX) : TXO := fun x ρ μ Q => t x ρ μ fun s μ1 => match s with
  | .d (.int i) => Q (some i) μ1
  | _ => False
theorem pxo_none : PXO X W none xNoPart := by
  refine ⟨po_none.imp fun σ H Q h => ?_⟩
  obtain ⟨A, ρ, μ, G, Qp, xp, S, ht, hx, k⟩ := h
  exact k _ _ _ _ _ ht S.toCells .refl
theorem pxo_some (h : PX X W e ta) : PXO X W (some e) (xPart ta) := by
  refine ⟨(po_some h.pe).imp fun σ H Q h => ?_⟩
  obtain ⟨A, ρ, μ, G, Qp, xp, S, ht, hx, k⟩ := h
  refine ⟨A, ρ, μ, G, _, xp, S, ht, hx, fun r μ' A' G' H' v q c s rr => ?_⟩
  match r, q, rr with
  | .d (.int i), q, rr => cases rr; exact ⟨i, rfl, k _ _ _ _ _ q c s⟩
def PSl (K : PySem.W.Frag) (r : V → Option Int → Option Int → Hp → VK → Prop) (P : SV → Option Int → Option Int → Mem → VP → Prop) : Prop := ∀ (sa : SV) (lo hi : Option Int) (μ : Mem) (A : List Addr) (G H : Hp) (va : V) (Qp : VP) (Q : VK), P sa lo hi μ Qp → Cells K A μ G H → RepS K A G sa va →
  (∀ r μ' A' G' H' v, Qp r μ' → Cells K A' μ' G' H' → Step A G H A' G' H' → RepS K A' G' r v → Q v H') → r va lo hi H Q
def xSl (P : SV → Option Int → Option Int → Mem → VP → Prop) (ta : TX) (tl th : TXO) : TX := fun x ρ μ Q => ta x ρ μ fun sa μ1 => tl x ρ μ1 fun lo μ2 => th x ρ μ2 fun hi μ3 => P sa lo hi μ3 Q
theorem px_sl {lo hi : Option Expr} {tl th : TXO} {p2 : Pos} {r : V → Option Int → Option Int → Hp → VK → Prop} {P : SV → Option Int → Option Int → Mem → VP → Prop} (hr : SlR X r) (hp : PSl X.K r P) (ha : PX X W a ta) (hl : PXO X W lo tl) (hh : PXO X W hi th) :
    PX X W (.Subscript a (.Slice lo hi none p2) pos) (xSl P ta tl th) := by
  refine ⟨(pe_slice hr ha.pe hl.po hh.po).imp fun σ H Q h => ?_⟩
  obtain ⟨A, ρ, μ, G, Qp, xp, S, ht, hx, k⟩ := h
  refine ⟨A, ρ, μ, G, _, xp, S, ht, hx, fun sa μ1 A1 G1 H1 va q c1 s1 r1 => ?_⟩
  refine ⟨A1, ρ, μ1, G1, _, xp, S.after s1 c1, q, hx.after s1, fun ol μ2 A2 G2 H2 q2 c2 s2 => ?_⟩
  have s12 := s1.trans s2
  refine ⟨A2, ρ, μ2, G2, _, xp, S.after s12 c2, q2, hx.after s12, fun oh μ3 A3 G3 H3 q3 c3 s3 => ?_⟩
  have s23 := s2.trans s3
  exact hp sa ol oh μ3 A3 G3 H3 va Qp Q q3 c3 (r1.mono s23.pre s23.le) fun r μ' A' G' H' v q5 c5 s5 r5 => k r μ' A' G' H' v q5 c5 ((s12.trans s3).trans s5) r5
def pSlT : SV → Option Int → Option Int → Mem → VP → Prop := fun sa lo hi μ Q => on (tupOf sa) fun l => Q (.d (.tup (cutD l lo hi))) μ
def pSlL : SV → Option Int → Option Int → Mem → VP → Prop := fun sa lo hi μ Q => on (lstOf sa μ) fun l => Q (.d (.lst (cutD l lo hi))) μ
theorem psl_tup : PSl X.K (rSlA X.K) pSlT := by
  intro sa lo hi μ A G H va Qp Q h c ra k
  obtain ⟨l, e, q⟩ := on_of h
  obtain ⟨a, us, rfl, h1, h2⟩ := tupOf_rep e c ra
  refine ⟨a, us, rfl, h1, fun hw => ?_, fun _ p hp => ?_⟩
  · have hl : cutD l lo hi = l := by
      unfold cutD
      rw [h2.length, hw.1, hw.2, List.drop_zero, Nat.sub_zero, ← h2.length, List.take_length]
    rw [hl] at q
    refine k _ _ _ _ _ _ q c .refl ?_
    match sa, e, ra with
    | .d (.tup _), e, ra => cases e; exact ra
  · obtain ⟨c2, s2⟩ := c.laid (o := .tup (cutV us lo hi)) hp
    exact k _ _ _ _ _ _ q c2 s2 (Rep.tup upd_same ((cutD_rep h2 lo hi).mono s2.le))
theorem psl_list : PSl X.K (rSlL X.K) pSlL := by
  intro sa lo hi μ A G H va Qp Q h c ra k
  obtain ⟨l, e, q⟩ := on_of h
  obtain ⟨a, us, rfl, h1, h2⟩ := lstOf_rep e c ra
  refine ⟨a, us, rfl, SqL.of h1, fun p hp => ?_⟩
  obtain ⟨c2, s2⟩ := c.laid (o := .lst (cutV us lo hi)) hp
  exact k _ _ _ _ _ _ q c2 s2 (Rep.lst upd_same ((cutD_rep h2 lo hi).mono s2.le))
/-- a slice of the script -/
def pSlS : SV → Option Int → Option Int → Mem → VP → Prop := fun sa lo hi μ Q => match sa with
  | .d (.scr l) => Q (.d (.lst (cutD (l.map .int) lo hi))) μ
  | _ => False
theorem scr_reps {K : PySem.W.Frag} {G : Hp} : ∀ l : List Int, Reps K G (l.map .int) (l.map V.int)
  | [] => .nil
  | i :: l => .cons (.int i) (scr_reps l)
theorem psl_scr : PSl X.K (rSlL X.K) pSlS := by
  intro sa lo hi μ A G H va Qp Q h c ra k
  match sa, h, ra with
  | .d (.scr l), h, ra =>
    cases ra with
    | scr h1 =>
      refine ⟨_, _, rfl, c.le.sqL h1, fun p hp => ?_⟩
      obtain ⟨c2, s2⟩ := c.laid (o := .lst (cutV (l.map V.int) lo hi)) hp
      exact k _ _ _ _ _ _ h c2 s2 (Rep.lst upd_same ((cutD_rep (scr_reps l) lo hi)))
variable {lo hi : Option Expr} {tl th : TXO} {p2 : Pos}
theorem px_slT (ha : PX X W a ta) (hl : PXO X W lo tl) (hh : PXO X W hi th) : PX X W (.Subscript a (.Slice lo hi none p2) pos) (xSl pSlT ta tl th) := px_sl sl_tupA psl_tup ha hl hh
theorem px_slL (ha : PX X W a ta) (hl : PXO X W lo tl) (hh : PXO X W hi th) : PX X W (.Subscript a (.Slice lo hi none p2) pos) (xSl pSlL ta tl th) := px_sl sl_list psl_list ha hl hh
theorem px_slS (ha : PX X W a ta) (hl : PXO X W lo tl) (hh : PXO X W hi th) : PX X W (.Subscript a (.Slice lo hi none p2) pos) (xSl pSlS ta tl th) := px_sl sl_list psl_scr ha hl hh

/-! ### tuple + tuple, list + list -/
def pCatT : SV → SV → Mem → VP → Prop := fun sa sb μ Q => match sa, sb with
  | .d (.tup l), .d (.tup m) => l.length + m.length ≤ sizeLine ∧ Q (.d (.tup (l ++ m))) μ
  | _, _ => False
theorem pop_catT : POp X.K (rCatA X.K) pCatT := by
  intro sa sb μ A G H va vb Qp Q h c ra rb k
  match sa, sb, h, ra, rb with
  | .d (.tup l), .d (.tup m), ⟨hz, h⟩, ra, rb =>
    obtain ⟨a, us, rfl, h1, h2⟩ := Reps.sq ra
    obtain ⟨b, ws, rfl, h3, h4⟩ := Reps.sq rb
    refine ⟨a, b, us, ws, rfl, rfl, c.le.sqT h1, c.le.sqT h3, by rw [← h2.length, ← h4.length]; exact hz, fun e => ?_, fun _ e => ?_, fun _ _ p hp => ?_⟩
    · have hl : l = [] := List.length_eq_zero_iff.mp (by rw [h2.length, e]; rfl)
      subst hl
      exact k _ _ _ _ _ _ h c .refl rb
    · have hl : m = [] := List.length_eq_zero_iff.mp (by rw [h4.length, e]; rfl)
      subst hl
      rw [List.append_nil] at h
      exact k _ _ _ _ _ _ h c .refl ra
    · obtain ⟨c2, s2⟩ := c.laid (o := .tup (us ++ ws)) hp
      exact k _ _ _ _ _ _ h c2 s2 (Rep.tup upd_same ((h2.app h4).mono s2.le))
theorem px_catT (ha : PX X W a ta) (hb : PX X W b tb) : PX X W (.BinOp a .Add b pos) (xOp pCatT ta tb) := px_op op_catA pop_catT ha hb
def pCatL : SV → SV → Mem → VP → Prop := fun sa sb μ Q => on (lstOf sa μ) fun l => on (lstOf sb μ) fun m => l.length + m.length ≤ sizeLine ∧ Q (.d (.lst (l ++ m))) μ
theorem pop_catL {K : PySem.W.Frag} : POp K rCat pCatL := by
  intro sa sb μ A G H va vb Qp Q h c ra rb k
  obtain ⟨l, e1, h⟩ := on_of h
  obtain ⟨m, e2, hz, q⟩ := on_of h
  obtain ⟨a, us, rfl, h1, h2⟩ := lstOf_rep e1 c ra
  obtain ⟨b, ws, rfl, h3, h4⟩ := lstOf_rep e2 c rb
  refine ⟨a, b, us, ws, rfl, rfl, h1, h3, by rw [← h2.length, ← h4.length]; exact hz, fun p hp => ?_⟩
  obtain ⟨c2, s2⟩ := c.laid (o := .lst (us ++ ws)) hp
  exact k _ _ _ _ _ _ q c2 s2 (Rep.lst upd_same ((h2.app h4).mono s2.le))
theorem px_catL (ha : PX X W a ta) (hb : PX X W b tb) : PX X W (.BinOp a .Add b pos) (xOp pCatL ta tb) := px_op op_cat pop_catL ha hb
end
end PL
/-! The P-layer: statements, targets, loops, comprehensions. -/
namespace PL
open PySem PySem.Spec PyProof.Rows L2
section
variable {X : Cx} {W : WX} {a b c e : Expr} {es : List Expr} {ta tb tc te : TX} {tA : TXT} {tL : TXA} {st : Stmt} {rest : List Stmt} {t u : TXS} {pos p : Pos}

/-! ### blocks, small statements -/
def xNext : TXS := fun E ρ μ => E.nx ρ μ
def xSeq (t u : TXS) : TXS := fun E ρ μ => t { E with nx := u E } ρ μ
theorem pss_nil' : PXSs X W [] xNext := by
  refine ⟨pss_nil.imp fun D σ H h => ?_⟩
  obtain ⟨A, ρ, μ, G, E, S, ht, k⟩ := h
  exact k.nx _ _ _ _ _ _ ht S .refl
theorem pxs_cons (h1 : PXS X W st t) (h2 : PXSs X W rest u) : PXSs X W (st :: rest) (xSeq t u) := by
  refine ⟨(pss_cons h1.ps h2.ps).imp fun D σ H h => ?_⟩
  obtain ⟨A, ρ, μ, G, E, S, ht, k⟩ := h
  refine ⟨A, ρ, μ, G, _, S, ht, ?_⟩
  exact ⟨fun ρ' μ' A' σ' G' H' q s s2 => ⟨A', ρ', μ', G', E, s, q, k.after s2⟩, k.bk, k.ct, k.rt, k.ex⟩
theorem pxs_one (h1 : PXS X W st t) : PXSs X W [st] t := ⟨pss_one h1.ps⟩
theorem psx_pass : PXS X W (.Pass pos) xNext := by
  refine ⟨ps_pass.imp fun D σ H h => ?_⟩
  obtain ⟨A, ρ, μ, G, E, S, ht, k⟩ := h
  exact k.nx _ _ _ _ _ _ ht S .refl
def xBreak : TXS := fun E ρ μ => E.bk ρ μ
def xCont : TXS := fun E ρ μ => E.ct ρ μ
theorem psx_break : PXS X W (.Break pos) xBreak := by
  refine ⟨ps_break.imp fun D σ H h => ?_⟩
  obtain ⟨A, ρ, μ, G, E, S, ht, k⟩ := h
  exact k.bk _ _ _ _ _ _ ht S .refl
theorem psx_continue : PXS X W (.Continue pos) xCont := by
  refine ⟨ps_continue.imp fun D σ H h => ?_⟩
  obtain ⟨A, ρ, μ, G, E, S, ht, k⟩ := h
  exact k.ct _ _ _ _ _ _ ht S .refl
def xDrop (te : TX) : TXS := fun E ρ μ => te E.ex ρ μ fun _ μ1 => E.nx ρ μ1
theorem psx_expr (he : PX X W e te) (hs : swapsWith e none pos.line X.env = pure false := by rfl) : PXS X W (.Expr e pos) (xDrop te) := by
  refine ⟨(ps_expr he.pe hs).imp fun D σ H h => ?_⟩
  obtain ⟨A, ρ, μ, G, E, S, ht, k⟩ := h
  exact ⟨A, ρ, μ, G, _, _, S, ht, k.ex, fun r μ' A' G' H' v q c s rr => k.nx _ _ _ _ _ _ q (S.after s c) s⟩
def xRet (te : TX) : TXS := fun E ρ μ => te E.ex ρ μ E.rt
theorem psx_ret (he : PX X W e te) : PXS X W (.Return (some e) pos) (xRet te) := by
  refine ⟨(ps_ret he.pe).imp fun D σ H h => ?_⟩
  obtain ⟨A, ρ, μ, G, E, S, ht, k⟩ := h
  exact ⟨A, ρ, μ, G, _, _, S, ht, k.ex, fun r μ' A' G' H' v q c s rr => k.rt _ _ _ _ _ _ q c s rr⟩
def xRetN : TXS := fun E _ μ => E.rt (.d .non) μ
theorem psx_retN : PXS X W (.Return none pos) xRetN := by
  refine ⟨ps_retN.imp fun D σ H h => ?_⟩
  obtain ⟨A, ρ, μ, G, E, S, ht, k⟩ := h
  exact k.rt _ _ _ _ _ _ ht S.toCells .refl .non
def xIfS (c : TXT) (t u : TXS) : TXS := fun E ρ μ => c E.ex ρ μ fun b μ1 => Br b (t E ρ μ1) (u E ρ μ1)
theorem psx_if {c : Expr} {a b : List Stmt} (hc : PXT X W c tA) (ha : PXSs X W a t) (hb : PXSs X W b u) : PXS X W (.If c a b pos) (xIfS tA t u) := by
  refine ⟨(ps_if hc.pt ha.ps hb.ps).imp fun D σ H h => ?_⟩
  obtain ⟨A, ρ, μ, G, E, S, ht, k⟩ := h
  refine ⟨A, ρ, μ, G, _, _, S, ht, k.ex, fun r μ' A' G' H' q c s => ?_⟩
  cases r with
  | true => exact ite_tt ⟨A', ρ, μ', G', E, S.after s c, q, k.after s⟩
  | false => exact ite_ff ⟨A', ρ, μ', G', E, S.after s c, q, k.after s⟩
def xNever : TXS := fun _ _ _ => False
theorem psx_never : PXS X W st xNever := by
  refine ⟨ps_never.imp fun D σ H h => ?_⟩
  obtain ⟨A, ρ, μ, G, E, S, ht, k⟩ := h
  exact ht
theorem pxs_never {sts : List Stmt} : PXSs X W sts xNever := by
  refine ⟨pss_never.imp fun D σ H h => ?_⟩
  obtain ⟨A, ρ, μ, G, E, S, ht, k⟩ := h
  exact ht

/-! ### targets -/
abbrev TXG := XP → SV → Env' → Mem → (Env' → Mem → Prop) → Prop
abbrev TXGs := XP → List D → Env' → Mem → (Env' → Mem → Prop) → Prop
/-- the slots of own apart, the frame is as it was -/
def Keeps (own : List Nat) (σ σ' : L2.St) : Prop := L2.wipe σ' own = L2.wipe σ own
theorem Keeps.refl {own : List Nat} {σ : L2.St} : Keeps own σ σ := rfl
theorem Keeps.trans {own : List Nat} {σ σ1 σ2 : L2.St} (a : Keeps own σ σ1) (b : Keeps own σ1 σ2) : Keeps own σ σ2 := Eq.trans b a
theorem wipe_set (σ : L2.St) (i : Nat) (x : Option V) : ∀ vs : List Nat, (i ∈ vs → L2.wipe (σ.set i x) vs = L2.wipe σ vs) ∧ (i ∉ vs → L2.wipe (σ.set i x) vs = (L2.wipe σ vs).set i x)
  | [] => ⟨fun h => absurd h (by simp), fun _ => rfl⟩
  | v :: vs => by
    obtain ⟨h1, h2⟩ := wipe_set σ i x vs
    refine ⟨fun h => ?_, fun h => ?_⟩
    · show (L2.wipe (σ.set i x) vs).set v none = (L2.wipe σ vs).set v none
      by_cases hm : i ∈ vs
      · rw [h1 hm]
      · rcases List.mem_cons.mp h with e | e
        · subst e
          rw [h2 hm, List.set_set]
        · exact absurd e hm
    · show (L2.wipe (σ.set i x) vs).set v none = ((L2.wipe σ vs).set v none).set i x
      rw [h2 (fun z => h (List.mem_cons_of_mem _ z)), List.set_comm _ _ (fun e => h (by rw [e]; exact List.mem_cons_self))]
theorem Keeps.set {own : List Nat} {σ : L2.St} {i : Nat} {x : Option V} (h : i ∈ own) : Keeps own σ (σ.set i x) := (wipe_set σ i x own).1 h
def liftG (K : PySem.W.Frag) (W : WX) (own : List Nat) (g : TXG) : TG := fun v σ H Q => ∃ A ρ μ G s Qp x, Sim K A σ ρ μ G H ∧ RepS K A G s v ∧ g x s ρ μ Qp ∧ ExTo K W A G H x ∧
  ∀ ρ' μ' A' σ' G' H', Qp ρ' μ' → Sim K A' σ' ρ' μ' G' H' → Step A G H A' G' H' → Keeps own σ σ' → Q σ' H'
def liftGs (K : PySem.W.Frag) (W : WX) (own : List Nat) (g : TXGs) : TGs := fun vs σ H Q => ∃ A ρ μ G ds Qp x, Sim K A σ ρ μ G H ∧ Reps K G ds vs ∧ g x ds ρ μ Qp ∧ ExTo K W A G H x ∧
  ∀ ρ' μ' A' σ' G' H', Qp ρ' μ' → Sim K A' σ' ρ' μ' G' H' → Step A G H A' G' H' → Keeps own σ σ' → Q σ' H'
structure PXG (X : Cx) (W : WX) (own : List Nat) (e : Expr) (g : TXG) : Prop where
  pg : PG X e (liftG X.K W own g)
structure PXGs (X : Cx) (W : WX) (own : List Nat) (es : List Expr) (g : TXGs) : Prop where
  pg : PGs X es (liftGs X.K W own g)
theorem _root_.L2.PG.imp {X : Cx} {e : Expr} {t t' : TG} (h : PG X e t) (i : ∀ v σ H Q, t' v σ H Q → t v σ H Q) : PG X e t' := ⟨fun pins s σ H v u Q I r q => h.run pins s σ H v u Q I r (i _ _ _ _ q)⟩
theorem _root_.L2.PGs.imp {X : Cx} {e : List Expr} {t t' : TGs} (h : PGs X e t) (i : ∀ v σ H Q, t' v σ H Q → t v σ H Q) : PGs X e t' := ⟨fun pins s σ H v u Q I r q => h.run pins s σ H v u Q I r (i _ _ _ _ q)⟩
theorem Sim.set {K : PySem.W.Frag} {A : List Addr} {σ : L2.St} {ρ : Env'} {μ : Mem} {G H : Hp} {s : SV} {v : V} (S : Sim K A σ ρ μ G H) (i : Nat) (r : RepS K A G s v) : Sim K A (σ.set i (some v)) (ρ.set i s) μ G H where
  toCells := S.toCells
  sl := by simp [S.sl]
  at_ := fun j s' e => by
    by_cases h : i = j
    · subst h
      have hl : i < ρ.length := by
        have := (List.getElem?_eq_some_iff.mp e).1
        simpa using this
      rw [List.getElem?_set_self hl] at e
      cases e
      refine ⟨some v, ?_, ?_⟩
      · rw [List.getElem?_set_self (by rw [← S.sl]; exact hl)]
      · cases s with
        | un => trivial
        | d x => exact ⟨v, rfl, r⟩
        | c k => exact ⟨v, rfl, r⟩
    · rw [List.getElem?_set_ne h] at e
      obtain ⟨o, e1, q⟩ := S.at_ j s' e
      exact ⟨o, by rw [List.getElem?_set_ne h]; exact e1, q⟩
def xName (i : Nat) : TXG := fun _ s ρ μ Q => Q (ρ.set i s) μ
theorem pxg_name {i : Nat} {own : List Nat} {x : Str} (ho : i ∈ own) (hN : X.N.Nodup) (hi : X.N[i]? = some x) (hx : Loc X.env.scope x) (hf : X.fn x = true ∨ X.env.scope.names.lookup x = some .local := by first | exact .inl rfl | exact .inr rfl | assumption) : PXG X W own (.Name x pos) (xName i) := by
  refine ⟨(pg_name hN hi hx hf).imp fun v σ H Q h => ?_⟩
  obtain ⟨A, ρ, μ, G, s, Qp, x, S, r, ht, hx, k⟩ := h
  exact k _ _ _ _ _ _ ht (S.set i r) .refl (Keeps.set ho)
def xgNil : TXGs := fun _ ds ρ μ Q => match ds with
  | [] => Q ρ μ
  | _ => False
def xgCons (g : TXG) (gs : TXGs) : TXGs := fun x ds ρ μ Q => match ds with
  | d :: r => g x (.d d) ρ μ fun ρ1 μ1 => gs x r ρ1 μ1 Q
  | [] => False
variable {g : TXG} {gs : TXGs} {own : List Nat}
theorem pxgs_nil : PXGs X W own [] xgNil := by
  refine ⟨pgs_nil.imp fun v σ H Q h => ?_⟩
  obtain ⟨A, ρ, μ, G, ds, Qp, x, S, r, ht, hx, k⟩ := h
  match ds, r, ht with
  | [], .nil, ht => exact ⟨rfl, k _ _ _ _ _ _ ht S .refl .refl⟩
theorem pxgs_cons (h1 : PXG X W own e g) (h2 : PXGs X W own es gs) (hs : (assignEach (e :: es) X.env).map (·.2) = assign e X.env :: (assignEach es X.env).map (·.2) := by rfl) : PXGs X W own (e :: es) (xgCons g gs) := by
  refine ⟨(pgs_cons h1.pg h2.pg hs).imp fun v σ H Q h => ?_⟩
  obtain ⟨A, ρ, μ, G, ds, Qp, x, S, r, ht, hx, k⟩ := h
  match ds, r, ht with
  | d :: ds, .cons r rr, ht =>
    refine ⟨_, _, rfl, A, ρ, μ, G, .d d, _, x, S, r, ht, hx, fun ρ' μ' A' σ' G' H' q s s2 kp => ?_⟩
    exact ⟨A', ρ', μ', G', ds, _, x, s, rr.mono s2.le, q, hx.after s2, fun ρ3 μ3 A3 σ3 G3 H3 q3 s3 s23 kp2 => k _ _ _ _ _ _ q3 s3 (s2.trans s23) (kp.trans kp2)⟩
/-- (a, b, ..) = a tuple -/
def xgTup (n : Nat) (gs : TXGs) : TXG := fun x s ρ μ Q => match s with
  | .d (.tup ds) => ds.length = n ∧ gs x ds ρ μ Q
  | _ => False
theorem pxg_tup {k : Nat} {n : Nat} (hc : X.calm = true) (h : PXGs X W own es gs) (hn : (assignEach es X.env).length = n := by rfl) (hst : (assignEach es X.env).findIdx? (·.1) = none := by rfl) : PXG X W own (.Tuple es k pos) (xgTup n gs) := by
  refine ⟨(pg_tup hc h.pg hn hst).imp fun v σ H Q h => ?_⟩
  obtain ⟨A, ρ, μ, G, s, Qp, x, S, r, ht, hx, k⟩ := h
  match s, r, ht with
  | .d (.tup ds), r, ⟨hl, ht⟩ =>
    obtain ⟨a, us, rfl, h1, h2⟩ := Reps.sq r
    exact ⟨a, us, rfl, S.le.sqT h1, by rw [← h2.length]; exact hl, A, ρ, μ, G, ds, _, x, S, h2, ht, hx, k⟩
/-- l[i] = .., l a list of one's own -/
def xgSub (to ti : TX) : TXG := fun x s ρ μ Q => to x ρ μ fun so μ1 => ti x ρ μ1 fun si μ2 => match so, si, s with
  | .c k, .d (.int i), .d v => match μ2[k]? with
    | some (.lst l) => on (ixN l.length i) fun j => Q ρ (μ2.set k (.lst (l.set j v)))
    | _ => False
  | _, _, _ => False
theorem pxg_sub {o i : Expr} {to ti : TX} (ho : PX X W o to) (hi : PX X W i ti)
    (ha : ∀ v, assign (.Subscript o i pos) X.env v = (do
      let ov ← holding [v] (eval o X.env)
      let iv ← holding [v, ov] (eval i X.env)
      standAt pos
      holding [v, ov, iv] (setItem ov iv v)
      release [v, ov, iv] []) := by intro _; rfl) : PXG X W own (.Subscript o i pos) (xgSub to ti) := by
  refine ⟨(pg_sub ho.pe hi.pe set_list ha).imp fun v σ H Q h => ?_⟩
  obtain ⟨A, ρ, μ, G, s, Qp, x, S, r, ht, hx, k⟩ := h
  refine ⟨A, ρ, μ, G, _, x, S, ht, hx, fun so μ1 A1 G1 H1 vo q c1 s1 r1 => ?_⟩
  refine ⟨A1, ρ, μ1, G1, _, x, S.after s1 c1, q, hx.after s1, fun si μ2 A2 G2 H2 vi q2 c2 s2 r2 => ?_⟩
  match so, si, s, r1, r2, r, q2 with
  | .c kk, .d (.int j), .d w, r1, r2, r, q2 =>
    obtain ⟨a, ha, rfl⟩ := r1
    cases r2
    simp only at q2
    split at q2
    · rename_i l hk
      obtain ⟨n, hn, q⟩ := on_of q2
      have ha2 : A2[kk]? = some a := by
        obtain ⟨B, rfl⟩ := s2.pre
        rw [List.getElem?_append_left (List.getElem?_eq_some_iff.mp ha).1]; exact ha
      obtain ⟨us, h1, h2⟩ := c2.ok _ _ _ ha2 hk
      have s12 := s1.trans s2
      refine ⟨a, us, j, n, rfl, rfl, h1, by rw [← h2.length]; exact hn, ?_⟩
      obtain ⟨c3, s3⟩ := c2.write (o := .lst (us.set n v)) (cl := .lst (l.set n w)) ha2 ⟨_, upd_same, h2.set (Rep.mono s12.le r) n⟩
      exact k _ _ _ _ _ _ q (S.after (s12.trans s3) c3) (s12.trans s3) .refl
    · exact q2.elim
/-- target = e -/
def xAsg (te : TX) (g : TXG) : TXS := fun E ρ μ => te E.ex ρ μ fun s μ1 => g E.ex s ρ μ1 E.nx
theorem psx_asg {tg : Expr} (he : PX X W e te) (hg : PXG X W own tg g) (hs : swapsWithSole [tg] e pos.line X.env = pure false := by rfl) (hw : swappedStores [tg] e X.env = pure none := by rfl)
    (h1 : (assignEach [tg] X.env).map (·.2) = [assign tg X.env] := by rfl) : PXS X W (.Assign [tg] e pos) (xAsg te g) := by
  refine ⟨(ps_asg he.pe hg.pg hs hw h1).imp fun D σ H h => ?_⟩
  obtain ⟨A, ρ, μ, G, E, S, ht, k⟩ := h
  refine ⟨A, ρ, μ, G, _, _, S, ht, k.ex, fun s μ1 A1 G1 H1 v q c1 s1 r1 => ?_⟩
  exact ⟨A1, ρ, μ1, G1, s, _, _, S.after s1 c1, r1, q, k.ex.after s1, fun ρ' μ' A' σ' G' H' q' S' s' _ => k.nx _ _ _ _ _ _ q' S' (s1.trans s')⟩
theorem psx_set {i : Nat} {x : Str} {pos' : Pos} (hN : X.N.Nodup) (hi : X.N[i]? = some x) (hx : Loc X.env.scope x) (he : PX X W e te) (hs : swapsWith e (some (.Name x pos')) pos.line X.env = pure false := by rfl) (hf : X.fn x = true ∨ X.env.scope.names.lookup x = some .local := by first | exact .inl rfl | exact .inr rfl | assumption) :
    PXS X W (.Assign [.Name x pos'] e pos) (xAsg te (xName i)) := by
  refine ⟨(ps_set hN hi hx he.pe hs hf).imp fun D σ H h => ?_⟩
  obtain ⟨A, ρ, μ, G, E, S, ht, k⟩ := h
  exact ⟨A, ρ, μ, G, _, _, S, ht, k.ex, fun s μ1 A1 G1 H1 v q c1 s1 r1 => k.nx _ _ _ _ _ _ q ((S.after s1 c1).set i r1) s1⟩
/-- a, b = x, y, plain local names -/
def xPar (i j : Nat) (t : TXA) : TXS := fun E ρ μ => t E.ex ρ μ fun ss μ1 => match ss with
  | [s, r] => E.nx ((ρ.set i s).set j r) μ1
  | _ => False
theorem psx_par {i j : Nat} {x y : Str} {px py pt : Pos} {kt k2 pt2} (hc : X.calm = true) (hN : X.N.Nodup) (hi : X.N[i]? = some x) (hj : X.N[j]? = some y) (hij : i ≠ j)
    (hx : X.env.scope.names.lookup x = some .local) (hy : X.env.scope.names.lookup y = some .local) (ha : PXA X W [a, b] tL)
    (hw : swappedStores [.Tuple [.Name x px, .Name y py] kt pt] (.Tuple [a, b] k2 pt2) X.env = pure (some [x, y]))
    (hs : swapsWithSole [.Tuple [.Name x px, .Name y py] kt pt] (.Tuple [a, b] k2 pt2) pos.line X.env = pure false := by rfl) :
    PXS X W (.Assign [.Tuple [.Name x px, .Name y py] kt pt] (.Tuple [a, b] k2 pt2) pos) (xPar i j tL) := by
  refine ⟨(ps_par hc hN hi hj hij hx hy ha.pa hw hs).imp fun D σ H h => ?_⟩
  obtain ⟨A, ρ, μ, G, E, S, ht, k⟩ := h
  refine ⟨A, ρ, μ, G, _, _, S, ht, k.ex, fun ss μ1 A1 G1 H1 vs q c1 s1 r1 => ?_⟩
  match ss, r1, q with
  | [s, r], .cons h1 (.cons h2 .nil), q => exact ⟨_, _, rfl, k.nx _ _ _ _ _ _ q (((S.after s1 c1).set i h1).set j h2) s1⟩

/-! ### while -/
def xWhile (c : TXT) (tb : TXS) : TXS := fun E ρ μ => ∃ I : Nat → Env' → Mem → Prop, (∃ m, I m ρ μ) ∧ ∀ m ρ μ, I m ρ μ → c E.ex ρ μ fun b μ1 =>
  Br b (tb { E with nx := fun ρ' μ' => ∃ m', m' < m ∧ I m' ρ' μ', ct := fun ρ' μ' => ∃ m', m' < m ∧ I m' ρ' μ', bk := E.nx } ρ μ1) (E.nx ρ μ1)
theorem psx_while {c : Expr} {body : List Stmt} (hp : PassesOwn (model X.prog X.w) X.A X.env X.xe) (hc : PXT X W c tA) (hb : PXSs X W body t) : PXS X W (.While c body [] pos) (xWhile tA t) := by
  refine ⟨(ps_while hp hc.pt hb.ps).imp fun D σ H h => ?_⟩
  obtain ⟨A, ρ, μ, G, E, S, ⟨I, ⟨m0, i0⟩, turn⟩, k⟩ := h
  refine ⟨fun m σ' H' => ∃ A' ρ' μ' G', I m ρ' μ' ∧ Sim X.K A' σ' ρ' μ' G' H' ∧ Step A G H A' G' H', ⟨m0, A, ρ, μ, G, i0, S, .refl⟩, ?_⟩
  rintro m σ1 H1 ⟨A1, ρ1, μ1, G1, i1, S1, s1⟩
  refine ⟨A1, ρ1, μ1, G1, _, _, S1, turn m ρ1 μ1 i1, k.ex.after s1, fun b μ2 A2 G2 H2 q c2 s2 => ?_⟩
  have s12 := s1.trans s2
  cases b with
  | true =>
    refine ite_tt ⟨fun σ' H' => ∃ m', m' < m ∧ ∃ A' ρ' μ' G', I m' ρ' μ' ∧ Sim X.K A' σ' ρ' μ' G' H' ∧ Step A G H A' G' H', fun σ' H' z => z, ?_⟩
    refine ⟨A2, ρ1, μ2, G2, _, S1.after s2 c2, q, ?_⟩
    have fin : ∀ ρ' μ' A' σ' G' H', (∃ m', m' < m ∧ I m' ρ' μ') → Sim X.K A' σ' ρ' μ' G' H' → Step A2 G2 H2 A' G' H' → ∃ m', m' < m ∧ ∃ A' ρ' μ' G', I m' ρ' μ' ∧ Sim X.K A' σ' ρ' μ' G' H' ∧ Step A G H A' G' H' := fun ρ' μ' A' σ' G' H' ⟨m', hm, i'⟩ S' s' => ⟨m', hm, A', ρ', μ', G', i', S', s12.trans s'⟩
    exact ⟨fin, fun ρ' μ' A' σ' G' H' q' S' s' => k.nx _ _ _ _ _ _ q' S' (s12.trans s'), fin, (k.after s12).rt, (k.after s12).ex⟩
  | false => exact ite_ff (k.nx _ _ _ _ _ _ q (S1.after s2 c2) s12)
end
end PL
/-! The P-layer: what is walked; for; comprehensions. -/
namespace PL
open PySem PySem.Spec PyProof.Rows L2

/-! ### enumerate over a tuple -/
def IteT (K : PySem.W.Frag) (a : Addr) : It where
  go i H := ∃ (xs : List V) (x : V), SqT K H a xs ∧ xs[i]? = some x
  yld i H v H' := ∃ T x, v = .ref T ∧ H T = none ∧ H' = upd H T (.tup [.int (i : Nat), x]) ∧ ∀ xs, SqT K H a xs → xs[i]? = some x
  stop i H := ∃ xs : List V, SqT K H a xs ∧ xs.length = i
theorem turn_enumT {P : Program} {w : World} {K : PySem.W.Frag} {elts : List Expr} {kk : Nat} {tpos : Pos} (a e it : Addr) :
    Turn P w K (.Tuple elts kk tpos) (IteT K a) [e, it] e (fun i h => (∃ old, IsEnum h e it ((i : Nat) : Int) old) ∧ h.IsTupleIter it a i ∧ e ≠ it) where
  mem := List.mem_cons_self
  obj := fun i h st b hb => by
    obtain ⟨⟨old, he⟩, ⟨o, ho, hc, hd⟩, _⟩ := st
    rcases List.mem_cons.mp hb with z | hb
    · subst z; exact ⟨_, he, fun v q => nomatch q⟩
    · rcases List.mem_cons.mp hb with z | hb
      · subst z; exact ⟨o, ho, fun v q => by rw [hd] at q; cases q⟩
      · cases hb
  keep := fun i h h' st k => let ⟨⟨old, he⟩, hi, hne⟩ := st; ⟨⟨old, k e (by simp) _ he⟩, hi.at fun o q => k it (by simp) o q, hne⟩
  item := by
    intro X hP hw hK hc i pins s σ H E I hf st hg
    subst hP hw hK
    obtain ⟨⟨old, he⟩, hit, hne⟩ := st
    obtain ⟨xs, x, hq, hx⟩ := hg
    obtain ⟨its, rv, p, hz⟩ := I.tuple hq
    obtain ⟨u, hu, ru⟩ := rv.get hx
    have hel : e < s.heap.objs.size := Heap.lt_size he
    have hil : it < s.heap.objs.size := by obtain ⟨_, q, _⟩ := hit; exact Heap.lt_size q
    have hea : e ≠ a := fun z => by
      obtain ⟨o, e1, c1, _⟩ := p
      rw [← z] at e1
      have e2 : s.heap.get? e = some o := e1
      rw [show s.heap.get? e = _ from he] at e2
      cases e2
      exact absurd (Value.type.inj c1) (by decide)
    have hia : a ≠ it := fun z => by
      obtain ⟨o, e1, c1, _⟩ := p
      obtain ⟨o2, e2, c2, _⟩ := hit
      rw [z, e2] at e1
      cases e1
      rw [c1] at c2
      exact absurd (Value.type.inj c2) (by decide)
    have hi : i < its.toArray.size := by
      have := (List.getElem?_eq_some_iff.mp hu).1
      simpa using this
    refine wpAny_pyNext_enum_itemC (Draws.tuple (A := X.A.in1) (I.ok.hd hc) it a hia its.toArray) he ⟨hit, p⟩ hi hne (by simp [hne, hea]) fun y h' tk hy ho hst hT hsz hk => ?_
    have ey : y = u := by
      rw [List.getElem?_toArray, hu] at hy
      exact (Option.some.inj hy).symm
    subst ey
    refine ⟨_, rfl, wpAny_letOwnedTupleGo_enum (s := { s with heap := h', toks := tk + 1 }) ho fun h'' he' sb => ?_⟩
    have hT2 := (sb.2 _ (Nat.ne_of_gt hel)).trans hT
    have new : ObjOk X.prog X.w (upd H s.heap.objs.size (.tup [.int (i : Nat), x])) h'' s.heap.objs.size (.tup [.int (i : Nat), x]) :=
      ⟨by show 2 ≤ sizeLine; decide, [.int i tk, y], .cons ⟨_, rfl⟩ (.cons ru .nil), ⟨_, hT2, rfl, _, rfl⟩⟩
    have I1 := I.turnedNew (t' := tk + 1) (ch := [e, it]) (fun b ob hb q => (sb.2 b (fun z => hb (by simp [z]))).trans (hk b ob (fun z => hb (by simp [z])) (fun z => hb (by simp [z])) q)) hf (Nat.le_refl _) new
    refine ⟨.ref s.heap.objs.size, _, I1, rfl, ⟨_, x, rfl, I.hok.fresh (Nat.le_refl _), rfl, fun ys hy => by rw [I.tuple_inj hy hq]; exact hx⟩, ⟨⟨y, ?_⟩, hst.1.at fun o q => (sb.2 it (Ne.symm hne)).trans q, hne⟩, fun b hb => ?_⟩
    · have e1 : ((i + 1 : Nat) : Int) = (i : Int) + 1 := by omega
      rw [e1]; exact he'
    · have hb' : b < s.heap.objs.size := by
        rcases List.mem_cons.mp hb with z | hb
        · subst z; exact hel
        · rcases List.mem_cons.mp hb with z | hb
          · subst z; exact hil
          · cases hb
      rw [upd_ne (Nat.ne_of_lt hb')]
      exact (hf b hb).1
  done := by
    intro X hP hw hK hc i pins s σ H E I hf st hg
    subst hP hw hK
    obtain ⟨⟨old, he⟩, hit, hne⟩ := st
    obtain ⟨xs, hq, hx⟩ := hg
    obtain ⟨its, rv, p, hz⟩ := I.tuple hq
    have hl := rv.length
    have hia : a ≠ it := fun z => by
      obtain ⟨o, e1, c1, _⟩ := p
      obtain ⟨o2, e2, c2, _⟩ := hit
      rw [z, e2] at e1
      cases e1
      rw [c1] at c2
      exact absurd (Value.type.inj c2) (by decide)
    obtain ⟨f0, f1, f2, f3, f4, f5⟩ := hf it (by simp)
    have hn : i = its.toArray.size := by simp; omega
    subst hn
    exact wpAny_pyNext_enum_endD (Draws.tuple (A := X.A.in1) (I.ok.hd hc) it a hia its.toArray) he ⟨hit, p⟩ fun h' eb => ⟨rfl, I.turned (t' := s.toks) (fun b o hb q => eb b o hb q) f0 f1 f3 f4 f5⟩
  self := fun A i s Q E st h => let ⟨⟨_, he⟩, _⟩ := st; wpAny_pyIter_enum he h

theorem meets_enum1 {v : Value} {o : Obj} {H : Heap → Prop} (B : Begins v o H) :
    Meets (Builtin.«enumerate.__new__» ⟨[.type "enumerate", v], []⟩) (fun _ R s => H s.heap ∧
      R (.ok (.ret (.ref (s.heap.push o).objs.size))) { s with heap := (s.heap.push o).push { cls := .type "enumerate", data := .fields #[.none, .bool false, .ref s.heap.objs.size, rawInt 0, .none, .none] } }) :=
  .of_wp fun prog w A R s h => by
    obtain ⟨hp, g, d, tk, os⟩ := s
    obtain ⟨h1, h⟩ := h
    have hsub := sub_enumerate
    have q1 : ∀ {A' : Around} {E : Value → Shared → Prop} {Q : Value → Shared → Prop}, Q (.ref hp.objs.size) ⟨hp.push o, g, d, tk, os⟩ → wpAny (model prog w) A' (pyIter v) Q E ⟨hp, g, d, tk, os⟩ :=
      fun q => B.iter prog w _ _ ⟨hp, g, d, tk, os⟩ _ h1 q
    wp_walk using q1
    refine wpAny_stack_any fun st => wpAny_pure ?_
    split
    · rename_i c _ _ _ _ _
      cases (c == Value.type "enumerate")
      all_goals
        wp_walk using q1
        exact ⟨_, rfl, h⟩
    · wp_walk using q1
      exact ⟨_, rfl, h⟩
theorem call_enum1 {prog : Program} {w : World} {A : Around} {E : Value → Shared → Prop} {s : Shared} {v : Value} {o : Obj} {H : Heap → Prop} {Q : Value → Shared → Prop} (B : Begins v o H) (h1 : H s.heap)
    (h : ∀ h', IsEnum h' (s.heap.objs.size + 1) s.heap.objs.size 0 .none → h'.get? s.heap.objs.size = some o → (∀ b o, s.heap.get? b = some o → h'.get? b = some o) → Q (.ref (s.heap.objs.size + 1)) { s with heap := h' }) :
    wpAny (model prog w) A (call (.type "enumerate") [v]) Q E s := by
  refine callType_new F.called_enumerate (by decide) (F.typeCall_enumerate_1 _) (F.newCall_enumerate_1 _) (fun obj => F.args_object_init_2 obj _) F.entry_enumerate_new (meets_enum1 B) ⟨h1, ?_⟩
  have hz : (s.heap.push o).objs.size = s.heap.objs.size + 1 := Heap.size_push ..
  show _ ∧ _
  rw [hz]
  have he := Heap.get?_push_size (s.heap.push o) (o := { cls := .type "enumerate", data := .fields #[.none, .bool false, .ref s.heap.objs.size, rawInt 0, .none, .none] }) rfl
  rw [hz] at he
  exact ⟨⟨_, he, rfl⟩, h _ he (Heap.get?_push_of_some _ (Heap.get?_push_size _ B.free)) fun b o x => Heap.get?_push_of_some _ (Heap.get?_push_of_some _ x)⟩
def iEnumT (K : PySem.W.Frag) (ta : TA) : TI := fun σ H R => ta σ H fun vs H1 => ∃ a xs, vs = [.ref a] ∧ SqT K H1 a xs ∧ R (IteT K a) H1
theorem pi_enumT {X : Cx} {e : Expr} {ta : TA} {p pos tpos : Pos} {elts : List Expr} {kk : Nat} (hg : Gl X "enumerate") (hm : X.mg "enumerate" = none) (ha : PA X [e] ta) (hs : starEach [e] X.env = [(false, eval e X.env)] := by rfl) :
    PI X (.Tuple elts kk tpos) (.Call (.Name "enumerate" p) [e] [] pos) (iEnumT X.K ta) := by
  refine ⟨fun pins s σ H R I h => ?_⟩
  refine Call_ (ld_blt I hg hm boot_enumerate (PyProof.Rows.callWith_type1 (thn (ha.run pos pins s σ H _ I h) fun us s1 ⟨vs, H1, I1, r1, q1⟩ => ?_) hs rfl))
  obtain ⟨a, xs, ex, hq, q⟩ := q1
  subst ex
  cases r1 with
  | cons r rr =>
    cases rr
    cases r
    obtain ⟨its, rv, p', hz⟩ := I1.tuple hq
    refine call_enum1 (begins_tuple a its.toArray) p' fun h' he hit0 hk => wpAny_pyIter_enum he ?_
    have hit : h'.IsTupleIter s1.heap.objs.size a 0 := ⟨_, hit0, rfl, rfl⟩
    have I2 : Inv X pins σ H1 { s1 with heap := h' } := I1.kept (t' := s1.toks) hk
    refine ⟨s1.heap.objs.size + 1, [s1.heap.objs.size + 1, s1.heap.objs.size], _, _, H1, rfl, I2, turn_enumT a (s1.heap.objs.size + 1) s1.heap.objs.size, ⟨⟨.none, he⟩, hit, Nat.succ_ne_self _⟩, fun b hb => ?_, q⟩
    have hle : s1.heap.objs.size ≤ b := by
      rcases List.mem_cons.mp hb with z | hb
      · rw [z]; exact Nat.le_add_right _ _
      · rcases List.mem_cons.mp hb with z | hb
        · rw [z]; exact Nat.le_refl _
        · cases hb
    exact I1.fpOk hle (I1.hok.fresh hle)
end PL
/-! The P-layer: what is walked; for; comprehensions. -/
namespace PL
open PySem PySem.Spec PyProof.Rows L2 RZ
/-- item i of ds comes: it stands already, or a new tuple -/
def YD (K : PySem.W.Frag) (ds : List D) (G : Hp) : Nat → Hp → V → Hp → Prop := fun i H x H' => ∀ G1, LeZ G G1 → Le G1 H → ∃ d, ds[i]? = some d ∧
  ((H' = H ∧ Rep K G1 d x) ∨ (∃ (T : Addr) (vs : List V) (l : List D), x = .ref T ∧ H T = none ∧ H' = upd H T (.tup vs) ∧ d = .tup l ∧ Reps K G1 l vs) ∨ ∃ (T : Addr) (vs : List V) (l : List D), x = .ref T ∧ H T = some (.tup vs) ∧ H' = H ∧ d = .tup l ∧ Reps K G1 l vs)
def liftI (K : PySem.W.Frag) (W : WX) (t : TXI) : TI := fun σ H R => ∃ A ρ μ G Rp x, Sim K A σ ρ μ G H ∧ t x ρ μ Rp ∧ ExTo K W A G H x ∧
  ∀ ds μ' A' G' H' J, Rp ds μ' → Cells K A' μ' G' H' → Step A G H A' G' H' → Walk J ds.length (fun H => LeZ G' H) (YD K ds G') → R J H'
structure PXI (X : Cx) (W : WX) (tg iter : Expr) (ti : TXI) : Prop where
  ex : ∃ wi, PI X tg iter wi ∧ ∀ σ H R, liftI X.K W ti σ H R → wi σ H R
section
variable {X : Cx} {W : WX} {a b c e tg : Expr} {es : List Expr} {ta tb tc te : TX} {tL : TXA} {pos p tpos : Pos} {elts : List Expr} {kk : Nat}
def xiT (te : TX) : TXI := fun x ρ μ Q => te x ρ μ fun s μ1 => on (tupOf s) fun l => Q l μ1
def xiL (te : TX) : TXI := fun x ρ μ Q => te x ρ μ fun s μ1 => match s with
  | .d (.lst l) => Q l μ1
  | _ => False
theorem pxi_tup (he : PX X W e te) : PXI X W tg e (xiT te) := by
  refine ⟨_, pi_tup he.pe, fun σ H R h => ?_⟩
  obtain ⟨A, ρ, μ, G, Rp, x, S, ht, hx, k⟩ := h
  refine ⟨A, ρ, μ, G, _, x, S, ht, hx, fun s μ1 A1 G1 H1 v q c1 s1 r1 => ?_⟩
  obtain ⟨l, e, q⟩ := on_of q
  match s, e, r1 with
  | .d (.tup l'), e, r1 =>
    cases e
    obtain ⟨a, us, rfl, h1, h2⟩ := Reps.sq r1
    refine ⟨a, rfl, ⟨us, c1.le.sqT h1⟩, k _ _ _ _ _ _ q c1 s1 ?_⟩
    rw [h2.length]
    refine walk_tup.mono (fun H' z => z.sqT h1) fun i H0 x H' hi _ y G2 g2 _ => ?_
    obtain ⟨d, e1, r⟩ := h2.get y.2
    exact ⟨d, e1, .inl ⟨y.1, r.mono g2⟩⟩
theorem pxi_lst (he : PX X W e te) : PXI X W tg e (xiL te) := by
  refine ⟨_, pi_list he.pe, fun σ H R h => ?_⟩
  obtain ⟨A, ρ, μ, G, Rp, x, S, ht, hx, k⟩ := h
  refine ⟨A, ρ, μ, G, _, x, S, ht, hx, fun s μ1 A1 G1 H1 v q c1 s1 r1 => ?_⟩
  match s, q, r1 with
  | .d (.lst l'), q, r1 =>
    obtain ⟨a, us, rfl, h1, h2⟩ := Reps.sql r1
    refine ⟨a, rfl, ⟨us, SqL.of (c1.le _ _ h1)⟩, k _ _ _ _ _ _ q c1 s1 ?_⟩
    rw [h2.length]
    refine walk_list.mono (fun H' z => SqL.of (z.same h1 rfl)) fun i H0 x H' hi _ y G2 g2 _ => ?_
    obtain ⟨d, e1, r⟩ := h2.get y.2
    exact ⟨d, e1, .inl ⟨y.1, r.mono g2⟩⟩
/-- lo, lo + 1, .. -/
def rngD (lo : Int) (n : Nat) : List D := (List.range n).map fun i => .int (lo + (i : Nat))
theorem walk_rngD {K : PySem.W.Frag} {lo : Int} {n : Nat} {G : Hp} : Walk (Itr lo n) (rngD lo n).length (fun H => LeZ G H) (YD K (rngD lo n) G) := by
  have hl : (rngD lo n).length = n := by simp [rngD]
  rw [hl]
  refine walk_range.mono (fun _ _ => trivial) fun i H0 x H' hi _ y G2 g2 _ => ?_
  obtain ⟨e1, e2⟩ := y
  subst e2
  exact ⟨.int (lo + i), by simp [rngD, hi], .inl ⟨e1, .int _⟩⟩
def xiR1 (t : TXA) : TXI := fun x ρ μ Q => t x ρ μ fun ss μ1 => match ss with
  | [.d (.int j)] => (-(2 ^ 62) ≤ j ∧ j < 2 ^ 62) ∧ Q (rngD 0 j.toNat) μ1
  | _ => False
def xiR2 (t : TXA) : TXI := fun x ρ μ Q => t x ρ μ fun ss μ1 => match ss with
  | [.d (.int i), .d (.int j)] => (-(2 ^ 62) ≤ i ∧ i < 2 ^ 62 ∧ -(2 ^ 62) ≤ j ∧ j < 2 ^ 62) ∧ Q (rngD i (j - i).toNat) μ1
  | _ => False
theorem pxi_range1 (hg : Gl X "range") (hm : X.mg "range" = none) (ha : PXA X W [a] tL) (hs : starEach [a] X.env = [(false, eval a X.env)] := by rfl) : PXI X W tg (.Call (.Name "range" p) [a] [] pos) (xiR1 tL) := by
  refine ⟨_, pi_range1 hg hm ha.pa hs, fun σ H R h => ?_⟩
  obtain ⟨A, ρ, μ, G, Rp, x, S, ht, hx, k⟩ := h
  refine ⟨A, ρ, μ, G, _, x, S, ht, hx, fun ss μ1 A1 G1 H1 vs q c1 s1 r1 => ?_⟩
  match ss, q, r1 with
  | [.d (.int j)], ⟨⟨h1, h2⟩, q⟩, .cons r .nil => cases r; exact ⟨j, rfl, h1, h2, k _ _ _ _ _ _ q c1 s1 walk_rngD⟩
theorem pxi_range2 (hg : Gl X "range") (hm : X.mg "range" = none) (ha : PXA X W [a, b] tL) (hs : starEach [a, b] X.env = [(false, eval a X.env), (false, eval b X.env)] := by rfl) (hs2 : starEach [b] X.env = [(false, eval b X.env)] := by rfl) : PXI X W tg (.Call (.Name "range" p) [a, b] [] pos) (xiR2 tL) := by
  refine ⟨_, pi_range2 hg hm ha.pa hs hs2, fun σ H R h => ?_⟩
  obtain ⟨A, ρ, μ, G, Rp, x, S, ht, hx, k⟩ := h
  refine ⟨A, ρ, μ, G, _, x, S, ht, hx, fun ss μ1 A1 G1 H1 vs q c1 s1 r1 => ?_⟩
  match ss, q, r1 with
  | [.d (.int i), .d (.int j)], ⟨hb, q⟩, .cons r (.cons r' .nil) => cases r; cases r'; exact ⟨i, j, rfl, hb, k _ _ _ _ _ _ q c1 s1 walk_rngD⟩
/-- (0, d), (1, e), .. -/
def enumD (l : List D) : List D := l.mapIdx fun i d => .tup [.int (i : Nat), d]
theorem yd_pair {K : PySem.W.Frag} {G1 : Hp} {x y : V} {d e : D} {H H' : Hp} {v : V} {ds : List D} {i : Nat} (hd : ds[i]? = some (.tup [d, e])) (r1 : Rep K G1 d x) (r2 : Rep K G1 e y) (h : ∃ T, v = .ref T ∧ H T = none ∧ H' = upd H T (.tup [x, y])) :
    ∃ d, ds[i]? = some d ∧ ((H' = H ∧ Rep K G1 d v) ∨ (∃ (T : Addr) (vs : List V) (l : List D), v = .ref T ∧ H T = none ∧ H' = upd H T (.tup vs) ∧ d = .tup l ∧ Reps K G1 l vs) ∨ ∃ (T : Addr) (vs : List V) (l : List D), v = .ref T ∧ H T = some (.tup vs) ∧ H' = H ∧ d = .tup l ∧ Reps K G1 l vs) := by
  obtain ⟨T, h1, h2, h3⟩ := h
  exact ⟨_, hd, .inr (.inl ⟨T, [x, y], [d, e], h1, h2, h3, rfl, .cons r1 (.cons r2 .nil)⟩)⟩
def xiEnT (t : TXA) : TXI := fun x ρ μ Q => t x ρ μ fun ss μ1 => match ss with
  | [.d (.tup l)] => Q (enumD l) μ1
  | _ => False
def xiEnL (t : TXA) : TXI := fun x ρ μ Q => t x ρ μ fun ss μ1 => match ss with
  | [.d (.lst l)] => Q (enumD l) μ1
  | _ => False
theorem pxi_enumT (hg : Gl X "enumerate") (hm : X.mg "enumerate" = none) (ha : PXA X W [e] tL) (hs : starEach [e] X.env = [(false, eval e X.env)] := by rfl) : PXI X W (.Tuple elts kk tpos) (.Call (.Name "enumerate" p) [e] [] pos) (xiEnT tL) := by
  refine ⟨_, pi_enumT hg hm ha.pa hs, fun σ H R h => ?_⟩
  obtain ⟨A, ρ, μ, G, Rp, x, S, ht, hx, k⟩ := h
  refine ⟨A, ρ, μ, G, _, x, S, ht, hx, fun ss μ1 A1 G1 H1 vs q c1 s1 r1 => ?_⟩
  match ss, q, r1 with
  | [.d (.tup l)], q, .cons r .nil =>
    obtain ⟨a, us, rfl, h1, h2⟩ := Reps.sq r
    refine ⟨a, us, rfl, c1.le.sqT h1, k _ _ _ _ _ _ q c1 s1 ?_⟩
    have hl : (enumD l).length = us.length := by simp [enumD, h2.length]
    rw [hl]
    refine ⟨fun i H hi q => ⟨us, us[i], q.sqT h1, by simp [hi]⟩, fun _ q => ⟨us, q.sqT h1, rfl⟩, fun i H v H' hi q y G2 g2 _ => ?_⟩
    obtain ⟨T, x, e1, e2, e3, e4⟩ := y
    obtain ⟨d, ed, r⟩ := h2.get (e4 us (q.sqT h1))
    exact yd_pair (d := .int (i : Nat)) (e := d) (by simp [enumD, ed]) (.int _) (r.mono g2) ⟨T, e1, e2, e3⟩
theorem pxi_enumL (hg : Gl X "enumerate") (hm : X.mg "enumerate" = none) (ha : PXA X W [e] tL) (hs : starEach [e] X.env = [(false, eval e X.env)] := by rfl) : PXI X W (.Tuple elts kk tpos) (.Call (.Name "enumerate" p) [e] [] pos) (xiEnL tL) := by
  refine ⟨_, pi_enum hg hm ha.pa hs, fun σ H R h => ?_⟩
  obtain ⟨A, ρ, μ, G, Rp, x, S, ht, hx, k⟩ := h
  refine ⟨A, ρ, μ, G, _, x, S, ht, hx, fun ss μ1 A1 G1 H1 vs q c1 s1 r1 => ?_⟩
  match ss, q, r1 with
  | [.d (.lst l)], q, .cons r .nil =>
    obtain ⟨a, us, rfl, h1, h2⟩ := Reps.sql r
    refine ⟨a, us, rfl, SqL.of (c1.le _ _ h1), k _ _ _ _ _ _ q c1 s1 ?_⟩
    have hl : (enumD l).length = us.length := by simp [enumD, h2.length]
    rw [hl]
    refine walk_enum.mono (fun H z => SqL.of (z.same h1 rfl)) fun i H v H' hi q y G2 g2 _ => ?_
    obtain ⟨T, x, y', e1, e2, e3, e4, e5⟩ := y
    cases e4
    obtain ⟨d, ed, r⟩ := h2.get e5
    exact yd_pair (d := .int (i : Nat)) (e := d) (by simp [enumD, ed]) (.int _) (r.mono g2) ⟨T, e1, e2, e3⟩
def zipD (l m : List D) : List D := List.zipWith (fun a b => .tup [a, b]) l m
def xiZipT (t : TXA) : TXI := fun x ρ μ Q => t x ρ μ fun ss μ1 => match ss with
  | [.d (.tup l), .d (.tup m)] => Q (zipD l m) μ1
  | _ => False
def xiZipL (t : TXA) : TXI := fun x ρ μ Q => t x ρ μ fun ss μ1 => match ss with
  | [.d (.lst l), .d (.lst m)] => Q (zipD l m) μ1
  | _ => False
theorem zipD_at {l m : List D} {i : Nat} {d e : D} (h1 : l[i]? = some d) (h2 : m[i]? = some e) : (zipD l m)[i]? = some (.tup [d, e]) := by
  unfold zipD
  rw [List.getElem?_zipWith, h1, h2]
theorem walk_zipT {K : PySem.W.Frag} {a b : Addr} {xs ys : List V} {n : Nat} (hn : n = min xs.length ys.length) : Walk (ItzT K a b) n (fun H => SqT K H a xs ∧ SqT K H b ys) (YPair (fun i => xs[i]?) (fun i => ys[i]?)) := by
  subst hn
  refine ⟨fun i _ hi q => ?_, fun _ q => ⟨xs, ys, q.1, q.2, by omega⟩, fun i H v H' _ q y => ?_⟩
  · have h1 : i < xs.length := by omega
    have h2 : i < ys.length := by omega
    exact ⟨xs, ys, xs[i], ys[i], q.1, q.2, by simp [h1], by simp [h2]⟩
  · obtain ⟨T, x, z, h1, h2, h3, h4, h5⟩ := y
    exact ⟨T, x, z, h1, h2, h3, h4 xs q.1, h5 ys q.2⟩
theorem pxi_zipT (hg : Gl X "zip") (hm : X.mg "zip" = none) (ha : PXA X W [a, b] tL) (hs : starEach [a, b] X.env = (false, eval a X.env) :: starEach [b] X.env := by rfl) (hpl : (backTo pos (starEach [b] X.env)).any (·.1) = false := by rfl) : PXI X W (.Tuple elts kk tpos) (.Call (.Name "zip" p) [a, b] [] pos) (xiZipT tL) := by
  refine ⟨_, pi_zipA hg hm ha.pa hs hpl, fun σ H R h => ?_⟩
  obtain ⟨A, ρ, μ, G, Rp, x, S, ht, hx, k⟩ := h
  refine ⟨A, ρ, μ, G, _, x, S, ht, hx, fun ss μ1 A1 G1 H1 vs q c1 s1 r1 => ?_⟩
  match ss, q, r1 with
  | [.d (.tup l), .d (.tup m)], q, .cons r (.cons r' .nil) =>
    obtain ⟨a, us, rfl, h1, h2⟩ := Reps.sq r
    obtain ⟨b, ws, rfl, h3, h4⟩ := Reps.sq r'
    refine ⟨a, b, us, ws, rfl, .inr ⟨c1.le.sqT h1, c1.le.sqT h3, k _ _ _ _ _ _ q c1 s1 ?_⟩⟩
    have hl : (zipD l m).length = min us.length ws.length := by simp [zipD, h2.length, h4.length]
    refine (walk_zipT hl).mono (fun H z => ⟨z.sqT h1, z.sqT h3⟩) fun i H v H' hi q y G2 g2 _ => ?_
    obtain ⟨T, x, y', e1, e2, e3, e4, e5⟩ := y
    obtain ⟨d, ed, r⟩ := h2.get e4
    obtain ⟨e, ee, r'⟩ := h4.get e5
    exact yd_pair (d := d) (e := e) (zipD_at ed ee) (r.mono g2) (r'.mono g2) ⟨T, e1, e2, e3⟩
theorem pxi_zipL (hg : Gl X "zip") (hm : X.mg "zip" = none) (ha : PXA X W [a, b] tL) (hs : starEach [a, b] X.env = (false, eval a X.env) :: starEach [b] X.env := by rfl) (hpl : (backTo pos (starEach [b] X.env)).any (·.1) = false := by rfl) : PXI X W (.Tuple elts kk tpos) (.Call (.Name "zip" p) [a, b] [] pos) (xiZipL tL) := by
  refine ⟨_, pi_zipA hg hm ha.pa hs hpl, fun σ H R h => ?_⟩
  obtain ⟨A, ρ, μ, G, Rp, x, S, ht, hx, k⟩ := h
  refine ⟨A, ρ, μ, G, _, x, S, ht, hx, fun ss μ1 A1 G1 H1 vs q c1 s1 r1 => ?_⟩
  match ss, q, r1 with
  | [.d (.lst l), .d (.lst m)], q, .cons r (.cons r' .nil) =>
    obtain ⟨a, us, rfl, h1, h2⟩ := Reps.sql r
    obtain ⟨b, ws, rfl, h3, h4⟩ := Reps.sql r'
    refine ⟨a, b, us, ws, rfl, .inl ⟨SqL.of (c1.le _ _ h1), SqL.of (c1.le _ _ h3), k _ _ _ _ _ _ q c1 s1 ?_⟩⟩
    have hl : (zipD l m).length = min us.length ws.length := by simp [zipD, h2.length, h4.length]
    refine (walk_zip hl).mono (fun H z => ⟨SqL.of (z.same h1 rfl), SqL.of (z.same h3 rfl)⟩) fun i H v H' hi q y G2 g2 _ => ?_
    obtain ⟨T, x, y', e1, e2, e3, e4, e5⟩ := y
    obtain ⟨d, ed, r⟩ := h2.get e4
    obtain ⟨e, ee, r'⟩ := h4.get e5
    exact yd_pair (d := d) (e := e) (zipD_at ed ee) (r.mono g2) (r'.mono g2) ⟨T, e1, e2, e3⟩
def strD (z : Str) : List D := z.cps.toList.map fun c => .str ⟨#[c]⟩
def xiS (te : TX) : TXI := fun x ρ μ Q => te x ρ μ fun s μ1 => match s with
  | .d (.str z) => Q (strD z) μ1
  | _ => False
theorem pxi_str (he : PX X W e te) : PXI X W tg e (xiS te) := by
  refine ⟨_, pi_str he.pe, fun σ H R h => ?_⟩
  obtain ⟨A, ρ, μ, G, Rp, x, S, ht, hx, k⟩ := h
  refine ⟨A, ρ, μ, G, _, x, S, ht, hx, fun s μ1 A1 G1 H1 v q c1 s1 r1 => ?_⟩
  match s, q, r1 with
  | .d (.str z), q, r1 =>
    cases r1
    refine ⟨z, rfl, k _ _ _ _ _ _ q c1 s1 ?_⟩
    have hl : (strD z).length = z.cps.size := by simp [strD]
    rw [hl]
    refine walk_str.mono (fun _ _ => trivial) fun i H v H' hi q y G2 g2 _ => ?_
    obtain ⟨e1, c, e2, rfl⟩ := y
    have e3 : z.cps.toList[i]? = some c := by rw [Array.getElem?_toList]; exact e2
    exact ⟨.str ⟨#[c]⟩, by simp only [strD, List.getElem?_map, e3, Option.map_some], .inl ⟨e1, .str _⟩⟩

/-! ### for -/
variable {own : List Nat} {tA : TXT} {g : TXG} {t : TXS} {ti : TXI} {iter : Expr} {body : List Stmt}
def xFor (ti : TXI) (g : TXG) (tb : TXS) : TXS := fun E ρ μ => ti E.ex ρ μ fun ds μ1 => ∃ I : Nat → Env' → Mem → Prop, I 0 ρ μ1 ∧
  (∀ i d ρ μ, ds[i]? = some d → I i ρ μ → g E.ex (.d d) ρ μ fun ρ2 μ2 => tb { E with nx := I (i + 1), ct := I (i + 1), bk := E.nx } ρ2 μ2) ∧ ∀ ρ μ, I ds.length ρ μ → E.nx ρ μ
/-- what a turn begins with -/
theorem yd_begin {K : PySem.W.Frag} {ds : List D} {G0 G H H' : Hp} {A : List Addr} {μ : Mem} {i : Nat} {x : V} (le : LeZ G0 G) (c : Cells K A μ G H) (y : YD K ds G0 i H x H') :
    ∃ d G', ds[i]? = some d ∧ Rep K G' d x ∧ Cells K A μ G' H' ∧ Step A G H A G' H' := by
  obtain ⟨d, e, h⟩ := y G le c.le
  rcases h with ⟨rfl, r⟩ | ⟨T, vs, l, rfl, h1, rfl, rfl, r⟩ | ⟨T, vs, l, rfl, h1, rfl, rfl, r⟩
  · exact ⟨d, G, e, r, c, .refl⟩
  · obtain ⟨c2, s2⟩ := c.laid (o := .tup vs) h1
    exact ⟨_, _, e, Rep.tup upd_same (r.mono s2.le), c2, s2⟩
  · have lg : Le G (upd G T (.tup vs)) := fun a o e => by
      by_cases z : a = T
      · subst z; rw [c.le a o e] at h1; rw [upd_same, ← h1]
      · rw [upd_ne z]; exact e
    refine ⟨_, upd G T (.tup vs), e, Rep.tup upd_same (r.mono lg.z), ⟨fun a o e => ?_, c.len, c.nd, fun a ha => ?_, fun k a cl e1 e2 => (c.ok k a cl e1 e2).mono lg.z rfl⟩, ⟨List.prefix_refl _, lg.z, fun _ _ h _ => .inl h, fun a h => ?_, fun _ _ h => .inr h, fun _ h => .inl h, fun _ h => h⟩⟩
    · by_cases z : a = T
      · subst z; rw [upd_same] at e; rw [h1]; exact e
      · rw [upd_ne z] at e; exact c.le a o e
    · refine (upd_ne fun z => ?_).trans (c.free a ha)
      obtain ⟨k, hk⟩ := List.mem_iff_getElem?.mp ha
      have hl : k < μ.length := by rw [← c.len]; exact (List.getElem?_eq_some_iff.mp hk).1
      exact (c.ok k a _ hk (List.getElem?_eq_getElem hl)).notup (by rw [z]; exact h1)
    · by_cases z : a = T
      · subst z; exact .inr (.inr ⟨vs, h1⟩)
      · rw [upd_ne z] at h; exact .inl h
theorem psx_for (hp : PassesOwn (model X.prog X.w) X.A X.env X.xe) (hc : X.calm = true) (hi : PXI X W tg iter ti) (hg : PXG X W own tg g) (hb : PXSs X W body t)
    (hs : ∀ x, foldedSetIterable iter X.env x = pure x := by intro _; rfl) : PXS X W (.For tg iter body [] pos) (xFor ti g t) := by
  obtain ⟨wi, hpi, hti⟩ := hi.ex
  refine ⟨(ps_for hp hc hpi hg.pg hb.ps hs).imp fun D σ H h => ?_⟩
  obtain ⟨A, ρ, μ, G, E, S, ht, k⟩ := h
  refine hti _ _ _ ⟨A, ρ, μ, G, _, _, S, ht, k.ex, fun ds μ1 A1 G1 H1 J q c1 s1 w => ?_⟩
  obtain ⟨I, i0, turn, done⟩ := q
  refine for_it w (fun i σ H => ∃ A' ρ' μ' G', I i ρ' μ' ∧ Sim X.K A' σ ρ' μ' G' H ∧ Step A1 G1 H1 A' G' H) ⟨A1, ρ, μ1, G1, i0, S.after s1 c1, .refl⟩ (fun i σ H _ ⟨A', ρ', μ', G', _, S', s'⟩ => s'.le.trans S'.le.z) ?_ ?_
  · rintro i x σ2 H2 H3 hi ⟨A2, ρ2, μ2, G2, i2, S2, s2⟩ y
    obtain ⟨d, G3, e, r, c3, s3⟩ := yd_begin s2.le S2.toCells y
    have s23 := s2.trans s3
    have s13 := s1.trans s23
    refine ⟨A2, ρ2, μ2, G3, .d d, _, _, S2.after s3 c3, r, turn i d ρ2 μ2 e i2, k.ex.after s13, fun ρ4 μ4 A4 σ4 G4 H4 q4 S4 s4 _ => ?_⟩
    have s14 := s13.trans s4
    refine ⟨A4, ρ4, μ4, G4, _, S4, q4, ?_⟩
    have fin : ∀ ρ' μ' A' σ' G' H', I (i + 1) ρ' μ' → Sim X.K A' σ' ρ' μ' G' H' → Step A4 G4 H4 A' G' H' → ∃ A'' ρ' μ' G', I (i + 1) ρ' μ' ∧ Sim X.K A'' σ' ρ' μ' G' H' ∧ Step A1 G1 H1 A'' G' H' := fun ρ' μ' A' σ' G' H' q' S' s' => ⟨A', ρ', μ', G', q', S', (s23.trans s4).trans s'⟩
    exact ⟨fin, fun ρ' μ' A' σ' G' H' q' S' s' => k.nx _ _ _ _ _ _ q' S' (s14.trans s'), fin, (k.after s14).rt, (k.after s14).ex⟩
  · rintro σ2 H2 ⟨A2, ρ2, μ2, G2, i2, S2, s2⟩
    exact k.nx _ _ _ _ _ _ (done _ _ i2) S2 (s1.trans s2)

/-! ### list comprehensions -/
def wipeP (ρ : Env') : List Nat → Env'
  | [] => ρ
  | v :: vs => (wipeP ρ vs).set v .un
theorem Sim.wipe {K : PySem.W.Frag} {A : List Addr} {σ : L2.St} {ρ : Env'} {μ : Mem} {G H : Hp} (S : Sim K A σ ρ μ G H) : ∀ vs : List Nat, Sim K A (L2.wipe σ vs) (wipeP ρ vs) μ G H
  | [] => S
  | v :: vs => by
    have S' := Sim.wipe S vs
    refine ⟨S'.toCells, by unfold L2.wipe wipeP; simp [S'.sl], fun j s e => ?_⟩
    unfold wipeP at e
    unfold L2.wipe
    by_cases h : v = j
    · subst h
      have hl : v < (wipeP ρ vs).length := by
        have := (List.getElem?_eq_some_iff.mp e).1
        simpa using this
      rw [List.getElem?_set_self hl] at e
      cases e
      exact ⟨none, by rw [List.getElem?_set_self (by rw [← S'.sl]; exact hl)], trivial⟩
    · rw [List.getElem?_set_ne h] at e
      obtain ⟨o, e1, q⟩ := S'.at_ j s e
      exact ⟨o, by rw [List.getElem?_set_ne h]; exact e1, q⟩
structure PXTs (X : Cx) (W : WX) (ifs : List Expr) (t : TXT) : Prop where
  pt : PTs X ifs (liftT X.K W t)
theorem _root_.L2.PTs.imp {X : Cx} {e : List Expr} {t t' : TT} (h : PTs X e t) (i : ∀ σ H Q, t' σ H Q → t σ H Q) : PTs X e t' := ⟨fun pins s σ H Q I q => h.run pins s σ H Q I (i _ _ _ q)⟩
def xYes : TXT := fun _ _ μ Q => Q true μ
theorem pxts_nil : PXTs X W [] xYes := by
  refine ⟨pts_nil.imp fun σ H Q h => ?_⟩
  obtain ⟨A, ρ, μ, G, Qp, x, S, ht, hx, k⟩ := h
  exact k _ _ _ _ _ ht S.toCells .refl
theorem pxts_one {c : Expr} (h : PXT X W c tA) : PXTs X W [c] tA := ⟨pts_one h.pt⟩
/-- nothing is raised within -/
abbrev wF : WX := fun _ _ _ _ => False
abbrev xF : XP := fun _ _ _ => False
theorem exF {K : PySem.W.Frag} {A : List Addr} {G H : Hp} : ExTo K wF A G H xF := fun _ _ _ _ _ _ _ _ h _ _ _ => h
/-- targets touch their own slots alone: shown at each reading -/
def xLc (ti : TXI) (g : TXG) (tt : TXT) (te : TX) (vs : List Nat) (fin : List D → Mem → VP → Prop) : TX := fun x ρ μ Q => ti x ρ μ fun ds μ1 => ds.length ≤ sizeLine ∧ ∃ I : Nat → List D → Mem → Prop, I 0 [] μ1 ∧
  (∀ i d acc μ, ds[i]? = some d → I i acc μ → g xF (.d d) (wipeP ρ vs) μ fun ρ2 μ2 => tt xF ρ2 μ2 fun b μ3 => Br b (te xF ρ2 μ3 fun s μ4 => match s with
    | .d y => I (i + 1) (acc ++ [y]) μ4
    | _ => False) (I (i + 1) acc μ3)) ∧ ∀ acc μ, I ds.length acc μ → fin acc μ Q
def finL : List D → Mem → VP → Prop := fun acc μ Q => Q (.d (.lst acc)) μ
def finC : List D → Mem → VP → Prop := fun acc μ Q => Q (.c μ.length) (μ ++ [.lst acc])
/-- the comprehension's loop -/
theorem lc_turns {K : PySem.W.Frag} {ds : List D} {J : It} {A1 : List Addr} {G1 H1 : Hp} {σ : L2.St} {ρ : Env'} {μ1 : Mem} {tt : TXT} {te : TX} {vs : List Nat} {Q : Hp → Prop} {Dd : Addr} (S : Sim K A1 σ ρ μ1 G1 H1) (hD : H1 Dd = none)
    (w : Walk J ds.length (fun H => LeZ G1 H) (YD K ds G1)) (hz : ds.length ≤ sizeLine) {I : Nat → List D → Mem → Prop} (i0 : I 0 [] μ1)
    (turn : ∀ i d acc μ, ds[i]? = some d → I i acc μ → g xF (.d d) (wipeP ρ vs) μ fun ρ2 μ2 => tt xF ρ2 μ2 fun b μ3 => Br b (te xF ρ2 μ3 fun s μ4 => match s with
      | .d y => I (i + 1) (acc ++ [y]) μ4
      | _ => False) (I (i + 1) acc μ3))
    (done : ∀ acc μ, I ds.length acc μ → ∀ A' G' H' ws, Cells K A' μ G' H' → Step A1 G1 H1 A' G' H' → H' Dd = some (.lst ws) → Reps K G' acc ws → Dd ∉ A' → G' Dd = none → Q H') :
    ∃ W : Nat → Nat → Hp → Prop, (∃ m, W 0 m (upd H1 Dd (.lst []))) ∧ ∀ i m H, W i m H →
      (J.stop i H ∧ Q H) ∨ (J.go i H ∧ ∃ Nx : Hp → Prop, (∀ H', Nx H' → ∃ m', m' < m ∧ W (i + 1) m' H') ∧ ∀ x H', J.yld i H x H' → liftG K wF vs g x (L2.wipe σ vs) H' fun σ2 H2 => L2.wipe σ2 vs = L2.wipe σ vs ∧ liftT K wF tt σ2 H2 fun b H3 =>
        if b = true then lift K wF te σ2 H3 fun y H4 => ∃ acc, H4 Dd = some (.lst acc) ∧ acc.length < sizeLine ∧ Nx (upd H4 Dd (.lst (acc ++ [y]))) else Nx H3) := by
  have wipe2 : ∀ σ : L2.St, L2.wipe (L2.wipe σ vs) vs = L2.wipe σ vs := fun σ => by
    refine List.ext_getElem? fun j => ?_
    have key : ∀ (τ : L2.St) (us : List Nat), (L2.wipe τ us)[j]? = if j ∈ us then (τ[j]?).map (fun _ => none) else τ[j]? := by
      intro τ us
      induction us with
      | nil => simp [L2.wipe]
      | cons v us ih =>
        unfold L2.wipe
        by_cases e : v = j
        · subst e
          by_cases hv : v < τ.length
          · rw [List.getElem?_set_self (by rw [L2.wipe_length]; exact hv)]
            simp [List.getElem?_eq_getElem hv]
          · rw [List.getElem?_eq_none (by simp [L2.wipe_length]; omega)]
            simp [List.getElem?_eq_none (Nat.le_of_not_lt hv)]
        · rw [List.getElem?_set_ne e, ih]
          have : (j ∈ v :: us) ↔ j ∈ us := by
            simp only [List.mem_cons]
            exact ⟨fun h => h.resolve_left fun q => e q.symm, .inr⟩
          simp only [this]
    rw [key, key]
    by_cases h : j ∈ vs
    · simp [h]
      cases σ[j]? <;> rfl
    · simp [h]
  refine lc_it w (σ := σ) (vs := vs) (Qd := Q) (g := liftG K wF vs g) (tt := liftT K wF tt) (te := lift K wF te) (fun i H => ∃ acc ws A' G' μ', I i acc μ' ∧ acc.length ≤ i ∧ Cells K A' μ' G' H ∧ Step A1 G1 H1 A' G' H ∧ H Dd = some (.lst ws) ∧ Reps K G' acc ws ∧ Dd ∉ A' ∧ G' Dd = none) ?_ (fun i H _ ⟨acc, ws, A', G', μ', _, _, c, s, _⟩ => s.le.trans c.le.z) ?_ ?_
  · have gn : G1 Dd = none := S.gnone hD
    have na : Dd ∉ A1 := fun z => S.ne_of_lt z hD rfl
    refine ⟨[], [], A1, G1, μ1, i0, Nat.zero_le _, ⟨fun a o e => ?_, S.len, S.nd, S.free, fun k a cl h1 h2 => ?_⟩, ⟨List.prefix_refl _, LeZ.refl _, fun a o e _ => .inl ?_, fun a e => .inl e, fun a xs e => ?_, fun a e => .inl e, fun a e => ?_⟩, upd_same, .nil, na, gn⟩
    · rw [upd_ne (ne_of_none e gn)]; exact S.le a o e
    · exact (S.ok k a cl h1 h2).mono (LeZ.refl _) (upd_ne (S.ne_of_lt (List.mem_of_getElem? h1) hD))
    · rw [upd_ne (ne_of_none e hD)]; exact e
    · by_cases z : a = Dd
      · rw [z, upd_same] at e; cases e
      · rw [upd_ne z] at e; exact .inr e
    · by_cases z : a = Dd
      · rw [z, upd_same]; simp
      · rw [upd_ne z]; exact e
  · rintro i x H H' hi ⟨acc, ws, A2, G2, μ2, i2, hacc, c2, s2, hd, hr, na, gn⟩ y
    obtain ⟨d, G3, e, r, c3, s3⟩ := yd_begin s2.le c2 y
    have keepD : ∀ {A' : List Addr} {G' H' : Hp}, Step A2 G2 H A' G' H' → H' Dd = some (.lst ws) ∧ Dd ∉ A' ∧ G' Dd = none := fun {A' G' H'} st => by
      refine ⟨?_, fun z => ?_, ?_⟩
      · rcases st.keep _ _ hd na with q | ⟨q, _⟩
        · exact q
        · rw [gn] at q; cases q
      · rcases st.cells _ z with q | q
        · exact na q
        · rw [hd] at q; cases q
      · cases q : G' Dd with
        | none => rfl
        | some o =>
          rcases st.new Dd (by rw [q]; simp) with z | z | ⟨_, z⟩
          · exact absurd gn z
          · rw [hd] at z; cases z
          · rw [hd] at z; cases z
    have S3 : Sim K A2 (L2.wipe σ vs) (wipeP ρ vs) μ2 G3 H' := by
      have st := s2.trans s3
      exact (S.wipe vs).after st c3
    refine ⟨A2, _, μ2, G3, .d d, _, xF, S3, r, turn i d acc μ2 e i2, exF, fun ρ4 μ4 A4 σ4 G4 H4 q4 S4 s4 kp => ⟨Eq.trans kp (wipe2 σ), ?_⟩⟩
    refine ⟨A4, ρ4, μ4, G4, _, xF, S4, q4, exF, fun b μ5 A5 G5 H5 q5 c5 s5 => ?_⟩
    have s25 := (s3.trans s4).trans s5
    cases b with
    | false =>
      obtain ⟨h1, h2, h3⟩ := keepD s25
      exact ite_ff ⟨acc, ws, A5, G5, μ5, q5, by omega, c5, s2.trans s25, h1, hr.mono s25.le, h2, h3⟩
    | true =>
      refine ite_tt ⟨A5, ρ4, μ5, G5, _, xF, S4.after s5 c5, q5, exF, fun s μ6 A6 G6 H6 v q6 c6 s6 r6 => ?_⟩
      have s26 := s25.trans s6
      obtain ⟨h1, h2, h3⟩ := keepD s26
      match s, q6, r6 with
      | .d z, q6, r6 =>
        refine ⟨ws, h1, by rw [← hr.length]; omega, acc ++ [z], ws ++ [v], A6, G6, μ6, q6, by simp; omega, ?_, ?_, upd_same, (hr.mono s26.le).app (.cons r6 .nil), h2, h3⟩
        · refine ⟨fun a o e => ?_, c6.len, c6.nd, c6.free, fun k a cl e1 e2 => ?_⟩
          · rw [upd_ne (ne_of_none e h3)]; exact c6.le a o e
          · exact (c6.ok k a cl e1 e2).mono (LeZ.refl _) (upd_ne fun q => h2 (by rw [← q]; exact List.mem_of_getElem? e1))
        · have st := s2.trans s26
          refine ⟨st.pre, st.le, fun a o e n => ?_, st.new, fun a xs e => ?_, st.cells, fun a e => ?_⟩
          · rw [upd_ne (ne_of_none e hD)]; exact st.keep a o e n
          · by_cases q : a = Dd
            · rw [q, upd_same] at e; cases e
            · rw [upd_ne q] at e; exact st.tups a xs e
          · by_cases q : a = Dd
            · rw [q, upd_same]; simp
            · rw [upd_ne q]; exact st.there a e
  · rintro H ⟨acc, ws, A2, G2, μ2, i2, _, c2, s2, hd, hr, na, gn⟩
    exact done acc μ2 i2 A2 G2 H ws c2 s2 hd hr na gn
theorem px_lc {elt : Expr} {ifs : List Expr} {scope : Scope} {own : List (Str × Nat)} {tt : TXT} (hc : X.calm = true) (hN : X.N.Nodup) (hi : PXI X W tg iter ti) (ok : BlkOk X.N X.env.scope scope own)
    (hg : ∀ (s : Shared) (H : Hp) (C : Addr) (cl : List (Str × Addr)) (fp : List Addr), PXG (X.blk s H scope (compEnvC scope cl C X.env) fp) wF (own.map (·.2)) tg g)
    (ht : ∀ (s : Shared) (H : Hp) (C : Addr) (cl : List (Str × Addr)) (fp : List Addr), PXTs (X.blk s H scope (compEnvC scope cl C X.env) fp) wF ifs tt)
    (he : ∀ (s : Shared) (H : Hp) (C : Addr) (cl : List (Str × Addr)) (fp : List Addr), PX (X.blk s H scope (compEnvC scope cl C X.env) fp) wF elt te) (hs : ∀ x, foldedSetIterable iter X.env x = pure x := by intro _; rfl) :
    PX X W (.ListComp elt [⟨tg, iter, ifs, 0⟩] scope pos) (xLc ti g tt te (own.map (·.2)) finL) := by
  obtain ⟨wi, hpi, hti⟩ := hi.ex
  refine ⟨(pe_lc (g := liftG X.K wF (own.map (·.2)) g) (tt := liftT X.K wF tt) (te := lift X.K wF te) hc hN hpi ok (fun s H C cl fp => (hg s H C cl fp).pg) (fun s H C cl fp => (ht s H C cl fp).pt) (fun s H C cl fp => (he s H C cl fp).pe) hs).imp fun σ H Q h => ?_⟩
  obtain ⟨A, ρ, μ, G, Qp, x, S, ht, hx, k⟩ := h
  refine hti _ _ _ ⟨A, ρ, μ, G, _, x, S, ht, hx, fun ds μ1 A1 G1 H1 J ⟨hz, I, i0, turn, done⟩ c1 s1 w Dd hD => ?_⟩
  refine lc_turns (S.after s1 c1) hD w hz i0 turn fun acc μ' i' A' G' H' ws c' s' hd hr na gn => ?_
  have q := done acc μ' i'
  have lg : LeZ G' (upd G' Dd (.lst ws)) := fun a o e => .inl (by rw [upd_ne (ne_of_none e gn)]; exact e)
  refine k (.d (.lst acc)) μ' A' (upd G' Dd (.lst ws)) H' (.ref Dd) q ⟨fun a o e => ?_, c'.len, c'.nd, fun a ha => ?_, fun j a cl e1 e2 => (c'.ok j a cl e1 e2).mono lg rfl⟩ ?_ (Rep.lst upd_same (hr.mono lg))
  · by_cases z : a = Dd
    · rw [z] at e ⊢; rw [upd_same] at e; rw [hd]; exact e
    · rw [upd_ne z] at e; exact c'.le a o e
  · rw [upd_ne (fun z => na (by rw [← z]; exact ha))]; exact c'.free a ha
  · have st := s1.trans s'
    refine ⟨st.pre, st.le.trans lg, st.keep, fun a e => ?_, st.tups, st.cells, st.there⟩
    by_cases z : a = Dd
    · refine .inr (.inl ?_)
      cases q2 : H a with
      | none => rfl
      | some o => exact absurd (by rw [z]; exact hD) (s1.there a (by rw [q2]; simp))
    · rw [upd_ne z] at e; exact st.new a e
/-- a list of one's own -/
theorem px_lcC {elt : Expr} {ifs : List Expr} {scope : Scope} {own : List (Str × Nat)} {tt : TXT} (hc : X.calm = true) (hN : X.N.Nodup) (hi : PXI X W tg iter ti) (ok : BlkOk X.N X.env.scope scope own)
    (hg : ∀ (s : Shared) (H : Hp) (C : Addr) (cl : List (Str × Addr)) (fp : List Addr), PXG (X.blk s H scope (compEnvC scope cl C X.env) fp) wF (own.map (·.2)) tg g)
    (ht : ∀ (s : Shared) (H : Hp) (C : Addr) (cl : List (Str × Addr)) (fp : List Addr), PXTs (X.blk s H scope (compEnvC scope cl C X.env) fp) wF ifs tt)
    (he : ∀ (s : Shared) (H : Hp) (C : Addr) (cl : List (Str × Addr)) (fp : List Addr), PX (X.blk s H scope (compEnvC scope cl C X.env) fp) wF elt te) (hs : ∀ x, foldedSetIterable iter X.env x = pure x := by intro _; rfl) :
    PX X W (.ListComp elt [⟨tg, iter, ifs, 0⟩] scope pos) (xLc ti g tt te (own.map (·.2)) finC) := by
  obtain ⟨wi, hpi, hti⟩ := hi.ex
  refine ⟨(pe_lc (g := liftG X.K wF (own.map (·.2)) g) (tt := liftT X.K wF tt) (te := lift X.K wF te) hc hN hpi ok (fun s H C cl fp => (hg s H C cl fp).pg) (fun s H C cl fp => (ht s H C cl fp).pt) (fun s H C cl fp => (he s H C cl fp).pe) hs).imp fun σ H Q h => ?_⟩
  obtain ⟨A, ρ, μ, G, Qp, x, S, ht, hx, k⟩ := h
  refine hti _ _ _ ⟨A, ρ, μ, G, _, x, S, ht, hx, fun ds μ1 A1 G1 H1 J ⟨hz, I, i0, turn, done⟩ c1 s1 w Dd hD => ?_⟩
  refine lc_turns (S.after s1 c1) hD w hz i0 turn fun acc μ' i' A' G' H' ws c' s' hd hr na gn => ?_
  have q := done acc μ' i'
  have st := s1.trans s'
  refine k (.c μ'.length) (μ' ++ [.lst acc]) (A' ++ [Dd]) G' H' (.ref Dd) (show Qp (.c μ'.length) (μ' ++ [.lst acc]) from q) ⟨c'.le, by simp [c'.len], ?_, fun a ha => ?_, fun j a cl e1 e2 => ?_⟩ ⟨st.pre.trans (List.prefix_append _ _), st.le, st.keep, st.new, st.tups, fun a ha => ?_, st.there⟩ ⟨Dd, by rw [← c'.len]; simp, rfl⟩
  · refine List.nodup_append.mpr ⟨c'.nd, by simp, fun a ha b hb => ?_⟩
    simp at hb
    subst hb
    exact fun z => na (z ▸ ha)
  · rcases List.mem_append.mp ha with h | h
    · exact c'.free a h
    · simp at h; subst h; exact gn
  · rcases getElem?_append_one e1 with e1 | ⟨z1, z2⟩
    · have hk : j < μ'.length := by rw [← c'.len]; exact (List.getElem?_eq_some_iff.mp e1).1
      rw [List.getElem?_append_left hk] at e2
      exact c'.ok j a cl e1 e2
    · subst z2
      rw [z1, c'.len, List.getElem?_append_right (Nat.le_refl _)] at e2
      simp at e2
      subst e2
      exact ⟨ws, hd, hr⟩
  · rcases List.mem_append.mp ha with h | h
    · exact st.cells a h
    · simp at h
      subst h
      refine .inr ?_
      cases q2 : H a with
      | none => rfl
      | some o => exact absurd hD (s1.there a (by rw [q2]; simp))
end
end PL
/-! The P-layer: what a def promises; calls of defs. -/
namespace PL
open PySem PySem.Spec PyProof.Rows L2
/-- a def's promise: the arguments (cells by their places among the handed-in cells), the handed-in cells, the wanted end -/
abbrev PSp := XP → List SV → Mem → VP → Prop
def low (K : PySem.W.Frag) (p : PSp) : Sp := fun vs H Q E => ∃ A as μ G Qp x, Cells K A μ G H ∧ RepsS K A G as vs ∧ p x as μ Qp ∧
  (∀ C fs μ' A' G' H' d, x C fs μ' → Cells K A' μ' G' H' → Step A G H A' G' H' → ExOk K G' H' fs d → E (.ref C) d H') ∧
  ∀ r μ' A' G' H' v, Qp r μ' → Cells K A' μ' G' H' → Step A G H A' G' H' → RepS K A' G' r v → Q v H'
def startP (n : Nat) (as : List SV) : Env' := as ++ List.replicate (n - as.length) .un
theorem sim_start {K : PySem.W.Frag} {A : List Addr} {as : List SV} {vs : List V} {μ : Mem} {G H : Hp} {N : List Str} (c : Cells K A μ G H) (r : RepsS K A G as vs) : Sim K A (L2.start N vs) (startP N.length as) μ G H where
  toCells := c
  sl := by simp [startP, L2.start, r.length]
  at_ := by
    have key : ∀ (as : List SV) (vs : List V) (n m : Nat), RepsS K A G as vs → n = m → ∀ (i : Nat) (s : SV), (as ++ List.replicate n .un)[i]? = some s → ∃ o, (vs.map some ++ List.replicate m none)[i]? = some o ∧ SlotOk K A G s o := by
      intro as
      induction as with
      | nil =>
        intro vs n m r e i s h
        cases r
        subst e
        simp only [List.nil_append, List.map_nil] at h ⊢
        obtain ⟨hi, e⟩ := List.getElem?_eq_some_iff.mp h
        simp at hi e
        subst e
        exact ⟨none, by simp [hi], trivial⟩
      | cons a as ih =>
        intro vs n m r e i s h
        cases r with
        | @cons _ v _ us r1 r2 =>
          cases i with
          | zero =>
            simp at h
            subst h
            refine ⟨some v, by simp, ?_⟩
            cases a with
            | un => trivial
            | d x => exact ⟨v, rfl, r1⟩
            | c k => exact ⟨v, rfl, r1⟩
          | succ i => simpa using ih us n m r2 e i s (by simpa using h)
    exact fun i s h => key as vs _ _ r (by rw [r.length]) i s h
section
variable {P : Program} {w : World} {K : PySem.W.Frag} {mg : Str → Option Value} {base : Heap}
/-- THE RULE for a def -/
theorem fn_p {x qual : Str} {st : Stmt} {f : Addr} {fd : FuncData} {N ps : List Str} {k : Nat} {p : PSp} {t : TXS} (F : Fun K x qual st f fd) (S : FnScope N ps (defScope st)) (len : ∀ x as μ Q, p x as μ Q → as.length = ps.length)
    (hp : ∀ x as μ Q, p x as μ Q → t { nx := fun _ μ => Q (.d .non) μ, rt := Q, ex := x } (startP N.length as) μ)
    (hb : ∀ (cdv : Value) (A : Around) (outer : List Env) (s : Shared) (H : Hp) (E : XK), Room k (A.deeper (envOfC qual (defScope st) s.heap.objs.size f cdv)) →
      PXSs (cxOf (L2.CX P w) P w K mg base N qual (defScope st) f cdv A outer s H E) (fun cls d _ H => E cls d H) (defBody st) t) :
    FnOk P w K mg base (L2.CX P w) (k + 1) f fd ps (low K p) := by
  refine F.okX S (fun vs H Q E h => ?_) fun cdv A outer s H vs Q E hr h => ?_
  · obtain ⟨A, as, μ, G, Qp, x, c, r, hq, _⟩ := h
    rw [← r.length]
    exact len _ _ _ _ hq
  · obtain ⟨A', as, μ, G, Qp, x, c, r, hq, hx, hk⟩ := h
    refine ⟨_, (hb cdv A outer s H E hr).ps, A', startP N.length as, μ, G, _, sim_start c r, hp _ _ _ _ hq, ?_⟩
    refine ⟨fun ρ' μ' A2 σ' G' H' q S' s' => hk _ _ _ _ _ _ q S'.toCells s' .non, fun _ _ _ _ _ _ q => q.elim, fun _ _ _ _ _ _ q => q.elim, fun r μ' A2 G' H' v q c' s' r' => hk _ _ _ _ _ _ q c' s' r', ?_⟩
    exact fun C fs μ' A2 G' H' d σ q c' s' e => hx C fs μ' A2 G' H' d q c' s' e
end

/-! ### calls -/
def cellsOf : List SV → List Nat
  | [] => []
  | .c k :: r => k :: cellsOf r
  | _ :: r => cellsOf r
def relab (n : Nat) : List SV → List SV
  | [] => []
  | .c _ :: r => .c n :: relab (n + 1) r
  | s :: r => s :: relab n r
def nocell : Cell := .lst []
def picked (μ : Mem) (ks : List Nat) : Mem := ks.map fun k => μ.getD k nocell
def merge : Mem → List Nat → Mem → Mem
  | μ, [], _ => μ
  | μ, _ :: _, [] => μ
  | μ, k :: ks, c :: cs => merge (μ.set k c) ks cs
termination_by structural _ ks => ks
theorem merge_length : ∀ (ks : List Nat) (μ cs : Mem), (merge μ ks cs).length = μ.length
  | [], μ, cs => by cases cs <;> rfl
  | k :: ks, μ, [] => rfl
  | k :: ks, μ, c :: cs => by
    show (merge (μ.set k c) ks cs).length = _
    rw [merge_length ks, List.length_set]
theorem merge_out : ∀ (ks : List Nat) (μ cs : Mem) (j : Nat), j ∉ ks → (merge μ ks cs)[j]? = μ[j]?
  | [], μ, cs, j, _ => by cases cs <;> rfl
  | k :: ks, μ, [], j, _ => rfl
  | k :: ks, μ, c :: cs, j, h => by
    show (merge (μ.set k c) ks cs)[j]? = _
    rw [merge_out ks _ _ _ (fun z => h (List.mem_cons_of_mem _ z)), List.getElem?_set_ne (fun e => h (by rw [e]; exact List.mem_cons_self))]
theorem merge_in : ∀ (ks : List Nat) (μ cs : Mem) (i j : Nat), ks.Nodup → ks[i]? = some j → i < cs.length → j < μ.length → (merge μ ks cs)[j]? = cs[i]?
  | [], _, _, _, _, _, h, _, _ => by simp at h
  | k :: ks, μ, [], i, j, _, _, h, _ => by simp at h
  | k :: ks, μ, c :: cs, 0, j, nd, h, _, hj => by
    simp at h
    subst h
    show (merge (μ.set k c) ks cs)[k]? = _
    rw [merge_out ks _ _ _ (List.nodup_cons.mp nd).1, List.getElem?_set_self hj]
    rfl
  | k :: ks, μ, c :: cs, i + 1, j, nd, h, hl, hj => by
    show (merge (μ.set k c) ks cs)[j]? = _
    rw [merge_in ks _ _ i j (List.nodup_cons.mp nd).2 (by simpa using h) (by simpa using hl) (by simpa using hj)]
    simp
/-- a call of a def that promises p -/
def ndP (ks : List Nat) (A : Prop) : Prop := match ks with
  | [] => A
  | [_] => A
  | ks => ks.Nodup ∧ A
theorem ndP_of {ks : List Nat} {A : Prop} (h : ndP ks A) : ks.Nodup ∧ A := by
  match ks, h with
  | [], h => exact ⟨List.nodup_nil, h⟩
  | [_], h => exact ⟨by simp, h⟩
  | _ :: _ :: _, h => exact h
def callP (p : PSp) (x : XP) (ss : List SV) (μ : Mem) (Q : VP) : Prop := ndP (cellsOf ss) <|
  p (fun C fs μ' => x C fs (merge μ (cellsOf ss) μ')) (relab 0 ss) (picked μ (cellsOf ss)) fun r μ' => match r with
    | .d d => Q (.d d) (merge μ (cellsOf ss) μ')
    | .c j => if j < (cellsOf ss).length then Q (.c ((cellsOf ss).getD j 0)) (merge μ (cellsOf ss) μ') else Q (.c μ.length) (merge μ (cellsOf ss) μ' ++ [μ'.getD j nocell])
    | .un => False
section
variable {K : PySem.W.Frag} {A : List Addr} {μ : Mem} {G H : Hp}
def pickA (A : List Addr) (ks : List Nat) : List Addr := ks.map fun k => A.getD k 0
theorem cellsOf_ok : ∀ {ss : List SV} {vs : List V}, RepsS K A G ss vs → ∀ k ∈ cellsOf ss, k < A.length
  | [], _, _, k, h => by simp [cellsOf] at h
  | .c j :: r, _, .cons h t, k, hk => by
    obtain ⟨a, e, _⟩ := h
    rcases List.mem_cons.mp (show k ∈ j :: cellsOf r from hk) with z | z
    · rw [z]; exact (List.getElem?_eq_some_iff.mp e).1
    · exact cellsOf_ok t k z
  | .d _ :: r, _, .cons h t, k, hk => cellsOf_ok t k hk
  | .un :: r, _, .cons h t, k, hk => cellsOf_ok t k hk
theorem relab_ok {B : List Addr} : ∀ {ss : List SV} {vs : List V} (n : Nat), RepsS K A G ss vs → (∀ i k a, (cellsOf ss)[i]? = some k → A[k]? = some a → B[n + i]? = some a) → RepsS K B G (relab n ss) vs
  | [], _, _, .nil, _ => .nil
  | .c j :: r, _, n, .cons h t, hb => by
    obtain ⟨a, e, rfl⟩ := h
    refine .cons ⟨a, by simpa using hb 0 j a rfl e, rfl⟩ (relab_ok (n + 1) t fun i k a h1 h2 => ?_)
    have := hb (i + 1) k a (by simpa [cellsOf] using h1) h2
    rw [show n + 1 + i = n + (i + 1) by omega]
    exact this
  | .d x :: r, _, n, .cons h t, hb => .cons h (relab_ok n t hb)
  | .un :: r, _, n, .cons h t, hb => .cons h (relab_ok n t hb)
theorem pickA_at {ks : List Nat} (h : ∀ k ∈ ks, k < A.length) {i : Nat} {k : Nat} (e : ks[i]? = some k) : ∃ a, A[k]? = some a ∧ (pickA A ks)[i]? = some a := by
  have hk := h k (List.mem_of_getElem? e)
  refine ⟨A[k], List.getElem?_eq_getElem hk, ?_⟩
  unfold pickA
  rw [List.getElem?_map, e]
  show some (A.getD k 0) = _
  rw [List.getD_eq_getElem?_getD, List.getElem?_eq_getElem hk]
  rfl
theorem pickA_mem {ks : List Nat} (h : ∀ k ∈ ks, k < A.length) {a : Addr} (ha : a ∈ pickA A ks) : ∃ k ∈ ks, A[k]? = some a := by
  obtain ⟨k, hk, rfl⟩ := List.mem_map.mp ha
  refine ⟨k, hk, ?_⟩
  rw [List.getD_eq_getElem?_getD, List.getElem?_eq_getElem (h k hk)]
  rfl
theorem Cells.at_inj (c : Cells K A μ G H) {i j : Nat} {a : Addr} (h1 : A[i]? = some a) (h2 : A[j]? = some a) : i = j := by
  obtain ⟨l1, e1⟩ := List.getElem?_eq_some_iff.mp h1
  obtain ⟨l2, e2⟩ := List.getElem?_eq_some_iff.mp h2
  exact (List.getElem_inj c.nd).mp (e1.trans e2.symm)
theorem nodup_map_on {α β : Type} {f : α → β} : ∀ {l : List α}, l.Nodup → (∀ x ∈ l, ∀ y ∈ l, f x = f y → x = y) → (l.map f).Nodup
  | [], _, _ => List.nodup_nil
  | x :: l, nd, h => by
    obtain ⟨h1, h2⟩ := List.nodup_cons.mp nd
    rw [List.map_cons]
    refine List.nodup_cons.mpr ⟨fun hm => ?_, nodup_map_on h2 fun a ha b hb => h a (List.mem_cons_of_mem _ ha) b (List.mem_cons_of_mem _ hb)⟩
    obtain ⟨y, hy, e⟩ := List.mem_map.mp hm
    exact h1 (h x List.mem_cons_self y (List.mem_cons_of_mem _ hy) e.symm ▸ hy)
theorem Cells.pick (c : Cells K A μ G H) {ks : List Nat} (h : ∀ k ∈ ks, k < A.length) (nd : ks.Nodup) : Cells K (pickA A ks) (picked μ ks) G H where
  le := c.le
  len := by simp [pickA, picked]
  nd := by
    unfold pickA
    refine nodup_map_on nd fun i hi j hj e => ?_
    have h1 := List.getElem?_eq_getElem (h i hi)
    have h2 := List.getElem?_eq_getElem (h j hj)
    refine c.at_inj h1 ?_
    rw [List.getD_eq_getElem?_getD, List.getD_eq_getElem?_getD, h1, h2] at e
    rw [h2]; exact congrArg some e.symm
  free := fun a ha => let ⟨k, _, e⟩ := pickA_mem h ha; c.free a (List.mem_of_getElem? e)
  ok := fun i a cl h1 h2 => by
    have hi : i < ks.length := by
      have := (List.getElem?_eq_some_iff.mp h1).1
      simpa [pickA] using this
    obtain ⟨b, e1, e2⟩ := pickA_at h (List.getElem?_eq_getElem hi)
    rw [h1] at e2; cases e2
    unfold picked at h2
    rw [List.getElem?_map, List.getElem?_eq_getElem hi] at h2
    have h2 : μ.getD ks[i] nocell = cl := Option.some.inj h2
    have hm : ks[i] < μ.length := by rw [← c.len]; exact h _ (List.getElem_mem hi)
    rw [List.getD_eq_getElem?_getD, List.getElem?_eq_getElem hm] at h2
    refine c.ok _ _ _ e1 ?_
    rw [List.getElem?_eq_getElem hm]
    exact congrArg some h2
/-- behind a call: the caller's cells -/
theorem Cells.back (c : Cells K A μ G H) {ks : List Nat} (h : ∀ k ∈ ks, k < A.length) (nd : ks.Nodup) {A' : List Addr} {μ' : Mem} {G' H' : Hp} (c' : Cells K A' μ' G' H') (s' : Step (pickA A ks) G H A' G' H') :
    Cells K A (merge μ ks μ') G' H' ∧ Step A G H A G' H' := by
  have sub : ∀ a, a ∉ A → a ∉ pickA A ks := fun a n z => let ⟨k, _, e⟩ := pickA_mem h z; n (List.mem_of_getElem? e)
  have hasH : ∀ a ∈ A, H a ≠ none := fun a ha z => c.ne_of_lt ha z rfl
  refine ⟨⟨c'.le, by rw [merge_length]; exact c.len, c.nd, fun a ha => ?_, fun j a cl h1 h2 => ?_⟩, ⟨List.prefix_refl _, s'.le, fun a o e n => s'.keep a o e (sub a n), s'.new, s'.tups, fun a ha => .inl ha, s'.there⟩⟩
  · cases q : G' a with
    | none => rfl
    | some o =>
      rcases s'.new a (by rw [q]; simp) with z | z | ⟨xs, z⟩
      · exact absurd (c.free a ha) z
      · exact absurd z (hasH a ha)
      · obtain ⟨k, hk⟩ := List.mem_iff_getElem?.mp ha
        have hl : k < μ.length := by rw [← c.len]; exact (List.getElem?_eq_some_iff.mp hk).1
        exact absurd z (c.ok k a _ hk (List.getElem?_eq_getElem hl)).notup
  · have hjl : j < μ.length := by rw [← c.len]; exact (List.getElem?_eq_some_iff.mp h1).1
    by_cases hj : j ∈ ks
    · obtain ⟨i, hi⟩ := List.mem_iff_getElem?.mp hj
      obtain ⟨b, e1, e2⟩ := pickA_at h hi
      rw [h1] at e1; cases e1
      obtain ⟨B, rfl⟩ := s'.pre
      have hil := (List.getElem?_eq_some_iff.mp e2).1
      have e3 : (pickA A ks ++ B)[i]? = some a := by rw [List.getElem?_append_left hil]; exact e2
      have hm : i < μ'.length := by rw [← c'.len, List.length_append]; omega
      rw [merge_in ks μ μ' i j nd hi hm hjl] at h2
      exact c'.ok i a cl e3 h2
    · rw [merge_out ks μ μ' j hj] at h2
      have ok := c.ok j a cl h1 h2
      obtain ⟨o, e⟩ := ok.some
      have na : a ∉ pickA A ks := fun z => by
        obtain ⟨k, hk, e⟩ := pickA_mem h z
        exact hj ((c.at_inj h1 e) ▸ hk)
      refine ok.mono s'.le ?_
      rcases s'.keep a o e na with q | ⟨q, _⟩
      · rw [q, e]
      · rw [c.free a (List.mem_of_getElem? h1)] at q; cases q
end
section
variable {X : Cx} {W : WX} {a b c e : Expr} {es : List Expr} {tL tK : TXA} {pos ppos : Pos} {x : Str}
/-- the promise at a call gives what is wanted there -/
theorem call_low {K : PySem.W.Frag} {p : PSp} {x : XP} {ss : List SV} {vs : List V} {A : List Addr} {μ : Mem} {G H : Hp} {Qp : VP} {Q : VK} (h : callP p x ss μ Qp) (c : Cells K A μ G H) (r : RepsS K A G ss vs) (hx : ExTo K W A G H x)
    (k : ∀ r μ' A' G' H' v, Qp r μ' → Cells K A' μ' G' H' → Step A G H A' G' H' → RepS K A' G' r v → Q v H') : low K p vs H Q (fun cls d H' => ∀ σ, W cls d σ H') := by
  obtain ⟨nd, h⟩ := ndP_of h
  have hk := cellsOf_ok r
  refine ⟨pickA A (cellsOf ss), relab 0 ss, picked μ (cellsOf ss), G, _, _, c.pick hk nd, relab_ok 0 r (fun i k a e1 e2 => ?_), h, fun C fs μ' A' G' H' d q c' s' e σ => ?_, fun r' μ' A' G' H' v q c' s' rr => ?_⟩
  · obtain ⟨b, e3, e4⟩ := pickA_at hk e1
    rw [e2] at e3; cases e3
    rw [Nat.zero_add]; exact e4
  · obtain ⟨c2, s2⟩ := c.back hk nd c' s'
    exact hx C fs _ A G' H' d σ q c2 s2 e
  · obtain ⟨c2, s2⟩ := c.back hk nd c' s'
    match r', q, rr with
    | .d d, q, rr => exact k _ _ _ _ _ _ q c2 s2 rr
    | .c j, q, rr =>
      obtain ⟨b, hb, rfl⟩ := rr
      obtain ⟨B, rfl⟩ := s'.pre
      have hl : (pickA A (cellsOf ss)).length = (cellsOf ss).length := by simp [pickA]
      by_cases hj : j < (cellsOf ss).length
      · have q := (show (if j < (cellsOf ss).length then _ else _ : Prop) from q)
        rw [if_pos hj] at q
        refine k _ _ _ _ _ _ q c2 s2 ⟨b, ?_, rfl⟩
        rw [List.getElem?_append_left (by rw [hl]; exact hj)] at hb
        obtain ⟨b', e3, e4⟩ := pickA_at hk (List.getElem?_eq_getElem hj)
        rw [hb] at e4; cases e4
        rw [List.getD_eq_getElem?_getD, List.getElem?_eq_getElem hj]
        exact e3
      · have q := (show (if j < (cellsOf ss).length then _ else _ : Prop) from q)
        rw [if_neg hj] at q
        have hbm : b ∈ pickA A (cellsOf ss) ++ B := List.mem_of_getElem? hb
        have nb : b ∉ pickA A (cellsOf ss) := fun z => by
          obtain ⟨i, hi⟩ := List.mem_iff_getElem?.mp z
          have hil := (List.getElem?_eq_some_iff.mp hi).1
          have := c'.at_inj hb (by rw [List.getElem?_append_left hil]; exact hi)
          omega
        have fresh : H b = none := (s'.cells b hbm).resolve_left nb
        have nA : b ∉ A := fun z => c.ne_of_lt z fresh rfl
        have hjm : j < μ'.length := by rw [← c'.len]; exact (List.getElem?_eq_some_iff.mp hb).1
        have gcell : μ'[j]? = some (μ'.getD j nocell) := by rw [List.getD_eq_getElem?_getD, List.getElem?_eq_getElem hjm]; rfl
        refine k _ _ (A ++ [b]) G' H' _ q ⟨c2.le, by rw [List.length_append, List.length_append, c2.len]; rfl, ?_, fun a ha => ?_, fun i a cl h1 h2 => ?_⟩ ⟨List.prefix_append _ _, s2.le, s2.keep, s2.new, s2.tups, fun a ha => ?_, s2.there⟩ ⟨b, by rw [← c.len]; simp, rfl⟩
        · refine List.nodup_append.mpr ⟨c.nd, by simp, fun a ha d hd => ?_⟩
          simp at hd
          subst hd
          exact fun z => nA (z ▸ ha)
        · rcases List.mem_append.mp ha with z | z
          · exact c2.free a z
          · simp at z; subst z; exact c'.free a hbm
        · rcases getElem?_append_one h1 with h1 | ⟨z1, z2⟩
          · have : i < (merge μ (cellsOf ss) μ').length := by rw [← c2.len]; exact (List.getElem?_eq_some_iff.mp h1).1
            rw [List.getElem?_append_left this] at h2
            exact c2.ok i a cl h1 h2
          · subst z2
            rw [z1, c2.len, List.getElem?_append_right (Nat.le_refl _)] at h2
            simp at h2
            subst h2
            exact c'.ok j a _ hb gcell
        · rcases List.mem_append.mp ha with z | z
          · exact .inl z
          · simp at z; subst z; exact .inr fresh
def xUser (p : PSp) (t : TXA) : TX := fun x ρ μ Q => t x ρ μ fun ss μ1 => callP p x ss μ1 Q
theorem px_call {k : Nat} {f : Addr} {fd : FuncData} {ps : List Str} {p : PSp} (tk : Takes X W) (F : FnOk X.prog X.w X.K X.mg X.base (L2.CX X.prog X.w) k f fd ps (low X.K p)) (hr : Room k X.A) (hg : Gl X x) (hm : X.mg x = some (.ref f)) (hk : PySem.W.keepIn X.K (.ref f) = true)
    (hb : Binds X.K fd ps []) (ha : PXA X W (e :: es) tL) (hdb : (x == ("__debug__" : Str)) = false := by decide) (he : starEach (e :: es) X.env = (false, eval e X.env) :: starEach es X.env := by rfl) (hpl : (backTo pos (starEach es X.env)).any (·.1) = false := by rfl) :
    PX X W (.Call (.Name x ppos) (e :: es) [] pos) (xUser p tL) := by
  refine ⟨(pe_call F hr hg hm hk hb .nil (E := fun cls d H' => ∀ σ, W cls d σ H') (passes_call tk fun _ _ σ _ h => h σ) ha.pa hdb he hpl).imp fun σ H Q h => ?_⟩
  obtain ⟨A, ρ, μ, G, Qp, xp, S, ht, hx, k⟩ := h
  refine ⟨A, ρ, μ, G, _, xp, S, ht, hx, fun ss μ1 A1 G1 H1 vs q c1 s1 r1 => ?_⟩
  show low X.K p (vs ++ []) H1 Q _
  rw [List.append_nil]
  exact call_low q c1 r1 (hx.after s1) fun r μ' A' G' H' v q3 c3 s3 r3 => k r μ' A' G' H' v q3 c3 (s1.trans s3) r3
end
end PL
/-! The P-layer: keywords, methods of lists, calls of local names, dicts. -/
namespace PL
open PySem PySem.Spec PyProof.Rows L2
/-! ### calls with keywords -/
def permG {α : Type} (z : α) (perm : List Nat) (us ws : List α) : List α := perm.map fun i => (us ++ ws).getD i z
theorem permG_rel {perm : List Nat} {vs : List V} {us : List Value} {zs : List V} {ws : List Value} (r1 : Vals vs us) (r2 : Vals zs ws) : Vals (permG .non perm vs zs) (permG Value.none perm us ws) := by
  have r := r1.append r2
  unfold permG
  induction perm with
  | nil => exact .nil
  | cons i perm ih =>
    refine .cons ?_ ih
    show RelV ((vs ++ zs).getD i .non) ((us ++ ws).getD i Value.none)
    rw [List.getD_eq_getElem?_getD, List.getD_eq_getElem?_getD]
    cases e : (vs ++ zs)[i]? with
    | none => rw [r.none_of e]; rfl
    | some x =>
      obtain ⟨u, h1, h2⟩ := r.get e
      rw [h1]; exact h2
theorem kbn_of {K : PySem.W.Frag} {x qual : Str} {params : Arguments} {body : List Stmt} {scope : Scope} {kws : List (Str × V)} {f : Addr} {fd : FuncData} {ps : List Str} (F : FunD K x qual params body scope [] kws f fd) (n : Nat) (ks : List Str) (perm : List Nat)
    (h : ∀ (kV doc pm : Value) (an : Option Addr) (cdv ct : Value) (us ws : List Value), us.length = n → ws.length = ks.length → bindArgs (PySem.W.fnOf x qual params body scope .none kV doc pm an cdv ct) ⟨us, ks.zip ws⟩ = pure (ps.zip (permG Value.none perm us ws))) :
    KBn K fd ps n ks (permG Value.none perm) (permG .non perm) := by
  obtain ⟨oc, od, dV, kV, doc, pm, an, cdv, ct, osl, rfl, lk, hcd, hD, hK⟩ := F.ex
  rcases hD with ⟨_, rfl⟩ | ⟨e, _⟩
  · exact ⟨fun s us ws _ h1 h2 => .of_eq (h kV doc pm an cdv ct us ws h1 h2), fun r1 r2 => permG_rel r1 r2⟩
  · exact absurd rfl e
structure PXK (X : Cx) (W : WX) (kws : List Keyword) (t : TXA) : Prop where
  pk : PK X kws (liftA X.K W t)
theorem _root_.L2.PK.imp {X : Cx} {e : List Keyword} {t t' : TA} (h : PK X e t) (i : ∀ σ H Q, t' σ H Q → t σ H Q) : PK X e t' := ⟨fun pos pins s σ H Q I q => h.run pos pins s σ H Q I (i _ _ _ q)⟩
section
variable {X : Cx} {W : WX} {a b c e o : Expr} {es : List Expr} {kws : List Keyword} {ta tb tc te to : TX} {tL tK : TXA} {pos ppos kpos apos cpos : Pos} {x : Str} {nm : Option Str}
theorem pxk_nil : PXK X W [] xNil := by
  refine ⟨pk_nil.imp fun σ H Q h => ?_⟩
  obtain ⟨A, ρ, μ, G, Qp, xp, S, ht, hx, k⟩ := h
  exact k _ _ _ _ _ _ ht S.toCells .refl .nil
theorem pxk_cons (ha : PX X W e ta) (hr : PXK X W kws tL) : PXK X W (⟨nm, e, kpos⟩ :: kws) (xCons ta tL) := by
  refine ⟨(pk_cons ha.pe hr.pk).imp fun σ H Q h => ?_⟩
  obtain ⟨A, ρ, μ, G, Qp, xp, S, ht, hx, k⟩ := h
  refine ⟨A, ρ, μ, G, _, xp, S, ht, hx, fun r μ' A' G' H' v q c s rr => ?_⟩
  exact ⟨A', ρ, μ', G', _, xp, S.after s c, q, hx.after s, fun rs μ2 A2 G2 H2 vs q2 c2 s2 rr2 => k _ _ _ _ _ _ q2 c2 (s.trans s2) (.cons (rr.mono s2.pre s2.le) rr2)⟩
theorem RepsS.app {K : PySem.W.Frag} {A : List Addr} {G : Hp} : ∀ {ds es : List SV} {vs us : List V}, RepsS K A G ds vs → RepsS K A G es us → RepsS K A G (ds ++ es) (vs ++ us)
  | _, _, _, _, .nil, t => t
  | _, _, _, _, .cons r s, t => .cons r (RepsS.app s t)
theorem RepsS.at {K : PySem.W.Frag} {A : List Addr} {G : Hp} : ∀ {ds : List SV} {vs : List V} (i : Nat), RepsS K A G ds vs → RepS K A G (ds.getD i .un) (vs.getD i .non)
  | _, _, _, .nil => by simp; trivial
  | _, _, 0, .cons r _ => by simpa using r
  | _, _, i + 1, .cons _ t => by simpa using RepsS.at i t
theorem permG_reps {K : PySem.W.Frag} {A : List Addr} {G : Hp} {ds es : List SV} {vs us : List V} (r1 : RepsS K A G ds vs) (r2 : RepsS K A G es us) : ∀ perm : List Nat, RepsS K A G (permG .un perm ds es) (permG .non perm vs us)
  | [] => .nil
  | i :: perm => .cons (RepsS.at i (r1.app r2)) (permG_reps r1 r2 perm)
def xUserK (p : PSp) (n m : Nat) (perm : List Nat) (t tk : TXA) : TX := fun x ρ μ Q => t x ρ μ fun ss μ1 => tk x ρ μ1 fun zs μ2 => (ss.length = n ∧ zs.length = m) ∧ callP p x (permG .un perm ss zs) μ2 Q
theorem px_callKw {k n : Nat} {f : Addr} {fd : FuncData} {ps ks : List Str} {p : PSp} {perm : List Nat} (tk : Takes X W) (F : FnOk X.prog X.w X.K X.mg X.base (L2.CX X.prog X.w) k f fd ps (low X.K p)) (hr : Room k X.A) (hg : Gl X x) (hm : X.mg x = some (.ref f)) (hk : PySem.W.keepIn X.K (.ref f) = true)
    (hb : KBn X.K fd ps n ks (permG Value.none perm) (permG .non perm)) (ha : PXA X W (e :: es) tL) (hkw : PXK X W kws tK) (hall : (backToKw pos (keywordEach kws X.env)).all (·.1.isSome) = true := by rfl) (hks : (backToKw pos (keywordEach kws X.env)).filterMap (·.1) = ks := by rfl)
    (hdb : (x == ("__debug__" : Str)) = false := by decide) (he : starEach (e :: es) X.env = (false, eval e X.env) :: starEach es X.env := by rfl)
    (hpl : ((backTo pos (starEach (e :: es) X.env)).any (·.1) || (backToKw pos (keywordEach kws X.env)).any (·.1.isNone)) = false := by rfl) : PX X W (.Call (.Name x ppos) (e :: es) kws pos) (xUserK p n ks.length perm tL tK) := by
  refine ⟨(pe_callN F hr hg hm hk hb (E := fun cls d H' => ∀ σ, W cls d σ H') (passes_call tk fun _ _ σ _ h => h σ) ha.pa hkw.pk hall hks hdb he hpl).imp fun σ H Q h => ?_⟩
  obtain ⟨A, ρ, μ, G, Qp, xp, S, ht, hx, k⟩ := h
  refine ⟨A, ρ, μ, G, _, xp, S, ht, hx, fun ss μ1 A1 G1 H1 vs q c1 s1 r1 => ?_⟩
  refine ⟨A1, ρ, μ1, G1, _, xp, S.after s1 c1, q, hx.after s1, fun zs μ2 A2 G2 H2 us q2 c2 s2 r2 => ?_⟩
  obtain ⟨⟨l1, l2⟩, q2⟩ := q2
  have s12 := s1.trans s2
  refine ⟨by rw [← r1.length]; exact l1, by rw [← r2.length]; exact l2, ?_⟩
  exact call_low q2 c2 (permG_reps (r1.mono s2.pre s2.le) r2 perm) (hx.after s12) fun r μ' A' G' H' v q3 c3 s3 r3 => k r μ' A' G' H' v q3 c3 (s12.trans s3) r3
/-- f(k = v, ..) -/
theorem px_callKw0 {k : Nat} {f : Addr} {fd : FuncData} {ps ks : List Str} {p : PSp} {perm : List Nat} (tk : Takes X W) (F : FnOk X.prog X.w X.K X.mg X.base (L2.CX X.prog X.w) k f fd ps (low X.K p)) (hr : Room k X.A) (hg : Gl X x) (hm : X.mg x = some (.ref f)) (hk : PySem.W.keepIn X.K (.ref f) = true)
    (hb : KBn X.K fd ps 0 ks (permG Value.none perm) (permG .non perm)) (hkw : PXK X W kws tK) (hall : (backToKw pos (keywordEach kws X.env)).all (·.1.isSome) = true := by rfl) (hks : (backToKw pos (keywordEach kws X.env)).filterMap (·.1) = ks := by rfl)
    (hdb : (x == ("__debug__" : Str)) = false := by decide)
    (hpl : ((backTo pos (starEach [] X.env)).any (·.1) || (backToKw pos (keywordEach kws X.env)).any (·.1.isNone)) = false := by rfl) : PX X W (.Call (.Name x ppos) [] kws pos) (xUserK p 0 ks.length perm xNil tK) := by
  refine ⟨⟨fun pins s σ H Q I h => ?_⟩⟩
  obtain ⟨A, ρ, μ, G, Qp, xp, S, ht, hx, k⟩ := h
  refine wpAny_Call_Name_kw (ld_glob I hg hm ?_ hdb)
  refine PySem.W.callWith_KW0 (h₀ := X.base) I.ok.mod.kin hk hall ?_ hpl
  refine thn (hkw.pk.run pos pins s σ H (fun us H2 => us.length = ks.length ∧ low X.K p (permG .non perm [] us) H2 Q (fun cls d H' => ∀ σ, W cls d σ H')) I ?_) fun ws s2 ⟨zs, H2, I2, rz, l2, q2⟩ => ⟨I2.kIn, ?_⟩
  · refine ⟨A, ρ, μ, G, _, xp, S, ht, hx, fun zs μ2 A2 G2 H2 us q2 c2 s2 r2 => ?_⟩
    obtain ⟨⟨l1, l2⟩, q2⟩ := q2
    refine ⟨by rw [← r2.length]; exact l2, ?_⟩
    exact call_low q2 c2 (permG_reps .nil r2 perm) (hx.after s2) fun r μ' A' G' H' v q3 c3 s3 r3 => k r μ' A' G' H' v q3 c3 (s2.trans s3) r3
  · rw [hks]
    exact run_fnN (us := []) (vs := []) F hr hb (passes_call tk fun _ _ σ _ h => h σ) I2 .nil rz rfl l2 q2

/-! ### calls of a local name that holds a def -/
/-- the def at f keeps p -/
structure HeldP (P : Program) (w : World) (K : PySem.W.Frag) (mg : Str → Option Value) (base : Heap) (k : Nat) (f : Addr) (p : PSp) : Prop where
  ex : ∃ (fd : FuncData) (ps : List Str), FnOk P w K mg base (L2.CX P w) k f fd ps (low K p) ∧ PySem.W.keepIn K (.ref f) = true ∧ Binds K fd ps []
def xLocal (i : Nat) (T : Addr → Option PSp) (t : TXA) : TX := fun x ρ μ Q => match ρ[i]? with
  | some (.d (.fn f)) => on (T f) fun p => t x ρ μ fun ss μ1 => callP p x ss μ1 Q
  | _ => False
theorem px_local {i k : Nat} {T : Addr → Option PSp} (tk : Takes X W) (hT : ∀ f p, T f = some p → HeldP X.prog X.w X.K X.mg X.base k f p) (hr : Room k X.A) (hN : X.N[i]? = some x) (hv : Vis X.env.scope x) (ha : PXA X W (e :: es) tL)
    (hdb : (x == ("__debug__" : Str)) = false := by decide) (hcd : (x == ("__classdict__" : Str)) = false := by decide)
    (he : starEach (e :: es) X.env = (false, eval e X.env) :: starEach es X.env := by rfl) (hpl : (backTo pos (starEach es X.env)).any (·.1) = false := by rfl) : PX X W (.Call (.Name x ppos) (e :: es) [] pos) (xLocal i T tL) := by
  refine ⟨⟨fun pins s σ H Q I h => ?_⟩⟩
  obtain ⟨A, ρ, μ, G, Qp, xp, S, ht, hx, k⟩ := h
  unfold xLocal at ht
  split at ht
  · rename_i f e1
    obtain ⟨p, hp, ht⟩ := on_of ht
    obtain ⟨fd, ps, F, hk, hb⟩ := (hT f p hp).ex
    obtain ⟨o, e2, v, rfl, r⟩ := S.at_ _ _ e1
    cases r
    refine (pe_callL (i := i) F hr hN hv hk hb .nil (E := fun cls d H' => ∀ σ, W cls d σ H') (passes_call tk fun _ _ σ _ h => h σ) ha.pa hdb hcd he hpl).run pins s σ H Q I ⟨e2, ?_⟩
    refine ⟨A, ρ, μ, G, _, xp, S, ht, hx, fun ss μ1 A1 G1 H1 vs q c1 s1 r1 => ?_⟩
    show low X.K p (vs ++ []) H1 Q _
    rw [List.append_nil]
    exact call_low q c1 r1 (hx.after s1) fun r μ' A' G' H' v q3 c3 s3 r3 => k r μ' A' G' H' v q3 c3 (s1.trans s3) r3
  · exact ht.elim

/-! ### methods of lists -/
def PMt (K : PySem.W.Frag) (r : V → List V → Hp → VK → Prop) (P : SV → List SV → Mem → VP → Prop) : Prop := ∀ (so : SV) (ss : List SV) (μ : Mem) (A : List Addr) (G H : Hp) (v : V) (vs : List V) (Qp : VP) (Q : VK), P so ss μ Qp → Cells K A μ G H → RepS K A G so v → RepsS K A G ss vs →
  (∀ r μ' A' G' H' v, Qp r μ' → Cells K A' μ' G' H' → Step A G H A' G' H' → RepS K A' G' r v → Q v H') → r v vs H Q
/-- the receiver is a list -/
def isLst (s : SV) (μ : Mem) : Prop := ∃ l, lstOf s μ = some l
def xMeth (P : SV → List SV → Mem → VP → Prop) (to : TX) (t : TXA) : TX := fun x ρ μ Q => to x ρ μ fun so μ1 => (lstOf so μ1).isSome = true ∧ t x ρ μ1 fun ss μ2 => P so ss μ2 Q
theorem px_lmeth {name : Str} {id : String} {r : V → List V → Hp → VK → Prop} {P : SV → List SV → Mem → VP → Prop} (slot : Slot "list" name id) (hty : typeOf (.builtin id) = pure (.type "method_descriptor")) (hm : MtR X id r) (hp : PMt X.K r P) (ho : PX X W o to) (ha : PXA X W (e :: es) tL)
    (hbase : attributeBase o name X.env (eval o X.env) = eval o X.env := by rfl)
    (hfew : ((backTo cpos (starEach (e :: es) X.env)).all (fun x => !x.1) && (backToKw cpos (keywordEach [] X.env)).all (fun x => x.1.isSome)
      && decide ((e :: es).length + ([] : List Keyword).length + (if ([] : List Keyword).isEmpty then 0 else 1) < 30)) = true := by rfl)
    (hline : (apos.endLine == cpos.line) = true := by rfl) (hs : starEach (e :: es) X.env = (false, eval e X.env) :: starEach es X.env := by rfl) (hplain : (backTo cpos (starEach es X.env)).any (·.1) = false := by rfl) :
    PX X W (.Call (.Attribute o name apos) (e :: es) [] cpos) (xMeth P to tL) := by
  refine ⟨(pe_bm PySem.F.plainAttrs_list slot hty hm ho.pe ha.pa hbase hfew hline hs hplain).imp fun σ H Q h => ?_⟩
  obtain ⟨A, ρ, μ, G, Qp, xp, S, ht, hx, k⟩ := h
  refine ⟨A, ρ, μ, G, _, xp, S, ht, hx, fun so μ1 A1 G1 H1 v q c1 s1 r1 => ?_⟩
  obtain ⟨hl, q⟩ := q
  obtain ⟨l, hl⟩ := Option.isSome_iff_exists.mp hl
  obtain ⟨a, us, rfl, h1, h2⟩ := lstOf_rep hl c1 r1
  refine ⟨Or.inl ⟨rfl, _, SqL.of h1⟩, A1, ρ, μ1, G1, _, xp, S.after s1 c1, q, hx.after s1, fun ss μ2 A2 G2 H2 vs q2 c2 s2 r2 => ?_⟩
  exact hp so ss μ2 A2 G2 H2 _ vs Qp Q q2 c2 (r1.mono s2.pre s2.le) r2 fun r μ' A' G' H' v q3 c3 s3 r3 => k r μ' A' G' H' v q3 c3 ((s1.trans s2).trans s3) r3
theorem px_lmeth0 {name : Str} {id : String} {r : V → List V → Hp → VK → Prop} {P : SV → List SV → Mem → VP → Prop} (slot : Slot "list" name id) (hty : typeOf (.builtin id) = pure (.type "method_descriptor")) (hm : MtR X id r) (hp : PMt X.K r P) (ho : PX X W o to)
    (hbase : attributeBase o name X.env (eval o X.env) = eval o X.env := by rfl) (hline : (apos.endLine == cpos.line) = true := by rfl) : PX X W (.Call (.Attribute o name apos) [] [] cpos) (xMeth P to xNil) := by
  refine ⟨(pe_bm0 PySem.F.plainAttrs_list slot hty hm ho.pe hbase hline).imp fun σ H Q h => ?_⟩
  obtain ⟨A, ρ, μ, G, Qp, xp, S, ht, hx, k⟩ := h
  refine ⟨A, ρ, μ, G, _, xp, S, ht, hx, fun so μ1 A1 G1 H1 v q c1 s1 r1 => ?_⟩
  obtain ⟨hl, q⟩ := q
  obtain ⟨l, hl⟩ := Option.isSome_iff_exists.mp hl
  obtain ⟨a, us, rfl, h1, h2⟩ := lstOf_rep hl c1 r1
  refine ⟨Or.inl ⟨rfl, _, SqL.of h1⟩, ?_⟩
  exact hp so [] μ1 A1 G1 H1 _ [] Qp Q q c1 r1 .nil fun r μ' A' G' H' v q3 c3 s3 r3 => k r μ' A' G' H' v q3 c3 (s1.trans s3) r3
/-- l.append(x) -/
def pAppend : SV → List SV → Mem → VP → Prop := fun so ss μ Q => match so, ss with
  | .c k, [.d y] => match μ[k]? with
    | some (.lst l) => l.length < sizeLine ∧ Q (.d .non) (μ.set k (.lst (l ++ [y])))
    | _ => False
  | _, _ => False
theorem pmt_append {K : PySem.W.Frag} : PMt K rAppend pAppend := by
  intro so ss μ A G H v vs Qp Q h c ro rs k
  match so, ss, h, ro, rs with
  | .c kk, [.d y], h, ro, .cons r .nil =>
    obtain ⟨a, ha, rfl⟩ := ro
    simp only [pAppend] at h
    split at h
    · rename_i l hk
      obtain ⟨hz, h⟩ := h
      obtain ⟨us, h1, h2⟩ := c.ok _ _ _ ha hk
      refine ⟨a, us, _, rfl, rfl, h1, by rw [← h2.length]; exact hz, ?_⟩
      obtain ⟨c3, s3⟩ := c.write (o := .lst (us ++ [_])) (cl := .lst (l ++ [y])) ha ⟨_, upd_same, h2.app (.cons r .nil)⟩
      exact k _ _ _ _ _ _ h c3 s3 .non
    · exact h.elim
theorem px_append (ho : PX X W o to) (ha : PXA X W [e] tL) (hbase : attributeBase o "append" X.env (eval o X.env) = eval o X.env := by rfl)
    (hfew : ((backTo cpos (starEach [e] X.env)).all (fun x => !x.1) && (backToKw cpos (keywordEach [] X.env)).all (fun x => x.1.isSome)
      && decide ([e].length + ([] : List Keyword).length + (if ([] : List Keyword).isEmpty then 0 else 1) < 30)) = true := by rfl)
    (hline : (apos.endLine == cpos.line) = true := by rfl) (hs : starEach [e] X.env = (false, eval e X.env) :: starEach [] X.env := by rfl) : PX X W (.Call (.Attribute o "append" apos) [e] [] cpos) (xMeth pAppend to tL) :=
  px_lmeth PySem.F.slot_list_append PySem.F.type_list_append mt_append pmt_append ho ha hbase hfew hline hs rfl
/-- l.extend(m) -/
def pExtend : SV → List SV → Mem → VP → Prop := fun so ss μ Q => match so, ss with
  | .c k, [s] => match μ[k]? with
    | some (.lst l) => on (lstOf s μ) fun m => l.length + m.length ≤ sizeLine ∧ Q (.d .non) (μ.set k (.lst (l ++ m)))
    | _ => False
  | _, _ => False
theorem pmt_extend {K : PySem.W.Frag} : PMt K rExtend pExtend := by
  intro so ss μ A G H v vs Qp Q h c ro rs k
  match so, ss, h, ro, rs with
  | .c kk, [s], h, ro, .cons r .nil =>
    obtain ⟨a, ha, rfl⟩ := ro
    simp only [pExtend] at h
    split at h
    · rename_i l hk
      obtain ⟨m, hm, hz, h⟩ := on_of h
      obtain ⟨us, h1, h2⟩ := c.ok _ _ _ ha hk
      obtain ⟨b, ws, rfl, h3, h4⟩ := lstOf_rep hm c r
      refine ⟨a, b, us, ws, rfl, rfl, h1, h3, by rw [← h2.length, ← h4.length]; exact hz, ?_⟩
      obtain ⟨c3, s3⟩ := c.write (o := .lst (us ++ ws)) (cl := .lst (l ++ m)) ha ⟨_, upd_same, h2.app h4⟩
      exact k _ _ _ _ _ _ h c3 s3 .non
    · exact h.elim
theorem px_extend (ho : PX X W o to) (ha : PXA X W [e] tL) (hbase : attributeBase o "extend" X.env (eval o X.env) = eval o X.env := by rfl)
    (hfew : ((backTo cpos (starEach [e] X.env)).all (fun x => !x.1) && (backToKw cpos (keywordEach [] X.env)).all (fun x => x.1.isSome)
      && decide ([e].length + ([] : List Keyword).length + (if ([] : List Keyword).isEmpty then 0 else 1) < 30)) = true := by rfl)
    (hline : (apos.endLine == cpos.line) = true := by rfl) (hs : starEach [e] X.env = (false, eval e X.env) :: starEach [] X.env := by rfl) : PX X W (.Call (.Attribute o "extend" apos) [e] [] cpos) (xMeth pExtend to tL) :=
  px_lmeth PySem.F.slot_list_extend PySem.F.type_list_extend mt_extend pmt_extend ho ha hbase hfew hline hs rfl

end
end PL
/-! The P-layer: dicts; operations whatever the sorts. -/
namespace PL
open PySem PySem.Spec PyProof.Rows L2
def keyOf : D → Option Key
  | .int i => some (.inl i)
  | .str x => some (.inr x)
  | _ => none
def keysOf : List D → Option (List Key)
  | [] => some []
  | d :: ds => match keyOf d, keysOf ds with
    | some k, some ks => some (k :: ks)
    | _, _ => none
theorem keyOf_eq {d : D} {k : Key} (h : keyOf d = some k) : d = keyD k := by
  cases d <;> simp [keyOf] at h
  all_goals subst h; rfl
theorem keysOf_eq : ∀ {l : List D} {ks : List Key}, keysOf l = some ks → l = ks.map keyD
  | [], ks, h => by simp [keysOf] at h; subst h; rfl
  | d :: ds, ks, h => by
    unfold keysOf at h
    split at h
    · rename_i k ks' h1 h2
      cases h
      rw [keyOf_eq h1, keysOf_eq h2]; rfl
    · cases h
theorem keyD_inj {a b : Key} (h : keyD a = keyD b) : a = b := by
  cases a <;> cases b <;> simp [keyD] at h
  all_goals rw [h]
theorem keysD_inj : ∀ {a b : List Key}, a.map keyD = b.map keyD → a = b
  | [], [], _ => rfl
  | [], _ :: _, h => by simp at h
  | _ :: _, [], h => by simp at h
  | x :: a, y :: b, h => by
    simp only [List.map_cons, List.cons.injEq] at h
    rw [keyD_inj h.1, keysD_inj h.2]
theorem keyD_rep {K : PySem.W.Frag} {G : Hp} (k : Key) : Rep K G (keyD k) (kV k) := by
  cases k with
  | inl i => exact .int i
  | inr x => exact .str x
theorem keyD_reps {K : PySem.W.Frag} {G : Hp} : ∀ ks : List Key, Reps K G (ks.map keyD) (ks.map kV)
  | [] => .nil
  | k :: ks => .cons (keyD_rep k) (keyD_reps ks)
theorem keyD_val {K : PySem.W.Frag} {G : Hp} {k : Key} {v : V} (r : Rep K G (keyD k) v) : v = kV k := by
  cases k with
  | inl i => cases r; rfl
  | inr x => cases r; rfl
theorem keysD_vals {K : PySem.W.Frag} {G : Hp} : ∀ {ks : List Key} {vs : List V}, Reps K G (ks.map keyD) vs → vs = ks.map kV
  | [], _, .nil => rfl
  | k :: ks, _, .cons h t => by rw [keyD_val h, keysD_vals t]; rfl

open Classical in
noncomputable def findD : List D → List D → D → Option D
  | k :: ks, v :: vs, x => if k = x then some v else findD ks vs x
  | _, _, _ => none
open Classical in
noncomputable def putKs (ks : List D) (k : D) : List D := if k ∈ ks then ks else ks ++ [k]
open Classical in
noncomputable def putVs (ks vs : List D) (k v : D) : List D := if k ∈ ks then List.zipWith (fun k' v' => if k' = k then v else v') ks vs else vs ++ [v]
section
variable {κ : Type} [DecidableEq κ] {kd : κ → D} {K : PySem.W.Frag} {G : Hp}
theorem findD_rep (inj : ∀ a b, kd a = kd b → a = b) (k : κ) : ∀ {kvs : List (κ × V)} {vs : List D}, Reps K G vs (kvs.map Prod.snd) → (∀ v, valV kvs k = some v → ∃ d, findD (kvs.map fun p => kd p.1) vs (kd k) = some d ∧ Rep K G d v) ∧ (valV kvs k = none → findD (kvs.map fun p => kd p.1) vs (kd k) = none)
  | [], _, .nil => ⟨fun v h => (by cases h), fun _ => rfl⟩
  | p :: kvs, _, .cons r t => by
    obtain ⟨h1, h2⟩ := findD_rep inj k t
    by_cases e : p.1 = k
    · rw [valV_pos e]
      refine ⟨fun v h => ?_, fun h => by cases h⟩
      cases h
      exact ⟨_, by simp only [List.map_cons, findD]; rw [if_pos (by rw [e])], r⟩
    · have e' : ¬ kd p.1 = kd k := fun z => e (inj _ _ z)
      rw [valV_neg e]
      refine ⟨fun v h => ?_, fun h => ?_⟩
      · obtain ⟨d, q, r'⟩ := h1 v h
        exact ⟨d, by simp only [List.map_cons, findD]; rw [if_neg e']; exact q, r'⟩
      · simp only [List.map_cons, findD]; rw [if_neg e']; exact h2 h
theorem any_mem (inj : ∀ a b, kd a = kd b → a = b) (k : κ) (kvs : List (κ × V)) : (kvs.any fun kv => decide (kv.1 = k)) = true ↔ kd k ∈ kvs.map fun p => kd p.1 := by
  rw [List.any_eq_true, List.mem_map]
  constructor
  · rintro ⟨p, hp, e⟩
    exact ⟨p, hp, by rw [of_decide_eq_true e]⟩
  · rintro ⟨p, hp, e⟩
    exact ⟨p, hp, decide_eq_true (inj _ _ e)⟩
theorem put_keys (inj : ∀ a b, kd a = kd b → a = b) (kvs : List (κ × V)) (k : κ) (v : V) : (putK kvs k v).map (fun p => kd p.1) = putKs (kvs.map fun p => kd p.1) (kd k) := by
  unfold putK putKs
  by_cases h : (kvs.any fun kv => decide (kv.1 = k)) = true
  · rw [if_pos h, if_pos ((any_mem inj k kvs).mp h), List.map_map]
    refine List.map_congr_left fun p _ => ?_
    show kd (if p.1 = k then (p.1, v) else p).1 = kd p.1
    split <;> rfl
  · rw [if_neg h, if_neg (fun z => h ((any_mem inj k kvs).mpr z)), List.map_append]
    rfl
theorem put_vals (inj : ∀ a b, kd a = kd b → a = b) {kvs : List (κ × V)} {vs : List D} (r : Reps K G vs (kvs.map Prod.snd)) (k : κ) {d : D} {v : V} (rv : Rep K G d v) : Reps K G (putVs (kvs.map fun p => kd p.1) vs (kd k) d) ((putK kvs k v).map Prod.snd) := by
  unfold putK putVs
  by_cases h : (kvs.any fun kv => decide (kv.1 = k)) = true
  · rw [if_pos h, if_pos ((any_mem inj k kvs).mp h)]
    clear h
    induction kvs generalizing vs with
    | nil => cases r; exact .nil
    | cons p kvs ih =>
      cases r with
      | cons r t =>
        refine .cons ?_ (ih t)
        show Rep K G (@ite D (kd p.1 = kd k) (Classical.propDecidable _) d _) (if p.1 = k then (p.1, v) else p).2
        by_cases e : p.1 = k
        · rw [if_pos e, if_pos (by rw [e])]; exact rv
        · rw [if_neg e, if_neg (fun z => e (inj _ _ z))]; exact r
  · rw [if_neg h, if_neg (fun z => h ((any_mem inj k kvs).mpr z)), List.map_append]
    exact r.app (.cons rv .nil)
end

/-- what is read as a dict: whether its keys are tuples, its keys, its values -/
def dicOf (s : SV) (μ : Mem) : Option (Bool × List D × List D) := match s with
  | .d (.dic t ks vs) => some (t, ks, vs)
  | .c k => match μ[k]? with
    | some (.dK ks vs) => some (false, ks, vs)
    | some (.dT ks vs) => some (true, ks, vs)
    | _ => none
  | _ => none
def DicAt (K : PySem.W.Frag) (G H : Hp) (a : Addr) : Bool × List D × List D → Prop
  | (false, ks, vs) => ∃ kvs : List (Key × V), Rd H a (.dK kvs) ∧ ks = kvs.map (fun p => keyD p.1) ∧ Reps K G vs (kvs.map Prod.snd)
  | (true, ks, vs) => ∃ kvs : List (List Key × V), Rd H a (.dT kvs) ∧ ks = kvs.map (fun p => .tup (p.1.map keyD)) ∧ Reps K G vs (kvs.map Prod.snd)
theorem dicOf_rep {K : PySem.W.Frag} {A : List Addr} {μ : Mem} {G H : Hp} {s : SV} {v : V} {z : Bool × List D × List D} (e : dicOf s μ = some z) (c : Cells K A μ G H) (r : RepS K A G s v) : ∃ a, v = .ref a ∧ DicAt K G H a z := by
  unfold dicOf at e
  split at e
  · cases e
    cases r with
    | dicK h k hs => exact ⟨_, rfl, _, c.le.rd h, k, hs⟩
    | dicT h k hs => exact ⟨_, rfl, _, c.le.rd h, k, hs⟩
  · obtain ⟨a, ha, rfl⟩ := r
    split at e
    · rename_i hk
      cases e
      obtain ⟨kvs, h1, h2, h3⟩ := c.ok _ _ _ ha hk
      exact ⟨a, rfl, kvs, .inl h1, h2, h3⟩
    · rename_i hk
      cases e
      obtain ⟨kvs, h1, h2, h3⟩ := c.ok _ _ _ ha hk
      exact ⟨a, rfl, kvs, .inl h1, h2, h3⟩
    · cases e
  · cases e
/-- the key is of the sort: ints, texts for the one sort of dicts, tuples of such for the other one -/
def fitK : Bool → D → Bool
  | false, .int _ => true
  | false, .str _ => true
  | true, .tup l => (keysOf l).isSome
  | _, _ => false
theorem tupKey_inj {a b : List Key} (h : (D.tup (a.map keyD)) = .tup (b.map keyD)) : a = b := keysD_inj (by injection h)
theorem fitF {k : D} (h : fitK false k = true) : ∃ k', k = keyD k' := by
  cases k <;> simp [fitK] at h
  · exact ⟨.inl _, rfl⟩
  · exact ⟨.inr _, rfl⟩
theorem fitT {k : D} (h : fitK true k = true) : ∃ ks : List Key, k = .tup (ks.map keyD) := by
  cases k <;> simp [fitK] at h
  obtain ⟨ks, e⟩ := Option.isSome_iff_exists.mp h
  exact ⟨ks, by rw [keysOf_eq e]⟩
theorem tupKey_val {K : PySem.W.Frag} {G H : Hp} {ks : List Key} {v : V} (le : Le G H) (r : Rep K G (.tup (ks.map keyD)) v) : ∃ b, v = .ref b ∧ H b = some (.tup (ks.map kV)) := by
  cases r with
  | tup h hs => rw [keysD_vals hs] at h; exact ⟨_, rfl, le _ _ h⟩
/-- what a dict holds at a key -/
theorem dget_of {K : PySem.W.Frag} {A : List Addr} {μ : Mem} {G H : Hp} {sd : SV} {vd vk : V} {t : Bool} {ks vs : List D} {k : D} (c : Cells K A μ G H) (e : dicOf sd μ = some (t, ks, vs)) (rd : RepS K A G sd vd) (rk : Rep K G k vk) (hf : fitK t k = true) :
    ∃ a o, vd = .ref a ∧ DGet H a vk o ∧ (∀ v, o = some v → ∃ d, findD ks vs k = some d ∧ Rep K G d v) ∧ (o = none → findD ks vs k = none) := by
  obtain ⟨a, rfl, h⟩ := dicOf_rep e c rd
  cases t with
  | false =>
    obtain ⟨kvs, h1, rfl, h3⟩ := h
    obtain ⟨k', rfl⟩ := fitF hf
    obtain rfl := keyD_val rk
    obtain ⟨q1, q2⟩ := findD_rep (kd := keyD) (fun _ _ z => keyD_inj z) k' h3
    exact ⟨a, _, rfl, .inl ⟨kvs, k', h1, rfl, rfl⟩, fun v hv => q1 v hv, q2⟩
  | true =>
    obtain ⟨kvs, h1, rfl, h3⟩ := h
    obtain ⟨k', rfl⟩ := fitT hf
    obtain ⟨b, rfl, hb⟩ := tupKey_val c.le rk
    obtain ⟨q1, q2⟩ := findD_rep (kd := fun ks : List Key => D.tup (ks.map keyD)) (fun _ _ z => tupKey_inj z) k' h3
    exact ⟨a, _, rfl, .inr ⟨kvs, k', b, h1, rfl, hb, rfl⟩, fun v hv => q1 v hv, q2⟩
def pDGet : SV → SV → Mem → VP → Prop := fun sd sk μ Q => match sk with
  | .d k => on (dicOf sd μ) fun z => fitK z.1 k = true ∧ on (findD z.2.1 z.2.2 k) fun d => Q (.d d) μ
  | _ => False
def rDGet : R2 := fun x y H Q => ∃ a v, x = .ref a ∧ DGet H a y (some v) ∧ Q v H
theorem pop_dget {K : PySem.W.Frag} : POp K rDGet pDGet := by
  intro sa sb μ A G H va vb Qp Q h c ra rb k
  match sb, h, rb with
  | .d key, h, rb =>
    obtain ⟨⟨t, ks, vs⟩, e, hf, h⟩ := on_of h
    obtain ⟨d, hd, q⟩ := on_of h
    obtain ⟨a, o, rfl, g, h1, h2⟩ := dget_of c e ra rb hf
    cases o with
    | none => rw [h2 rfl] at hd; cases hd
    | some v =>
      obtain ⟨d', e1, r⟩ := h1 v rfl
      have e2 : d' = d := Option.some.inj (e1.symm.trans hd)
      subst e2
      exact ⟨a, v, rfl, g, k _ _ _ _ _ _ q c .refl r⟩
def pDIn (neg : Bool) : SV → SV → Mem → VP → Prop := fun sk sd μ Q => match sk with
  | .d k => on (dicOf sd μ) fun z => fitK z.1 k = true ∧ Q (.d (.bl (if neg = true then !(findD z.2.1 z.2.2 k).isSome else (findD z.2.1 z.2.2 k).isSome))) μ
  | _ => False
def rDIn (neg : Bool) : R2 := fun y x H Q => ∃ a o, x = .ref a ∧ DGet H a y o ∧ Q (.bl (if neg = true then !o.isSome else o.isSome)) H
theorem pop_din {K : PySem.W.Frag} {neg : Bool} : POp K (rDIn neg) (pDIn neg) := by
  intro sb sa μ A G H vb va Qp Q h c rb ra k
  match sb, h, rb with
  | .d key, h, rb =>
    obtain ⟨⟨t, ks, vs⟩, e, hf, h⟩ := on_of h
    obtain ⟨a, o, rfl, g, h1, h2⟩ := dget_of c e ra rb hf
    refine ⟨a, o, rfl, g, k _ _ _ _ _ _ h c .refl ?_⟩
    have e2 : o.isSome = (findD ks vs key).isSome := by
      cases o with
      | none => rw [h2 rfl]; rfl
      | some v => obtain ⟨d', e1, _⟩ := h1 v rfl; rw [e1]; rfl
    rw [e2]; exact .bl _
section
variable {X : Cx} {W : WX} {a b c e o i : Expr} {ta tb tc te to ti : TX} {tL : TXA} {pos apos cpos pos' : Pos}
theorem op_or {f : Value → Value → Sem Value} {r1 r2 : R2} (h1 : OpR X f r1) (h2 : OpR X f r2) : OpR X f (fun x y H Q => r1 x y H Q ∨ r2 x y H Q) :=
  fun pins s σ H x y v u Q I rx ry h => h.elim (h1 pins s σ H x y v u Q I rx ry) (h2 pins s σ H x y v u Q I rx ry)
theorem op_dIn (hu : X.A.units + 1 < cLine) : OpR X (compareOp .In) (rDIn false) := by
  intro pins s σ H x y v u Q I rx ry ⟨a, o, e, g, q⟩
  subst e
  obtain rfl : u = Value.ref a := ry
  exact d_in hu I g rx fun s3 I3 => ⟨.bl o.isSome, H, I3, rfl, q⟩
theorem op_dNotIn (hu : X.A.units + 1 < cLine) : OpR X (compareOp .NotIn) (rDIn true) := by
  intro pins s σ H x y v u Q I rx ry ⟨a, o, e, g, q⟩
  subst e
  obtain rfl : u = Value.ref a := ry
  exact d_notIn hu I g rx fun s3 I3 => ⟨.bl (!o.isSome), H, I3, rfl, q⟩
theorem px_dget (hu : X.A.units + 1 < cLine) (ha : PX X W a ta) (hb : PX X W b tb) (hs : NoSl b := by intro _ _; rfl) : PX X W (.Subscript a b pos) (xOp pDGet ta tb) :=
  ⟨(pe_dget hu ha.pe hb.pe hs).imp fun _ _ _ h => lift_op pop_dget h⟩
theorem px_dIn (hu : X.A.units + 1 < cLine) (ha : PX X W a ta) (hb : PX X W b tb) (hm : behindInMarks .In b = false := by first | exact nomark _ | rfl) : PX X W (.Compare a [.In] [b] pos) (xOp (pDIn false) ta tb) := px_cmp (op_dIn hu) pop_din ha hb hm
theorem px_dNotIn (hu : X.A.units + 1 < cLine) (ha : PX X W a ta) (hb : PX X W b tb) (hm : behindInMarks .NotIn b = false := by first | exact nomark _ | rfl) : PX X W (.Compare a [.NotIn] [b] pos) (xOp (pDIn true) ta tb) := px_cmp (op_dNotIn hu) pop_din ha hb hm

/-- {} for keys that are ints and texts; tuples -/
def xNewK : TX := fun _ _ μ Q => Q (.c μ.length) (μ ++ [.dK [] []])
def xNewT : TX := fun _ _ μ Q => Q (.c μ.length) (μ ++ [.dT [] []])
theorem px_newK : PX X W (.Dict [] [] pos) xNewK := by
  refine ⟨pe_dnewK.imp fun σ H Q h => ?_⟩
  obtain ⟨A, ρ, μ, G, Qp, xp, S, ht, hx, k⟩ := h
  intro p hp
  obtain ⟨c2, s2⟩ := S.toCells.cell (o := .dK []) (cl := .dK [] []) hp ⟨[], upd_same, rfl, .nil⟩
  exact k _ _ _ _ _ _ ht c2 s2 ⟨p, by rw [← S.len]; simp, rfl⟩
theorem px_newT : PX X W (.Dict [] [] pos) xNewT := by
  refine ⟨pe_dnewT.imp fun σ H Q h => ?_⟩
  obtain ⟨A, ρ, μ, G, Qp, xp, S, ht, hx, k⟩ := h
  intro p hp
  obtain ⟨c2, s2⟩ := S.toCells.cell (o := .dT []) (cl := .dT [] []) hp ⟨[], upd_same, rfl, .nil⟩
  exact k _ _ _ _ _ _ ht c2 s2 ⟨p, by rw [← S.len]; simp, rfl⟩
/-- d[k] = v, d a dict of one's own -/
def dputS (so si s : SV) (μ : Mem) (q : Mem → Prop) : Prop := match so, si, s with
  | .c k, .d key, .d v => match μ[k]? with
    | some (.dK ks vs) => (fitK false key = true ∧ ks.length < sizeLine) ∧ q (μ.set k (.dK (putKs ks key) (putVs ks vs key v)))
    | some (.dT ks vs) => (fitK true key = true ∧ ks.length < sizeLine) ∧ q (μ.set k (.dT (putKs ks key) (putVs ks vs key v)))
    | _ => False
  | _, _, _ => False
def xDPut (to ti te : TX) : TXS := fun E ρ μ => te E.ex ρ μ fun s μ1 => to E.ex ρ μ1 fun so μ2 => ti E.ex ρ μ2 fun si μ3 => dputS so si s μ3 fun μ4 => E.nx ρ μ4
theorem dput_of {K : PySem.W.Frag} {A : List Addr} {μ : Mem} {G H : Hp} {so si s : SV} {vo vi v : V} {q : Mem → Prop} (h : dputS so si s μ q) (c : Cells K A μ G H) (r1 : RepS K A G so vo) (r2 : RepS K A G si vi) (r : RepS K A G s v) :
    ∃ a H' μ', vo = .ref a ∧ DPut H a vi v H' ∧ q μ' ∧ Cells K A μ' G H' ∧ Step A G H A G H' := by
  match so, si, s, h, r1, r2, r with
  | .c kk, .d key, .d w, h, r1, r2, r =>
    obtain ⟨a, ha, rfl⟩ := r1
    simp only [dputS] at h
    split at h
    · rename_i ks vs hk
      obtain ⟨⟨hf, hz⟩, h⟩ := h
      obtain ⟨kvs, h1, rfl, h3⟩ := c.ok _ _ _ ha hk
      obtain ⟨k', rfl⟩ := fitF hf
      obtain rfl := keyD_val r2
      obtain ⟨c3, s3⟩ := c.write (o := .dK (putK kvs k' v)) (cl := .dK (putKs (kvs.map fun p => keyD p.1) (keyD k')) (putVs (kvs.map fun p => keyD p.1) vs (keyD k') w)) ha
        ⟨_, upd_same, (put_keys (kd := keyD) (fun _ _ z => keyD_inj z) kvs k' v).symm, put_vals (kd := keyD) (fun _ _ z => keyD_inj z) h3 k' r⟩
      exact ⟨a, _, _, rfl, .inl ⟨kvs, k', h1, rfl, by simpa using hz, rfl⟩, h, c3, s3⟩
    · rename_i ks vs hk
      obtain ⟨⟨hf, hz⟩, h⟩ := h
      obtain ⟨kvs, h1, rfl, h3⟩ := c.ok _ _ _ ha hk
      obtain ⟨k', rfl⟩ := fitT hf
      obtain ⟨b, rfl, hb⟩ := tupKey_val c.le r2
      obtain ⟨c3, s3⟩ := c.write (o := .dT (putK kvs k' v)) (cl := .dT (putKs (kvs.map fun p => .tup (p.1.map keyD)) (.tup (k'.map keyD))) (putVs (kvs.map fun p => .tup (p.1.map keyD)) vs (.tup (k'.map keyD)) w)) ha
        ⟨_, upd_same, (put_keys (kd := fun ks : List Key => D.tup (ks.map keyD)) (fun _ _ z => tupKey_inj z) kvs k' v).symm, put_vals (kd := fun ks : List Key => D.tup (ks.map keyD)) (fun _ _ z => tupKey_inj z) h3 k' r⟩
      exact ⟨a, _, _, rfl, .inr ⟨kvs, k', b, h1, rfl, hb, by simpa using hz, rfl⟩, h, c3, s3⟩
    · exact h.elim
theorem psx_dput (hu : X.A.units + 1 < cLine) (ho : PX X W o to) (hi : PX X W i ti) (he : PX X W e te) (hs : swapsWith e (some (.Subscript o i pos')) pos.line X.env = pure false := by rfl) : PXS X W (.Assign [.Subscript o i pos'] e pos) (xDPut to ti te) := by
  refine ⟨(ps_dput hu ho.pe hi.pe he.pe hs).imp fun D σ H h => ?_⟩
  obtain ⟨A, ρ, μ, G, E, S, ht, k⟩ := h
  refine ⟨A, ρ, μ, G, _, _, S, ht, k.ex, fun s μ1 A1 G1 H1 v q c1 s1 r1 => ?_⟩
  refine ⟨A1, ρ, μ1, G1, _, _, S.after s1 c1, q, k.ex.after s1, fun so μ2 A2 G2 H2 vo q2 c2 s2 r2 => ?_⟩
  have s12 := s1.trans s2
  refine ⟨A2, ρ, μ2, G2, _, _, S.after s12 c2, q2, k.ex.after s12, fun si μ3 A3 G3 H3 vi q3 c3 s3 r3 => ?_⟩
  have s13 := s12.trans s3
  have s23 := s2.trans s3
  obtain ⟨a, H', μ', rfl, g, q4, c4, s4⟩ := dput_of q3 c3 (r2.mono s3.pre s3.le) r3 (r1.mono s23.pre s23.le)
  exact ⟨a, H', rfl, g, k.nx _ _ _ _ _ _ q4 (S.after (s13.trans s4) c4) (s13.trans s4)⟩

/-! ### keys are walked -/
def tLockD (td : TE) : TE := fun σ H Q => td σ H fun x H1 => ∃ d u, x = .ref d ∧ ((∃ kvs, u = .dK kvs) ∨ ∃ kvs, u = .dT kvs) ∧ ((H1 d = some u ∧ ∀ od, Q (.ref d) (upd H1 d (.frz od u))) ∨ ∃ od, H1 d = some (.frz od u) ∧ Q (.ref d) H1)
theorem pe_lockD {td : TE} (h : PE X e td) : PE X e (tLockD td) := by
  refine ⟨fun pins s σ H Q I q => ?_⟩
  refine thn (h.run pins s σ H _ I q) fun v s1 ⟨x, H1, I1, rx, d, u, ex, hu, q1⟩ => ?_
  subst ex
  rcases q1 with ⟨hd, q1⟩ | ⟨od, hd, q1⟩
  · obtain ⟨od, I2⟩ := I1.lock hd (by rcases hu with ⟨_, rfl⟩ | ⟨_, rfl⟩ <;> exact True.intro)
    exact ⟨_, _, I2, rx, q1 od⟩
  · exact ⟨_, _, I1, rx, q1⟩
theorem Cells.lockD {K : PySem.W.Frag} {A : List Addr} {μ : Mem} {G H : Hp} {d : Addr} {u : HO} {od : Obj} (c : Cells K A μ G H) (h : G d = some u) (hu : isDic u = true) : Cells K A μ (upd G d (.frz od u)) (upd H d (.frz od u)) ∧ Step A G H A (upd G d (.frz od u)) (upd H d (.frz od u)) := by
  have lg : LeZ G (upd G d (.frz od u)) := fun a o e => by
    by_cases z : a = d
    · subst z; rw [h] at e; cases e; exact .inr ⟨hu, od, upd_same⟩
    · exact .inl (by rw [upd_ne z]; exact e)
  have hH := c.le _ _ h
  have na : d ∉ A := fun z => by rw [c.free d z] at h; cases h
  refine ⟨⟨fun a o e => ?_, c.len, c.nd, fun a ha => ?_, fun k a cl e1 e2 => (c.ok k a cl e1 e2).mono lg (upd_ne fun (z : a = d) => na (by rw [← z]; exact List.mem_of_getElem? e1))⟩, ⟨List.prefix_refl _, lg, fun a o e n => ?_, fun a e => ?_, fun a xs e => ?_, fun a ha => .inl ha, fun a e => ?_⟩⟩
  · by_cases z : a = d
    · subst z; rw [upd_same] at e ⊢; exact e
    · rw [upd_ne z] at e ⊢; exact c.le a o e
  · rw [upd_ne (fun (z : a = d) => na (by rw [← z]; exact ha))]; exact c.free a ha
  · by_cases z : a = d
    · subst z
      rw [hH] at e; cases e
      exact .inr ⟨h, hu, od, upd_same⟩
    · exact .inl (by rw [upd_ne z]; exact e)
  · by_cases z : a = d
    · subst z; exact .inl (by rw [h]; simp)
    · rw [upd_ne z] at e; exact .inl e
  · by_cases z : a = d
    · subst z; rw [upd_same] at e; cases e
    · rw [upd_ne z] at e; exact .inr e
  · by_cases z : a = d
    · subst z; rw [upd_same]; simp
    · rw [upd_ne z]; exact e
def xiK (te : TX) : TXI := fun x ρ μ Q => te x ρ μ fun s μ1 => match s with
  | .d (.dic _ ks _) => Q ks μ1
  | _ => False
theorem yd_keys {K : PySem.W.Frag} {G : Hp} {d : Addr} {od : Obj} {kvs : List (Key × V)} (h : G d = some (.frz od (.dK kvs))) : Walk (Itk d od kvs) (kvs.map fun p => keyD p.1).length (fun H => LeZ G H) (YD K (kvs.map fun p => keyD p.1) G) := by
  rw [List.length_map]
  refine walk_keys.mono (fun H z => z.same h rfl) fun i H0 x H' hi _ y G2 g2 _ => ?_
  obtain ⟨rfl, k, v, e, rfl⟩ := y
  exact ⟨keyD k, by rw [List.getElem?_map, e]; rfl, .inl ⟨rfl, keyD_rep k⟩⟩
theorem yd_keysT {K : PySem.W.Frag} {G : Hp} {d : Addr} {od : Obj} {kvs : List (List Key × V)} (h : G d = some (.frz od (.dT kvs))) : Walk (Itkt d od kvs) (kvs.map fun p => D.tup (p.1.map keyD)).length (fun H => LeZ G H) (YD K (kvs.map fun p => D.tup (p.1.map keyD)) G) := by
  rw [List.length_map]
  refine walk_keysT.mono (fun H z => z.same h rfl) fun i H0 x H' hi _ y G2 g2 _ => ?_
  obtain ⟨rfl, k, v, q, e, rfl, hq⟩ := y
  exact ⟨.tup (k.map keyD), by rw [List.getElem?_map, e]; rfl, .inr (.inr ⟨q, _, k.map keyD, rfl, hq, rfl, rfl, keyD_reps k⟩)⟩
theorem pxi_keys {tg : Expr} (he : PX X W e te) : PXI X W tg e (xiK te) := by
  refine ⟨_, pi_keys (pe_lockD he.pe), fun σ H R h => ?_⟩
  obtain ⟨A, ρ, μ, G, Rp, x, S, ht, hx, k⟩ := h
  refine ⟨A, ρ, μ, G, _, x, S, ht, hx, fun s μ1 A1 G1 H1 v q c1 s1 r1 => ?_⟩
  match s, q, r1 with
  | .d (.dic t ks vs), q, r1 =>
    cases r1 with
    | @dicK a kvs _ _ h hk hs =>
      subst hk
      rcases h with h | ⟨od, h⟩
      · refine ⟨a, .dK kvs, rfl, .inl ⟨_, rfl⟩, .inl ⟨c1.le _ _ h, fun od => ?_⟩⟩
        obtain ⟨c2, s2⟩ := c1.lockD (od := od) h rfl
        exact ⟨a, od, rfl, .inl ⟨kvs, upd_same, k _ _ _ _ _ _ q c2 (s1.trans s2) (yd_keys upd_same)⟩⟩
      · exact ⟨a, .dK kvs, rfl, .inl ⟨_, rfl⟩, .inr ⟨od, c1.le _ _ h, a, od, rfl, .inl ⟨kvs, c1.le _ _ h, k _ _ _ _ _ _ q c1 s1 (yd_keys h)⟩⟩⟩
    | @dicT a kvs _ _ h hk hs =>
      subst hk
      rcases h with h | ⟨od, h⟩
      · refine ⟨a, .dT kvs, rfl, .inr ⟨_, rfl⟩, .inl ⟨c1.le _ _ h, fun od => ?_⟩⟩
        obtain ⟨c2, s2⟩ := c1.lockD (od := od) h rfl
        exact ⟨a, od, rfl, .inr ⟨kvs, upd_same, k _ _ _ _ _ _ q c2 (s1.trans s2) (yd_keysT upd_same)⟩⟩
      · exact ⟨a, .dT kvs, rfl, .inr ⟨_, rfl⟩, .inr ⟨od, c1.le _ _ h, a, od, rfl, .inr ⟨kvs, c1.le _ _ h, k _ _ _ _ _ _ q c1 s1 (yd_keysT h)⟩⟩⟩

/-! ### calls whose new list or dict is data from here on -/
end
end PL
/-! The P-layer: calls whose new list or dict is data from here on; what is never met. -/
namespace PL
open PySem PySem.Spec PyProof.Rows L2
def frzOf : Cell → Option D
  | .lst l => some (.lst l)
  | .dK ks vs => some (.dic false ks vs)
  | .dT ks vs => some (.dic true ks vs)
  | _ => none
/-- a call of a def that promises p; a list or dict made there is data here -/
def callPF (p : PSp) (x : XP) (ss : List SV) (μ : Mem) (Q : VP) : Prop := ndP (cellsOf ss) <|
  p (fun C fs μ' => x C fs (merge μ (cellsOf ss) μ')) (relab 0 ss) (picked μ (cellsOf ss)) fun r μ' => match r with
    | .d d => Q (.d d) (merge μ (cellsOf ss) μ')
    | .c j => (cellsOf ss).length ≤ j ∧ on (frzOf (μ'.getD j nocell)) fun d => Q (.d d) (merge μ (cellsOf ss) μ')
    | .un => False
theorem frz_rep {K : PySem.W.Frag} {G H : Hp} {a : Addr} {c : Cell} {d : D} (h : frzOf c = some d) (ok : CellOk K G H a c) : ∃ o, H a = some o ∧ (∀ xs, o ≠ .tup xs) ∧ ∀ G', LeZ G G' → G' a = some o → Rep K G' d (.ref a) := by
  cases c with
  | lst l => simp [frzOf] at h; subst h; obtain ⟨vs, e, r⟩ := ok; exact ⟨_, e, (by intro _ z; cases z), fun G' g e' => .lst e' (r.mono g)⟩
  | dK ks vs => simp [frzOf] at h; subst h; obtain ⟨kvs, e, e2, r⟩ := ok; exact ⟨_, e, (by intro _ z; cases z), fun G' g e' => .dicK (.inl e') e2 (r.mono g)⟩
  | dT ks vs => simp [frzOf] at h; subst h; obtain ⟨kvs, e, e2, r⟩ := ok; exact ⟨_, e, (by intro _ z; cases z), fun G' g e' => .dicT (.inl e') e2 (r.mono g)⟩
  | ins C n v => simp [frzOf] at h
  | raw o => simp [frzOf] at h
section
variable {X : Cx} {W : WX} {a b c e : Expr} {es : List Expr} {kws : List Keyword} {tL tK : TXA} {pos ppos : Pos} {x : Str}
theorem call_lowF {K : PySem.W.Frag} {p : PSp} {x : XP} {ss : List SV} {vs : List V} {A : List Addr} {μ : Mem} {G H : Hp} {Qp : VP} {Q : VK} (h : callPF p x ss μ Qp) (c : Cells K A μ G H) (r : RepsS K A G ss vs) (hx : ExTo K W A G H x)
    (k : ∀ r μ' A' G' H' v, Qp r μ' → Cells K A' μ' G' H' → Step A G H A' G' H' → RepS K A' G' r v → Q v H') : low K p vs H Q (fun cls d H' => ∀ σ, W cls d σ H') := by
  obtain ⟨nd, h⟩ := ndP_of h
  have hk := cellsOf_ok r
  refine ⟨pickA A (cellsOf ss), relab 0 ss, picked μ (cellsOf ss), G, _, _, c.pick hk nd, relab_ok 0 r (fun i k a e1 e2 => ?_), h, fun C fs μ' A' G' H' d q c' s' e σ => ?_, fun r' μ' A' G' H' v q c' s' rr => ?_⟩
  · obtain ⟨b, e3, e4⟩ := pickA_at hk e1
    rw [e2] at e3; cases e3
    rw [Nat.zero_add]; exact e4
  · obtain ⟨c2, s2⟩ := c.back hk nd c' s'
    exact hx C fs _ A G' H' d σ q c2 s2 e
  · obtain ⟨c2, s2⟩ := c.back hk nd c' s'
    match r', q, rr with
    | .d d, q, rr => exact k _ _ _ _ _ _ q c2 s2 rr
    | .c j, q, rr =>
      obtain ⟨b, hb, rfl⟩ := rr
      obtain ⟨hj, q⟩ := q
      obtain ⟨d, hd, q⟩ := on_of q
      obtain ⟨B, rfl⟩ := s'.pre
      have hl : (pickA A (cellsOf ss)).length = (cellsOf ss).length := by simp [pickA]
      have hbm : b ∈ pickA A (cellsOf ss) ++ B := List.mem_of_getElem? hb
      have nb : b ∉ pickA A (cellsOf ss) := fun z => by
        obtain ⟨i, hi⟩ := List.mem_iff_getElem?.mp z
        have hil := (List.getElem?_eq_some_iff.mp hi).1
        have := c'.at_inj hb (by rw [List.getElem?_append_left hil]; exact hi)
        omega
      have fresh : H b = none := (s'.cells b hbm).resolve_left nb
      have nA : b ∉ A := fun z => c.ne_of_lt z fresh rfl
      have hjm : j < μ'.length := by rw [← c'.len]; exact (List.getElem?_eq_some_iff.mp hb).1
      have gcell : μ'[j]? = some (μ'.getD j nocell) := by rw [List.getD_eq_getElem?_getD, List.getElem?_eq_getElem hjm]; rfl
      obtain ⟨o, ho, nt, hr⟩ := frz_rep hd (c'.ok j b _ hb gcell)
      have gn : G' b = none := c'.free b hbm
      have lg : LeZ G' (upd G' b o) := fun a u e => .inl (by rw [upd_ne (ne_of_none e gn)]; exact e)
      refine k (.d d) _ A (upd G' b o) H' _ q ⟨fun a u e => ?_, c2.len, c2.nd, fun a ha => ?_, fun i a cl e1 e2 => (c2.ok i a cl e1 e2).mono lg rfl⟩ ⟨List.prefix_refl _, s2.le.trans lg, s2.keep, fun a e => ?_, s2.tups, s2.cells, s2.there⟩ (hr _ lg upd_same)
      · by_cases z : a = b
        · rw [z] at e ⊢; rw [upd_same] at e; rw [ho]; exact e
        · rw [upd_ne z] at e; exact c2.le a u e
      · rw [upd_ne (fun (z : a = b) => nA (by rw [← z]; exact ha))]; exact c2.free a ha
      · by_cases z : a = b
        · exact .inr (.inl (by rw [z]; exact fresh))
        · rw [upd_ne z] at e; exact s2.new a e
def xUserF (p : PSp) (t : TXA) : TX := fun x ρ μ Q => t x ρ μ fun ss μ1 => callPF p x ss μ1 Q
theorem px_callF {k : Nat} {f : Addr} {fd : FuncData} {ps : List Str} {p : PSp} (tk : Takes X W) (F : FnOk X.prog X.w X.K X.mg X.base (L2.CX X.prog X.w) k f fd ps (low X.K p)) (hr : Room k X.A) (hg : Gl X x) (hm : X.mg x = some (.ref f)) (hk : PySem.W.keepIn X.K (.ref f) = true)
    (hb : Binds X.K fd ps []) (ha : PXA X W (e :: es) tL) (hdb : (x == ("__debug__" : Str)) = false := by decide) (he : starEach (e :: es) X.env = (false, eval e X.env) :: starEach es X.env := by rfl) (hpl : (backTo pos (starEach es X.env)).any (·.1) = false := by rfl) :
    PX X W (.Call (.Name x ppos) (e :: es) [] pos) (xUserF p tL) := by
  refine ⟨(pe_call F hr hg hm hk hb .nil (E := fun cls d H' => ∀ σ, W cls d σ H') (passes_call tk fun _ _ σ _ h => h σ) ha.pa hdb he hpl).imp fun σ H Q h => ?_⟩
  obtain ⟨A, ρ, μ, G, Qp, xp, S, ht, hx, k⟩ := h
  refine ⟨A, ρ, μ, G, _, xp, S, ht, hx, fun ss μ1 A1 G1 H1 vs q c1 s1 r1 => ?_⟩
  show low X.K p (vs ++ []) H1 Q _
  rw [List.append_nil]
  exact call_lowF q c1 r1 (hx.after s1) fun r μ' A' G' H' v q3 c3 s3 r3 => k r μ' A' G' H' v q3 c3 (s1.trans s3) r3
/-- what is never met -/
def xvNever : TX := fun _ _ _ _ => False
def xtNever : TXT := fun _ _ _ _ => False
theorem px_never : PX X W e xvNever := ⟨⟨fun pins s σ H Q I h => by
  obtain ⟨A, ρ, μ, G, Qp, xp, S, ht, hx, k⟩ := h
  exact ht.elim⟩⟩
theorem pxt_never : PXT X W e xtNever := ⟨⟨fun pins s σ H Q I h => by
  obtain ⟨A, ρ, μ, G, Qp, xp, S, ht, hx, k⟩ := h
  exact ht.elim⟩⟩
end
end PL
/-! The P-layer: defs by their names. -/
namespace PL
open PySem PySem.Spec PyProof.Rows L2
def adOf (mg : Str → Option Value) (x : Str) : Addr := match mg x with
  | some (.ref a) => a
  | _ => 0
theorem adOf_eq {mg : Str → Option Value} {x : Str} {a : Addr} (h : mg x = some (.ref a)) : adOf mg x = a := by
  unfold adOf; rw [h]
/-- the module's def x, as the text st has it -/
structure Def (K : PySem.W.Frag) (mg : Str → Option Value) (x : Str) (st : Stmt) : Prop where
  ex : ∃ f fd, FunD K x x (defArgs st) (defBody st) (defScope st) [] [] f fd ∧ mg x = some (.ref f)
/-- .. keeps p -/
structure Has (P : Program) (w : World) (K : PySem.W.Frag) (mg : Str → Option Value) (base : Heap) (k : Nat) (x : Str) (ps : List Str) (p : PSp) : Prop where
  ex : ∃ f fd, FnOk P w K mg base (L2.CX P w) k f fd ps (low K p) ∧ mg x = some (.ref f) ∧ PySem.W.keepIn K (.ref f) = true ∧ Binds K fd ps [] ∧ ∃ st, FunD K x x (defArgs st) (defBody st) (defScope st) [] [] f fd
theorem _root_.L2.FunD.fun_ {K : PySem.W.Frag} {x : Str} {st : Stmt} {f : Addr} {fd : FuncData} (F : FunD K x x (defArgs st) (defBody st) (defScope st) [] [] f fd) : Fun K x x st f fd := by
  obtain ⟨oc, od, dV, kV, doc, pm, an, cdv, ct, osl, rfl, lk, hcd, hD, hK⟩ := F.ex
  rcases hD with ⟨_, rfl⟩ | ⟨e, _⟩
  · exact ⟨⟨oc, od, kV, doc, pm, an, cdv, ct, osl, rfl, lk, hcd⟩, F.kp⟩
  · exact absurd rfl e
/-- how a def's parameters take n values -/
def BindN (x : Str) (st : Stmt) (ps : List Str) : Prop := ∀ (kV doc pm : Value) (an : Option Addr) (cdv ct : Value) (us : List Value), us.length = ps.length → bindArgs (PySem.W.fnOf x x (defArgs st) (defBody st) (defScope st) .none kV doc pm an cdv ct) ⟨us, []⟩ = pure (ps.zip us)
section
variable {P : Program} {w : World} {K : PySem.W.Frag} {mg : Str → Option Value} {base : Heap}
theorem has_p {x : Str} {st : Stmt} {N ps : List Str} {k : Nat} {p : PSp} {t : TXS} (D : Def K mg x st) (S : FnScope N ps (defScope st)) (B : BindN x st ps) (len : ∀ x as μ Q, p x as μ Q → as.length = ps.length)
    (hb : ∀ (f : Addr) (cdv : Value) (A : Around) (outer : List Env) (s : Shared) (H : Hp) (E : XK), Room k (A.deeper (envOfC x (defScope st) s.heap.objs.size f cdv)) →
      PXSs (cxOf (L2.CX P w) P w K mg base N x (defScope st) f cdv A outer s H E) (fun cls d _ H => E cls d H) (defBody st) t)
    (hp : ∀ x as μ Q, p x as μ Q → t { nx := fun _ μ => Q (.d .non) μ, rt := Q, ex := x } (startP N.length as) μ) : Has P w K mg base (k + 1) x ps p := by
  obtain ⟨f, fd, F, hm⟩ := D.ex
  exact ⟨f, fd, fn_p F.fun_ S len hp (hb f), hm, F.kp, FunD.bindsN F B, st, F⟩
theorem Has.imp {x : Str} {ps : List Str} {k : Nat} {p q : PSp} (h : Has P w K mg base k x ps p) (i : ∀ x as μ Q, q x as μ Q → p x as μ Q) : Has P w K mg base k x ps q := by
  obtain ⟨f, fd, F, r⟩ := h.ex
  have i2 : ∀ vs H Q E, low K q vs H Q E → low K p vs H Q E := fun vs H Q E z => by
    obtain ⟨A', as, μ, G, Qp, x, c, rr, hq, hx, hk⟩ := z
    exact ⟨A', as, μ, G, Qp, x, c, rr, i _ _ _ _ hq, hx, hk⟩
  exact ⟨f, fd, ⟨fun vs H Q E z => F.1 vs H Q E (i2 _ _ _ _ z), fun A outer s H args us vs Q E hr e b r z => F.run A outer s H args us vs Q E hr e b r (i2 _ _ _ _ z)⟩, r⟩
end
/-- nothing let out -/
theorem _root_.L2.FnOk.ground {P : Program} {w : World} {K : PySem.W.Frag} {mg : Str → Option Value} {base : Heap} {k : Nat} {f : Addr} {fd : FuncData} {ps : List Str} {sp : Sp} (F : FnOk P w K mg base (L2.CX P w) k f fd ps sp) :
    FnOk P w K mg base CX0 k f fd ps (fun vs H Q _ => sp vs H Q fun _ _ _ => False) :=
  ⟨fun vs H Q E q => F.len vs H Q _ q, fun A outer s H args us vs Q E hr he hb hv hs => by
    have r := F.run A outer s H args us vs Q _ hr he hb hv hs
    refine codeAny_mono r fun r s' z => ?_
    cases r with
    | ok v => cases v <;> exact z
    | error e =>
      obtain ⟨_, _, _, _, _, _, _, _, _, _, _, _, q⟩ := z
      exact q.elim⟩
/-- the def's own context -/
theorem tk_of {P : Program} {w : World} {K : PySem.W.Frag} {mg : Str → Option Value} {base : Heap} {N : List Str} {qual : Str} {scope : Scope} {f : Addr} {cdv : Value} {A : Around} {outer : List Env} {s : Shared} {H : Hp} {E : XK} :
    Takes (cxOf (L2.CX P w) P w K mg base N qual scope f cdv A outer s H E) (fun cls d _ H => E cls d H) := takes_of rfl rfl rfl rfl
theorem hp_of {P : Program} {w : World} {K : PySem.W.Frag} {mg : Str → Option Value} {base : Heap} {N : List Str} {qual : Str} {scope : Scope} {f : Addr} {cdv : Value} {A : Around} {outer : List Env} {s : Shared} {H : Hp} {E : XK} :
    PassesOwn (model P w) (cxOf (L2.CX P w) P w K mg base N qual scope f cdv A outer s H E).A (cxOf (L2.CX P w) P w K mg base N qual scope f cdv A outer s H E).env (cxOf (L2.CX P w) P w K mg base N qual scope f cdv A outer s H E).xe :=
  passes_of (X := cxOf (L2.CX P w) P w K mg base N qual scope f cdv A outer s H E) rfl
section
variable {X : Cx} {W : WX} {a b c e : Expr} {es : List Expr} {kws : List Keyword} {tL tK : TXA} {pos ppos : Pos} {x : Str} {k k' : Nat} {ps : List Str} {p : PSp}
theorem px_callH (h : Has X.prog X.w X.K X.mg X.base k x ps p) (tk : Takes X W) (hr : Room k' X.A) (hle : k ≤ k') (hg : Gl X x) (ha : PXA X W (e :: es) tL) (hdb : (x == ("__debug__" : Str)) = false := by decide) (he : starEach (e :: es) X.env = (false, eval e X.env) :: starEach es X.env := by rfl) (hpl : (backTo pos (starEach es X.env)).any (·.1) = false := by rfl) :
    PX X W (.Call (.Name x ppos) (e :: es) [] pos) (xUser p tL) := by
  obtain ⟨f, fd, F, hm, hk, hb, _⟩ := h.ex
  exact px_call tk F (hr.mono hle) hg hm hk hb ha hdb he hpl
theorem px_callHF (h : Has X.prog X.w X.K X.mg X.base k x ps p) (tk : Takes X W) (hr : Room k' X.A) (hle : k ≤ k') (hg : Gl X x) (ha : PXA X W (e :: es) tL) (hdb : (x == ("__debug__" : Str)) = false := by decide) (he : starEach (e :: es) X.env = (false, eval e X.env) :: starEach es X.env := by rfl) (hpl : (backTo pos (starEach es X.env)).any (·.1) = false := by rfl) :
    PX X W (.Call (.Name x ppos) (e :: es) [] pos) (xUserF p tL) := by
  obtain ⟨f, fd, F, hm, hk, hb, _⟩ := h.ex
  exact px_callF tk F (hr.mono hle) hg hm hk hb ha hdb he hpl
/-- how keywords are taken -/
def BindK (x : Str) (ps : List Str) (n : Nat) (ks : List Str) (perm : List Nat) (st : Stmt) : Prop := ∀ (kV doc pm : Value) (an : Option Addr) (cdv ct : Value) (us ws : List Value), us.length = n → ws.length = ks.length → bindArgs (PySem.W.fnOf x x (defArgs st) (defBody st) (defScope st) .none kV doc pm an cdv ct) ⟨us, ks.zip ws⟩ = pure (ps.zip (permG Value.none perm us ws))
/-- .. with its text -/
structure HasK (P : Program) (w : World) (K : PySem.W.Frag) (mg : Str → Option Value) (base : Heap) (k : Nat) (x : Str) (st : Stmt) (ps : List Str) (p : PSp) : Prop where
  ex : ∃ f fd, FnOk P w K mg base (L2.CX P w) k f fd ps (low K p) ∧ mg x = some (.ref f) ∧ PySem.W.keepIn K (.ref f) = true ∧ FunD K x x (defArgs st) (defBody st) (defScope st) [] [] f fd
theorem Has.withK {P : Program} {w : World} {K : PySem.W.Frag} {mg : Str → Option Value} {base : Heap} {st : Stmt} (h : Has P w K mg base k x ps p) (D : Def K mg x st) : HasK P w K mg base k x st ps p := by
  obtain ⟨f, fd, F, hm, hk, hb, st', F'⟩ := h.ex
  obtain ⟨g, gd, G, hm'⟩ := D.ex
  have e : f = g := by rw [hm] at hm'; cases hm'; rfl
  subst e
  have e2 : fd = gd := by
    obtain ⟨_, _, _, _, _, _, _, _, _, _, _, l1, _⟩ := F'.ex
    obtain ⟨_, _, _, _, _, _, _, _, _, _, _, l2, _⟩ := G.ex
    rw [l1] at l2; cases l2; rfl
  subst e2
  exact ⟨f, fd, F, hm, hk, G⟩
theorem px_callHK {n : Nat} {ks : List Str} {perm : List Nat} {st : Stmt} (h : HasK X.prog X.w X.K X.mg X.base k x st ps p) (tk : Takes X W) (hr : Room k' X.A) (hle : k ≤ k') (hg : Gl X x)
    (hb : BindK x ps n ks perm st) (ha : PXA X W (e :: es) tL) (hkw : PXK X W kws tK) (hall : (backToKw pos (keywordEach kws X.env)).all (·.1.isSome) = true := by rfl) (hks : (backToKw pos (keywordEach kws X.env)).filterMap (·.1) = ks := by rfl)
    (hdb : (x == ("__debug__" : Str)) = false := by decide) (he : starEach (e :: es) X.env = (false, eval e X.env) :: starEach es X.env := by rfl)
    (hpl : ((backTo pos (starEach (e :: es) X.env)).any (·.1) || (backToKw pos (keywordEach kws X.env)).any (·.1.isNone)) = false := by rfl) : PX X W (.Call (.Name x ppos) (e :: es) kws pos) (xUserK p n ks.length perm tL tK) := by
  obtain ⟨f, fd, F, hm, hk, F'⟩ := h.ex
  exact px_callKw tk F (hr.mono hle) hg hm hk (kbn_of F' n ks perm hb) ha hkw hall hks hdb he hpl
theorem px_callHK0 {ks : List Str} {perm : List Nat} {st : Stmt} (h : HasK X.prog X.w X.K X.mg X.base k x st ps p) (tk : Takes X W) (hr : Room k' X.A) (hle : k ≤ k') (hg : Gl X x)
    (hb : BindK x ps 0 ks perm st) (hkw : PXK X W kws tK) (hall : (backToKw pos (keywordEach kws X.env)).all (·.1.isSome) = true := by rfl) (hks : (backToKw pos (keywordEach kws X.env)).filterMap (·.1) = ks := by rfl)
    (hdb : (x == ("__debug__" : Str)) = false := by decide)
    (hpl : ((backTo pos (starEach [] X.env)).any (·.1) || (backToKw pos (keywordEach kws X.env)).any (·.1.isNone)) = false := by rfl) : PX X W (.Call (.Name x ppos) [] kws pos) (xUserK p 0 ks.length perm xNil tK) := by
  obtain ⟨f, fd, F, hm, hk, F'⟩ := h.ex
  exact px_callKw0 tk F (hr.mono hle) hg hm hk (kbn_of F' 0 ks perm hb) hkw hall hks hdb hpl
/-- a def as a value -/
theorem px_fn {mg : Str → Option Value} (hm : Has X.prog X.w X.K X.mg X.base k x ps p) (hg : Gl X x) (e : X.mg = mg := by rfl) (hd : (x == ("__debug__" : Str)) = false := by decide) : PX X W (.Name x pos) (xC (.fn (adOf mg x))) := by
  obtain ⟨f, fd, F, hm, _⟩ := hm.ex
  subst e
  rw [adOf_eq hm]
  exact px_gref hg hm hd
theorem Has.held {P : Program} {w : World} {K : PySem.W.Frag} {mg : Str → Option Value} {base : Heap} (h : Has P w K mg base k x ps p) : HeldP P w K mg base k (adOf mg x) p := by
  obtain ⟨f, fd, F, hm, hk, hb, _⟩ := h.ex
  rw [adOf_eq hm]
  exact ⟨fd, ps, F, hk, hb⟩
end
end PL
/-! The P-layer: rules that hold whatever the sorts of the values are. -/
namespace PL
open PySem PySem.Spec PyProof.Rows L2 RZ
section
variable {X : Cx} {W : WX} {a b c e : Expr} {es : List Expr} {ta tb tc te : TX} {tA : TXT} {tL : TXA} {pos p tpos p2 : Pos} {elts : List Expr} {kk k : Nat} {x : Str}
theorem hu_of {A : Around} (r : Room k A) : A.units + 64 < cLine := r.units
theorem hu1_of {A : Around} (r : Room k A) : A.units + 1 < cLine := by have := r.units; omega
theorem px_gintC {i : Int} (hg : Gl X x) (hm : ∃ t, X.mg x = some (.int i t)) (hd : (x == ("__debug__" : Str)) = false := by decide) : PX X W (.Name x pos) (xC (.int i)) := let ⟨_, h⟩ := hm; px_gint hg h hd
theorem px_gstrC {z : Str} (hg : Gl X x) (hm : ∃ t, X.mg x = some (.str z t)) (hd : (x == ("__debug__" : Str)) = false := by decide) : PX X W (.Name x pos) (xC (.str z)) := let ⟨_, h⟩ := hm; px_gstr hg h hd
/-! ### + * -/
def pAddU : SV → SV → Mem → VP → Prop := fun sa sb μ Q => match sa, sb with
  | .d (.int i), .d (.int j) => Q (.d (.int (i + j))) μ
  | .d (.str i), .d (.str j) => i.length + j.length ≤ sizeLine ∧ Q (.d (.str (i ++ j))) μ
  | .d (.tup l), .d (.tup m) => l.length + m.length ≤ sizeLine ∧ Q (.d (.tup (l ++ m))) μ
  | sa, sb => on (lstOf sa μ) fun l => on (lstOf sb μ) fun m => l.length + m.length ≤ sizeLine ∧ Q (.d (.lst (l ++ m))) μ
def rAddS : R2 := fun x y H Q => ∃ i j, x = .str i ∧ y = .str j ∧ i.length + j.length ≤ sizeLine ∧ Q (.str (i ++ j)) H
theorem pop_addU : POp X.K (fun x y H Q => (rI0 (fun i j => .int (i + j)) x y H Q ∨ rAddS x y H Q) ∨ (rCatA X.K x y H Q ∨ rCat x y H Q)) pAddU := by
  intro sa sb μ A G H va vb Qp Q h c ra rb k
  unfold pAddU at h
  split at h
  · cases ra; cases rb
    exact .inl (.inl ⟨_, _, rfl, rfl, k _ _ _ _ _ _ h c .refl (.int _)⟩)
  · cases ra; cases rb
    exact .inl (.inr ⟨_, _, rfl, rfl, h.1, k _ _ _ _ _ _ h.2 c .refl (.str _)⟩)
  · rename_i l m
    exact .inr (.inl (pop_catT (X := X) (.d (.tup l)) (.d (.tup m)) μ A G H va vb Qp Q h c ra rb k))
  · exact .inr (.inr (pop_catL (K := X.K) _ _ μ A G H va vb Qp Q h c ra rb k))
theorem px_addU (ha : PX X W a ta) (hb : PX X W b tb) : PX X W (.BinOp a .Add b pos) (xOp pAddU ta tb) := px_op (op_or (op_or op_add op_add_str) (op_or op_catA op_cat)) pop_addU ha hb
def pMulU : SV → SV → Mem → VP → Prop := fun sa sb μ Q => match sa, sb with
  | .d (.int i), .d (.int j) => CMul i j ∧ Q (.d (.int (i * j))) μ
  | sa, .d (.int j) => on (lstOf sa μ) fun l => (-(2 ^ 63) ≤ j ∧ j < 2 ^ 63 ∧ l.length * j.toNat ≤ sizeLine) ∧ Q (.d (.lst (List.replicate j.toNat l).flatten)) μ
  | _, _ => False
theorem reps_rep {K : PySem.W.Frag} {G : Hp} {l : List D} {vs : List V} (r : Reps K G l vs) : ∀ n : Nat, Reps K G (List.replicate n l).flatten (List.replicate n vs).flatten
  | 0 => .nil
  | n + 1 => by
    rw [List.replicate_succ, List.replicate_succ, List.flatten_cons, List.flatten_cons]
    exact r.app (reps_rep r n)
theorem pop_mulU {K : PySem.W.Frag} : POp K (fun x y H Q => rI CMul (fun i j => .int (i * j)) x y H Q ∨ rRep x y H Q) pMulU := by
  intro sa sb μ A G H va vb Qp Q h c ra rb k
  unfold pMulU at h
  split at h
  · cases ra; cases rb
    exact .inl ⟨_, _, rfl, rfl, h.1, k _ _ _ _ _ _ h.2 c .refl (.int _)⟩
  · obtain ⟨l, e1, ⟨h1, h2, h3⟩, q⟩ := on_of h
    obtain ⟨a, us, rfl, g1, g2⟩ := lstOf_rep e1 c ra
    cases rb
    refine .inr ⟨a, _, us, rfl, rfl, g1, h1, h2, by rw [← g2.length]; exact h3, fun p hp => ?_⟩
    obtain ⟨c2, s2⟩ := c.laid (o := .lst (List.replicate _ us).flatten) hp
    exact k _ _ _ _ _ _ q c2 s2 (Rep.lst upd_same ((reps_rep g2 _).mono s2.le))
  · exact h.elim
theorem px_mulU (ha : PX X W a ta) (hb : PX X W b tb) : PX X W (.BinOp a .Mult b pos) (xOp pMulU ta tb) := px_op (op_or op_mul op_rep) pop_mulU ha hb
def xNeg (ta : TX) : TX := fun x ρ μ Q => ta x ρ μ fun s μ1 => match s with
  | .d (.int i) => Q (.d (.int (-i))) μ1
  | _ => False
theorem px_neg (ha : PX X W a ta) : PX X W (.UnaryOp .USub a pos) (xNeg ta) := by
  refine ⟨(pe_un un_neg ha.pe).imp fun σ H Q h => ?_⟩
  obtain ⟨A, ρ, μ, G, Qp, xp, S, ht, hx, k⟩ := h
  refine ⟨A, ρ, μ, G, _, xp, S, ht, hx, fun s μ1 A1 G1 H1 v q c1 s1 r1 => ?_⟩
  match s, q, r1 with
  | .d (.int i), q, r1 => cases r1; exact ⟨i, rfl, k _ _ _ _ _ _ q c1 s1 (.int _)⟩
/-! ### < <= > >= of ints, of texts -/
def sLt (i j : Str) : Bool := decide (i.cps.toList < j.cps.toList)
def pCmpU (f : Int → Int → Bool) (g : Str → Str → Bool) : SV → SV → Mem → VP → Prop := fun sa sb μ Q => match sa, sb with
  | .d (.int i), .d (.int j) => Q (.d (.bl (f i j))) μ
  | .d (.str i), .d (.str j) => Q (.d (.bl (g i j))) μ
  | _, _ => False
def rCmpS (g : Str → Str → Bool) : R2 := fun x y H Q => ∃ i j, x = .str i ∧ y = .str j ∧ Q (.bl (g i j)) H
theorem pop_cmpU {K : PySem.W.Frag} {f : Int → Int → Bool} {g : Str → Str → Bool} : POp K (fun x y H Q => rI0 (fun i j => .bl (f i j)) x y H Q ∨ rCmpS g x y H Q) (pCmpU f g) := by
  intro sa sb μ A G H va vb Qp Q h c ra rb k
  unfold pCmpU at h
  split at h
  · cases ra; cases rb
    exact .inl ⟨_, _, rfl, rfl, k _ _ _ _ _ _ h c .refl (.bl _)⟩
  · cases ra; cases rb
    exact .inr ⟨_, _, rfl, rfl, k _ _ _ _ _ _ h c .refl (.bl _)⟩
  · exact h.elim
abbrev pLtU := pCmpU (fun i j => decide (i < j)) fun i j => decide (i.cps.toList < j.cps.toList)
abbrev pLeU := pCmpU (fun i j => decide (i ≤ j)) fun i j => !decide (j.cps.toList < i.cps.toList)
abbrev pGtU := pCmpU (fun i j => decide (j < i)) fun i j => decide (j.cps.toList < i.cps.toList)
abbrev pGeU := pCmpU (fun i j => decide (j ≤ i)) fun i j => !decide (i.cps.toList < j.cps.toList)
theorem px_ltU (_ : X.A.units + 64 < cLine) (ha : PX X W a ta) (hb : PX X W b tb) : PX X W (.Compare a [.Lt] [b] pos) (xOp pLtU ta tb) := px_cmp (op_or op_lt op_lt_str) pop_cmpU ha hb
theorem px_leU (_ : X.A.units + 64 < cLine) (ha : PX X W a ta) (hb : PX X W b tb) : PX X W (.Compare a [.LtE] [b] pos) (xOp pLeU ta tb) := px_cmp (op_or op_le op_le_str) pop_cmpU ha hb
theorem px_gtU (_ : X.A.units + 64 < cLine) (ha : PX X W a ta) (hb : PX X W b tb) : PX X W (.Compare a [.Gt] [b] pos) (xOp pGtU ta tb) := px_cmp (op_or op_gt op_gt_str) pop_cmpU ha hb
theorem px_geU (_ : X.A.units + 64 < cLine) (ha : PX X W a ta) (hb : PX X W b tb) : PX X W (.Compare a [.GtE] [b] pos) (xOp pGeU ta tb) := px_cmp (op_or op_ge op_ge_str) pop_cmpU ha hb
theorem pxt_ltU (_ : X.A.units + 64 < cLine) (ha : PX X W a ta) (hb : PX X W b tb) : PXT X W (.Compare a [.Lt] [b] pos) (xTest (xOp pLtU ta tb)) := pxt_cmp (op_or op_lt op_lt_str) pop_cmpU ha hb
theorem pxt_leU (_ : X.A.units + 64 < cLine) (ha : PX X W a ta) (hb : PX X W b tb) : PXT X W (.Compare a [.LtE] [b] pos) (xTest (xOp pLeU ta tb)) := pxt_cmp (op_or op_le op_le_str) pop_cmpU ha hb
theorem pxt_gtU (_ : X.A.units + 64 < cLine) (ha : PX X W a ta) (hb : PX X W b tb) : PXT X W (.Compare a [.Gt] [b] pos) (xTest (xOp pGtU ta tb)) := pxt_cmp (op_or op_gt op_gt_str) pop_cmpU ha hb
theorem pxt_geU (_ : X.A.units + 64 < cLine) (ha : PX X W a ta) (hb : PX X W b tb) : PXT X W (.Compare a [.GtE] [b] pos) (xTest (xOp pGeU ta tb)) := pxt_cmp (op_or op_ge op_ge_str) pop_cmpU ha hb
theorem px_ltltI (ha : PX X W a ta) (hb : PX X W b tb) (hc : PX X W c tc) (hm : lastMarks [.Lt, .Lt] [b, c] = false := by with_unfolding_all rfl) : PX X W (.Compare a [.Lt, .Lt] [b, c] pos) (xChain pLt pLt ta tb tc) := px_chain op_lt (pop_I0 fun _ _ _ => .bl _) op_lt (pop_I0 fun _ _ _ => .bl _) ha hb hc hm
theorem pxt_ltltI (ha : PX X W a ta) (hb : PX X W b tb) (hc : PX X W c tc) (hm : lastMarks [.Lt, .Lt] [b, c] = false := by with_unfolding_all rfl) : PXT X W (.Compare a [.Lt, .Lt] [b, c] pos) (xTest (xChain pLt pLt ta tb tc)) := pxt_chain op_lt (pop_I0 fun _ _ _ => .bl _) op_lt (pop_I0 fun _ _ _ => .bl _) ha hb hc hm
theorem px_leltI (ha : PX X W a ta) (hb : PX X W b tb) (hc : PX X W c tc) (hm : lastMarks [.LtE, .Lt] [b, c] = false := by with_unfolding_all rfl) : PX X W (.Compare a [.LtE, .Lt] [b, c] pos) (xChain pLe pLt ta tb tc) := px_chain op_le (pop_I0 fun _ _ _ => .bl _) op_lt (pop_I0 fun _ _ _ => .bl _) ha hb hc hm
theorem pxt_leltI (ha : PX X W a ta) (hb : PX X W b tb) (hc : PX X W c tc) (hm : lastMarks [.LtE, .Lt] [b, c] = false := by with_unfolding_all rfl) : PXT X W (.Compare a [.LtE, .Lt] [b, c] pos) (xTest (xChain pLe pLt ta tb tc)) := pxt_chain op_le (pop_I0 fun _ _ _ => .bl _) op_lt (pop_I0 fun _ _ _ => .bl _) ha hb hc hm
theorem pxt_isN {j pos'} (ha : PX X W a ta) : PXT X W (.Compare a [.Is] [.Constant .none j pos'] pos) (xTest (xIsN ta)) := by
  refine ⟨(pt_cmp (pc_isN ha.pe)).imp fun σ H Q h => ?_⟩
  refine lift_test (t0 := _) (fun _ _ _ z => ?_) h
  obtain ⟨A, ρ, μ, G, Qp, xp, S, ht, hx, k⟩ := z
  refine ⟨A, ρ, μ, G, _, xp, S, ht, hx, fun r μ' A' G' H' v q c s rr => ?_⟩
  rcases isN_of rr with ⟨rfl, rfl⟩ | rfl | ⟨h1, h2, h3⟩
  · exact k _ _ _ _ _ _ q c s (.bl _)
  · exact q.elim
  · rw [h3]
    match r, h1, h2, q with
    | .c _, _, _, q => exact k _ _ _ _ _ _ q c s (.bl _)
    | .d d, h1, _, q => cases d <;> first | exact absurd rfl h1 | exact k _ _ _ _ _ _ q c s (.bl _)
theorem pxt_notN {j pos'} (ha : PX X W a ta) : PXT X W (.Compare a [.IsNot] [.Constant .none j pos'] pos) (xTest (xNotN ta)) := by
  refine ⟨(pt_cmp (pc_notN ha.pe)).imp fun σ H Q h => ?_⟩
  refine lift_test (t0 := _) (fun _ _ _ z => ?_) h
  obtain ⟨A, ρ, μ, G, Qp, xp, S, ht, hx, k⟩ := z
  refine ⟨A, ρ, μ, G, _, xp, S, ht, hx, fun r μ' A' G' H' v q c s rr => ?_⟩
  rcases isN_of rr with ⟨rfl, rfl⟩ | rfl | ⟨h1, h2, h3⟩
  · exact k _ _ _ _ _ _ q c s (.bl _)
  · exact q.elim
  · rw [h3]
    match r, h1, h2, q with
    | .c _, _, _, q => exact k _ _ _ _ _ _ q c s (.bl _)
    | .d d, h1, _, q => cases d <;> first | exact absurd rfl h1 | exact k _ _ _ _ _ _ q c s (.bl _)
/-! ### in: a dict, a list or tuple of data, one sign in a text -/
def rInTD (K : PySem.W.Frag) (neg : Bool) : R2 := fun x y H Q => ∃ d ds, Dp K H x d ∧ Dp K H y (.tuple ds) ∧ SeqAt.shaped d = true ∧ SeqAt.shaped (.tuple ds) = true ∧ Q (.bl (if neg = true then !ds.any fun z => PyData.eqv z d else ds.any fun z => PyData.eqv z d)) H
theorem room_tup {A : Around} {d : PyData} {ds : List PyData} (sd : SeqAt.shaped d = true) (hu : A.units + 64 < cLine) (dp : d.depth ≤ 62) : A.units + 1 + min (PyData.depthAll ds) d.depth < cLine := by
  have : min (PyData.depthAll ds) d.depth ≤ 62 := Nat.le_trans (Nat.min_le_right _ _) dp
  omega
theorem okEq_depth {d : D} (h : okEq d = true) : (toPy d).depth ≤ 61 := by
  obtain ⟨h1, h2⟩ := flat_lay 60 d h
  omega
theorem shaped_lay {d : PyData} (h : SeqAt.shaped d = true) : d.canLay0 = true := SeqAt.canLay_of_shaped h
theorem toPys_any {d : PyData} : ∀ l : List D, ((toPys l).any fun z => PyData.eqv z d) = l.any fun z => PyData.eqv (toPy z) d
  | [] => rfl
  | x :: l => by simp only [toPys, List.any_cons, toPys_any l]
def inD (d : D) (l : List D) : Bool := l.any fun z => deq z d
def pInU : SV → SV → Mem → VP → Prop := fun sk sd μ Q => match sk, sd with
  | .d k, .d (.dic t ks vs) => fitK t k = true ∧ Q (.d (.bl ((findD ks vs k).isSome))) μ
  | .d k, .d (.tup l) => (okEq k = true ∧ okEq (.tup l) = true) ∧ Q (.d (.bl (inD k l))) μ
  | .d k, .d (.lst l) => (okEq k = true ∧ okEq (.lst l) = true) ∧ Q (.d (.bl (inD k l))) μ
  | .d (.str x), .d (.str z) => (∃ c, x = ⟨#[c]⟩ ∧ Q (.d (.bl (decide (c ∈ z.cps.toList)))) μ)
  | .d k, .c j => match μ[j]? with
    | some (.lst l) => (okEq k = true ∧ okEq (.lst l) = true) ∧ Q (.d (.bl (inD k l))) μ
    | some (.dK ks vs) => fitK false k = true ∧ Q (.d (.bl ((findD ks vs k).isSome))) μ
    | some (.dT ks vs) => fitK true k = true ∧ Q (.d (.bl ((findD ks vs k).isSome))) μ
    | _ => False
  | _, _ => False
def pNiU : SV → SV → Mem → VP → Prop := fun sk sd μ Q => match sk, sd with
  | .d k, .d (.dic t ks vs) => fitK t k = true ∧ Q (.d (.bl (!(findD ks vs k).isSome))) μ
  | .d k, .d (.tup l) => (okEq k = true ∧ okEq (.tup l) = true) ∧ Q (.d (.bl (!inD k l))) μ
  | .d k, .d (.lst l) => (okEq k = true ∧ okEq (.lst l) = true) ∧ Q (.d (.bl (!inD k l))) μ
  | .d (.str x), .d (.str z) => (∃ c, x = ⟨#[c]⟩ ∧ Q (.d (.bl (!decide (c ∈ z.cps.toList)))) μ)
  | .d k, .c j => match μ[j]? with
    | some (.lst l) => (okEq k = true ∧ okEq (.lst l) = true) ∧ Q (.d (.bl (!inD k l))) μ
    | some (.dK ks vs) => fitK false k = true ∧ Q (.d (.bl (!(findD ks vs k).isSome))) μ
    | some (.dT ks vs) => fitK true k = true ∧ Q (.d (.bl (!(findD ks vs k).isSome))) μ
    | _ => False
  | _, _ => False
def rInS0 (neg : Bool) : R2 := fun x y H Q => ∃ (c : Nat) (z : Str), x = .str ⟨#[c]⟩ ∧ y = .str z ∧ Q (.bl (if neg = true then !decide (c ∈ z.cps.toList) else decide (c ∈ z.cps.toList))) H
def rInLD (K : PySem.W.Frag) (neg : Bool) : R2 := fun x y H Q => ∃ d ds, (Dp K H x d ∧ d.depth ≤ 62) ∧ Dp K H y (.list ds) ∧ SeqAt.shaped d = true ∧ SeqAt.shaped (.list ds) = true ∧ Q (.bl (if neg = true then !ds.any fun z => PyData.eqv z d else ds.any fun z => PyData.eqv z d)) H
def rInTD' (K : PySem.W.Frag) (neg : Bool) : R2 := fun x y H Q => ∃ d ds, (Dp K H x d ∧ d.depth ≤ 62) ∧ Dp K H y (.tuple ds) ∧ SeqAt.shaped d = true ∧ SeqAt.shaped (.tuple ds) = true ∧ Q (.bl (if neg = true then !ds.any fun z => PyData.eqv z d else ds.any fun z => PyData.eqv z d)) H
theorem shaped_all {ds : List PyData} (h : SeqAt.shaped (.list ds) = true) : PyData.canLayAll0 ds = true := SeqAt.canLay_of_shaped h
theorem shaped_allT {ds : List PyData} (h : SeqAt.shaped (.tuple ds) = true) : PyData.canLayAll0 ds = true := SeqAt.canLay_of_shaped h
theorem op_inLD (hu : X.A.units + 64 < cLine) : OpR X (compareOp .In) (rInLD X.K false) := by
  intro pins s σ H x y v u Q I rx ry h
  obtain ⟨d, ds, ⟨hd, hp⟩, he, sd, se, q⟩ := h
  obtain ⟨as, r1⟩ := Dp.reads I d x v hd rx
  obtain ⟨bs, r2⟩ := Dp.reads I (.list ds) y u he ry
  exact SeqAt.in_list_reads r2 r1 (shaped_all se) (shaped_lay sd) (room_tup sd hu hp) ⟨.bl _, H, I, rfl, q⟩
theorem op_notInLD (hu : X.A.units + 64 < cLine) : OpR X (compareOp .NotIn) (rInLD X.K true) := by
  intro pins s σ H x y v u Q I rx ry h
  obtain ⟨d, ds, ⟨hd, hp⟩, he, sd, se, q⟩ := h
  obtain ⟨as, r1⟩ := Dp.reads I d x v hd rx
  obtain ⟨bs, r2⟩ := Dp.reads I (.list ds) y u he ry
  exact SeqAt.notIn_list_reads r2 r1 (shaped_all se) (shaped_lay sd) (room_tup sd hu hp) ⟨.bl _, H, I, rfl, q⟩
theorem op_inTD (hu : X.A.units + 64 < cLine) : OpR X (compareOp .In) (rInTD' X.K false) := by
  intro pins s σ H x y v u Q I rx ry h
  obtain ⟨d, ds, ⟨hd, hp⟩, he, sd, se, q⟩ := h
  obtain ⟨as, r1⟩ := Dp.reads I d x v hd rx
  obtain ⟨bs, r2⟩ := Dp.reads I (.tuple ds) y u he ry
  exact SeqAt.in_tuple_reads r2 r1 (shaped_allT se) (shaped_lay sd) (room_tup sd hu hp) ⟨.bl _, H, I, rfl, q⟩
theorem op_notInTD (hu : X.A.units + 64 < cLine) : OpR X (compareOp .NotIn) (rInTD' X.K true) := by
  intro pins s σ H x y v u Q I rx ry h
  obtain ⟨d, ds, ⟨hd, hp⟩, he, sd, se, q⟩ := h
  obtain ⟨as, r1⟩ := Dp.reads I d x v hd rx
  obtain ⟨bs, r2⟩ := Dp.reads I (.tuple ds) y u he ry
  exact SeqAt.notIn_tuple_reads r2 r1 (shaped_allT se) (shaped_lay sd) (room_tup sd hu hp) ⟨.bl _, H, I, rfl, q⟩
theorem inD_eq (k : D) (l : List D) : ((toPys l).any fun z => PyData.eqv z (toPy k)) = inD k l := toPys_any l
theorem pop_inU {K : PySem.W.Frag} : POp K (fun x y H Q => (rDIn false x y H Q ∨ rInS0 false x y H Q) ∨ (rInLD K false x y H Q ∨ rInTD' K false x y H Q)) pInU := by
  have bl : ∀ (G : Hp) (b : Bool), Rep K G (.bl b) (.bl b) := fun G b => .bl b
  intro sk sd μ A G H va vb Qp Q h c ra rb k
  unfold pInU at h
  split at h
  · rename_i k t ks vs
    exact .inl (.inl (pop_din (K := K) (.d k) (.d (.dic t ks vs)) μ A G H va vb Qp Q h c ra rb ‹_›))
  · rename_i kd l
    obtain ⟨⟨h1, h2⟩, q⟩ := h
    rw [← inD_eq] at q
    refine .inr (.inr ⟨toPy kd, toPys l, ⟨rep_dp c.le 60 kd _ h1 ra, by have := okEq_depth h1; omega⟩, ?_, okEq_shaped h1, ?_, k _ _ _ _ _ _ q c .refl (.bl _)⟩)
    · have := rep_dp c.le 60 (.tup l) _ h2 rb
      simpa only [toPy] using this
    · have := okEq_shaped h2
      simpa only [toPy] using this
  · rename_i kd l
    obtain ⟨⟨h1, h2⟩, q⟩ := h
    rw [← inD_eq] at q
    refine .inr (.inl ⟨toPy kd, toPys l, ⟨rep_dp c.le 60 kd _ h1 ra, by have := okEq_depth h1; omega⟩, ?_, okEq_shaped h1, ?_, k _ _ _ _ _ _ q c .refl (.bl _)⟩)
    · have := rep_dp c.le 60 (.lst l) _ h2 rb
      simpa only [toPy] using this
    · have := okEq_shaped h2
      simpa only [toPy] using this
  · rename_i x z
    obtain ⟨ch, rfl, q⟩ := h
    cases ra; cases rb
    exact .inl (.inr ⟨ch, z, rfl, rfl, k _ _ _ _ _ _ q c .refl (.bl _)⟩)
  · rename_i kd j
    split at h
    · rename_i l hk
      obtain ⟨a, ha, rfl⟩ := rb
      obtain ⟨us, g1, g2⟩ := c.ok _ _ _ ha hk
      obtain ⟨⟨h1, h2⟩, q⟩ := h
      rw [← inD_eq] at q
      refine .inr (.inl ⟨toPy kd, toPys l, ⟨rep_dp c.le 60 kd _ h1 ra, by have := okEq_depth h1; omega⟩, .lst (SqL.of g1) (reps_dp c.le 59 l _ (by unfold okEq at h2; simpa only [flat] using h2) g2), okEq_shaped h1, ?_, k _ _ _ _ _ _ q c .refl (.bl _)⟩)
      have := okEq_shaped h2
      simpa only [toPy] using this
    · rename_i ks vs hk
      exact .inl (.inl (pop_din (K := K) (.d kd) (.c j) μ A G H va vb Qp Q (by simp only [pDIn, dicOf, hk, on]; exact h) c ra rb k))
    · rename_i ks vs hk
      exact .inl (.inl (pop_din (K := K) (.d kd) (.c j) μ A G H va vb Qp Q (by simp only [pDIn, dicOf, hk, on]; exact h) c ra rb k))
    · exact h.elim
  · exact h.elim
theorem pop_niU {K : PySem.W.Frag} : POp K (fun x y H Q => (rDIn true x y H Q ∨ rInS0 true x y H Q) ∨ (rInLD K true x y H Q ∨ rInTD' K true x y H Q)) pNiU := by
  have bl : ∀ (G : Hp) (b : Bool), Rep K G (.bl b) (.bl b) := fun G b => .bl b
  intro sk sd μ A G H va vb Qp Q h c ra rb k
  unfold pNiU at h
  split at h
  · rename_i k t ks vs
    exact .inl (.inl (pop_din (K := K) (.d k) (.d (.dic t ks vs)) μ A G H va vb Qp Q h c ra rb ‹_›))
  · rename_i kd l
    obtain ⟨⟨h1, h2⟩, q⟩ := h
    rw [← inD_eq] at q
    refine .inr (.inr ⟨toPy kd, toPys l, ⟨rep_dp c.le 60 kd _ h1 ra, by have := okEq_depth h1; omega⟩, ?_, okEq_shaped h1, ?_, k _ _ _ _ _ _ q c .refl (.bl _)⟩)
    · have := rep_dp c.le 60 (.tup l) _ h2 rb
      simpa only [toPy] using this
    · have := okEq_shaped h2
      simpa only [toPy] using this
  · rename_i kd l
    obtain ⟨⟨h1, h2⟩, q⟩ := h
    rw [← inD_eq] at q
    refine .inr (.inl ⟨toPy kd, toPys l, ⟨rep_dp c.le 60 kd _ h1 ra, by have := okEq_depth h1; omega⟩, ?_, okEq_shaped h1, ?_, k _ _ _ _ _ _ q c .refl (.bl _)⟩)
    · have := rep_dp c.le 60 (.lst l) _ h2 rb
      simpa only [toPy] using this
    · have := okEq_shaped h2
      simpa only [toPy] using this
  · rename_i x z
    obtain ⟨ch, rfl, q⟩ := h
    cases ra; cases rb
    exact .inl (.inr ⟨ch, z, rfl, rfl, k _ _ _ _ _ _ q c .refl (.bl _)⟩)
  · rename_i kd j
    split at h
    · rename_i l hk
      obtain ⟨a, ha, rfl⟩ := rb
      obtain ⟨us, g1, g2⟩ := c.ok _ _ _ ha hk
      obtain ⟨⟨h1, h2⟩, q⟩ := h
      rw [← inD_eq] at q
      refine .inr (.inl ⟨toPy kd, toPys l, ⟨rep_dp c.le 60 kd _ h1 ra, by have := okEq_depth h1; omega⟩, .lst (SqL.of g1) (reps_dp c.le 59 l _ (by unfold okEq at h2; simpa only [flat] using h2) g2), okEq_shaped h1, ?_, k _ _ _ _ _ _ q c .refl (.bl _)⟩)
      have := okEq_shaped h2
      simpa only [toPy] using this
    · rename_i ks vs hk
      exact .inl (.inl (pop_din (K := K) (.d kd) (.c j) μ A G H va vb Qp Q (by simp only [pDIn, dicOf, hk, on]; exact h) c ra rb k))
    · rename_i ks vs hk
      exact .inl (.inl (pop_din (K := K) (.d kd) (.c j) μ A G H va vb Qp Q (by simp only [pDIn, dicOf, hk, on]; exact h) c ra rb k))
    · exact h.elim
  · exact h.elim
theorem op_inU (hu : X.A.units + 64 < cLine) : OpR X (compareOp .In) (fun x y H Q => (rDIn false x y H Q ∨ rInS0 false x y H Q) ∨ (rInLD X.K false x y H Q ∨ rInTD' X.K false x y H Q)) :=
  op_or (op_or (op_dIn (by omega)) op_in_sign) (op_or (op_inLD hu) (op_inTD hu))
theorem op_notInU (hu : X.A.units + 64 < cLine) : OpR X (compareOp .NotIn) (fun x y H Q => (rDIn true x y H Q ∨ rInS0 true x y H Q) ∨ (rInLD X.K true x y H Q ∨ rInTD' X.K true x y H Q)) :=
  op_or (op_or (op_dNotIn (by omega)) op_notIn_sign) (op_or (op_notInLD hu) (op_notInTD hu))
theorem px_inU (hu : X.A.units + 64 < cLine) (ha : PX X W a ta) (hb : PX X W b tb) (hm : behindInMarks .In b = false := by first | exact nomark _ | rfl) : PX X W (.Compare a [.In] [b] pos) (xOp pInU ta tb) := px_cmp (op_inU hu) pop_inU ha hb hm
theorem px_notinU (hu : X.A.units + 64 < cLine) (ha : PX X W a ta) (hb : PX X W b tb) (hm : behindInMarks .NotIn b = false := by first | exact nomark _ | rfl) : PX X W (.Compare a [.NotIn] [b] pos) (xOp pNiU ta tb) := px_cmp (op_notInU hu) pop_niU ha hb hm
theorem pxt_inU (hu : X.A.units + 64 < cLine) (ha : PX X W a ta) (hb : PX X W b tb) (hm : behindInMarks .In b = false := by first | exact nomark _ | rfl) : PXT X W (.Compare a [.In] [b] pos) (xTest (xOp pInU ta tb)) := pxt_cmp (op_inU hu) pop_inU ha hb hm
theorem pxt_notinU (hu : X.A.units + 64 < cLine) (ha : PX X W a ta) (hb : PX X W b tb) (hm : behindInMarks .NotIn b = false := by first | exact nomark _ | rfl) : PXT X W (.Compare a [.NotIn] [b] pos) (xTest (xOp pNiU ta tb)) := pxt_cmp (op_notInU hu) pop_niU ha hb hm
/-! ### slices of tuples, lists, the script -/
def pSlU : SV → Option Int → Option Int → Mem → VP → Prop := fun sa lo hi μ Q => match sa with
  | .d (.tup l) => Q (.d (.tup (cutD l lo hi))) μ
  | .d (.scr l) => Q (.d (.lst (cutD (l.map .int) lo hi))) μ
  | sa => on (lstOf sa μ) fun l => Q (.d (.lst (cutD l lo hi))) μ
theorem psl_U : PSl X.K (fun x lo hi H Q => rSlA X.K x lo hi H Q ∨ rSlL X.K x lo hi H Q) pSlU := by
  intro sa lo hi μ A G H va Qp Q h c ra k
  unfold pSlU at h
  split at h
  · rename_i l
    exact .inl (psl_tup (.d (.tup l)) lo hi μ A G H va Qp Q h c ra k)
  · rename_i l
    exact .inr (psl_scr (.d (.scr l)) lo hi μ A G H va Qp Q h c ra k)
  · exact .inr (psl_list _ lo hi μ A G H va Qp Q h c ra k)
theorem px_slU {lo hi : Option Expr} {tl th : TXO} (ha : PX X W a ta) (hl : PXO X W lo tl) (hh : PXO X W hi th) : PX X W (.Subscript a (.Slice lo hi none p2) pos) (xSl pSlU ta tl th) := px_sl (SlR.or sl_tupA sl_list) psl_U ha hl hh
/-! ### what is walked: a tuple, a list, the script, a dict's keys, a text -/
def iU (K : PySem.W.Frag) (td : TE) : TI := fun σ H R => td σ H fun x H1 => (∃ a xs, x = .ref a ∧ SqT K H1 a xs ∧ R (Itt K a) H1) ∨ (∃ a xs, x = .ref a ∧ SqL K H1 a xs ∧ R (Itl K a) H1) ∨
  (∃ z, x = .str z ∧ R (Its z) H1) ∨ ∃ d u, x = .ref d ∧ ((∃ kvs, u = .dK kvs) ∨ ∃ kvs, u = .dT kvs) ∧ ((H1 d = some u ∧ ∀ od, (∀ kvs, u = .dK kvs → R (Itk d od kvs) (upd H1 d (.frz od u))) ∧ ∀ kvs, u = .dT kvs → R (Itkt d od kvs) (upd H1 d (.frz od u))) ∨
    ∃ od, H1 d = some (.frz od u) ∧ (∀ kvs, u = .dK kvs → R (Itk d od kvs) H1) ∧ ∀ kvs, u = .dT kvs → R (Itkt d od kvs) H1)
theorem keys_core {tg : Expr} {pins : List (Addr × Obj)} {σ : L2.St} {H1 : Hp} {s1 : Shared} {R : It → Hp → Prop} {d : Addr} {o : Obj} {u : HO} (I1 : Inv X pins σ H1 s1) (hd : H1 d = some (.frz o u)) (hu : (∃ kvs, u = .dK kvs) ∨ ∃ kvs, u = .dT kvs)
    (q1 : ∀ kvs, u = .dK kvs → R (Itk d o kvs) H1) (q2 : ∀ kvs, u = .dT kvs → R (Itkt d o kvs) H1) : wpAny (model X.prog X.w) X.A (pyIter (.ref d)) (PIE X pins σ tg R) X.xe s1 := by
  rcases hu with ⟨kvs, rfl⟩ | ⟨kvs, rfl⟩
  · obtain ⟨hs, hgd, hx, es, ep, vs, hdt, hsz, kv, hm⟩ := I1.frzK hd
    refine iter_keys hs hgd hx hdt (pi_one (tk := s1.toks) I1 _ (turn_keys _ hdt) ⟨_, Heap.get?_push_size _ rfl, rfl, ?_⟩ (q1 _ rfl))
    rw [hsz] <;> rfl
  · obtain ⟨hs, hgd, hx, es, ep, hdt, hsz, ent⟩ := I1.frzT hd
    refine iter_keys hs hgd hx hdt (pi_one (tk := s1.toks) I1 _ (turn_keysT _ hdt) ⟨_, Heap.get?_push_size _ rfl, rfl, ?_⟩ (q2 _ rfl))
    rw [hsz] <;> rfl
theorem pi_U {tg : Expr} {td : TE} (he : PE X e td) : PI X tg e (iU X.K td) := by
  refine ⟨fun pins s σ H R I h => ?_⟩
  refine thn (he.run pins s σ H _ I h) fun v s1 ⟨x, H1, I1, r1, q1⟩ => ?_
  rcases q1 with ⟨a, xs, rfl, hq, q⟩ | ⟨a, xs, rfl, hq, q⟩ | ⟨z, rfl, q⟩ | ⟨d, u, rfl, hu, q⟩
  · cases r1
    obtain ⟨its, rv, p, hz⟩ := I1.tuple hq
    refine wpAny_pyIter_tuple (show s1.heap.IsTuple a its.toArray from p) ?_
    refine ⟨s1.heap.objs.size, [s1.heap.objs.size], _, _, H1, rfl, I1.kept (t' := s1.toks) fun b o e => Heap.get?_push_of_some _ e, turn_tuple a _, ⟨_, Heap.get?_push_size _ rfl, rfl, rfl⟩, fun b hb => ?_, q⟩
    have e : b = s1.heap.objs.size := by simpa using hb
    subst e
    exact I1.fpOk (Nat.le_refl _) (I1.hok.fresh (Nat.le_refl _))
  · cases r1
    obtain ⟨its, rv, p, hz⟩ := I1.list hq
    refine wpAny_pyIter_list p.isList ?_
    refine ⟨s1.heap.objs.size, [s1.heap.objs.size], _, _, H1, rfl, I1.kept (t' := s1.toks) fun b o e => Heap.get?_push_of_some _ e, turn_list a _, ⟨_, Heap.get?_push_size _ rfl, rfl, rfl⟩, fun b hb => ?_, q⟩
    have e : b = s1.heap.objs.size := by simpa using hb
    subst e
    exact I1.fpOk (Nat.le_refl _) (I1.hok.fresh (Nat.le_refl _))
  · obtain ⟨t, rfl⟩ := r1
    cases ha : z.cps.all (· < 128)
    · exact wpAny_pyIter_wide ha (pi_one (tk := s1.toks) I1 _ (turn_str _ z t "str_iterator" (.inr rfl)) ⟨_, Heap.get?_push_size _ rfl, rfl, rfl⟩ q)
    · exact wpAny_pyIter_ascii ha (pi_one (tk := s1.toks) I1 _ (turn_str _ z t "str_ascii_iterator" (.inl rfl)) ⟨_, Heap.get?_push_size _ rfl, rfl, rfl⟩ q)
  · cases r1
    rcases q with ⟨hd, q⟩ | ⟨od, hd, q⟩
    · obtain ⟨od, I2⟩ := I1.lock hd (by rcases hu with ⟨_, rfl⟩ | ⟨_, rfl⟩ <;> exact True.intro)
      exact keys_core I2 upd_same hu (q od).1 (q od).2
    · exact keys_core I1 hd hu q.1 q.2
def itD : D → Option (List D)
  | .tup l => some l
  | .lst l => some l
  | .scr l => some (l.map .int)
  | .str z => some (strD z)
  | .dic _ ks _ => some ks
  | _ => none
def xiU (te : TX) : TXI := fun x ρ μ Q => te x ρ μ fun s μ1 => match s with
  | .d d => on (itD d) fun l => Q l μ1
  | _ => False
theorem yd_str {K : PySem.W.Frag} {G : Hp} {z : Str} : Walk (Its z) (strD z).length (fun H => LeZ G H) (YD K (strD z) G) := by
  have hl : (strD z).length = z.cps.size := by simp [strD]
  rw [hl]
  refine walk_str.mono (fun _ _ => trivial) fun i H v H' hi q y G2 g2 _ => ?_
  obtain ⟨e1, c, e2, rfl⟩ := y
  have e3 : z.cps.toList[i]? = some c := by rw [Array.getElem?_toList]; exact e2
  exact ⟨.str ⟨#[c]⟩, by simp only [strD, List.getElem?_map, e3, Option.map_some], .inl ⟨e1, .str _⟩⟩
theorem pxi_U {tg : Expr} (he : PX X W e te) : PXI X W tg e (xiU te) := by
  refine ⟨_, pi_U he.pe, fun σ H R h => ?_⟩
  obtain ⟨A, ρ, μ, G, Rp, x, S, ht, hx, k⟩ := h
  refine ⟨A, ρ, μ, G, _, x, S, ht, hx, fun s μ1 A1 G1 H1 v q c1 s1 r1 => ?_⟩
  match s, q, r1 with
  | .d d, q, r1 =>
    obtain ⟨l, hl, q⟩ := on_of q
    cases d <;> simp [itD] at hl
    case tup l' =>
      subst hl
      obtain ⟨a, us, rfl, h1, h2⟩ := Reps.sq r1
      refine .inl ⟨a, us, rfl, c1.le.sqT h1, k _ _ _ _ _ _ q c1 s1 ?_⟩
      rw [h2.length]
      refine walk_tup.mono (fun H' z => z.sqT h1) fun i H0 x H' hi _ y G2 g2 _ => ?_
      obtain ⟨d, e1, r⟩ := h2.get y.2
      exact ⟨d, e1, .inl ⟨y.1, r.mono g2⟩⟩
    case lst l' =>
      subst hl
      obtain ⟨a, us, rfl, h1, h2⟩ := Reps.sql r1
      refine .inr (.inl ⟨a, us, rfl, SqL.of (c1.le _ _ h1), k _ _ _ _ _ _ q c1 s1 ?_⟩)
      rw [h2.length]
      refine walk_list.mono (fun H' z => SqL.of (z.same h1 rfl)) fun i H0 x H' hi _ y G2 g2 _ => ?_
      obtain ⟨d, e1, r⟩ := h2.get y.2
      exact ⟨d, e1, .inl ⟨y.1, r.mono g2⟩⟩
    case scr l' =>
      subst hl
      cases r1 with
      | scr h1 =>
        refine .inr (.inl ⟨_, _, rfl, c1.le.sqL h1, k _ _ _ _ _ _ q c1 s1 ?_⟩)
        have h2 := scr_reps (K := X.K) (G := G1) l'
        rw [h2.length]
        refine walk_list.mono (fun H' z => z.sqL h1) fun i H0 x H' hi _ y G2 g2 _ => ?_
        obtain ⟨d, e1, r⟩ := h2.get y.2
        exact ⟨d, e1, .inl ⟨y.1, r.mono g2⟩⟩
    case str z =>
      subst hl
      cases r1
      exact .inr (.inr (.inl ⟨z, rfl, k _ _ _ _ _ _ q c1 s1 yd_str⟩))
    case dic t ks vs =>
      subst hl
      cases r1 with
      | @dicK a kvs _ _ h hk hs =>
        subst hk
        refine .inr (.inr (.inr ⟨a, .dK kvs, rfl, .inl ⟨_, rfl⟩, ?_⟩))
        rcases h with h | ⟨od, h⟩
        · refine .inl ⟨c1.le _ _ h, fun od => ⟨fun kvs' e => ?_, fun kvs' e => by cases e⟩⟩
          cases e
          obtain ⟨c2, s2⟩ := c1.lockD (od := od) h rfl
          exact k _ _ _ _ _ _ q c2 (s1.trans s2) (yd_keys upd_same)
        · refine .inr ⟨od, c1.le _ _ h, fun kvs' e => ?_, fun kvs' e => by cases e⟩
          cases e
          exact k _ _ _ _ _ _ q c1 s1 (yd_keys h)
      | @dicT a kvs _ _ h hk hs =>
        subst hk
        refine .inr (.inr (.inr ⟨a, .dT kvs, rfl, .inr ⟨_, rfl⟩, ?_⟩))
        rcases h with h | ⟨od, h⟩
        · refine .inl ⟨c1.le _ _ h, fun od => ⟨fun kvs' e => (by cases e), fun kvs' e => ?_⟩⟩
          cases e
          obtain ⟨c2, s2⟩ := c1.lockD (od := od) h rfl
          exact k _ _ _ _ _ _ q c2 (s1.trans s2) (yd_keysT upd_same)
        · refine .inr ⟨od, c1.le _ _ h, fun kvs' e => (by cases e), fun kvs' e => ?_⟩
          cases e
          exact k _ _ _ _ _ _ q c1 s1 (yd_keysT h)
/-! ### enumerate, zip of either -/
def iEnumU (K : PySem.W.Frag) (ta : TA) : TI := fun σ H R => ta σ H fun vs H1 => ∃ a xs, vs = [.ref a] ∧ ((SqT K H1 a xs ∧ R (IteT K a) H1) ∨ (SqL K H1 a xs ∧ R (Ite K a) H1))
theorem pi_enumU {ta : TA} (hg : Gl X "enumerate") (hm : X.mg "enumerate" = none) (ha : PA X [e] ta) (hs : starEach [e] X.env = [(false, eval e X.env)] := by rfl) :
    PI X (.Tuple elts kk tpos) (.Call (.Name "enumerate" p) [e] [] pos) (iEnumU X.K ta) := by
  refine ⟨fun pins s σ H R I h => ?_⟩
  refine Call_ (ld_blt I hg hm boot_enumerate (PyProof.Rows.callWith_type1 (thn (ha.run pos pins s σ H _ I h) fun us s1 ⟨vs, H1, I1, r1, q1⟩ => ?_) hs rfl))
  obtain ⟨a, xs, ex, q⟩ := q1
  subst ex
  cases r1 with
  | cons r rr =>
    cases rr
    cases r
    have fp : ∀ b ∈ [s1.heap.objs.size + 1, s1.heap.objs.size], FpOk X pins H1 b := fun b hb => by
      have e' : b = s1.heap.objs.size + 1 ∨ b = s1.heap.objs.size := by simpa using hb
      have hle : s1.heap.objs.size ≤ b := by
        rcases e' with z | z
        · rw [z]; exact Nat.le_add_right _ _
        · rw [z]; exact Nat.le_refl _
      exact I1.fpOk hle (I1.hok.fresh hle)
    rcases q with ⟨hq, q⟩ | ⟨hq, q⟩
    · obtain ⟨its, rv, p', hz⟩ := I1.tuple hq
      refine call_enum1 (begins_tuple a its.toArray) p' fun h' he hit0 hk => wpAny_pyIter_enum he ?_
      have hit : h'.IsTupleIter s1.heap.objs.size a 0 := ⟨_, hit0, rfl, rfl⟩
      have I2 : Inv X pins σ H1 { s1 with heap := h' } := I1.kept (t' := s1.toks) hk
      exact ⟨s1.heap.objs.size + 1, [s1.heap.objs.size + 1, s1.heap.objs.size], _, _, H1, rfl, I2, turn_enumT a (s1.heap.objs.size + 1) s1.heap.objs.size, ⟨⟨.none, he⟩, hit, Nat.succ_ne_self _⟩, fp, q⟩
    · obtain ⟨its, rv, p', hz⟩ := I1.list hq
      refine call_enumerate_list p'.isList fun h' he hit hsz hk => wpAny_pyIter_enum he ?_
      have I2 : Inv X pins σ H1 { s1 with heap := h' } := I1.kept (t' := s1.toks) hk
      exact ⟨s1.heap.objs.size + 1, [s1.heap.objs.size + 1, s1.heap.objs.size], _, _, H1, rfl, I2, turn_enum a (s1.heap.objs.size + 1) s1.heap.objs.size, ⟨⟨.none, he⟩, hit, Nat.succ_ne_self _⟩, fp, q⟩
def xiEnU (t : TXA) : TXI := fun x ρ μ Q => t x ρ μ fun ss μ1 => match ss with
  | [.d (.tup l)] => Q (enumD l) μ1
  | [.d (.lst l)] => Q (enumD l) μ1
  | _ => False
theorem pxi_enumU (hg : Gl X "enumerate") (hm : X.mg "enumerate" = none) (ha : PXA X W [e] tL) (hs : starEach [e] X.env = [(false, eval e X.env)] := by rfl) : PXI X W (.Tuple elts kk tpos) (.Call (.Name "enumerate" p) [e] [] pos) (xiEnU tL) := by
  refine ⟨_, pi_enumU hg hm ha.pa hs, fun σ H R h => ?_⟩
  obtain ⟨A, ρ, μ, G, Rp, x, S, ht, hx, k⟩ := h
  refine ⟨A, ρ, μ, G, _, x, S, ht, hx, fun ss μ1 A1 G1 H1 vs q c1 s1 r1 => ?_⟩
  match ss, q, r1 with
  | [.d (.tup l)], q, .cons r .nil =>
    obtain ⟨a, us, rfl, h1, h2⟩ := Reps.sq r
    refine ⟨a, us, rfl, .inl ⟨c1.le.sqT h1, k _ _ _ _ _ _ q c1 s1 ?_⟩⟩
    have hl : (enumD l).length = us.length := by simp [enumD, h2.length]
    rw [hl]
    refine ⟨fun i H hi q => ⟨us, us[i], q.sqT h1, by simp [hi]⟩, fun _ q => ⟨us, q.sqT h1, rfl⟩, fun i H v H' hi q y G2 g2 _ => ?_⟩
    obtain ⟨T, x, e1, e2, e3, e4⟩ := y
    obtain ⟨d, ed, r⟩ := h2.get (e4 us (q.sqT h1))
    exact yd_pair (d := .int (i : Nat)) (e := d) (by simp [enumD, ed]) (.int _) (r.mono g2) ⟨T, e1, e2, e3⟩
  | [.d (.lst l)], q, .cons r .nil =>
    obtain ⟨a, us, rfl, h1, h2⟩ := Reps.sql r
    refine ⟨a, us, rfl, .inr ⟨SqL.of (c1.le _ _ h1), k _ _ _ _ _ _ q c1 s1 ?_⟩⟩
    have hl : (enumD l).length = us.length := by simp [enumD, h2.length]
    rw [hl]
    refine walk_enum.mono (fun H z => SqL.of (z.same h1 rfl)) fun i H v H' hi q y G2 g2 _ => ?_
    obtain ⟨T, x, y', e1, e2, e3, e4, e5⟩ := y
    cases e4
    obtain ⟨d, ed, r⟩ := h2.get e5
    exact yd_pair (d := .int (i : Nat)) (e := d) (by simp [enumD, ed]) (.int _) (r.mono g2) ⟨T, e1, e2, e3⟩
def xiZipU (t : TXA) : TXI := fun x ρ μ Q => t x ρ μ fun ss μ1 => match ss with
  | [.d (.tup l), .d (.tup m)] => Q (zipD l m) μ1
  | [.d (.lst l), .d (.lst m)] => Q (zipD l m) μ1
  | _ => False
theorem pxi_zipU (hg : Gl X "zip") (hm : X.mg "zip" = none) (ha : PXA X W [a, b] tL) (hs : starEach [a, b] X.env = (false, eval a X.env) :: starEach [b] X.env := by rfl) (hpl : (backTo pos (starEach [b] X.env)).any (·.1) = false := by rfl) : PXI X W (.Tuple elts kk tpos) (.Call (.Name "zip" p) [a, b] [] pos) (xiZipU tL) := by
  refine ⟨_, pi_zipA hg hm ha.pa hs hpl, fun σ H R h => ?_⟩
  obtain ⟨A, ρ, μ, G, Rp, x, S, ht, hx, k⟩ := h
  refine ⟨A, ρ, μ, G, _, x, S, ht, hx, fun ss μ1 A1 G1 H1 vs q c1 s1 r1 => ?_⟩
  match ss, q, r1 with
  | [.d (.tup l), .d (.tup m)], q, .cons r (.cons r' .nil) =>
    obtain ⟨a, us, rfl, h1, h2⟩ := Reps.sq r
    obtain ⟨b, ws, rfl, h3, h4⟩ := Reps.sq r'
    refine ⟨a, b, us, ws, rfl, .inr ⟨c1.le.sqT h1, c1.le.sqT h3, k _ _ _ _ _ _ q c1 s1 ?_⟩⟩
    have hl : (zipD l m).length = min us.length ws.length := by simp [zipD, h2.length, h4.length]
    refine (walk_zipT hl).mono (fun H z => ⟨z.sqT h1, z.sqT h3⟩) fun i H v H' hi q y G2 g2 _ => ?_
    obtain ⟨T, x, y', e1, e2, e3, e4, e5⟩ := y
    obtain ⟨d, ed, r⟩ := h2.get e4
    obtain ⟨e, ee, r'⟩ := h4.get e5
    exact yd_pair (d := d) (e := e) (zipD_at ed ee) (r.mono g2) (r'.mono g2) ⟨T, e1, e2, e3⟩
  | [.d (.lst l), .d (.lst m)], q, .cons r (.cons r' .nil) =>
    obtain ⟨a, us, rfl, h1, h2⟩ := Reps.sql r
    obtain ⟨b, ws, rfl, h3, h4⟩ := Reps.sql r'
    refine ⟨a, b, us, ws, rfl, .inl ⟨SqL.of (c1.le _ _ h1), SqL.of (c1.le _ _ h3), k _ _ _ _ _ _ q c1 s1 ?_⟩⟩
    have hl : (zipD l m).length = min us.length ws.length := by simp [zipD, h2.length, h4.length]
    refine (walk_zip hl).mono (fun H z => ⟨SqL.of (z.same h1 rfl), SqL.of (z.same h3 rfl)⟩) fun i H v H' hi q y G2 g2 _ => ?_
    obtain ⟨T, x, y', e1, e2, e3, e4, e5⟩ := y
    obtain ⟨d, ed, r⟩ := h2.get e4
    obtain ⟨e, ee, r'⟩ := h4.get e5
    exact yd_pair (d := d) (e := e) (zipD_at ed ee) (r.mono g2) (r'.mono g2) ⟨T, e1, e2, e3⟩
/-! ### isinstance, == and - again, for walking -/
inductive TyK where
  | bool | int | str | tuple | list | dict
def TyK.nm : TyK → String
  | .bool => "bool"
  | .int => "int"
  | .str => "str"
  | .tuple => "tuple"
  | .list => "list"
  | .dict => "dict"
def isK : TyK → D → Option Bool
  | k, .non => match k with | _ => some false
  | k, .bl _ => match k with | .bool => some true | .int => some true | _ => some false
  | k, .int _ => match k with | .int => some true | _ => some false
  | k, .str _ => match k with | .str => some true | _ => some false
  | k, .tup _ => match k with | .tuple => some true | _ => some false
  | k, .lst _ => match k with | .list => some true | _ => some false
  | k, .scr _ => match k with | .list => some true | _ => some false
  | k, .dic _ _ _ => match k with | .dict => some true | _ => some false
  | _, _ => none
def isKc : TyK → Cell → Option Bool
  | k, .lst _ => match k with | .list => some true | _ => some false
  | k, .dK _ _ => match k with | .dict => some true | _ => some false
  | k, .dT _ _ => match k with | .dict => some true | _ => some false
  | _, _ => none
def isKs (k : TyK) (s : SV) (μ : Mem) : Option Bool := match s with
  | .d d => isK k d
  | .c j => match μ[j]? with
    | some c => isKc k c
    | none => none
  | .un => none
theorem isKs_ok {k : TyK} {s : SV} {μ : Mem} {b : Bool} (h : isKs k s μ = some b) : ∃ T, tyOf s μ = some T ∧ k.nm ∈ tyNames ∧ isTy T k.nm = b := by
  unfold isKs at h
  split at h
  · rename_i d
    cases d <;> cases k <;> simp [isK] at h <;> subst h <;> refine ⟨_, rfl, by decide, by decide⟩
  · rename_i j
    split at h
    · rename_i c hc
      cases c <;> cases k <;> simp [isKc] at h <;> subst h <;> simp only [tyOf, hc] <;> exact ⟨_, rfl, by decide, by decide⟩
    · cases h
  · cases h
def pIsK (k : TyK) : SV → Mem → VP → Prop := fun s μ Q => on (isKs k s μ) fun b => Q (.d (.bl b)) μ
def xIsK (k : TyK) (ta : TX) : TX := fun x ρ μ Q => ta x ρ μ fun s μ1 => pIsK k s μ1 Q
theorem px_isiK (k : TyK) {x : Str} {px' : Pos} (hg : Gl X "isinstance") (hm : X.mg "isinstance" = none) (hg2 : Gl X x) (hm2 : X.mg x = none) (hv : bootBuiltins x = some (.type k.nm)) (ha : PX X W a ta)
    (hn : x ≠ "__name__" := by decide) (hd : (x == ("__debug__" : Str)) = false := by decide)
    (he : starEach [a, .Name x px'] X.env = (false, eval a X.env) :: starEach [.Name x px'] X.env := by rfl) (he2 : starEach [.Name x px'] X.env = (false, eval (.Name x px') X.env) :: starEach [] X.env := by rfl) (hpl : (backTo pos (starEach [.Name x px'] X.env)).any (·.1) = false := by rfl) : PX X W (.Call (.Name "isinstance" p) [a, .Name x px'] [] pos) (xIsK k ta) := by
  have hL : PXA X W [a, .Name x px'] (xCons ta (xCons (xC (.ty k.nm)) xNil)) := pxa_cons ha (pxa_cons (px_bty (T := k.nm) hg2 hm2 hv hn hd) pxa_nil he2) he
  refine ⟨(pe_callB call_isiY hg hm (by decide +kernel) hL.pa (by decide) (by decide) he hpl).imp fun σ H Q h => ?_⟩
  obtain ⟨A, ρ, μ, G, Qp, xp, S, ht, hx, kk⟩ := h
  refine ⟨A, ρ, μ, G, fun ss μ1 => ∃ s, ss = [s, .d (.ty k.nm)] ∧ pIsK k s μ1 Qp, xp, S, ?_, hx, fun ss μ' A' G' H' vs q c s rr => ?_⟩
  · have e : (fun (s : SV) (μ1 : Mem) => ∃ s', [s, SV.d (.ty k.nm)] = [s', SV.d (.ty k.nm)] ∧ pIsK k s' μ1 Qp) = fun s μ1 => pIsK k s μ1 Qp := by
      funext s μ1
      refine propext ⟨fun ⟨s', e, q⟩ => ?_, fun q => ⟨s, rfl, q⟩⟩
      cases e
      exact q
    show ta xp ρ μ fun s μ1 => ∃ s', [s, SV.d (.ty k.nm)] = [s', SV.d (.ty k.nm)] ∧ pIsK k s' μ1 Qp
    rw [e]
    exact ht
  · obtain ⟨s0, rfl, q⟩ := q
    obtain ⟨b, e, q⟩ := on_of q
    obtain ⟨T, e1, e2, e3⟩ := isKs_ok e
    exact pcall_isi (X := X) _ μ' A' G' H' vs Qp Q (by simp only [pIsi, e1, on]; exact ⟨e2, by rw [e3]; exact q⟩) c rr fun r μ2 A2 G2 H2 v q2 c2 s2 r2 => kk r μ2 A2 G2 H2 v q2 c2 (s.trans s2) r2
def pModU : SV → SV → Mem → VP → Prop := fun sa sb μ Q => match sa, sb with
  | .d (.int i), .d (.int j) => 0 < j ∧ Q (.d (.int (i % j))) μ
  | _, _ => False
theorem pop_modU {K : PySem.W.Frag} : POp K (rI (fun _ j => 0 < j) fun i j => .int (i % j)) pModU := by
  intro sa sb μ A G H va vb Qp Q h c ra rb k
  unfold pModU at h
  split at h
  · cases ra; cases rb
    exact ⟨_, _, rfl, rfl, h.1, k _ _ _ _ _ _ h.2 c .refl (.int _)⟩
  · exact h.elim
theorem px_modU (ha : PX X W a ta) (hb : PX X W b tb) : PX X W (.BinOp a .Mod b pos) (xOp pModU ta tb) := px_op op_mod pop_modU ha hb
def pSubU : SV → SV → Mem → VP → Prop := fun sa sb μ Q => match sa, sb with
  | .d (.int i), .d (.int j) => Q (.d (.int (i - j))) μ
  | _, _ => False
theorem pop_subU {K : PySem.W.Frag} : POp K (rI0 fun i j => .int (i - j)) pSubU := by
  intro sa sb μ A G H va vb Qp Q h c ra rb k
  unfold pSubU at h
  split at h
  · cases ra; cases rb
    exact ⟨_, _, rfl, rfl, k _ _ _ _ _ _ h c .refl (.int _)⟩
  · exact h.elim
theorem px_subU (ha : PX X W a ta) (hb : PX X W b tb) : PX X W (.BinOp a .Sub b pos) (xOp pSubU ta tb) := px_op op_sub pop_subU ha hb
/-- ==, != -/
def pEqU : SV → SV → Mem → VP → Prop := fun sa sb μ Q => match sa, sb with
  | .d (.int i), .d (.int j) => Q (.d (.bl (decide (i = j)))) μ
  | .d (.bl i), .d (.bl j) => Q (.d (.bl (i == j))) μ
  | .d x, .d y => (okEq x = true ∧ okEq y = true) ∧ Q (.d (.bl (deq x y))) μ
  | _, _ => False
def pNeU : SV → SV → Mem → VP → Prop := fun sa sb μ Q => match sa, sb with
  | .d (.int i), .d (.int j) => Q (.d (.bl (!decide (i = j)))) μ
  | .d (.bl i), .d (.bl j) => Q (.d (.bl (!(i == j)))) μ
  | .d x, .d y => (okEq x = true ∧ okEq y = true) ∧ Q (.d (.bl (!deq x y))) μ
  | _, _ => False
theorem deq_int0 (i j : Int) : deq (.int i) (.int j) = decide (i = j) := by
  simp only [deq, toPy, PyData.eqv]
  by_cases h : i = j <;> simp [h]
theorem pop_eqU {K : PySem.W.Frag} : POp K (rEqD K) pEqU := by
  intro sa sb μ A G H va vb Qp Q h c ra rb k
  unfold pEqU at h
  split at h
  · rename_i i j
    exact pop_eq (.d (.int i)) (.d (.int j)) μ A G H va vb Qp Q ⟨⟨by simp [okEq, flat], by simp [okEq, flat]⟩, by rw [deq_int0]; exact h⟩ c ra rb k
  · rename_i i j
    exact pop_eq (.d (.bl i)) (.d (.bl j)) μ A G H va vb Qp Q ⟨⟨by simp [okEq, flat], by simp [okEq, flat]⟩, by simp only [deq, toPy, PyData.eqv]; exact h⟩ c ra rb k
  · rename_i x y _ _
    exact pop_eq (.d x) (.d y) μ A G H va vb Qp Q h c ra rb k
  · exact h.elim
theorem pop_neU {K : PySem.W.Frag} : POp K (rNeD K) pNeU := by
  intro sa sb μ A G H va vb Qp Q h c ra rb k
  unfold pNeU at h
  split at h
  · rename_i i j
    exact pop_ne (.d (.int i)) (.d (.int j)) μ A G H va vb Qp Q ⟨⟨by simp [okEq, flat], by simp [okEq, flat]⟩, by rw [deq_int0]; exact h⟩ c ra rb k
  · rename_i i j
    exact pop_ne (.d (.bl i)) (.d (.bl j)) μ A G H va vb Qp Q ⟨⟨by simp [okEq, flat], by simp [okEq, flat]⟩, by simp only [deq, toPy, PyData.eqv]; exact h⟩ c ra rb k
  · rename_i x y _ _
    exact pop_ne (.d x) (.d y) μ A G H va vb Qp Q h c ra rb k
  · exact h.elim
theorem px_eqU (hu : X.A.units + 64 < cLine) (ha : PX X W a ta) (hb : PX X W b tb) : PX X W (.Compare a [.Eq] [b] pos) (xOp pEqU ta tb) := px_cmp (op_eqD hu) pop_eqU ha hb
theorem px_neU (hu : X.A.units + 64 < cLine) (ha : PX X W a ta) (hb : PX X W b tb) : PX X W (.Compare a [.NotEq] [b] pos) (xOp pNeU ta tb) := px_cmp (op_neD hu) pop_neU ha hb
theorem pxt_eqU (hu : X.A.units + 64 < cLine) (ha : PX X W a ta) (hb : PX X W b tb) : PXT X W (.Compare a [.Eq] [b] pos) (xTest (xOp pEqU ta tb)) := pxt_cmp (op_eqD hu) pop_eqU ha hb
theorem pxt_neU (hu : X.A.units + 64 < cLine) (ha : PX X W a ta) (hb : PX X W b tb) : PXT X W (.Compare a [.NotEq] [b] pos) (xTest (xOp pNeU ta tb)) := pxt_cmp (op_neD hu) pop_neU ha hb
/-- lo op x op' hi, of ints -/
def pRel (o : Fin 2) (i j : Int) : Bool := match o with
  | 0 => decide (i < j)
  | 1 => decide (i ≤ j)
end
end PL
/-! The P-layer: plain lemmas for the plain laws. -/
namespace PL
open PySem PySem.Spec PyProof.Rows L2
theorem sz (n : Nat) (h : n ≤ 1000 := by decide) : n ≤ sizeLine := by rw [sizeLine_eq]; omega
theorem okEq_non : okEq .non = true := by simp [okEq, flat]
theorem okEq_bl (b : Bool) : okEq (.bl b) = true := by simp [okEq, flat]
theorem okEq_int (i : Int) : okEq (.int i) = true := by simp [okEq, flat]
theorem okEq_str (i : Str) : okEq (.str i) = PyData.strOk i := by simp [okEq, flat]
theorem deq_int (i j : Int) : deq (.int i) (.int j) = decide (i = j) := by
  simp only [deq, toPy, PyData.eqv]
  by_cases h : i = j <;> simp [h]
theorem deq_bl (i j : Bool) : deq (.bl i) (.bl j) = (i == j) := by simp only [deq, toPy, PyData.eqv]
theorem deq_str (i j : Str) : deq (.str i) (.str j) = decide (i = j) := by
  simp only [deq, toPy, PyData.eqv]
  by_cases h : i = j <;> simp [h]
theorem bools_map {α : Type} (g : α → Bool) : ∀ l : List α, bools (l.map fun d => .bl (g d)) = some (l.map g)
  | [] => rfl
  | a :: l => by simp only [List.map_cons, bools, bools_map g l, Option.map_some]
theorem bools_map' (bs : List Bool) : bools (bs.map .bl) = some bs := by
  have := bools_map id bs
  simpa using this
theorem take_map_succ {α β : Type} (f : α → β) {l : List α} {i : Nat} {d : α} (h : l[i]? = some d) : (l.take i).map f ++ [f d] = (l.take (i + 1)).map f := by
  rw [List.take_add_one, h]
  simp
theorem rngD_length (lo : Int) (n : Nat) : (rngD lo n).length = n := by simp [rngD]
theorem rngD_at {lo : Int} {n i : Nat} {d : D} (h : (rngD lo n)[i]? = some d) : i < n ∧ d = .int (lo + i) := by
  have hl : i < (rngD lo n).length := (List.getElem?_eq_some_iff.mp h).1
  rw [rngD_length] at hl
  refine ⟨hl, ?_⟩
  unfold rngD at h
  rw [List.getElem?_map, List.getElem?_range hl] at h
  exact (Option.some.inj h).symm
theorem enumD_length (l : List D) : (enumD l).length = l.length := by simp [enumD]
theorem enumD_at {l : List D} {i : Nat} {d : D} (h : (enumD l)[i]? = some d) : ∃ e, l[i]? = some e ∧ d = .tup [.int (i : Nat), e] := by
  unfold enumD at h
  rw [List.getElem?_mapIdx] at h
  obtain ⟨e, h1, h2⟩ := Option.map_eq_some_iff.mp h
  exact ⟨e, h1, h2.symm⟩
theorem zipD_length (l m : List D) : (zipD l m).length = min l.length m.length := by simp [zipD]
theorem zipD_at' {l m : List D} {i : Nat} {d : D} (h : (zipD l m)[i]? = some d) : ∃ a b, l[i]? = some a ∧ m[i]? = some b ∧ d = .tup [a, b] := by
  unfold zipD at h
  rw [List.getElem?_zipWith] at h
  split at h
  · rename_i a b h1 h2
    exact ⟨a, b, h1, h2, (Option.some.inj h).symm⟩
  · cases h
theorem atI_nat {α : Type} {l : List α} {i : Nat} : atI l (i : Nat) = l[i]? := by
  unfold atI ixN
  by_cases h : i < l.length
  · have h2 : ¬ ((i : Int) < 0) := by omega
    simp [h2, h]
  · have h2 : ¬ ((i : Int) < 0) := by omega
    simp [h2, h, List.getElem?_eq_none (Nat.le_of_not_lt h)]
theorem ixOf_scr {l : List Int} {n : Nat} (h : n < l.length) (μ : Mem) : ixOf (.d (.scr l)) μ n = some (.int l[n]) := by
  show (atI l (n : Int)).map D.int = _
  rw [PL.atI_nat, List.getElem?_eq_getElem h]; rfl
theorem ixOf_tup {l : List D} {n : Nat} {d : D} (h : l[n]? = some d) (μ : Mem) : ixOf (.d (.tup l)) μ n = some d := by
  show atI l (n : Int) = _
  rw [PL.atI_nat, h]
theorem ixOf_lst {l : List D} {n : Nat} {d : D} (h : l[n]? = some d) (μ : Mem) : ixOf (.d (.lst l)) μ n = some d := by
  show atI l (n : Int) = _
  rw [PL.atI_nat, h]
theorem ixN_lit {n : Nat} {i : Int} (h : 0 ≤ i) (h2 : i < n) : ixN n i = some i.toNat := by
  unfold ixN; rw [if_pos h, if_pos h2]
theorem atI_lit {α : Type} {l : List α} {i : Int} (h : 0 ≤ i) (h2 : i < l.length) : atI l i = l[i.toNat]? := by
  unfold atI; rw [ixN_lit h h2]; rfl
theorem cutD_mem {l : List D} {lo hi : Option Int} {d : D} (h : d ∈ cutD l lo hi) : d ∈ l := by
  unfold cutD at h
  exact List.mem_of_mem_drop (List.mem_of_mem_take h)
theorem cutD_le (l : List D) (lo hi : Option Int) : (cutD l lo hi).length ≤ l.length := by
  unfold cutD
  rw [List.length_take, List.length_drop]; omega
theorem findD_some {x : D} : ∀ {ks vs : List D}, ks.length = vs.length → ((findD ks vs x).isSome = true ↔ x ∈ ks)
  | [], [], _ => by simp [findD]
  | k :: ks, v :: vs, h => by
    simp only [findD]
    by_cases e : k = x
    · rw [if_pos e]; simp [e]
    · rw [if_neg e, findD_some (by simpa using h)]
      simp [Ne.symm e]
theorem putKs_mem {ks : List D} {k d : D} : d ∈ putKs ks k ↔ d ∈ ks ∨ d = k := by
  unfold putKs
  split
  · rename_i h
    constructor
    · exact .inl
    · rintro (q | rfl)
      · exact q
      · exact h
  · simp
theorem putKs_le (ks : List D) (k : D) : (putKs ks k).length ≤ ks.length + 1 := by
  unfold putKs
  split
  · omega
  · simp
theorem put_len {ks vs : List D} (h : ks.length = vs.length) (k v : D) : (putKs ks k).length = (putVs ks vs k v).length := by
  unfold putKs putVs
  split
  · simp [h]
  · simp [h]
section
variable {P : Program} {w : World} {K : PySem.W.Frag} {mg : Str → Option Value} {base : Heap}
/-- a promise that is never asked for -/
theorem Has.never {x : Str} {st : Stmt} {ps : List Str} {k : Nat} (D : Def K mg x st) (B : BindN x st ps) : Has P w K mg base k x ps (fun _ _ _ _ => False) := by
  obtain ⟨f, fd, F, hm⟩ := D.ex
  have no : ∀ vs H Q E, ¬ low K (fun _ _ _ _ => False) vs H Q E := fun vs H Q E ⟨_, _, _, _, _, _, _, _, z, _⟩ => z
  exact ⟨f, fd, ⟨fun vs H Q E z => (no _ _ _ _ z).elim, fun A outer s H args us vs Q E hr e b r z => (no _ _ _ _ z).elim⟩, hm, F.kp, FunD.bindsN F B, st, F⟩
end
end PL
namespace Lk61
open PySem PySem.Spec PyProof.Rows L2 PL
def top (i : Nat) : Stmt := PySem.Challenge.pw_takenorleft_k61_whole_strips_and_clashes.main.body.getD i (.Pass ⟨0, 0, 0, 0⟩)
abbrev s_is_whole : Stmt := top 5
abbrev N_is_whole : List Str := ["value"]
theorem sc_is_whole : FnScope N_is_whole ["value"] (defScope s_is_whole) := ⟨rfl, rfl, rfl, by decide +kernel, rfl, by decide +kernel, by decide +kernel⟩
abbrev s_is_tuple_of : Stmt := top 7
abbrev N_is_tuple_of : List Str := ["value", "many"]
theorem sc_is_tuple_of : FnScope N_is_tuple_of ["value", "many"] (defScope s_is_tuple_of) := ⟨rfl, rfl, rfl, by decide +kernel, rfl, by decide +kernel, by decide +kernel⟩
abbrev s_strip_by : Stmt := top 16
abbrev N_strip_by : List Str := ["place", "page", "across", "low", "wide", "tall", "left"]
theorem sc_strip_by : FnScope N_strip_by ["place", "page"] (defScope s_strip_by) := ⟨rfl, rfl, rfl, by decide +kernel, rfl, by decide +kernel, by decide +kernel⟩
abbrev s_do_overlap : Stmt := top 17
abbrev N_do_overlap : List Str := ["strip", "other"]
theorem sc_do_overlap : FnScope N_do_overlap ["strip", "other"] (defScope s_do_overlap) := ⟨rfl, rfl, rfl, by decide +kernel, rfl, by decide +kernel, by decide +kernel⟩
abbrev s__law_pool : Stmt := top 27
abbrev N__law_pool : List Str := ["script", "lap", "cell", "stirred", "each"]
theorem sc__law_pool : FnScope N__law_pool ["script", "lap"] (defScope s__law_pool) := ⟨rfl, rfl, rfl, by decide +kernel, rfl, by decide +kernel, by decide +kernel⟩
abbrev s__law_below : Stmt := top 28
abbrev N__law_below : List Str := ["pool", "many", "figure", "stirred"]
theorem sc__law_below : FnScope N__law_below ["pool", "many"] (defScope s__law_below) := ⟨rfl, rfl, rfl, by decide +kernel, rfl, by decide +kernel, by decide +kernel⟩
abbrev s__law_strip : Stmt := top 30
abbrev N__law_strip : List Str := ["place", "page", "x", "y", "wide", "tall"]
theorem sc__law_strip : FnScope N__law_strip ["place", "page"] (defScope s__law_strip) := ⟨rfl, rfl, rfl, by decide +kernel, rfl, by decide +kernel, by decide +kernel⟩
abbrev s__law_do_clash : Stmt := top 31
abbrev N__law_do_clash : List Str := ["one", "two"]
theorem sc__law_do_clash : FnScope N__law_do_clash ["one", "two"] (defScope s__law_do_clash) := ⟨rfl, rfl, rfl, by decide +kernel, rfl, by decide +kernel, by decide +kernel⟩
abbrev s__law_same : Stmt := top 32
abbrev N__law_same : List Str := ["told", "due", "x", "y"]
theorem sc__law_same : FnScope N__law_same ["told", "due"] (defScope s__law_same) := ⟨rfl, rfl, rfl, by decide +kernel, rfl, by decide +kernel, by decide +kernel⟩
abbrev s__law_cells : Stmt := top 33
abbrev N__law_cells : List Str := ["one", "found", "x", "y"]
theorem sc__law_cells : FnScope N__law_cells ["one"] (defScope s__law_cells) := ⟨rfl, rfl, rfl, by decide +kernel, rfl, by decide +kernel, by decide +kernel⟩
abbrev s_is_between : Stmt := top 6
abbrev N_is_between : List Str := ["value", "low", "high"]
theorem sc_is_between : FnScope N_is_between ["value", "low", "high"] (defScope s_is_between) := ⟨rfl, rfl, rfl, by decide +kernel, rfl, by decide +kernel, by decide +kernel⟩
abbrev s_do_clash_by : Stmt := top 18
abbrev N_do_clash_by : List Str := ["places", "index", "page", "second_index", "second_page"]
theorem sc_do_clash_by : FnScope N_do_clash_by ["places", "index", "page", "second_index", "second_page"] (defScope s_do_clash_by) := ⟨rfl, rfl, rfl, by decide +kernel, rfl, by decide +kernel, by decide +kernel⟩
abbrev s__law_places : Stmt := top 29
abbrev N__law_places : List Str := ["pool", "many", "found", "lap", "wide"]
theorem sc__law_places : FnScope N__law_places ["pool", "many"] (defScope s__law_places) := ⟨rfl, rfl, rfl, by decide +kernel, rfl, by decide +kernel, by decide +kernel⟩
abbrev s_are_between : Stmt := top 8
abbrev N_are_between : List Str := ["value", "many", "low", "high", "each"]
theorem sc_are_between : FnScope N_are_between ["value", "many", "low", "high"] (defScope s_are_between) := ⟨rfl, rfl, rfl, by decide +kernel, rfl, by decide +kernel, by decide +kernel⟩
abbrev s_check_place_index : Stmt := top 21
abbrev N_check_place_index : List Str := ["places", "value"]
theorem sc_check_place_index : FnScope N_check_place_index ["places", "value"] (defScope s_check_place_index) := ⟨rfl, rfl, rfl, by decide +kernel, rfl, by decide +kernel, by decide +kernel⟩
abbrev s_check_page : Stmt := top 22
abbrev N_check_page : List Str := ["value"]
theorem sc_check_page : FnScope N_check_page ["value"] (defScope s_check_page) := ⟨rfl, rfl, rfl, by decide +kernel, rfl, by decide +kernel, by decide +kernel⟩
abbrev s_is_place : Stmt := top 14
abbrev N_is_place : List Str := ["value", "across", "_", "wide", "tall"]
theorem sc_is_place : FnScope N_is_place ["value"] (defScope s_is_place) := ⟨rfl, rfl, rfl, by decide +kernel, rfl, by decide +kernel, by decide +kernel⟩
abbrev s_first_wrong : Stmt := top 9
abbrev N_first_wrong : List Str := ["value", "low", "high", "is_one", "is_rising", "index", "each"]
theorem sc_first_wrong : FnScope N_first_wrong ["value", "low", "high", "is_one", "is_rising"] (defScope s_first_wrong) := ⟨rfl, rfl, rfl, by decide +kernel, rfl, by decide +kernel, by decide +kernel⟩
abbrev s_wrong_in_places : Stmt := top 15
abbrev N_wrong_in_places : List Str := ["value"]
theorem sc_wrong_in_places : FnScope N_wrong_in_places ["value"] (defScope s_wrong_in_places) := ⟨rfl, rfl, rfl, by decide +kernel, rfl, by decide +kernel, by decide +kernel⟩
abbrev s_check_places : Stmt := top 20
abbrev N_check_places : List Str := ["value", "index"]
theorem sc_check_places : FnScope N_check_places ["value"] (defScope s_check_places) := ⟨rfl, rfl, rfl, by decide +kernel, rfl, by decide +kernel, by decide +kernel⟩
abbrev s_check_label : Stmt := top 23
abbrev N_check_label : List Str := ["places", "index", "page"]
theorem sc_check_label : FnScope N_check_label ["places", "index", "page"] (defScope s_check_label) := ⟨rfl, rfl, rfl, by decide +kernel, rfl, by decide +kernel, by decide +kernel⟩
abbrev s_strip : Stmt := top 24
abbrev N_strip : List Str := ["places", "index", "page"]
theorem sc_strip : FnScope N_strip ["places", "index", "page"] (defScope s_strip) := ⟨rfl, rfl, rfl, by decide +kernel, rfl, by decide +kernel, by decide +kernel⟩
abbrev s_do_clash : Stmt := top 25
abbrev N_do_clash : List Str := ["places", "index", "page", "second_index", "second_page"]
theorem sc_do_clash : FnScope N_do_clash ["places", "index", "page", "second_index", "second_page"] (defScope s_do_clash) := ⟨rfl, rfl, rfl, by decide +kernel, rfl, by decide +kernel, by decide +kernel⟩
abbrev s__law_right : Stmt := top 34
abbrev N__law_right : List Str := ["pool", "lap", "places", "at", "place", "page", "told", "turn", "i", "j", "one", "two", "first", "second", "other", "due", "far", "cell"]
theorem sc__law_right : FnScope N__law_right ["pool"] (defScope s__law_right) := ⟨rfl, rfl, rfl, by decide +kernel, rfl, by decide +kernel, by decide +kernel⟩
abbrev s_law : Stmt := top 35
abbrev N_law : List Str := ["script", "lap"]
theorem sc_law : FnScope N_law ["script"] (defScope s_law) := ⟨rfl, rfl, rfl, by decide +kernel, rfl, by decide +kernel, by decide +kernel⟩
structure C (K : PySem.W.Frag) (mg : Str → Option Value) : Prop where
  d_is_whole : Def K mg "is_whole" s_is_whole
  d_is_tuple_of : Def K mg "is_tuple_of" s_is_tuple_of
  d_strip_by : Def K mg "strip_by" s_strip_by
  d_do_overlap : Def K mg "do_overlap" s_do_overlap
  d__law_pool : Def K mg "_law_pool" s__law_pool
  d__law_below : Def K mg "_law_below" s__law_below
  d__law_strip : Def K mg "_law_strip" s__law_strip
  d__law_do_clash : Def K mg "_law_do_clash" s__law_do_clash
  d__law_same : Def K mg "_law_same" s__law_same
  d__law_cells : Def K mg "_law_cells" s__law_cells
  d_is_between : Def K mg "is_between" s_is_between
  d_do_clash_by : Def K mg "do_clash_by" s_do_clash_by
  d__law_places : Def K mg "_law_places" s__law_places
  d_are_between : Def K mg "are_between" s_are_between
  d_check_place_index : Def K mg "check_place_index" s_check_place_index
  d_check_page : Def K mg "check_page" s_check_page
  d_is_place : Def K mg "is_place" s_is_place
  d_first_wrong : Def K mg "first_wrong" s_first_wrong
  d_wrong_in_places : Def K mg "wrong_in_places" s_wrong_in_places
  d_check_places : Def K mg "check_places" s_check_places
  d_check_label : Def K mg "check_label" s_check_label
  d_strip : Def K mg "strip" s_strip
  d_do_clash : Def K mg "do_clash" s_do_clash
  d__law_right : Def K mg "_law_right" s__law_right
  d_law : Def K mg "law" s_law
  n_abs : mg "abs" = none
  n_all : mg "all" = none
  n_any : mg "any" = none
  n_bool : mg "bool" = none
  n_divmod : mg "divmod" = none
  n_enumerate : mg "enumerate" = none
  n_int : mg "int" = none
  n_isinstance : mg "isinstance" = none
  n_len : mg "len" = none
  n_max : mg "max" = none
  n_min : mg "min" = none
  n_range : mg "range" = none
  n_str : mg "str" = none
  n_tuple : mg "tuple" = none
  n_zip : mg "zip" = none
  m_MOST_NUMBER : ∃ t, mg "MOST_NUMBER" = some (.int 999 t)
  m_MOST_PLACES : ∃ t, mg "MOST_PLACES" = some (.int 14 t)
  m_SIZE : ∃ t, mg "SIZE" = some (.int 4 t)
def isWholeD : D → Bool
  | .int _ => true
  | _ => false
def isBetw (v : D) (lo hi : Int) : Bool := match v with
  | .int i => decide (lo ≤ i) && decide (i ≤ hi)
  | _ => false
def isTupN (v : D) (n : Int) : Bool := match v with
  | .tup l => decide ((l.length : Int) = n)
  | _ => false
/-- a place: across, low, wide, tall -/
structure Pl where
  a : Int
  b : Int
  w : Int
  t : Int
def Pl.d (p : Pl) : D := .tup [.int p.a, .int p.b, .int p.w, .int p.t]
def Pl.Ok (p : Pl) : Prop := (0 ≤ p.a ∧ p.a ≤ 999) ∧ (0 ≤ p.b ∧ p.b ≤ 999) ∧ (0 < p.w ∧ p.w ≤ 999) ∧ (0 < p.t ∧ p.t ≤ 999) ∧ p.w ≤ p.a
/-- a strip: left, low, right, high -/
structure Rc where
  l : Int
  b : Int
  r : Int
  h : Int
def Rc.d (s : Rc) : D := .tup [.int s.l, .int s.b, .int s.r, .int s.h]
def stripOf (p : Pl) (g : Int) : Rc := ⟨if g = 1 then p.a else p.a - p.w, p.b, (if g = 1 then p.a else p.a - p.w) + p.w, p.b + p.t⟩
def lap2 (s o : Rc) : Bool := !(decide (s.r ≤ o.l) || decide (o.r ≤ s.l)) && (decide (s.b < o.h) && decide (o.b < s.h))
def plsD (ps : List Pl) : D := .tup (ps.map Pl.d)
def PlsOk (ps : List Pl) : Prop := 1 ≤ ps.length ∧ ps.length ≤ 14 ∧ ∀ p ∈ ps, p.Ok
section
variable {P : Program} {w : World} {K : PySem.W.Frag} {mg : Str → Option Value} {base : Heap}
def p_is_whole : PSp := fun _ as μ Q => match as with
  | [.d v] => (tyD v).isSome = true ∧ Q (.d (.bl (isWholeD v))) μ
  | _ => False
theorem h_is_whole  (c : C K mg) : Has P w K mg base 1 "is_whole" ["value"] (p_is_whole) := by
  refine has_p (k := 0) c.d_is_whole sc_is_whole (fun _ _ _ _ _ _ us hl => match us, hl with | [_], _ => rfl) ?_ (fun f cdv A outer s H E hr => (pxs_one (psx_ret (px_and (px_isiK .int rfl c.n_isinstance rfl c.n_int (by decide +kernel) (px_name 0)) (px_one (px_not (px_isiK .bool rfl c.n_isinstance rfl c.n_bool (by decide +kernel) (px_name 0)))))))) ?_
  · intro x as μ Q h
    unfold p_is_whole at h
    split at h
    · rfl
    · exact h.elim
  · intro x as μ Q h
    unfold p_is_whole at h
    split at h
    · rename_i v
      obtain ⟨h1, h2⟩ := h
      cases v <;> first | exact h2 | cases h1
    · exact h.elim
def p_is_tuple_of : PSp := fun _ as μ Q => match as with
  | [.d v, .d (.int n)] => (tyD v).isSome = true ∧ Q (.d (.bl (isTupN v n))) μ
  | _ => False
theorem h_is_tuple_of  (c : C K mg) : Has P w K mg base 1 "is_tuple_of" ["value", "many"] (p_is_tuple_of) := by
  refine has_p (k := 0) c.d_is_tuple_of sc_is_tuple_of (fun _ _ _ _ _ _ us hl => match us, hl with | [_, _], _ => rfl) ?_ (fun f cdv A outer s H E hr => (pxs_one (psx_ret (px_and (px_isiK .tuple rfl c.n_isinstance rfl c.n_tuple (by decide +kernel) (px_name 0)) (px_one (px_eqU (hu_of hr) (px_len rfl c.n_len (pxa_cons (px_name 0) pxa_nil)) (px_name 1))))))) ?_
  · intro x as μ Q h
    unfold p_is_tuple_of at h
    split at h
    · rfl
    · exact h.elim
  · intro x as μ Q h
    unfold p_is_tuple_of at h
    split at h
    · rename_i v n
      obtain ⟨h1, h2⟩ := h
      cases v <;> first | exact h2 | cases h1
    · exact h.elim
def p_strip_by : PSp := fun _ as μ Q => match as with
  | [.d v, .d (.int g)] => ∃ p : Pl, v = p.d ∧ Q (.d (stripOf p g).d) μ
  | _ => False
theorem h_strip_by  (c : C K mg) : Has P w K mg base 1 "strip_by" ["place", "page"] (p_strip_by) := by
  refine has_p (k := 0) c.d_strip_by sc_strip_by (fun _ _ _ _ _ _ us hl => match us, hl with | [_, _], _ => rfl) ?_ (fun f cdv A outer s H E hr => (pxs_cons (psx_asg (px_name 0) (pxg_tup (own := [2, 3, 4, 5]) (n := 4) rfl (pxgs_cons (pxg_name (own := [2, 3, 4, 5]) (by decide) sc_strip_by.nd (i := 2) rfl (by first | exact Or.inl rfl | exact Or.inr rfl)) (pxgs_cons (pxg_name (own := [2, 3, 4, 5]) (by decide) sc_strip_by.nd (i := 3) rfl (by first | exact Or.inl rfl | exact Or.inr rfl)) (pxgs_cons (pxg_name (own := [2, 3, 4, 5]) (by decide) sc_strip_by.nd (i := 4) rfl (by first | exact Or.inl rfl | exact Or.inr rfl)) (pxgs_cons (pxg_name (own := [2, 3, 4, 5]) (by decide) sc_strip_by.nd (i := 5) rfl (by first | exact Or.inl rfl | exact Or.inr rfl)) pxgs_nil))))))
  (pxs_cons (psx_set (i := 6) sc_strip_by.nd rfl (by first | exact Or.inl rfl | exact Or.inr rfl) (px_if (pxt_eqU (hu_of hr) (px_name 1) px_int) (px_name 2) (px_subU (px_name 2) (px_name 4))))
  (pxs_one (psx_ret (px_tup (pxa_cons (px_name 6) (pxa_cons (px_name 3) (pxa_cons (px_addU (px_name 6) (px_name 4)) (pxa_cons (px_addU (px_name 3) (px_name 5)) pxa_nil)))))))))) ?_
  · intro x as μ Q h
    unfold p_strip_by at h
    split at h
    · rfl
    · exact h.elim
  · intro x as μ Q h
    unfold p_strip_by at h
    split at h
    · rename_i g
      obtain ⟨p, rfl, h2⟩ := h
      simp only [stripOf, Rc.d] at h2
      refine ⟨rfl, ?_⟩
      (conv => whnf); try dsimp only [List.set_cons_zero, List.set_cons_succ]
      by_cases e : g = 1
      · simp only [e, if_true] at h2
        split
        · exact ⟨sz 4, h2⟩
        · rename_i q; simp [e] at q
      · simp only [e, if_false] at h2
        split
        · rename_i q; simp [e] at q
        · exact ⟨sz 4, h2⟩
    · exact h.elim
def p_do_overlap : PSp := fun _ as μ Q => match as with
  | [.d u, .d v] => ∃ s o : Rc, u = s.d ∧ v = o.d ∧ Q (.d (.bl (lap2 s o))) μ
  | _ => False
theorem h_do_overlap  (c : C K mg) : Has P w K mg base 1 "do_overlap" ["strip", "other"] (p_do_overlap) := by
  refine has_p (k := 0) c.d_do_overlap sc_do_overlap (fun _ _ _ _ _ _ us hl => match us, hl with | [_, _], _ => rfl) ?_ (fun f cdv A outer s H E hr => (pxs_cons (psx_if (PXW.pt (pxw_or (pxt_leU (hu_of hr) (px_ix (px_name 0) px_int) (px_ix (px_name 1) px_int)) (pxw_or1 (pxt_leU (hu_of hr) (px_ix (px_name 1) px_int) (px_ix (px_name 0) px_int))))) (pxs_one (psx_ret px_bl)) pss_nil')
  (pxs_one (psx_ret (px_and (px_ltU (hu_of hr) (px_ix (px_name 0) px_int) (px_ix (px_name 1) px_int)) (px_one (px_ltU (hu_of hr) (px_ix (px_name 1) px_int) (px_ix (px_name 0) px_int)))))))) ?_
  · intro x as μ Q h
    unfold p_do_overlap at h
    split at h
    · rfl
    · exact h.elim
  · intro x as μ Q h
    unfold p_do_overlap at h
    split at h
    · obtain ⟨s, o, rfl, rfl, h2⟩ := h
      simp only [lap2] at h2
      (conv => whnf); try dsimp only [List.set_cons_zero, List.set_cons_succ]
      by_cases e1 : s.r ≤ o.l
      · rw [decide_eq_true e1] at h2 ⊢
        exact h2
      · rw [decide_eq_false e1] at h2 ⊢
        (conv => whnf); try dsimp only [List.set_cons_zero, List.set_cons_succ]
        by_cases e2 : o.r ≤ s.l
        · rw [decide_eq_true e2] at h2 ⊢
          exact h2
        · rw [decide_eq_false e2] at h2 ⊢
          (conv => whnf); try dsimp only [List.set_cons_zero, List.set_cons_succ]
          by_cases e3 : s.b < o.h
          · rw [decide_eq_true e3] at h2 ⊢
            exact h2
          · rw [decide_eq_false e3] at h2 ⊢
            exact h2
    · exact h.elim
def p__law_pool : PSp := fun _ as μ Q => match as, μ with
  | [.d (.scr l), .d (.int lap)], [] => (∃ n : Nat, lap = n) ∧ ∀ a b : Int, Q (.c 0) [.lst [.int a, .int b, .int 0]]
  | _, _ => False
theorem h__law_pool  (c : C K mg) : Has P w K mg base 1 "_law_pool" ["script", "lap"] (p__law_pool) := by
  refine has_p (k := 0) c.d__law_pool sc__law_pool (fun _ _ _ _ _ _ us hl => match us, hl with | [_, _], _ => rfl) ?_ (fun f cdv A outer s H E hr => (pxs_cons (psx_set (i := 2) sc__law_pool.nd rfl (by first | exact Or.inl rfl | exact Or.inr rfl) (px_if (pxt_ltU (hu_of hr) (px_name 1) (px_len rfl c.n_len (pxa_cons (px_name 0) pxa_nil))) (px_intc rfl c.n_int (pxa_cons (px_ix (px_name 0) (px_name 1)) pxa_nil)) (px_addU (px_mulU px_int (px_name 1)) px_int)))
  (pxs_cons (psx_set (i := 3) sc__law_pool.nd rfl (by first | exact Or.inl rfl | exact Or.inr rfl) (px_addU px_int (px_mulU px_int (px_name 1))))
  (pxs_cons (psx_for hp_of rfl (pxi_U (px_slU (px_name 0) pxo_none (pxo_some px_int))) (pxg_name (own := [4]) (by decide) sc__law_pool.nd (i := 4) rfl (by first | exact Or.inl rfl | exact Or.inr rfl)) (pxs_one (psx_set (i := 3) sc__law_pool.nd rfl (by first | exact Or.inl rfl | exact Or.inr rfl) (px_modU (px_intc rfl c.n_int (pxa_cons (px_addU (px_addU (px_mulU (px_name 3) px_int) (px_modU (px_intc rfl c.n_int (pxa_cons (px_name 4) pxa_nil)) px_int)) px_int) pxa_nil)) px_int))))
  (pxs_cons (psx_set (i := 3) sc__law_pool.nd rfl (by first | exact Or.inl rfl | exact Or.inr rfl) (px_modU (px_intc rfl c.n_int (pxa_cons (px_addU (px_addU (px_mulU (px_name 3) px_int) (px_mulU (px_modU (px_intc rfl c.n_int (pxa_cons (px_name 2) pxa_nil)) px_int) px_int)) px_int) pxa_nil)) px_int))
  (pxs_one (psx_ret (px_lstC (pxa_cons (px_if (PXW.pt (pxw_or (pxt_ltU (hu_of hr) (px_name 2) px_int) (pxw_or1 (pxt_geU (hu_of hr) (px_name 2) (px_powI px_int px_int))))) (px_modU (px_intc rfl c.n_int (pxa_cons (px_abs rfl c.n_abs (pxa_cons (px_name 2) pxa_nil)) pxa_nil)) (px_powI px_int px_int)) px_int) (pxa_cons (px_name 3) (pxa_cons px_int pxa_nil))))))))))) ?_
  · intro x as μ Q h
    unfold p__law_pool at h
    split at h
    · rfl
    · exact h.elim
  · intro x as μ Q h
    unfold p__law_pool at h
    split at h
    · rename_i l lap
      obtain ⟨⟨n, rfl⟩, h2⟩ := h
      (conv => whnf); try dsimp only [List.set_cons_zero, List.set_cons_succ]
      by_cases hn : n < l.length
      · rw [decide_eq_true (show (n : Int) < l.length by omega)]
        (conv => whnf); try dsimp only [List.set_cons_zero, List.set_cons_succ]
        rw [ixOf_scr hn]
        refine ⟨.inl (by decide), fun i ρ μ' => μ' = [] ∧ ∃ c s e, ρ = [.d (.scr l), .d (.int n), .d (.int c), .d (.int s), e], ⟨rfl, _, _, _, rfl⟩, ?_, ?_⟩
        · rintro i d ρ μ' hd ⟨rfl, c, s, e, rfl⟩
          obtain ⟨z, _, rfl⟩ := List.mem_map.mp (cutD_mem (List.mem_of_getElem? hd))
          exact ⟨.inr (by decide), by decide, by decide, rfl, _, _, _, rfl⟩
        · rintro ρ μ' ⟨rfl, c, s, e, rfl⟩
          refine ⟨.inr (by decide), by decide, .inr (by decide), by decide, ?_⟩
          (conv => whnf); try dsimp only [List.set_cons_zero, List.set_cons_succ]
          by_cases e1 : c < 0
          · rw [decide_eq_true e1]
            exact ⟨⟨by decide, by decide, by decide⟩, by decide, sz 3, h2 _ _⟩
          · rw [decide_eq_false e1]
            refine ⟨⟨by decide, by decide, by decide⟩, ?_⟩
            (conv => whnf); try dsimp only [List.set_cons_zero, List.set_cons_succ]
            by_cases e2 : (10 : Int) ^ (15 : Int).toNat ≤ c
            · rw [decide_eq_true e2]
              exact ⟨⟨by decide, by decide, by decide⟩, by decide, sz 3, h2 _ _⟩
            · rw [decide_eq_false e2]
              exact ⟨sz 3, h2 _ _⟩
      · rw [decide_eq_false (show ¬ (n : Int) < l.length by omega)]
        refine ⟨.inl (by decide), ?_⟩
        refine ⟨.inl (by decide), fun i ρ μ' => μ' = [] ∧ ∃ c s e, ρ = [.d (.scr l), .d (.int n), .d (.int c), .d (.int s), e], ⟨rfl, _, _, _, rfl⟩, ?_, ?_⟩
        · rintro i d ρ μ' hd ⟨rfl, c, s, e, rfl⟩
          obtain ⟨z, _, rfl⟩ := List.mem_map.mp (cutD_mem (List.mem_of_getElem? hd))
          exact ⟨.inr (by decide), by decide, by decide, rfl, _, _, _, rfl⟩
        · rintro ρ μ' ⟨rfl, c, s, e, rfl⟩
          refine ⟨.inr (by decide), by decide, .inr (by decide), by decide, ?_⟩
          (conv => whnf); try dsimp only [List.set_cons_zero, List.set_cons_succ]
          by_cases e1 : c < 0
          · rw [decide_eq_true e1]
            exact ⟨⟨by decide, by decide, by decide⟩, by decide, sz 3, h2 _ _⟩
          · rw [decide_eq_false e1]
            refine ⟨⟨by decide, by decide, by decide⟩, ?_⟩
            (conv => whnf); try dsimp only [List.set_cons_zero, List.set_cons_succ]
            by_cases e2 : (10 : Int) ^ (15 : Int).toNat ≤ c
            · rw [decide_eq_true e2]
              exact ⟨⟨by decide, by decide, by decide⟩, by decide, sz 3, h2 _ _⟩
            · rw [decide_eq_false e2]
              exact ⟨sz 3, h2 _ _⟩
    · exact h.elim
def p__law_below : PSp := fun _ as μ Q => match as, μ with
  | [.c 0, .d (.int n)], [.lst [.int a, .int b, .int c]] => (0 < n ∧ n < 1073741824) ∧ ∀ r a' b' c' : Int, 0 ≤ r → r < n → Q (.d (.int r)) [.lst [.int a', .int b', .int c']]
  | _, _ => False
theorem h__law_below  (c : C K mg) : Has P w K mg base 1 "_law_below" ["pool", "many"] (p__law_below) := by
  refine has_p (k := 0) c.d__law_below sc__law_below (fun _ _ _ _ _ _ us hl => match us, hl with | [_, _], _ => rfl) ?_ (fun f cdv A outer s H E hr => (pxs_cons (psx_if (pxt_gtU (hu_of hr) (px_ix (px_name 0) px_int) px_int) (pxs_cons (psx_asg (px_divmod rfl c.n_divmod (pxa_cons (px_ix (px_name 0) px_int) (pxa_cons (px_name 1) pxa_nil))) (pxg_tup (own := [2]) (n := 2) rfl (pxgs_cons (pxg_sub (own := [2]) (px_name 0) px_int) (pxgs_cons (pxg_name (own := [2]) (by decide) sc__law_below.nd (i := 2) rfl (by first | exact Or.inl rfl | exact Or.inr rfl)) pxgs_nil))))
  (pxs_one (psx_ret (px_name 2)))) pss_nil')
  (pxs_cons (psx_asg (px_addU (px_ix (px_name 0) px_int) px_int) (pxg_sub (own := []) (px_name 0) px_int))
  (pxs_cons (psx_set (i := 3) sc__law_below.nd rfl (by first | exact Or.inl rfl | exact Or.inr rfl) (px_modU (px_intc rfl c.n_int (pxa_cons (px_addU (px_addU (px_mulU (px_ix (px_name 0) px_int) px_int) (px_mulU px_int (px_ix (px_name 0) px_int))) px_int) pxa_nil)) px_int))
  (pxs_cons (psx_asg (px_modU (px_intc rfl c.n_int (pxa_cons (px_addU (px_mulU (px_name 3) (px_addU (px_modU (px_intc rfl c.n_int (pxa_cons (px_name 3) pxa_nil)) px_int) px_int)) (px_ix (px_name 0) px_int)) pxa_nil)) px_int) (pxg_sub (own := []) (px_name 0) px_int))
  (pxs_one (psx_ret (px_modU (px_intc rfl c.n_int (pxa_cons (px_divI (px_ix (px_name 0) px_int) px_int) pxa_nil)) (px_name 1))))))))) ?_
  · intro x as μ Q h
    unfold p__law_below at h
    split at h
    · rfl
    · exact h.elim
  · intro x as μ Q h
    unfold p__law_below at h
    split at h
    · rename_i n a b c
      obtain ⟨⟨h1, h2⟩, h3⟩ := h
      (conv => whnf); try dsimp only [List.set_cons_zero, List.set_cons_succ]
      by_cases e : 0 < a
      · rw [decide_eq_true e]
        refine ⟨⟨h1, h2⟩, rfl, ?_⟩
        (conv => whnf); try dsimp only [List.set_cons_zero, List.set_cons_succ]
        exact h3 (a % n) (a / n) b c (Int.emod_nonneg _ (by omega)) (Int.emod_lt_of_pos _ h1)
      · rw [decide_eq_false e]
        refine ⟨.inr (by decide), .inl (by decide), by decide, by decide, .inr ⟨by omega, by omega⟩, by decide, ⟨by decide, by decide⟩, h1, ?_⟩
        (conv => whnf); try dsimp only [List.set_cons_zero, List.set_cons_succ]
        exact h3 _ _ _ _ (Int.emod_nonneg _ (by omega)) (Int.emod_lt_of_pos _ h1)
    · exact h.elim
def p__law_strip : PSp := fun _ as μ Q => match as with
  | [.d v, .d (.int g)] => ∃ p : Pl, v = p.d ∧ Q (.d (stripOf p g).d) μ
  | _ => False
theorem h__law_strip  (c : C K mg) : Has P w K mg base 1 "_law_strip" ["place", "page"] (p__law_strip) := by
  refine has_p (k := 0) c.d__law_strip sc__law_strip (fun _ _ _ _ _ _ us hl => match us, hl with | [_, _], _ => rfl) ?_ (fun f cdv A outer s H E hr => (pxs_cons (psx_asg (px_name 0) (pxg_tup (own := [2, 3, 4, 5]) (n := 4) rfl (pxgs_cons (pxg_name (own := [2, 3, 4, 5]) (by decide) sc__law_strip.nd (i := 2) rfl (by first | exact Or.inl rfl | exact Or.inr rfl)) (pxgs_cons (pxg_name (own := [2, 3, 4, 5]) (by decide) sc__law_strip.nd (i := 3) rfl (by first | exact Or.inl rfl | exact Or.inr rfl)) (pxgs_cons (pxg_name (own := [2, 3, 4, 5]) (by decide) sc__law_strip.nd (i := 4) rfl (by first | exact Or.inl rfl | exact Or.inr rfl)) (pxgs_cons (pxg_name (own := [2, 3, 4, 5]) (by decide) sc__law_strip.nd (i := 5) rfl (by first | exact Or.inl rfl | exact Or.inr rfl)) pxgs_nil))))))
  (pxs_one (psx_ret (px_if (pxt_eqU (hu_of hr) (px_name 1) px_int) (px_tup (pxa_cons (px_name 2) (pxa_cons (px_name 3) (pxa_cons (px_addU (px_name 2) (px_name 4)) (pxa_cons (px_addU (px_name 3) (px_name 5)) pxa_nil))))) (px_tup (pxa_cons (px_subU (px_name 2) (px_name 4)) (pxa_cons (px_name 3) (pxa_cons (px_name 2) (pxa_cons (px_addU (px_name 3) (px_name 5)) pxa_nil)))))))))) ?_
  · intro x as μ Q h
    unfold p__law_strip at h
    split at h
    · rfl
    · exact h.elim
  · intro x as μ Q h
    unfold p__law_strip at h
    split at h
    · rename_i g
      obtain ⟨p, rfl, h2⟩ := h
      simp only [stripOf, Rc.d] at h2
      refine ⟨rfl, ?_⟩
      (conv => whnf); try dsimp only [List.set_cons_zero, List.set_cons_succ]
      by_cases e : g = 1
      · simp only [e, if_true] at h2
        split
        · exact ⟨sz 4, h2⟩
        · rename_i q; simp [e] at q
      · simp only [e, if_false, Int.sub_add_cancel] at h2
        split
        · rename_i q; simp [e] at q
        · exact ⟨sz 4, h2⟩
    · exact h.elim
theorem lap2_eq (s o : Rc) : lap2 s o = (decide (s.l < o.r) && (decide (o.l < s.r) && (decide (s.b < o.h) && decide (o.b < s.h)))) := by
  unfold lap2
  by_cases e1 : s.r ≤ o.l
  · have : ¬ o.l < s.r := by omega
    simp [e1, this]
  · have : o.l < s.r := by omega
    by_cases e2 : o.r ≤ s.l
    · have : ¬ s.l < o.r := by omega
      simp [e2, this]
    · have h2 : s.l < o.r := by omega
      simp [e1, e2, this, h2]
def p__law_do_clash : PSp := fun _ as μ Q => match as with
  | [.d u, .d v] => ∃ s o : Rc, u = s.d ∧ v = o.d ∧ Q (.d (.bl (lap2 s o))) μ
  | _ => False
theorem h__law_do_clash  (c : C K mg) : Has P w K mg base 1 "_law_do_clash" ["one", "two"] (p__law_do_clash) := by
  refine has_p (k := 0) c.d__law_do_clash sc__law_do_clash (fun _ _ _ _ _ _ us hl => match us, hl with | [_, _], _ => rfl) ?_ (fun f cdv A outer s H E hr => (pxs_one (psx_ret (px_and (px_ltU (hu_of hr) (px_ix (px_name 0) px_int) (px_ix (px_name 1) px_int)) (px_and (px_ltU (hu_of hr) (px_ix (px_name 1) px_int) (px_ix (px_name 0) px_int)) (px_and (px_ltU (hu_of hr) (px_ix (px_name 0) px_int) (px_ix (px_name 1) px_int)) (px_one (px_ltU (hu_of hr) (px_ix (px_name 1) px_int) (px_ix (px_name 0) px_int))))))))) ?_
  · intro x as μ Q h
    unfold p__law_do_clash at h
    split at h
    · rfl
    · exact h.elim
  · intro x as μ Q h
    unfold p__law_do_clash at h
    split at h
    · obtain ⟨s, o, rfl, rfl, h2⟩ := h
      rw [lap2_eq] at h2
      (conv => whnf); try dsimp only [List.set_cons_zero, List.set_cons_succ]
      by_cases e1 : s.l < o.r
      · rw [decide_eq_true e1] at h2 ⊢
        (conv => whnf); try dsimp only [List.set_cons_zero, List.set_cons_succ]
        by_cases e2 : o.l < s.r
        · rw [decide_eq_true e2] at h2 ⊢
          (conv => whnf); try dsimp only [List.set_cons_zero, List.set_cons_succ]
          by_cases e3 : s.b < o.h
          · rw [decide_eq_true e3] at h2 ⊢
            exact h2
          · rw [decide_eq_false e3] at h2 ⊢
            exact h2
        · rw [decide_eq_false e2] at h2 ⊢
          exact h2
      · rw [decide_eq_false e1] at h2 ⊢
        exact h2
    · exact h.elim
def sameOk : Nat → D → Bool
  | 0, _ => false
  | _ + 1, .non => true
  | _ + 1, .bl _ => true
  | _ + 1, .int _ => true
  | _ + 1, .str s => PyData.strOk s
  | n + 1, .tup l => decide (l.length ≤ 100) && l.all (sameOk n)
  | _ + 1, _ => false
def p__law_same (n : Nat) : PSp := fun _ as μ Q => match as with
  | [.d a, .d b] => (a = b ∧ sameOk n a = true) ∧ Q (.d (.bl true)) μ
  | _ => False
theorem h__law_same (c : C K mg) : ∀ n : Nat, Has P w K mg base (1 + n) "_law_same" ["told", "due"] (p__law_same n)
 | 0 => (Has.never (ps := ["told", "due"]) (st := s__law_same) c.d__law_same (fun _ _ _ _ _ _ us hl => match us, hl with | [_, _], _ => rfl)).imp (fun x as μ Q h => by
    unfold p__law_same at h
    split at h
    · exact absurd h.1.2 (by simp [sameOk])
    · exact h)
 | n + 1 => by
  have ih := h__law_same c n
  refine has_p (k := 1 + n) c.d__law_same sc__law_same (fun _ _ _ _ _ _ us hl => match us, hl with | [_, _], _ => rfl) ?_ (fun f cdv A outer s H E hr => (pxs_cons (psx_if (pxt_isN (px_name 1)) (pxs_one (psx_ret (px_isN (px_name 0)))) pss_nil')
  (pxs_cons (psx_if (pxt_val (px_isiK .bool rfl c.n_isinstance rfl c.n_bool (by decide +kernel) (px_name 1))) (pxs_one (psx_ret (px_and (px_isiK .bool rfl c.n_isinstance rfl c.n_bool (by decide +kernel) (px_name 0)) (px_one (px_eqU (hu_of hr) (px_name 0) (px_name 1)))))) pss_nil')
  (pxs_cons (psx_if (pxt_val (px_isiK .int rfl c.n_isinstance rfl c.n_int (by decide +kernel) (px_name 1))) (pxs_one (psx_ret (px_and (px_isiK .int rfl c.n_isinstance rfl c.n_int (by decide +kernel) (px_name 0)) (px_and (px_not (px_isiK .bool rfl c.n_isinstance rfl c.n_bool (by decide +kernel) (px_name 0))) (px_one (px_eqU (hu_of hr) (px_name 0) (px_name 1))))))) pss_nil')
  (pxs_cons (psx_if (pxt_val (px_isiK .str rfl c.n_isinstance rfl c.n_str (by decide +kernel) (px_name 1))) (pxs_one (psx_ret (px_and (px_isiK .str rfl c.n_isinstance rfl c.n_str (by decide +kernel) (px_name 0)) (px_one (px_eqU (hu_of hr) (px_name 0) (px_name 1)))))) pss_nil')
  (pxs_cons (psx_if (PXW.pt (pxw_or (pxt_not (pxt_val (px_isiK .tuple rfl c.n_isinstance rfl c.n_tuple (by decide +kernel) (px_name 0)))) (pxw_or1 (pxt_neU (hu_of hr) (px_len rfl c.n_len (pxa_cons (px_name 0) pxa_nil)) (px_len rfl c.n_len (pxa_cons (px_name 1) pxa_nil)))))) (pxs_one (psx_ret px_bl)) pss_nil')
  (pxs_one (psx_ret (px_all rfl rfl c.n_all (pxa_cons (px_lc (own := [("x", 2), ("y", 3)]) rfl sc__law_same.nd (pxi_zipU rfl c.n_zip (pxa_cons (px_name 0) (pxa_cons (px_name 1) pxa_nil))) (by exact (show BlkOk N__law_same (defScope s__law_same) _ _ from ⟨rfl, by decide +kernel, by decide +kernel, by decide +kernel, by decide +kernel⟩)) (fun _ _ _ _ _ => (pxg_tup (own := [2, 3]) (n := 2) rfl (pxgs_cons (pxg_name (own := [2, 3]) (by decide) sc__law_same.nd (i := 2) rfl (by first | exact Or.inl rfl | exact Or.inr rfl)) (pxgs_cons (pxg_name (own := [2, 3]) (by decide) sc__law_same.nd (i := 3) rfl (by first | exact Or.inl rfl | exact Or.inr rfl)) pxgs_nil)))) (fun _ _ _ _ _ => pxts_nil) (fun _ _ _ _ _ => (px_callH (ih) takes0 hr (by omega) rfl (pxa_cons (px_name 2) (pxa_cons (px_name 3) pxa_nil))))) pxa_nil)))))))))) ?_
  · intro x as μ Q h
    unfold p__law_same at h
    split at h
    · rfl
    · exact h.elim
  · intro x as μ Q h
    unfold p__law_same at h
    split at h
    · obtain ⟨⟨rfl, h1⟩, h2⟩ := h
      rename_i a
      cases a <;> simp only [sameOk, Bool.and_eq_true, decide_eq_true_eq, Bool.false_eq_true] at h1
      case non => exact h2
      case bl b =>
        (conv => whnf); try dsimp only [List.set_cons_zero, List.set_cons_succ]
        rw [show (b == b) = true from beq_self_eq_true b]; exact h2
      case int i =>
        (conv => whnf); try dsimp only [List.set_cons_zero, List.set_cons_succ]
        rw [decide_eq_true (show i = i from rfl)]; exact h2
      case str z =>
        refine ⟨⟨by rw [okEq_str]; exact h1, by rw [okEq_str]; exact h1⟩, ?_⟩
        rw [deq_str, decide_eq_true (show z = z from rfl)]; exact h2
      case tup l =>
        obtain ⟨l1, l2⟩ := h1
        (conv => whnf); try dsimp only [List.set_cons_zero, List.set_cons_succ]
        rw [decide_eq_true (show (l.length : Int) = l.length from rfl)]
        refine ⟨by rw [zipD_length, sizeLine_eq]; omega, fun i acc μ' => μ' = μ ∧ acc = ((zipD l l).take i).map fun _ => .bl true, ⟨rfl, by simp⟩, ?_, ?_⟩
        · rintro i d acc μ' hd ⟨rfl, rfl⟩
          obtain ⟨u, v, hu, hv, rfl⟩ := zipD_at' hd
          rw [hu] at hv
          cases hv
          refine ⟨rfl, ⟨rfl, List.all_eq_true.mp l2 u (List.mem_of_getElem? hu)⟩, rfl, ?_⟩
          exact take_map_succ (fun _ => D.bl true) hd
        · rintro acc μ' ⟨rfl, rfl⟩
          rw [List.take_length]
          (conv => whnf); try dsimp only [List.set_cons_zero, List.set_cons_succ]
          rw [show lstOf (.d (.lst ((zipD l l).map fun _ => D.bl true))) μ' = some ((zipD l l).map fun _ => D.bl true) from rfl, Option.bind_some, bools_map]
          have e : ((zipD l l).map fun _ => true).all id = true := by simp
          (conv => whnf); try dsimp only [List.set_cons_zero, List.set_cons_succ]
          rw [e]; exact h2
    · exact h.elim
def Rc.Bd (s : Rc) : Prop := (0 ≤ s.l ∧ s.l ≤ s.r ∧ s.r ≤ 2000) ∧ (0 ≤ s.b ∧ s.b ≤ s.h ∧ s.h ≤ 2000)
def Rc.has (s : Rc) (d : D) : Prop := ∃ x y : Int, (s.l ≤ x ∧ x < s.r) ∧ (s.b ≤ y ∧ y < s.h) ∧ d = .tup [.int x, .int y]
def p__law_cells : PSp := fun _ as μ Q => match as, μ with
  | [.d v], [] => ∃ s : Rc, v = s.d ∧ s.Bd ∧ ∀ ks vs, ks.length = vs.length → ks.length ≤ 10000000 → (∀ d, d ∈ ks ↔ s.has d) → Q (.c 0) [.dT ks vs]
  | _, _ => False
theorem h__law_cells  (c : C K mg) : Has P w K mg base 1 "_law_cells" ["one"] (p__law_cells) := by
  refine has_p (k := 0) c.d__law_cells sc__law_cells (fun _ _ _ _ _ _ us hl => match us, hl with | [_], _ => rfl) ?_ (fun f cdv A outer s H E hr => (pxs_cons (psx_set (i := 1) sc__law_cells.nd rfl (by first | exact Or.inl rfl | exact Or.inr rfl) px_newT)
  (pxs_cons (psx_for hp_of rfl (pxi_range2 rfl c.n_range (pxa_cons (px_ix (px_name 0) px_int) (pxa_cons (px_ix (px_name 0) px_int) pxa_nil))) (pxg_name (own := [2]) (by decide) sc__law_cells.nd (i := 2) rfl (by first | exact Or.inl rfl | exact Or.inr rfl)) (pxs_one (psx_for hp_of rfl (pxi_range2 rfl c.n_range (pxa_cons (px_ix (px_name 0) px_int) (pxa_cons (px_ix (px_name 0) px_int) pxa_nil))) (pxg_name (own := [3]) (by decide) sc__law_cells.nd (i := 3) rfl (by first | exact Or.inl rfl | exact Or.inr rfl)) (pxs_one (psx_dput (hu1_of hr) (px_name 1) (px_tup (pxa_cons (px_name 2) (pxa_cons (px_name 3) pxa_nil))) px_bl)))))
  (pxs_one (psx_ret (px_name 1)))))) ?_
  · intro x as μ Q h
    unfold p__law_cells at h
    split at h
    · rfl
    · exact h.elim
  · intro x as μ Q h
    unfold p__law_cells at h
    split at h
    · obtain ⟨s, rfl, ⟨⟨o1, o2, o3⟩, o4, o5, o6⟩, h3⟩ := h
      refine ⟨⟨by omega, by omega, by omega, by omega⟩, fun i ρ μ' => ∃ (ks vs : List D) (u v : SV), ρ = [.d s.d, .c 0, u, v] ∧ μ' = [.dT ks vs] ∧ ks.length = vs.length ∧ ks.length ≤ i * 2000 ∧ ∀ d, d ∈ ks ↔ (⟨s.l, s.b, s.l + i, s.h⟩ : Rc).has d, ⟨[], [], _, _, rfl, rfl, rfl, by simp, fun d => ⟨fun z => by simp at z, fun ⟨x, y, ⟨q1, q2⟩, _⟩ => by dsimp only at q1 q2; omega⟩⟩, ?_, ?_⟩
      · rintro i d ρ μ' hd ⟨ks, vs, u, v, rfl, rfl, hl, hz, hm⟩
        obtain ⟨hi, rfl⟩ := rngD_at hd
        refine ⟨⟨by omega, by omega, by omega, by omega⟩, fun j ρ μ' => ∃ (ks vs : List D) (v : SV), ρ = [.d s.d, .c 0, .d (.int (s.l + i)), v] ∧ μ' = [.dT ks vs] ∧ ks.length = vs.length ∧ ks.length ≤ i * 2000 + j ∧ ∀ d, d ∈ ks ↔ ((⟨s.l, s.b, s.l + i, s.h⟩ : Rc).has d ∨ ∃ y : Int, (s.b ≤ y ∧ y < s.b + j) ∧ d = .tup [.int (s.l + i), .int y]), ⟨ks, vs, _, rfl, rfl, hl, by omega, fun d => (hm d).trans ⟨.inl, fun z => z.elim id fun ⟨y, ⟨q1, q2⟩, _⟩ => by omega⟩⟩, ?_, ?_⟩
        · rintro j d ρ μ' hd ⟨ks, vs, v, rfl, rfl, hl, hz, hm⟩
          obtain ⟨hj, rfl⟩ := rngD_at hd
          refine ⟨sz 2, ⟨rfl, by rw [sizeLine_eq]; omega⟩, _, _, _, rfl, rfl, put_len hl _ _, Nat.le_trans (putKs_le _ _) (by omega), fun d => ?_⟩
          rw [putKs_mem, hm d]
          constructor
          · rintro ((q | ⟨y, ⟨q1, q2⟩, q3⟩) | rfl)
            · exact .inl q
            · exact .inr ⟨y, ⟨q1, by omega⟩, q3⟩
            · exact .inr ⟨_, ⟨by omega, by omega⟩, rfl⟩
          · rintro (q | ⟨y, ⟨q1, q2⟩, q3⟩)
            · exact .inl (.inl q)
            · by_cases e : y < s.b + j
              · exact .inl (.inr ⟨y, ⟨q1, e⟩, q3⟩)
              · exact .inr (by rw [q3, show y = s.b + j by omega])
        · rintro ρ μ' ⟨ks, vs, v, rfl, rfl, hl, hz, hm⟩
          rw [rngD_length] at hz hm
          refine ⟨ks, vs, _, _, rfl, rfl, hl, by omega, fun d => (hm d).trans ?_⟩
          constructor
          · rintro (⟨x, y, ⟨q1, q2⟩, ⟨q3, q4⟩, q5⟩ | ⟨y, ⟨q1, q2⟩, q3⟩)
            · exact ⟨x, y, ⟨q1, by show x < s.l + ((i + 1 : Nat) : Int); have := (show x < s.l + (i : Int) from q2); omega⟩, ⟨q3, q4⟩, q5⟩
            · exact ⟨_, y, ⟨by show s.l ≤ s.l + (i : Int); omega, by show s.l + (i : Int) < s.l + ((i + 1 : Nat) : Int); omega⟩, ⟨q1, by show y < s.h; omega⟩, q3⟩
          · rintro ⟨x, y, ⟨q1, q2⟩, ⟨q3, q4⟩, q5⟩
            dsimp only at q1 q2 q3 q4
            by_cases e : x < s.l + i
            · exact .inl ⟨x, y, ⟨q1, e⟩, ⟨q3, q4⟩, q5⟩
            · exact .inr ⟨y, ⟨q3, by omega⟩, by rw [q5, show x = s.l + i by omega]⟩
      · rintro ρ μ' ⟨ks, vs, u, v, rfl, rfl, hl, hz, hm⟩
        rw [rngD_length] at hz hm
        refine h3 ks vs hl (by omega) fun d => (hm d).trans ?_
        rw [show s.l + ((s.r - s.l).toNat : Int) = s.r by omega]
    · exact h.elim
def p_is_between : PSp := fun _ as μ Q => match as with
  | [.d v, .d (.int lo), .d (.int hi)] => (tyD v).isSome = true ∧ Q (.d (.bl (isBetw v lo hi))) μ
  | _ => False
theorem h_is_between  (c : C K mg) : Has P w K mg base 2 "is_between" ["value", "low", "high"] (p_is_between) := by
  refine has_p (k := 1) c.d_is_between sc_is_between (fun _ _ _ _ _ _ us hl => match us, hl with | [_, _, _], _ => rfl) ?_ (fun f cdv A outer s H E hr => (pxs_one (psx_ret (px_and (px_callH (h_is_whole c) tk_of hr (by omega) rfl (pxa_cons (px_name 0) pxa_nil)) (px_one (px_leleI (px_name 1) (px_name 0) (px_name 2))))))) ?_
  · intro x as μ Q h
    unfold p_is_between at h
    split at h
    · rfl
    · exact h.elim
  · intro x as μ Q h
    unfold p_is_between at h
    split at h
    · rename_i v lo hi
      obtain ⟨h1, h2⟩ := h
      refine ⟨h1, ?_⟩
      cases v <;> first | exact h2 | skip
      rename_i i
      (conv => whnf); try dsimp only [List.set_cons_zero, List.set_cons_succ]
      simp only [isBetw] at h2
      split
      · rename_i e; rw [e, Bool.true_and] at h2; exact h2
      · rename_i e; rw [e, Bool.false_and] at h2; exact h2
    · exact h.elim
def p_do_clash_by : PSp := fun _ as μ Q => match as with
  | [.d v, .d (.int i), .d (.int g), .d (.int j), .d (.int g2)] => (∃ (ps : List Pl) (p q : Pl) (n m : Nat), v = plsD ps ∧ i = n ∧ j = m ∧ ps[n]? = some p ∧ ps[m]? = some q ∧ Q (.d (.bl (lap2 (stripOf p g) (stripOf q g2)))) μ)
  | _ => False
theorem h_do_clash_by  (c : C K mg) : Has P w K mg base 2 "do_clash_by" ["places", "index", "page", "second_index", "second_page"] (p_do_clash_by) := by
  refine has_p (k := 1) c.d_do_clash_by sc_do_clash_by (fun _ _ _ _ _ _ us hl => match us, hl with | [_, _, _, _, _], _ => rfl) ?_ (fun f cdv A outer s H E hr => (pxs_one (psx_ret (px_callH (h_do_overlap c) tk_of hr (by omega) rfl (pxa_cons (px_callH (h_strip_by c) tk_of hr (by omega) rfl (pxa_cons (px_ix (px_name 0) (px_name 1)) (pxa_cons (px_name 2) pxa_nil))) (pxa_cons (px_callH (h_strip_by c) tk_of hr (by omega) rfl (pxa_cons (px_ix (px_name 0) (px_name 3)) (pxa_cons (px_name 4) pxa_nil))) pxa_nil)))))) ?_
  · intro x as μ Q h
    unfold p_do_clash_by at h
    split at h
    · rfl
    · exact h.elim
  · intro x as μ Q h
    unfold p_do_clash_by at h
    split at h
    · obtain ⟨ps, p, q, n, m, rfl, rfl, rfl, h1, h2, h3⟩ := h
      have g1 : ∀ μ, ixOf (.d (plsD ps)) μ n = some p.d := ixOf_tup (by rw [List.getElem?_map, h1]; rfl)
      have g2 : ∀ μ, ixOf (.d (plsD ps)) μ m = some q.d := ixOf_tup (by rw [List.getElem?_map, h2]; rfl)
      (conv => whnf); try dsimp only [List.set_cons_zero, List.set_cons_succ]
      rw [g1]
      refine ⟨p, rfl, ?_⟩
      (conv => whnf); try dsimp only [List.set_cons_zero, List.set_cons_succ]
      rw [g2]
      exact ⟨q, rfl, _, _, rfl, rfl, h3⟩
    · exact h.elim
def Pl.Sm (p : Pl) : Prop := (0 < p.w ∧ p.w ≤ 6) ∧ (p.w ≤ p.a ∧ p.a ≤ 14) ∧ (0 ≤ p.b ∧ p.b ≤ 5) ∧ (0 < p.t ∧ p.t ≤ 4)
theorem Pl.Sm.ok {p : Pl} (h : p.Sm) : p.Ok := by
  obtain ⟨⟨_, _⟩, ⟨_, _⟩, ⟨_, _⟩, _, _⟩ := h
  refine ⟨⟨?_, ?_⟩, ⟨?_, ?_⟩, ⟨?_, ?_⟩, ⟨?_, ?_⟩, ?_⟩ <;> omega
def p__law_places : PSp := fun _ as μ Q => match as, μ with
  | [.c 0, .d (.int n)], [.lst [.int a, .int b, .int c]] => (0 ≤ n ∧ n ≤ 1000) ∧ ∀ (ps : List Pl) (a' b' c' : Int) (rest : Mem), (ps.length : Int) = n → (∀ p ∈ ps, p.Sm) → Q (.d (plsD ps)) (.lst [.int a', .int b', .int c'] :: rest)
  | _, _ => False
theorem h__law_places  (c : C K mg) : Has P w K mg base 2 "_law_places" ["pool", "many"] (p__law_places) := by
  refine has_p (k := 1) c.d__law_places sc__law_places (fun _ _ _ _ _ _ us hl => match us, hl with | [_, _], _ => rfl) ?_ (fun f cdv A outer s H E hr => (pxs_cons (psx_set (i := 2) sc__law_places.nd rfl (by first | exact Or.inl rfl | exact Or.inr rfl) (px_lstC pxa_nil))
  (pxs_cons (psx_for hp_of rfl (pxi_range1 rfl c.n_range (pxa_cons (px_name 1) pxa_nil)) (pxg_name (own := [3]) (by decide) sc__law_places.nd (i := 3) rfl (by first | exact Or.inl rfl | exact Or.inr rfl)) (pxs_cons (psx_set (i := 4) sc__law_places.nd rfl (by first | exact Or.inl rfl | exact Or.inr rfl) (px_addU px_int (px_callH (h__law_below c) tk_of hr (by omega) rfl (pxa_cons (px_name 0) (pxa_cons px_int pxa_nil)))))
  (pxs_one (psx_expr (px_append (px_name 2) (pxa_cons (px_tup (pxa_cons (px_addU (px_name 4) (px_callH (h__law_below c) tk_of hr (by omega) rfl (pxa_cons (px_name 0) (pxa_cons px_int pxa_nil)))) (pxa_cons (px_callH (h__law_below c) tk_of hr (by omega) rfl (pxa_cons (px_name 0) (pxa_cons px_int pxa_nil))) (pxa_cons (px_name 4) (pxa_cons (px_addU px_int (px_callH (h__law_below c) tk_of hr (by omega) rfl (pxa_cons (px_name 0) (pxa_cons px_int pxa_nil)))) pxa_nil))))) pxa_nil))))))
  (pxs_one (psx_ret (px_tuple rfl c.n_tuple (pxa_cons (px_name 2) pxa_nil))))))) ?_
  · intro x as μ Q h
    unfold p__law_places at h
    split at h
    · rfl
    · exact h.elim
  · intro x as μ Q h
    unfold p__law_places at h
    split at h
    · rename_i n a b c
      obtain ⟨⟨h1, h2⟩, h3⟩ := h
      refine ⟨Nat.zero_le _, ⟨by omega, by omega⟩, fun i ρ μ' => ∃ (ps : List Pl) (s t : SV) (a b c : Int), ρ = [.c 0, .d (.int n), .c 1, s, t] ∧ μ' = [.lst [.int a, .int b, .int c], .lst (ps.map Pl.d)] ∧ ps.length = i ∧ ∀ p ∈ ps, p.Sm, ⟨[], _, _, a, b, c, rfl, rfl, rfl, by simp⟩, ?_, ?_⟩
      · rintro i d ρ μ' hd ⟨ps, s, t, a, b, c, rfl, rfl, hl, hs⟩
        obtain ⟨hi, rfl⟩ := rngD_at hd
        refine ⟨⟨by decide, by decide⟩, fun r1 a1 b1 c1 h11 h12 => ?_⟩
        refine ⟨rfl, ⟨by decide, by decide⟩, fun r2 a2 b2 c2 h21 h22 => ?_⟩
        refine ⟨⟨by decide, by decide⟩, fun r3 a3 b3 c3 h31 h32 => ?_⟩
        refine ⟨⟨by decide, by decide⟩, fun r4 a4 b4 c4 h41 h42 => ?_⟩
        refine ⟨sz 4, by rw [List.length_map, sizeLine_eq]; omega, ps ++ [⟨1 + r1 + r2, r3, 1 + r1, 1 + r4⟩], _, _, a4, b4, c4, rfl, ?_, by simp [hl], ?_⟩
        · rw [List.map_append]; rfl
        · intro p hp
          rcases List.mem_append.mp hp with hp | hp
          · exact hs p hp
          · simp at hp
            subst hp
            refine ⟨⟨?_, ?_⟩, ⟨?_, ?_⟩, ⟨?_, ?_⟩, ?_, ?_⟩ <;> dsimp only <;> omega
      · rintro ρ μ' ⟨ps, s, t, a, b, c, rfl, rfl, hl, hs⟩
        rw [rngD_length] at hl
        exact h3 ps a b c [.lst (ps.map Pl.d)] (by omega) hs
    · exact h.elim
def p_are_between : PSp := fun _ as μ Q => match as with
  | [.d (.tup l), .d (.int n), .d (.int lo), .d (.int hi)] => ((l.length : Int) = n ∧ l.length ≤ 1000 ∧ ∀ e ∈ l, isBetw e lo hi = true ∧ (tyD e).isSome = true) ∧ Q (.d (.bl true)) μ
  | _ => False
theorem h_are_between  (c : C K mg) : Has P w K mg base 3 "are_between" ["value", "many", "low", "high"] (p_are_between) := by
  refine has_p (k := 2) c.d_are_between sc_are_between (fun _ _ _ _ _ _ us hl => match us, hl with | [_, _, _, _], _ => rfl) ?_ (fun f cdv A outer s H E hr => (pxs_one (psx_ret (px_and (px_callH (h_is_tuple_of c) tk_of hr (by omega) rfl (pxa_cons (px_name 0) (pxa_cons (px_name 1) pxa_nil))) (px_one (px_all rfl rfl c.n_all (pxa_cons (px_lc (own := [("each", 4)]) rfl sc_are_between.nd (pxi_U (px_name 0)) (by exact (show BlkOk N_are_between (defScope s_are_between) _ _ from ⟨rfl, by decide +kernel, by decide +kernel, by decide +kernel, by decide +kernel⟩)) (fun _ _ _ _ _ => (pxg_name (own := [4]) (by decide) sc_are_between.nd (i := 4) rfl (by first | exact Or.inl rfl | exact Or.inr rfl))) (fun _ _ _ _ _ => pxts_nil) (fun _ _ _ _ _ => (px_callH (h_is_between c) takes0 hr (by omega) rfl (pxa_cons (px_name 4) (pxa_cons (px_name 2) (pxa_cons (px_name 3) pxa_nil)))))) pxa_nil))))))) ?_
  · intro x as μ Q h
    unfold p_are_between at h
    split at h
    · rfl
    · exact h.elim
  · intro x as μ Q h
    unfold p_are_between at h
    split at h
    · rename_i l n lo hi
      obtain ⟨⟨h1, h2, h3⟩, h4⟩ := h
      refine ⟨rfl, ?_⟩
      (conv => whnf); try dsimp only [List.set_cons_zero, List.set_cons_succ]
      rw [show isTupN (.tup l) n = true from decide_eq_true h1]
      refine ⟨by rw [sizeLine_eq]; omega, fun i acc μ' => μ' = μ ∧ acc = (l.take i).map fun _ => .bl true, ⟨rfl, by simp⟩, ?_, ?_⟩
      · rintro i d acc μ' hd ⟨rfl, rfl⟩
        obtain ⟨q1, q2⟩ := h3 d (List.mem_of_getElem? hd)
        refine ⟨q2, rfl, ?_⟩
        rw [q1]
        exact take_map_succ (fun _ => D.bl true) hd
      · rintro acc μ' ⟨rfl, rfl⟩
        rw [List.take_length]
        (conv => whnf); try dsimp only [List.set_cons_zero, List.set_cons_succ]
        rw [show lstOf (.d (.lst (l.map fun _ => D.bl true))) μ' = some (l.map fun _ => D.bl true) from rfl, Option.bind_some, bools_map]
        have e : (l.map fun _ => true).all id = true := by simp
        (conv => whnf); try dsimp only [List.set_cons_zero, List.set_cons_succ]
        rw [e]; exact h4
    · exact h.elim
def p_check_place_index : PSp := fun _ as μ Q => match as with
  | [.d v, .d (.int i)] => (∃ ps : List Pl, v = plsD ps ∧ 0 ≤ i ∧ i < ps.length) ∧ Q (.d .non) μ
  | _ => False
theorem h_check_place_index  (c : C K mg) : Has P w K mg base 3 "check_place_index" ["places", "value"] (p_check_place_index) := by
  refine has_p (k := 2) c.d_check_place_index sc_check_place_index (fun _ _ _ _ _ _ us hl => match us, hl with | [_, _], _ => rfl) ?_ (fun f cdv A outer s H E hr => (pxs_one (psx_if (pxt_not (pxt_val (px_callH (h_is_between c) tk_of hr (by omega) rfl (pxa_cons (px_name 1) (pxa_cons px_int (pxa_cons (px_subU (px_len rfl c.n_len (pxa_cons (px_name 0) pxa_nil)) px_int) pxa_nil)))))) (pxs_one psx_never) pss_nil'))) ?_
  · intro x as μ Q h
    unfold p_check_place_index at h
    split at h
    · rfl
    · exact h.elim
  · intro x as μ Q h
    unfold p_check_place_index at h
    split at h
    · rename_i i
      obtain ⟨⟨ps, rfl, h1, h2⟩, h3⟩ := h
      refine ⟨rfl, ?_⟩
      (conv => whnf); try dsimp only [List.set_cons_zero, List.set_cons_succ]
      have e : isBetw (.int i) 0 (((ps.map Pl.d).length : Int) - 1) = true := by
        simp only [isBetw, Bool.and_eq_true, decide_eq_true_eq, List.length_map]; omega
      rw [e]
      exact h3
    · exact h.elim
def p_check_page : PSp := fun _ as μ Q => match as with
  | [.d (.int i)] => (0 ≤ i ∧ i ≤ 1) ∧ Q (.d .non) μ
  | _ => False
theorem h_check_page  (c : C K mg) : Has P w K mg base 3 "check_page" ["value"] (p_check_page) := by
  refine has_p (k := 2) c.d_check_page sc_check_page (fun _ _ _ _ _ _ us hl => match us, hl with | [_], _ => rfl) ?_ (fun f cdv A outer s H E hr => (pxs_one (psx_if (pxt_not (pxt_val (px_callH (h_is_between c) tk_of hr (by omega) rfl (pxa_cons (px_name 0) (pxa_cons px_int (pxa_cons px_int pxa_nil)))))) (pxs_one psx_never) pss_nil'))) ?_
  · intro x as μ Q h
    unfold p_check_page at h
    split at h
    · rfl
    · exact h.elim
  · intro x as μ Q h
    unfold p_check_page at h
    split at h
    · rename_i i
      obtain ⟨⟨h1, h2⟩, h3⟩ := h
      refine ⟨rfl, ?_⟩
      (conv => whnf); try dsimp only [List.set_cons_zero, List.set_cons_succ]
      have e : isBetw (.int i) 0 1 = true := by
        simp only [isBetw, Bool.and_eq_true, decide_eq_true_eq]; omega
      rw [e]
      exact h3
    · exact h.elim
def p_is_place : PSp := fun _ as μ Q => match as with
  | [.d v] => (∃ p : Pl, v = p.d ∧ p.Ok) ∧ Q (.d (.bl true)) μ
  | _ => False
theorem h_is_place  (c : C K mg) : Has P w K mg base 4 "is_place" ["value"] (p_is_place) := by
  refine has_p (k := 3) c.d_is_place sc_is_place (fun _ _ _ _ _ _ us hl => match us, hl with | [_], _ => rfl) ?_ (fun f cdv A outer s H E hr => (pxs_cons (psx_if (pxt_not (pxt_val (px_callH (h_are_between c) tk_of hr (by omega) rfl (pxa_cons (px_name 0) (pxa_cons (px_gintC rfl c.m_SIZE) (pxa_cons px_int (pxa_cons (px_gintC rfl c.m_MOST_NUMBER) pxa_nil))))))) (pxs_one (psx_ret px_bl)) pss_nil')
  (pxs_cons (psx_asg (px_name 0) (pxg_tup (own := [1, 2, 3, 4]) (n := 4) rfl (pxgs_cons (pxg_name (own := [1, 2, 3, 4]) (by decide) sc_is_place.nd (i := 1) rfl (by first | exact Or.inl rfl | exact Or.inr rfl)) (pxgs_cons (pxg_name (own := [1, 2, 3, 4]) (by decide) sc_is_place.nd (i := 2) rfl (by first | exact Or.inl rfl | exact Or.inr rfl)) (pxgs_cons (pxg_name (own := [1, 2, 3, 4]) (by decide) sc_is_place.nd (i := 3) rfl (by first | exact Or.inl rfl | exact Or.inr rfl)) (pxgs_cons (pxg_name (own := [1, 2, 3, 4]) (by decide) sc_is_place.nd (i := 4) rfl (by first | exact Or.inl rfl | exact Or.inr rfl)) pxgs_nil))))))
  (pxs_one (psx_ret (px_and (px_gtU (hu_of hr) (px_name 3) px_int) (px_and (px_gtU (hu_of hr) (px_name 4) px_int) (px_one (px_geU (hu_of hr) (px_name 1) (px_name 3)))))))))) ?_
  · intro x as μ Q h
    unfold p_is_place at h
    split at h
    · rfl
    · exact h.elim
  · intro x as μ Q h
    unfold p_is_place at h
    split at h
    · obtain ⟨⟨p, rfl, o⟩, h2⟩ := h
      obtain ⟨o1, o2, o3, o4, o5⟩ := o
      refine ⟨⟨by simp, by simp, ?_⟩, ?_⟩
      · intro e he
        simp only [List.mem_cons, List.not_mem_nil, or_false] at he
        rcases he with rfl | rfl | rfl | rfl <;> refine ⟨?_, rfl⟩ <;> simp only [isBetw, Bool.and_eq_true, decide_eq_true_eq] <;> omega
      · refine ⟨rfl, ?_⟩
        (conv => whnf); try dsimp only [List.set_cons_zero, List.set_cons_succ]
        rw [decide_eq_true (show (0 : Int) < p.w by omega)]
        (conv => whnf); try dsimp only [List.set_cons_zero, List.set_cons_succ]
        rw [decide_eq_true (show (0 : Int) < p.t by omega)]
        (conv => whnf); try dsimp only [List.set_cons_zero, List.set_cons_succ]
        rw [decide_eq_true (show p.w ≤ p.a by omega)]
        exact h2
    · exact h.elim
/-- nothing is wrong -/
def p_first_wrong (T : Addr → Option PSp) : PSp := fun _ as μ Q => match as with
  | [.d (.tup l), .d (.int lo), .d (.int hi), .d (.fn f), .d (.bl false)] => (lo ≤ l.length ∧ (l.length : Int) ≤ hi) ∧ (∃ p, T f = some p ∧ ∀ e ∈ l, ∀ x (Q : VP), Q (.d (.bl true)) [] → p x [.d e] [] Q) ∧ Q (.d (.lst [])) μ
  | _ => False
theorem h_first_wrong (T : Addr → Option PSp) (kT : Nat) (hT : ∀ f p, T f = some p → HeldP P w K mg base 4 f p) (c : C K mg) : Has P w K mg base 5 "first_wrong" ["value", "low", "high", "is_one", "is_rising"] (p_first_wrong T) := by
  refine has_p (k := 4) c.d_first_wrong sc_first_wrong (fun _ _ _ _ _ _ us hl => match us, hl with | [_, _, _, _, _], _ => rfl) ?_ (fun f cdv A outer s H E hr => (pxs_cons (psx_if (PXW.pt (pxw_or (pxt_not (pxt_val (px_isiK .tuple rfl c.n_isinstance rfl c.n_tuple (by decide +kernel) (px_name 0)))) (pxw_or1 (pxt_not (pxt_leleI (px_name 1) (px_len rfl c.n_len (pxa_cons (px_name 0) pxa_nil)) (px_name 2)))))) (pxs_one (psx_ret (px_lst (pxa_cons px_non pxa_nil)))) pss_nil')
  (pxs_cons (psx_for hp_of rfl (pxi_enumU rfl c.n_enumerate (pxa_cons (px_name 0) pxa_nil)) (pxg_tup (own := [5, 6]) (n := 2) rfl (pxgs_cons (pxg_name (own := [5, 6]) (by decide) sc_first_wrong.nd (i := 5) rfl (by first | exact Or.inl rfl | exact Or.inr rfl)) (pxgs_cons (pxg_name (own := [5, 6]) (by decide) sc_first_wrong.nd (i := 6) rfl (by first | exact Or.inl rfl | exact Or.inr rfl)) pxgs_nil))) (pxs_one (psx_if (PXW.pt (pxw_or (pxt_not (pxt_val (px_local (i := 3) (T := T) tk_of (hT) hr rfl (by first | exact Or.inl rfl | exact Or.inr (Or.inl rfl) | exact Or.inr (Or.inr rfl)) (pxa_cons (px_name 6) pxa_nil)))) (pxw_or1 (PXW.pt (pxw_and (pxt_val (px_name 4)) (pxw_and (pxt_gtU (hu_of hr) (px_name 5) px_int) (pxw_and1 (pxt_leU (hu_of hr) (px_name 6) (px_ix (px_name 0) (px_subU (px_name 5) px_int)))))))))) (pxs_one (psx_ret (px_lst (pxa_cons (px_name 5) pxa_nil)))) pss_nil')))
  (pxs_one (psx_ret (px_lst pxa_nil)))))) ?_
  · intro x as μ Q h
    unfold p_first_wrong at h
    split at h
    · rfl
    · exact h.elim
  · intro x as μ Q h
    unfold p_first_wrong at h
    split at h
    · rename_i l lo hi f
      obtain ⟨⟨h1, h2⟩, ⟨p, h3, h4⟩, h5⟩ := h
      (conv => whnf); try dsimp only [List.set_cons_zero, List.set_cons_succ]
      rw [decide_eq_true h1]
      (conv => whnf); try dsimp only [List.set_cons_zero, List.set_cons_succ]
      rw [decide_eq_true h2]
      refine ⟨fun i ρ μ' => μ' = μ ∧ ∃ a b, ρ = [.d (.tup l), .d (.int lo), .d (.int hi), .d (.fn f), .d (.bl false), a, b], ⟨rfl, _, _, rfl⟩, ?_, ?_⟩
      · rintro i d ρ μ' hd ⟨rfl, a, b, rfl⟩
        obtain ⟨e, he, rfl⟩ := enumD_at hd
        refine ⟨rfl, ?_⟩
        (conv => whnf); try dsimp only [List.set_cons_zero, List.set_cons_succ]
        rw [h3]
        refine h4 e (List.mem_of_getElem? he) _ _ ?_
        exact ⟨rfl, _, _, rfl⟩
      · rintro ρ μ' ⟨rfl, a, b, rfl⟩
        exact ⟨Nat.zero_le _, h5⟩
    · exact h.elim
def tabPl (mg : Str → Option Value) : Addr → Option PSp := fun f => if f = adOf mg "is_place" then some p_is_place else none
theorem tabPl_ok (c : C K mg) : ∀ f p, tabPl mg f = some p → HeldP P w K mg base 4 f p := by
  intro f p h
  unfold tabPl at h
  split at h
  · rename_i e
    cases h
    rw [e]
    exact (h_is_place c).held
  · cases h
def p_wrong_in_places : PSp := fun _ as μ Q => match as with
  | [.d v] => (∃ ps, v = plsD ps ∧ PlsOk ps) ∧ Q (.d (.lst [])) μ
  | _ => False
theorem h_wrong_in_places  (c : C K mg) : Has P w K mg base 6 "wrong_in_places" ["value"] (p_wrong_in_places) := by
  refine has_p (k := 5) c.d_wrong_in_places sc_wrong_in_places (fun _ _ _ _ _ _ us hl => match us, hl with | [_], _ => rfl) ?_ (fun f cdv A outer s H E hr => (pxs_one (psx_ret (px_callH (h_first_wrong (tabPl mg) 0 (tabPl_ok c) c) tk_of hr (by omega) rfl (pxa_cons (px_name 0) (pxa_cons px_int (pxa_cons (px_gintC rfl c.m_MOST_PLACES) (pxa_cons (px_fn (h_is_place c) rfl) (pxa_cons px_bl pxa_nil))))))))) ?_
  · intro x as μ Q h
    unfold p_wrong_in_places at h
    split at h
    · rfl
    · exact h.elim
  · intro x as μ Q h
    unfold p_wrong_in_places at h
    split at h
    · obtain ⟨⟨ps, rfl, o1, o2, o3⟩, h2⟩ := h
      refine ⟨⟨by simp; omega, by simp; omega⟩, ⟨p_is_place, by unfold tabPl; rw [if_pos rfl], fun e he x Q hQ => ?_⟩, h2⟩
      obtain ⟨p, hp, rfl⟩ := List.mem_map.mp he
      exact ⟨⟨p, rfl, o3 p hp⟩, hQ⟩
    · exact h.elim
def p_check_places : PSp := fun _ as μ Q => match as with
  | [.d v] => (∃ ps, v = plsD ps ∧ PlsOk ps) ∧ Q (.d .non) μ
  | _ => False
theorem h_check_places  (c : C K mg) : Has P w K mg base 7 "check_places" ["value"] (p_check_places) := by
  refine has_p (k := 6) c.d_check_places sc_check_places (fun _ _ _ _ _ _ us hl => match us, hl with | [_], _ => rfl) ?_ (fun f cdv A outer s H E hr => (pxs_one (psx_for hp_of rfl (pxi_U (px_callH (h_wrong_in_places c) tk_of hr (by omega) rfl (pxa_cons (px_name 0) pxa_nil))) (pxg_name (own := [1]) (by decide) sc_check_places.nd (i := 1) rfl (by first | exact Or.inl rfl | exact Or.inr rfl)) (pxs_one psx_never)))) ?_
  · intro x as μ Q h
    unfold p_check_places at h
    split at h
    · rfl
    · exact h.elim
  · intro x as μ Q h
    unfold p_check_places at h
    split at h
    · obtain ⟨h1, h2⟩ := h
      refine ⟨h1, fun i ρ μ' => μ' = μ, rfl, ?_, ?_⟩
      · rintro i d ρ μ' hd
        simp at hd
      · rintro ρ μ' rfl
        exact h2
    · exact h.elim
def p_check_label : PSp := fun _ as μ Q => match as with
  | [.d v, .d (.int i), .d (.int g)] => (∃ ps : List Pl, v = plsD ps ∧ PlsOk ps ∧ 0 ≤ i ∧ i < ps.length) ∧ (0 ≤ g ∧ g ≤ 1) ∧ Q (.d .non) μ
  | _ => False
theorem h_check_label  (c : C K mg) : Has P w K mg base 8 "check_label" ["places", "index", "page"] (p_check_label) := by
  refine has_p (k := 7) c.d_check_label sc_check_label (fun _ _ _ _ _ _ us hl => match us, hl with | [_, _, _], _ => rfl) ?_ (fun f cdv A outer s H E hr => (pxs_cons (psx_expr (px_callH (h_check_places c) tk_of hr (by omega) rfl (pxa_cons (px_name 0) pxa_nil)))
  (pxs_cons (psx_expr (px_callH (h_check_place_index c) tk_of hr (by omega) rfl (pxa_cons (px_name 0) (pxa_cons (px_name 1) pxa_nil))))
  (pxs_one (psx_expr (px_callH (h_check_page c) tk_of hr (by omega) rfl (pxa_cons (px_name 2) pxa_nil))))))) ?_
  · intro x as μ Q h
    unfold p_check_label at h
    split at h
    · rfl
    · exact h.elim
  · intro x as μ Q h
    unfold p_check_label at h
    split at h
    · obtain ⟨⟨ps, rfl, o, h1, h2⟩, h3, h4⟩ := h
      exact ⟨⟨ps, rfl, o⟩, ⟨ps, rfl, h1, h2⟩, h3, h4⟩
    · exact h.elim
def p_strip : PSp := fun _ as μ Q => match as with
  | [.d v, .d (.int i), .d (.int g)] => (∃ (ps : List Pl) (p : Pl) (n : Nat), v = plsD ps ∧ PlsOk ps ∧ i = n ∧ ps[n]? = some p ∧ (0 ≤ g ∧ g ≤ 1) ∧ Q (.d (stripOf p g).d) μ)
  | _ => False
theorem h_strip  (c : C K mg) : Has P w K mg base 9 "strip" ["places", "index", "page"] (p_strip) := by
  refine has_p (k := 8) c.d_strip sc_strip (fun _ _ _ _ _ _ us hl => match us, hl with | [_, _, _], _ => rfl) ?_ (fun f cdv A outer s H E hr => (pxs_cons (psx_expr (px_callH (h_check_label c) tk_of hr (by omega) rfl (pxa_cons (px_name 0) (pxa_cons (px_name 1) (pxa_cons (px_name 2) pxa_nil)))))
  (pxs_one (psx_ret (px_callH (h_strip_by c) tk_of hr (by omega) rfl (pxa_cons (px_ix (px_name 0) (px_name 1)) (pxa_cons (px_name 2) pxa_nil))))))) ?_
  · intro x as μ Q h
    unfold p_strip at h
    split at h
    · rfl
    · exact h.elim
  · intro x as μ Q h
    unfold p_strip at h
    split at h
    · obtain ⟨ps, p, n, rfl, o, rfl, h1, h2, h3⟩ := h
      have hl : n < ps.length := (List.getElem?_eq_some_iff.mp h1).1
      have g1 : ∀ μ, ixOf (.d (plsD ps)) μ n = some p.d := ixOf_tup (by rw [List.getElem?_map, h1]; rfl)
      refine ⟨⟨ps, rfl, o, by omega, by omega⟩, h2, ?_⟩
      (conv => whnf); try dsimp only [List.set_cons_zero, List.set_cons_succ]
      rw [g1]
      exact ⟨p, rfl, h3⟩
    · exact h.elim
def p_do_clash : PSp := fun _ as μ Q => match as with
  | [.d v, .d (.int i), .d (.int g), .d (.int j), .d (.int g2)] => (∃ (ps : List Pl) (p q : Pl) (n m : Nat), v = plsD ps ∧ PlsOk ps ∧ i = n ∧ j = m ∧ n ≠ m ∧ ps[n]? = some p ∧ ps[m]? = some q ∧ (0 ≤ g ∧ g ≤ 1) ∧ (0 ≤ g2 ∧ g2 ≤ 1) ∧ Q (.d (.bl (lap2 (stripOf p g) (stripOf q g2)))) μ)
  | _ => False
theorem h_do_clash  (c : C K mg) : Has P w K mg base 9 "do_clash" ["places", "index", "page", "second_index", "second_page"] (p_do_clash) := by
  refine has_p (k := 8) c.d_do_clash sc_do_clash (fun _ _ _ _ _ _ us hl => match us, hl with | [_, _, _, _, _], _ => rfl) ?_ (fun f cdv A outer s H E hr => (pxs_cons (psx_expr (px_callH (h_check_label c) tk_of hr (by omega) rfl (pxa_cons (px_name 0) (pxa_cons (px_name 1) (pxa_cons (px_name 2) pxa_nil)))))
  (pxs_cons (psx_expr (px_callH (h_check_place_index c) tk_of hr (by omega) rfl (pxa_cons (px_name 0) (pxa_cons (px_name 3) pxa_nil))))
  (pxs_cons (psx_if (pxt_eqU (hu_of hr) (px_name 3) (px_name 1)) (pxs_one psx_never) pss_nil')
  (pxs_cons (psx_expr (px_callH (h_check_page c) tk_of hr (by omega) rfl (pxa_cons (px_name 4) pxa_nil)))
  (pxs_one (psx_ret (px_callH (h_do_clash_by c) tk_of hr (by omega) rfl (pxa_cons (px_name 0) (pxa_cons (px_name 1) (pxa_cons (px_name 2) (pxa_cons (px_name 3) (pxa_cons (px_name 4) pxa_nil))))))))))))) ?_
  · intro x as μ Q h
    unfold p_do_clash at h
    split at h
    · rfl
    · exact h.elim
  · intro x as μ Q h
    unfold p_do_clash at h
    split at h
    · obtain ⟨ps, p, q, n, m, rfl, o, rfl, rfl, hne, h1, h2, h3, h4, h5⟩ := h
      have hl : n < ps.length := (List.getElem?_eq_some_iff.mp h1).1
      have hm : m < ps.length := (List.getElem?_eq_some_iff.mp h2).1
      have e : decide ((m : Int) = n) = false := decide_eq_false (by omega)
      refine ⟨⟨ps, rfl, o, by omega, by omega⟩, h3, ⟨ps, rfl, by omega, by omega⟩, ?_⟩
      (conv => whnf); try dsimp only [List.set_cons_zero, List.set_cons_succ]
      rw [e]
      exact ⟨h4, ps, p, q, n, m, rfl, rfl, rfl, h1, h2, h5⟩
    · exact h.elim
theorem strip_bd {p : Pl} (h : p.Ok) (g : Int) : (stripOf p g).Bd ∧ (stripOf p g).l < (stripOf p g).r ∧ (stripOf p g).b < (stripOf p g).h := by
  obtain ⟨⟨o1, o2⟩, ⟨o3, o4⟩, ⟨o5, o6⟩, ⟨o7, o8⟩, o9⟩ := h
  unfold stripOf Rc.Bd
  by_cases e : g = 1 <;> simp only [e, if_true, if_false] <;> omega
theorem lap2_comm (s o : Rc) : lap2 s o = lap2 o s := by
  rw [lap2_eq, lap2_eq]
  cases decide (s.l < o.r) <;> cases decide (o.l < s.r) <;> cases decide (s.b < o.h) <;> cases decide (o.b < s.h) <;> rfl
theorem any_lap {s o : Rc} {ks1 ks2 vs2 : List D} (hl : ks2.length = vs2.length) (h1 : ∀ d, d ∈ ks1 ↔ s.has d) (h2 : ∀ d, d ∈ ks2 ↔ o.has d) (s1 : s.l < s.r) (s2 : s.b < s.h) (o1 : o.l < o.r) (o2 : o.b < o.h) :
    (ks1.map fun d => (findD ks2 vs2 d).isSome).any id = lap2 s o := by
  rw [Bool.eq_iff_iff, List.any_map, List.any_eq_true, lap2_eq]
  simp only [Bool.and_eq_true, decide_eq_true_eq, Function.comp, id]
  constructor
  · rintro ⟨d, q1, q2⟩
    rw [findD_some hl, h2] at q2
    rw [h1] at q1
    obtain ⟨x, y, ⟨a1, a2⟩, ⟨a3, a4⟩, rfl⟩ := q1
    obtain ⟨x', y', ⟨b1, b2⟩, ⟨b3, b4⟩, e⟩ := q2
    simp at e
    omega
  · rintro ⟨c1, c2, c3, c4⟩
    let x : Int := if s.l ≤ o.l then o.l else s.l
    let y : Int := if s.b ≤ o.b then o.b else s.b
    have hx : (s.l ≤ x ∧ x < s.r) ∧ (o.l ≤ x ∧ x < o.r) := by
      show (s.l ≤ (if s.l ≤ o.l then o.l else s.l) ∧ (if s.l ≤ o.l then o.l else s.l) < s.r) ∧ (o.l ≤ (if s.l ≤ o.l then o.l else s.l) ∧ (if s.l ≤ o.l then o.l else s.l) < o.r)
      split <;> omega
    have hy : (s.b ≤ y ∧ y < s.h) ∧ (o.b ≤ y ∧ y < o.h) := by
      show (s.b ≤ (if s.b ≤ o.b then o.b else s.b) ∧ (if s.b ≤ o.b then o.b else s.b) < s.h) ∧ (o.b ≤ (if s.b ≤ o.b then o.b else s.b) ∧ (if s.b ≤ o.b then o.b else s.b) < o.h)
      split <;> omega
    exact ⟨.tup [.int x, .int y], (h1 _).mpr ⟨x, y, hx.1, hy.1, rfl⟩, (findD_some hl).mpr ((h2 _).mpr ⟨x, y, hx.2, hy.2, rfl⟩)⟩
def farPs : List Pl := [⟨999, 999, 999, 999⟩, ⟨999, 0, 1, 999⟩, ⟨999, 0, 999, 1⟩]
theorem far_ok : PlsOk farPs := by
  refine ⟨by decide, by decide, fun p hp => ?_⟩
  simp only [farPs, List.mem_cons, List.not_mem_nil, or_false] at hp
  rcases hp with rfl | rfl | rfl <;> refine ⟨⟨?_, ?_⟩, ⟨?_, ?_⟩, ⟨?_, ?_⟩, ⟨?_, ?_⟩, ?_⟩ <;> decide
def p__law_right : PSp := fun _ as μ Q => match as, μ with
  | [.c 0], [.lst [.int a, .int b, .int c]] => ∀ μ', Q (.d (.bl true)) μ'
  | _, _ => False
theorem h__law_right  (c : C K mg) : Has P w K mg base 10 "_law_right" ["pool"] (p__law_right) := by
  refine has_p (k := 9) c.d__law_right sc__law_right (fun _ _ _ _ _ _ us hl => match us, hl with | [_], _ => rfl) ?_ (fun f cdv A outer s H E hr => (pxs_cons (psx_for hp_of rfl (pxi_range1 rfl c.n_range (pxa_cons px_int pxa_nil)) (pxg_name (own := [1]) (by decide) sc__law_right.nd (i := 1) rfl (by first | exact Or.inl rfl | exact Or.inr rfl)) (pxs_cons (psx_set (i := 2) sc__law_right.nd rfl (by first | exact Or.inl rfl | exact Or.inr rfl) (px_callH (h__law_places c) tk_of hr (by omega) rfl (pxa_cons (px_name 0) (pxa_cons (px_addU px_int (px_callH (h__law_below c) tk_of hr (by omega) rfl (pxa_cons (px_name 0) (pxa_cons px_int pxa_nil)))) pxa_nil))))
  (pxs_cons (psx_set (i := 2) sc__law_right.nd rfl (by first | exact Or.inl rfl | exact Or.inr rfl) (px_if (pxt_eqU (hu_of hr) (px_name 1) px_int) (px_addU (px_name 2) (px_tup (pxa_cons (px_ix (px_name 2) px_int) pxa_nil))) (px_name 2)))
  (pxs_cons (psx_for hp_of rfl (pxi_enumU rfl c.n_enumerate (pxa_cons (px_name 2) pxa_nil)) (pxg_tup (own := [3, 4]) (n := 2) rfl (pxgs_cons (pxg_name (own := [3, 4]) (by decide) sc__law_right.nd (i := 3) rfl (by first | exact Or.inl rfl | exact Or.inr rfl)) (pxgs_cons (pxg_name (own := [3, 4]) (by decide) sc__law_right.nd (i := 4) rfl (by first | exact Or.inl rfl | exact Or.inr rfl)) pxgs_nil))) (pxs_one (psx_for hp_of rfl (pxi_U (px_tup (pxa_cons px_int (pxa_cons px_int pxa_nil)))) (pxg_name (own := [5]) (by decide) sc__law_right.nd (i := 5) rfl (by first | exact Or.inl rfl | exact Or.inr rfl)) (pxs_cons (psx_set (i := 6) sc__law_right.nd rfl (by first | exact Or.inl rfl | exact Or.inr rfl) (px_if (pxt_eqU (hu_of hr) (px_name 1) px_int) (px_callHK0 (ks := ["page", "index", "places"]) (perm := [2, 1, 0]) (Has.withK (h_strip c) c.d_strip) tk_of hr (by omega) rfl (fun _ _ _ _ _ _ us ws h1 h2 => match us, ws, h1, h2 with | [], [_, _, _], _, _ => rfl) (pxk_cons (px_name 5) (pxk_cons (px_name 3) (pxk_cons (px_name 2) pxk_nil)))) (px_callH (h_strip c) tk_of hr (by omega) rfl (pxa_cons (px_name 2) (pxa_cons (px_name 3) (pxa_cons (px_name 5) pxa_nil))))))
  (pxs_one (psx_if (pxt_not (pxt_val (px_callH (h__law_same c 6) tk_of hr (by omega) rfl (pxa_cons (px_name 6) (pxa_cons (px_callH (h__law_strip c) tk_of hr (by omega) rfl (pxa_cons (px_name 4) (pxa_cons (px_name 5) pxa_nil))) pxa_nil))))) (pxs_one (psx_ret px_bl)) pss_nil'))))))
  (pxs_one (psx_for hp_of rfl (pxi_range1 rfl c.n_range (pxa_cons (px_if (pxt_gtU (hu_of hr) (px_len rfl c.n_len (pxa_cons (px_name 2) pxa_nil)) px_int) px_int px_int) pxa_nil)) (pxg_name (own := [7]) (by decide) sc__law_right.nd (i := 7) rfl (by first | exact Or.inl rfl | exact Or.inr rfl)) (pxs_cons (psx_par (i := 8) (j := 9) rfl sc__law_right.nd rfl rfl (by decide) rfl rfl (pxa_cons (px_callH (h__law_below c) tk_of hr (by omega) rfl (pxa_cons (px_name 0) (pxa_cons (px_len rfl c.n_len (pxa_cons (px_name 2) pxa_nil)) pxa_nil))) (pxa_cons (px_callH (h__law_below c) tk_of hr (by omega) rfl (pxa_cons (px_name 0) (pxa_cons (px_len rfl c.n_len (pxa_cons (px_name 2) pxa_nil)) pxa_nil))) pxa_nil)) (by rfl))
  (pxs_cons (psx_par (i := 10) (j := 11) rfl sc__law_right.nd rfl rfl (by decide) rfl rfl (pxa_cons (px_callH (h__law_below c) tk_of hr (by omega) rfl (pxa_cons (px_name 0) (pxa_cons px_int pxa_nil))) (pxa_cons (px_callH (h__law_below c) tk_of hr (by omega) rfl (pxa_cons (px_name 0) (pxa_cons px_int pxa_nil))) pxa_nil)) (by rfl))
  (pxs_one (psx_if (pxt_neU (hu_of hr) (px_name 8) (px_name 9)) (pxs_cons (psx_par (i := 12) (j := 13) rfl sc__law_right.nd rfl rfl (by decide) rfl rfl (pxa_cons (px_callH (h__law_strip c) tk_of hr (by omega) rfl (pxa_cons (px_ix (px_name 2) (px_name 8)) (pxa_cons (px_name 10) pxa_nil))) (pxa_cons (px_callH (h__law_strip c) tk_of hr (by omega) rfl (pxa_cons (px_ix (px_name 2) (px_name 9)) (pxa_cons (px_name 11) pxa_nil))) pxa_nil)) (by rfl))
  (pxs_cons (psx_set (i := 14) sc__law_right.nd rfl (by first | exact Or.inl rfl | exact Or.inr rfl) (px_callHF (h__law_cells c) tk_of hr (by omega) rfl (pxa_cons (px_name 13) pxa_nil)))
  (pxs_cons (psx_set (i := 15) sc__law_right.nd rfl (by first | exact Or.inl rfl | exact Or.inr rfl) (px_any rfl rfl c.n_any (pxa_cons (px_lc (own := [("cell", 17)]) rfl sc__law_right.nd (pxi_U (px_callHF (h__law_cells c) tk_of hr (by omega) rfl (pxa_cons (px_name 12) pxa_nil))) (by exact (show BlkOk N__law_right (defScope s__law_right) _ _ from ⟨rfl, by decide +kernel, by decide +kernel, by decide +kernel, by decide +kernel⟩)) (fun _ _ _ _ _ => (pxg_name (own := [17]) (by decide) sc__law_right.nd (i := 17) rfl (by first | exact Or.inl rfl | exact Or.inr rfl))) (fun _ _ _ _ _ => pxts_nil) (fun _ _ _ _ _ => (px_inU (hu_of hr) (px_name 17) (px_name 14)))) pxa_nil)))
  (pxs_cons (psx_set (i := 6) sc__law_right.nd rfl (by first | exact Or.inl rfl | exact Or.inr rfl) (px_if (pxt_eqU (hu_of hr) (px_name 1) px_int) (px_callHK0 (ks := ["second_page", "second_index", "page", "index", "places"]) (perm := [4, 3, 2, 1, 0]) (Has.withK (h_do_clash c) c.d_do_clash) tk_of hr (by omega) rfl (fun _ _ _ _ _ _ us ws h1 h2 => match us, ws, h1, h2 with | [], [_, _, _, _, _], _, _ => rfl) (pxk_cons (px_name 11) (pxk_cons (px_name 9) (pxk_cons (px_name 10) (pxk_cons (px_name 8) (pxk_cons (px_name 2) pxk_nil)))))) (px_callH (h_do_clash c) tk_of hr (by omega) rfl (pxa_cons (px_name 2) (pxa_cons (px_name 8) (pxa_cons (px_name 10) (pxa_cons (px_name 9) (pxa_cons (px_name 11) pxa_nil))))))))
  (pxs_one (psx_if (PXW.pt (pxw_or (pxt_neU (hu_of hr) (px_name 15) (px_callH (h__law_do_clash c) tk_of hr (by omega) rfl (pxa_cons (px_name 12) (pxa_cons (px_name 13) pxa_nil)))) (pxw_or (pxt_not (pxt_val (px_callH (h__law_same c 6) tk_of hr (by omega) rfl (pxa_cons (px_name 6) (pxa_cons (px_name 15) pxa_nil))))) (pxw_or1 (pxt_not (pxt_val (px_callH (h__law_same c 6) tk_of hr (by omega) rfl (pxa_cons (px_callH (h_do_clash c) tk_of hr (by omega) rfl (pxa_cons (px_name 2) (pxa_cons (px_name 9) (pxa_cons (px_name 11) (pxa_cons (px_name 8) (pxa_cons (px_name 10) pxa_nil)))))) (pxa_cons (px_name 15) pxa_nil))))))))) (pxs_one (psx_ret px_bl)) pss_nil')))))) pss_nil'))))))))))
  (pxs_cons (psx_set (i := 16) sc__law_right.nd rfl (by first | exact Or.inl rfl | exact Or.inr rfl) (px_tup (pxa_cons (px_tup (pxa_cons px_int (pxa_cons px_int (pxa_cons px_int (pxa_cons px_int pxa_nil))))) (pxa_cons (px_tup (pxa_cons px_int (pxa_cons px_int (pxa_cons px_int (pxa_cons px_int pxa_nil))))) (pxa_cons (px_tup (pxa_cons px_int (pxa_cons px_int (pxa_cons px_int (pxa_cons px_int pxa_nil))))) pxa_nil)))))
  (pxs_cons (psx_if (pxt_not (pxt_val (px_callH (h__law_same c 6) tk_of hr (by omega) rfl (pxa_cons (px_tup (pxa_cons (px_callH (h_strip c) tk_of hr (by omega) rfl (pxa_cons (px_name 16) (pxa_cons px_int (pxa_cons px_int pxa_nil)))) (pxa_cons (px_callH (h_strip c) tk_of hr (by omega) rfl (pxa_cons (px_name 16) (pxa_cons px_int (pxa_cons px_int pxa_nil)))) pxa_nil))) (pxa_cons (px_tup (pxa_cons (px_tup (pxa_cons px_int (pxa_cons px_int (pxa_cons px_int (pxa_cons px_int pxa_nil))))) (pxa_cons (px_tup (pxa_cons px_int (pxa_cons px_int (pxa_cons px_int (pxa_cons px_int pxa_nil))))) pxa_nil))) pxa_nil))))) (pxs_one (psx_ret px_bl)) pss_nil')
  (pxs_one (psx_ret (px_callH (h__law_same c 6) tk_of hr (by omega) rfl (pxa_cons (px_tup (pxa_cons (px_callH (h_do_clash c) tk_of hr (by omega) rfl (pxa_cons (px_name 16) (pxa_cons px_int (pxa_cons px_int (pxa_cons px_int (pxa_cons px_int pxa_nil)))))) (pxa_cons (px_callH (h_do_clash c) tk_of hr (by omega) rfl (pxa_cons (px_name 16) (pxa_cons px_int (pxa_cons px_int (pxa_cons px_int (pxa_cons px_int pxa_nil)))))) (pxa_cons (px_callH (h_do_clash c) tk_of hr (by omega) rfl (pxa_cons (px_name 16) (pxa_cons px_int (pxa_cons px_int (pxa_cons px_int (pxa_cons px_int pxa_nil)))))) pxa_nil)))) (pxa_cons (px_tup (pxa_cons px_bl (pxa_cons px_bl (pxa_cons px_bl pxa_nil)))) pxa_nil))))))))) ?_
  · intro x as μ Q h
    unfold p__law_right at h
    split at h
    · rfl
    · exact h.elim
  · intro x as μ Q h
    unfold p__law_right at h
    split at h
    · refine ⟨⟨by omega, by omega⟩, fun i ρ μ' => ∃ (a1 a2 a3 a4 a5 a6 a7 a8 a9 a10 a11 a12 a13 a14 a15 a16 a17 : SV) (a b c : Int), ρ = [.c 0, a1, a2, a3, a4, a5, a6, a7, a8, a9, a10, a11, a12, a13, a14, a15, a16, a17] ∧ μ' = [.lst [.int a, .int b, .int c]], ⟨_, _, _, _, _, _, _, _, _, _, _, _, _, _, _, _, _, _, _, _, rfl, rfl⟩, ?_, ?_⟩
      · rintro i d ρ μ' hd ⟨a1, a2, a3, a4, a5, a6, a7, a8, a9, a10, a11, a12, a13, a14, a15, a16, a17, a, b, c, rfl, rfl⟩
        obtain ⟨hi, rfl⟩ := rngD_at hd
        refine ⟨⟨by decide, by decide⟩, fun r a' b' c' h1 h2 => ?_⟩
        refine ⟨⟨by omega, by omega⟩, fun ps a b c rest hl hs => ?_⟩
        have ok : PlsOk ps := ⟨by omega, by omega, fun p hp => (hs p hp).ok⟩
        have l13 : ps.length ≤ 13 := by omega
        obtain ⟨p0, hp0⟩ : ∃ p, ps[0]? = some p := ⟨ps[0]'(by omega), List.getElem?_eq_getElem _⟩
        have g0 : ∀ μ, ixOf (.d (plsD ps)) μ 0 = some p0.d := fun μ => ixOf_tup (n := 0) (by rw [List.getElem?_map, hp0]; rfl) μ
        (conv => whnf); try dsimp only [List.set_cons_zero, List.set_cons_succ]
        by_cases e3 : 0 + (i : Int) = 3
        · rw [decide_eq_true e3]
          (conv => whnf); try dsimp only [List.set_cons_zero, List.set_cons_succ]
          rw [g0]
          refine ⟨sz 1, by rw [List.length_map, sizeLine_eq]; show ps.length + 1 ≤ _; omega, ?_⟩
          rw [show D.tup (ps.map Pl.d ++ [p0.d]) = plsD (ps ++ [p0]) by simp [plsD]]
          have ok' : PlsOk (ps ++ [p0]) := by
            refine ⟨by simp, by simp; omega, fun p hp => ?_⟩
            rcases List.mem_append.mp hp with hp | hp
            · exact ok.2.2 p hp
            · simp at hp; subst hp; exact ok.2.2 _ (List.mem_of_getElem? hp0)
          generalize ps ++ [p0] = qs at ok'
          refine ⟨fun j ρ μ' => ∃ (a3 a4 a5 a6 a7 a8 a9 a10 a11 a12 a13 a14 a15 a16 a17 : SV), ρ = [.c 0, .d (.int (0 + i)), .d (plsD qs), a3, a4, a5, a6, a7, a8, a9, a10, a11, a12, a13, a14, a15, a16, a17] ∧ μ' = [.lst [.int a, .int b, .int c]], ⟨_, _, _, _, _, _, _, _, _, _, _, _, _, _, _, rfl, rfl⟩, ?_, ?_⟩
          · rintro j d ρ μ' hd ⟨a3, a4, a5, a6, a7, a8, a9, a10, a11, a12, a13, a14, a15, a16, a17, rfl, rfl⟩
            obtain ⟨e, he, rfl⟩ := enumD_at hd
            rw [List.getElem?_map] at he
            obtain ⟨p, hp, rfl⟩ := Option.map_eq_some_iff.mp he
            refine ⟨rfl, sz 2, fun k ρ μ' => ∃ (a5 a6 a7 a8 a9 a10 a11 a12 a13 a14 a15 a16 a17 : SV), ρ = [.c 0, .d (.int (0 + i)), .d (plsD qs), .d (.int j), .d p.d, a5, a6, a7, a8, a9, a10, a11, a12, a13, a14, a15, a16, a17] ∧ μ' = [.lst [.int a, .int b, .int c]], ⟨_, _, _, _, _, _, _, _, _, _, _, _, _, rfl, rfl⟩, ?_, ?_⟩
            · rintro k d ρ μ' hd ⟨a5, a6, a7, a8, a9, a10, a11, a12, a13, a14, a15, a16, a17, rfl, rfl⟩
              obtain ⟨g, rfl, hg⟩ : ∃ g : Int, d = .int g ∧ 0 ≤ g ∧ g ≤ 1 := by
                match k, hd with
                | 0, hd => exact ⟨0, (Option.some.inj hd).symm, by decide, by decide⟩
                | 1, hd => exact ⟨1, (Option.some.inj hd).symm, by decide, by decide⟩
                | k + 2, hd => exact absurd hd (by simp)
              (conv => whnf); try dsimp only [List.set_cons_zero, List.set_cons_succ]
              by_cases e1 : 0 + (i : Int) = 1
              · rw [decide_eq_true e1]
                refine ⟨⟨rfl, rfl⟩, qs, p, j, rfl, ok', rfl, hp, hg, ?_⟩
                exact ⟨p, rfl, ⟨rfl, rfl⟩, _, _, _, _, _, _, _, _, _, _, _, _, _, rfl, rfl⟩
              · rw [decide_eq_false e1]
                refine ⟨qs, p, j, rfl, ok', rfl, hp, hg, ?_⟩
                exact ⟨p, rfl, ⟨rfl, rfl⟩, _, _, _, _, _, _, _, _, _, _, _, _, _, rfl, rfl⟩
            · rintro ρ μ' ⟨a5, a6, a7, a8, a9, a10, a11, a12, a13, a14, a15, a16, a17, rfl, rfl⟩
              exact ⟨_, _, _, _, _, _, _, _, _, _, _, _, _, _, _, rfl, rfl⟩
          · rintro ρ μ' ⟨a3, a4, a5, a6, a7, a8, a9, a10, a11, a12, a13, a14, a15, a16, a17, rfl, rfl⟩
            (conv => whnf); try dsimp only [List.set_cons_zero, List.set_cons_succ]
            by_cases hq : 1 < ((qs.map Pl.d).length : Int)
            · rw [decide_eq_true hq]
              have hq' : (1 : Int) < qs.length := by rw [List.length_map] at hq; exact hq
              have hq2 : (qs.length : Int) ≤ 14 := by have := ok'.2.1; omega
              refine ⟨⟨by decide, by decide⟩, fun j ρ μ' => ∃ (a3 a4 a5 a6 a7 a8 a9 a10 a11 a12 a13 a14 a15 a16 a17 : SV) (a b c : Int), ρ = [.c 0, .d (.int (0 + i)), .d (plsD qs), a3, a4, a5, a6, a7, a8, a9, a10, a11, a12, a13, a14, a15, a16, a17] ∧ μ' = [.lst [.int a, .int b, .int c]], ⟨_, _, _, _, _, _, _, _, _, _, _, _, _, _, _, _, _, _, rfl, rfl⟩, ?_, ?_⟩
              · rintro t d ρ μ' hd ⟨a3, a4, a5, a6, a7, a8, a9, a10, a11, a12, a13, a14, a15, a16, a17, a, b, c, rfl, rfl⟩
                obtain ⟨ht, rfl⟩ := rngD_at hd
                have hb : 0 < ((qs.map Pl.d).length : Int) ∧ ((qs.map Pl.d).length : Int) < 1073741824 := by rw [List.length_map]; omega
                refine ⟨hb, fun r1 a1 b1 c1 h11 h12 => ?_⟩
                refine ⟨hb, fun r2 a2 b2 c2 h21 h22 => ?_⟩
                refine ⟨⟨by decide, by decide⟩, fun g1 a3 b3 c3 h31 h32 => ?_⟩
                refine ⟨⟨by decide, by decide⟩, fun g2 a4 b4 c4 h41 h42 => ?_⟩
                rw [List.length_map] at h12 h22
                obtain ⟨n, rfl⟩ := Int.eq_ofNat_of_zero_le h11
                obtain ⟨m, rfl⟩ := Int.eq_ofNat_of_zero_le h21
                (conv => whnf); try dsimp only [List.set_cons_zero, List.set_cons_succ]
                by_cases hne : (n : Int) = m
                · rw [decide_eq_true hne]
                  exact ⟨_, _, _, _, _, _, _, _, _, _, _, _, _, _, _, _, _, _, rfl, rfl⟩
                · rw [decide_eq_false hne]
                  have hnm : n ≠ m := fun z => hne (by rw [z])
                  obtain ⟨p, hp⟩ : ∃ p, qs[n]? = some p := ⟨qs[n]'(by omega), List.getElem?_eq_getElem _⟩
                  obtain ⟨q, hq⟩ : ∃ p, qs[m]? = some p := ⟨qs[m]'(by omega), List.getElem?_eq_getElem _⟩
                  have k1 : ∀ μ, ixOf (.d (plsD qs)) μ n = some p.d := ixOf_tup (by rw [List.getElem?_map, hp]; rfl)
                  have k2 : ∀ μ, ixOf (.d (plsD qs)) μ m = some q.d := ixOf_tup (by rw [List.getElem?_map, hq]; rfl)
                  have bp := strip_bd (ok'.2.2 p (List.mem_of_getElem? hp)) g1
                  have bq := strip_bd (ok'.2.2 q (List.mem_of_getElem? hq)) g2
                  (conv => whnf); try dsimp only [List.set_cons_zero, List.set_cons_succ]
                  rw [k1]
                  refine ⟨p, rfl, ?_⟩
                  (conv => whnf); try dsimp only [List.set_cons_zero, List.set_cons_succ]
                  rw [k2]
                  refine ⟨q, rfl, ?_⟩
                  refine ⟨_, rfl, bq.1, fun ks2 vs2 l2 z2 m2 => ?_⟩
                  refine ⟨Nat.le_refl _, ?_⟩
                  refine ⟨_, rfl, bp.1, fun ks1 vs1 l1 z1 m1 => ?_⟩
                  refine ⟨Nat.le_refl _, ?_⟩
                  refine ⟨by rw [sizeLine_eq]; omega, fun k acc μ' => μ' = [.lst [.int a4, .int b4, .int c4]] ∧ acc = (ks1.take k).map fun d => .bl (findD ks2 vs2 d).isSome, ⟨rfl, by simp⟩, ?_, ?_⟩
                  · rintro k d acc μ' hd ⟨rfl, rfl⟩
                    have hdk := List.mem_of_getElem? hd
                    obtain ⟨u, v, _, _, rfl⟩ := (m1 d).mp hdk
                    exact ⟨rfl, rfl, take_map_succ (fun d => D.bl (findD ks2 vs2 d).isSome) hd⟩
                  · rintro acc μ' ⟨rfl, rfl⟩
                    rw [List.take_length]
                    (conv => whnf); try dsimp only [List.set_cons_zero, List.set_cons_succ]
                    rw [show lstOf (.d (.lst (ks1.map fun d => D.bl (findD ks2 vs2 d).isSome))) [.lst [.int a4, .int b4, .int c4]] = some (ks1.map fun d => D.bl (findD ks2 vs2 d).isSome) from rfl, Option.bind_some, bools_map]
                    (conv => whnf); try dsimp only [List.set_cons_zero, List.set_cons_succ]
                    rw [any_lap l2 m1 m2 bp.2.1 bp.2.2 bq.2.1 bq.2.2]
                    have hc := lap2_comm (stripOf q g2) (stripOf p g1)
                    cases hB : lap2 (stripOf p g1) (stripOf q g2)
                    all_goals
                      rw [hB] at hc
                      (conv => whnf); try dsimp only [List.set_cons_zero, List.set_cons_succ]
                      by_cases e2 : 0 + (i : Int) = 2
                      · rw [decide_eq_true e2]
                        refine ⟨⟨rfl, rfl⟩, qs, p, q, n, m, rfl, ok', rfl, rfl, hnm, hp, hq, ⟨h31, by omega⟩, ⟨h41, by omega⟩, ?_⟩
                        refine ⟨_, _, rfl, rfl, ?_⟩
                        rw [hB]
                        refine ⟨⟨rfl, rfl⟩, ?_⟩
                        refine ⟨qs, q, p, m, n, rfl, ok', rfl, rfl, fun z => hnm z.symm, hq, hp, ⟨h41, by omega⟩, ⟨h31, by omega⟩, ?_⟩
                        rw [hc]
                        exact ⟨⟨rfl, rfl⟩, _, _, _, _, _, _, _, _, _, _, _, _, _, _, _, _, _, _, rfl, rfl⟩
                      · rw [decide_eq_false e2]
                        refine ⟨qs, p, q, n, m, rfl, ok', rfl, rfl, hnm, hp, hq, ⟨h31, by omega⟩, ⟨h41, by omega⟩, ?_⟩
                        refine ⟨_, _, rfl, rfl, ?_⟩
                        rw [hB]
                        refine ⟨⟨rfl, rfl⟩, ?_⟩
                        refine ⟨qs, q, p, m, n, rfl, ok', rfl, rfl, fun z => hnm z.symm, hq, hp, ⟨h41, by omega⟩, ⟨h31, by omega⟩, ?_⟩
                        rw [hc]
                        exact ⟨⟨rfl, rfl⟩, _, _, _, _, _, _, _, _, _, _, _, _, _, _, _, _, _, _, rfl, rfl⟩
              · rintro ρ μ' ⟨a3, a4, a5, a6, a7, a8, a9, a10, a11, a12, a13, a14, a15, a16, a17, a, b, c, rfl, rfl⟩
                exact ⟨_, _, _, _, _, _, _, _, _, _, _, _, _, _, _, _, _, _, _, _, rfl, rfl⟩
            · rw [decide_eq_false hq]
              refine ⟨⟨by decide, by decide⟩, fun j ρ μ' => ∃ (a3 a4 a5 a6 a7 a8 a9 a10 a11 a12 a13 a14 a15 a16 a17 : SV) (a b c : Int), ρ = [.c 0, .d (.int (0 + i)), .d (plsD qs), a3, a4, a5, a6, a7, a8, a9, a10, a11, a12, a13, a14, a15, a16, a17] ∧ μ' = [.lst [.int a, .int b, .int c]], ⟨_, _, _, _, _, _, _, _, _, _, _, _, _, _, _, _, _, _, rfl, rfl⟩, ?_, ?_⟩
              · rintro t d ρ μ' hd
                obtain ⟨ht, rfl⟩ := rngD_at hd
                exact absurd ht (Nat.not_lt_zero _)
              · rintro ρ μ' ⟨a3, a4, a5, a6, a7, a8, a9, a10, a11, a12, a13, a14, a15, a16, a17, a, b, c, rfl, rfl⟩
                exact ⟨_, _, _, _, _, _, _, _, _, _, _, _, _, _, _, _, _, _, _, _, rfl, rfl⟩
        · rw [decide_eq_false e3]
          have ok' := ok
          clear g0 hp0 hs hl ok l13
          generalize ps = qs at ok'
          refine ⟨fun j ρ μ' => ∃ (a3 a4 a5 a6 a7 a8 a9 a10 a11 a12 a13 a14 a15 a16 a17 : SV), ρ = [.c 0, .d (.int (0 + i)), .d (plsD qs), a3, a4, a5, a6, a7, a8, a9, a10, a11, a12, a13, a14, a15, a16, a17] ∧ μ' = [.lst [.int a, .int b, .int c]], ⟨_, _, _, _, _, _, _, _, _, _, _, _, _, _, _, rfl, rfl⟩, ?_, ?_⟩
          · rintro j d ρ μ' hd ⟨a3, a4, a5, a6, a7, a8, a9, a10, a11, a12, a13, a14, a15, a16, a17, rfl, rfl⟩
            obtain ⟨e, he, rfl⟩ := enumD_at hd
            rw [List.getElem?_map] at he
            obtain ⟨p, hp, rfl⟩ := Option.map_eq_some_iff.mp he
            refine ⟨rfl, sz 2, fun k ρ μ' => ∃ (a5 a6 a7 a8 a9 a10 a11 a12 a13 a14 a15 a16 a17 : SV), ρ = [.c 0, .d (.int (0 + i)), .d (plsD qs), .d (.int j), .d p.d, a5, a6, a7, a8, a9, a10, a11, a12, a13, a14, a15, a16, a17] ∧ μ' = [.lst [.int a, .int b, .int c]], ⟨_, _, _, _, _, _, _, _, _, _, _, _, _, rfl, rfl⟩, ?_, ?_⟩
            · rintro k d ρ μ' hd ⟨a5, a6, a7, a8, a9, a10, a11, a12, a13, a14, a15, a16, a17, rfl, rfl⟩
              obtain ⟨g, rfl, hg⟩ : ∃ g : Int, d = .int g ∧ 0 ≤ g ∧ g ≤ 1 := by
                match k, hd with
                | 0, hd => exact ⟨0, (Option.some.inj hd).symm, by decide, by decide⟩
                | 1, hd => exact ⟨1, (Option.some.inj hd).symm, by decide, by decide⟩
                | k + 2, hd => exact absurd hd (by simp)
              (conv => whnf); try dsimp only [List.set_cons_zero, List.set_cons_succ]
              by_cases e1 : 0 + (i : Int) = 1
              · rw [decide_eq_true e1]
                refine ⟨⟨rfl, rfl⟩, qs, p, j, rfl, ok', rfl, hp, hg, ?_⟩
                exact ⟨p, rfl, ⟨rfl, rfl⟩, _, _, _, _, _, _, _, _, _, _, _, _, _, rfl, rfl⟩
              · rw [decide_eq_false e1]
                refine ⟨qs, p, j, rfl, ok', rfl, hp, hg, ?_⟩
                exact ⟨p, rfl, ⟨rfl, rfl⟩, _, _, _, _, _, _, _, _, _, _, _, _, _, rfl, rfl⟩
            · rintro ρ μ' ⟨a5, a6, a7, a8, a9, a10, a11, a12, a13, a14, a15, a16, a17, rfl, rfl⟩
              exact ⟨_, _, _, _, _, _, _, _, _, _, _, _, _, _, _, rfl, rfl⟩
          · rintro ρ μ' ⟨a3, a4, a5, a6, a7, a8, a9, a10, a11, a12, a13, a14, a15, a16, a17, rfl, rfl⟩
            (conv => whnf); try dsimp only [List.set_cons_zero, List.set_cons_succ]
            by_cases hq : 1 < ((qs.map Pl.d).length : Int)
            · rw [decide_eq_true hq]
              have hq' : (1 : Int) < qs.length := by rw [List.length_map] at hq; exact hq
              have hq2 : (qs.length : Int) ≤ 14 := by have := ok'.2.1; omega
              refine ⟨⟨by decide, by decide⟩, fun j ρ μ' => ∃ (a3 a4 a5 a6 a7 a8 a9 a10 a11 a12 a13 a14 a15 a16 a17 : SV) (a b c : Int), ρ = [.c 0, .d (.int (0 + i)), .d (plsD qs), a3, a4, a5, a6, a7, a8, a9, a10, a11, a12, a13, a14, a15, a16, a17] ∧ μ' = [.lst [.int a, .int b, .int c]], ⟨_, _, _, _, _, _, _, _, _, _, _, _, _, _, _, _, _, _, rfl, rfl⟩, ?_, ?_⟩
              · rintro t d ρ μ' hd ⟨a3, a4, a5, a6, a7, a8, a9, a10, a11, a12, a13, a14, a15, a16, a17, a, b, c, rfl, rfl⟩
                obtain ⟨ht, rfl⟩ := rngD_at hd
                have hb : 0 < ((qs.map Pl.d).length : Int) ∧ ((qs.map Pl.d).length : Int) < 1073741824 := by rw [List.length_map]; omega
                refine ⟨hb, fun r1 a1 b1 c1 h11 h12 => ?_⟩
                refine ⟨hb, fun r2 a2 b2 c2 h21 h22 => ?_⟩
                refine ⟨⟨by decide, by decide⟩, fun g1 a3 b3 c3 h31 h32 => ?_⟩
                refine ⟨⟨by decide, by decide⟩, fun g2 a4 b4 c4 h41 h42 => ?_⟩
                rw [List.length_map] at h12 h22
                obtain ⟨n, rfl⟩ := Int.eq_ofNat_of_zero_le h11
                obtain ⟨m, rfl⟩ := Int.eq_ofNat_of_zero_le h21
                (conv => whnf); try dsimp only [List.set_cons_zero, List.set_cons_succ]
                by_cases hne : (n : Int) = m
                · rw [decide_eq_true hne]
                  exact ⟨_, _, _, _, _, _, _, _, _, _, _, _, _, _, _, _, _, _, rfl, rfl⟩
                · rw [decide_eq_false hne]
                  have hnm : n ≠ m := fun z => hne (by rw [z])
                  obtain ⟨p, hp⟩ : ∃ p, qs[n]? = some p := ⟨qs[n]'(by omega), List.getElem?_eq_getElem _⟩
                  obtain ⟨q, hq⟩ : ∃ p, qs[m]? = some p := ⟨qs[m]'(by omega), List.getElem?_eq_getElem _⟩
                  have k1 : ∀ μ, ixOf (.d (plsD qs)) μ n = some p.d := ixOf_tup (by rw [List.getElem?_map, hp]; rfl)
                  have k2 : ∀ μ, ixOf (.d (plsD qs)) μ m = some q.d := ixOf_tup (by rw [List.getElem?_map, hq]; rfl)
                  have bp := strip_bd (ok'.2.2 p (List.mem_of_getElem? hp)) g1
                  have bq := strip_bd (ok'.2.2 q (List.mem_of_getElem? hq)) g2
                  (conv => whnf); try dsimp only [List.set_cons_zero, List.set_cons_succ]
                  rw [k1]
                  refine ⟨p, rfl, ?_⟩
                  (conv => whnf); try dsimp only [List.set_cons_zero, List.set_cons_succ]
                  rw [k2]
                  refine ⟨q, rfl, ?_⟩
                  refine ⟨_, rfl, bq.1, fun ks2 vs2 l2 z2 m2 => ?_⟩
                  refine ⟨Nat.le_refl _, ?_⟩
                  refine ⟨_, rfl, bp.1, fun ks1 vs1 l1 z1 m1 => ?_⟩
                  refine ⟨Nat.le_refl _, ?_⟩
                  refine ⟨by rw [sizeLine_eq]; omega, fun k acc μ' => μ' = [.lst [.int a4, .int b4, .int c4]] ∧ acc = (ks1.take k).map fun d => .bl (findD ks2 vs2 d).isSome, ⟨rfl, by simp⟩, ?_, ?_⟩
                  · rintro k d acc μ' hd ⟨rfl, rfl⟩
                    have hdk := List.mem_of_getElem? hd
                    obtain ⟨u, v, _, _, rfl⟩ := (m1 d).mp hdk
                    exact ⟨rfl, rfl, take_map_succ (fun d => D.bl (findD ks2 vs2 d).isSome) hd⟩
                  · rintro acc μ' ⟨rfl, rfl⟩
                    rw [List.take_length]
                    (conv => whnf); try dsimp only [List.set_cons_zero, List.set_cons_succ]
                    rw [show lstOf (.d (.lst (ks1.map fun d => D.bl (findD ks2 vs2 d).isSome))) [.lst [.int a4, .int b4, .int c4]] = some (ks1.map fun d => D.bl (findD ks2 vs2 d).isSome) from rfl, Option.bind_some, bools_map]
                    (conv => whnf); try dsimp only [List.set_cons_zero, List.set_cons_succ]
                    rw [any_lap l2 m1 m2 bp.2.1 bp.2.2 bq.2.1 bq.2.2]
                    have hc := lap2_comm (stripOf q g2) (stripOf p g1)
                    cases hB : lap2 (stripOf p g1) (stripOf q g2)
                    all_goals
                      rw [hB] at hc
                      (conv => whnf); try dsimp only [List.set_cons_zero, List.set_cons_succ]
                      by_cases e2 : 0 + (i : Int) = 2
                      · rw [decide_eq_true e2]
                        refine ⟨⟨rfl, rfl⟩, qs, p, q, n, m, rfl, ok', rfl, rfl, hnm, hp, hq, ⟨h31, by omega⟩, ⟨h41, by omega⟩, ?_⟩
                        refine ⟨_, _, rfl, rfl, ?_⟩
                        rw [hB]
                        refine ⟨⟨rfl, rfl⟩, ?_⟩
                        refine ⟨qs, q, p, m, n, rfl, ok', rfl, rfl, fun z => hnm z.symm, hq, hp, ⟨h41, by omega⟩, ⟨h31, by omega⟩, ?_⟩
                        rw [hc]
                        exact ⟨⟨rfl, rfl⟩, _, _, _, _, _, _, _, _, _, _, _, _, _, _, _, _, _, _, rfl, rfl⟩
                      · rw [decide_eq_false e2]
                        refine ⟨qs, p, q, n, m, rfl, ok', rfl, rfl, hnm, hp, hq, ⟨h31, by omega⟩, ⟨h41, by omega⟩, ?_⟩
                        refine ⟨_, _, rfl, rfl, ?_⟩
                        rw [hB]
                        refine ⟨⟨rfl, rfl⟩, ?_⟩
                        refine ⟨qs, q, p, m, n, rfl, ok', rfl, rfl, fun z => hnm z.symm, hq, hp, ⟨h41, by omega⟩, ⟨h31, by omega⟩, ?_⟩
                        rw [hc]
                        exact ⟨⟨rfl, rfl⟩, _, _, _, _, _, _, _, _, _, _, _, _, _, _, _, _, _, _, rfl, rfl⟩
              · rintro ρ μ' ⟨a3, a4, a5, a6, a7, a8, a9, a10, a11, a12, a13, a14, a15, a16, a17, a, b, c, rfl, rfl⟩
                exact ⟨_, _, _, _, _, _, _, _, _, _, _, _, _, _, _, _, _, _, _, _, rfl, rfl⟩
            · rw [decide_eq_false hq]
              refine ⟨⟨by decide, by decide⟩, fun j ρ μ' => ∃ (a3 a4 a5 a6 a7 a8 a9 a10 a11 a12 a13 a14 a15 a16 a17 : SV) (a b c : Int), ρ = [.c 0, .d (.int (0 + i)), .d (plsD qs), a3, a4, a5, a6, a7, a8, a9, a10, a11, a12, a13, a14, a15, a16, a17] ∧ μ' = [.lst [.int a, .int b, .int c]], ⟨_, _, _, _, _, _, _, _, _, _, _, _, _, _, _, _, _, _, rfl, rfl⟩, ?_, ?_⟩
              · rintro t d ρ μ' hd
                obtain ⟨ht, rfl⟩ := rngD_at hd
                exact absurd ht (Nat.not_lt_zero _)
              · rintro ρ μ' ⟨a3, a4, a5, a6, a7, a8, a9, a10, a11, a12, a13, a14, a15, a16, a17, a, b, c, rfl, rfl⟩
                exact ⟨_, _, _, _, _, _, _, _, _, _, _, _, _, _, _, _, _, _, _, _, rfl, rfl⟩
      · rintro ρ μ' ⟨a1, a2, a3, a4, a5, a6, a7, a8, a9, a10, a11, a12, a13, a14, a15, a16, a17, a, b, c, rfl, rfl⟩
        refine ⟨sz 4, sz 4, sz 4, sz 3, ?_⟩
        refine ⟨farPs, _, 0, rfl, far_ok, rfl, rfl, ⟨by decide, by decide⟩, ?_⟩
        refine ⟨farPs, _, 0, rfl, far_ok, rfl, rfl, ⟨by decide, by decide⟩, ?_⟩
        refine ⟨sz 2, sz 4, sz 4, sz 2, ⟨rfl, rfl⟩, ?_⟩
        refine ⟨farPs, _, _, 0, 1, rfl, far_ok, rfl, rfl, by decide, rfl, rfl, ⟨by decide, by decide⟩, ⟨by decide, by decide⟩, ?_⟩
        refine ⟨farPs, _, _, 1, 2, rfl, far_ok, rfl, rfl, by decide, rfl, rfl, ⟨by decide, by decide⟩, ⟨by decide, by decide⟩, ?_⟩
        refine ⟨farPs, _, _, 1, 2, rfl, far_ok, rfl, rfl, by decide, rfl, rfl, ⟨by decide, by decide⟩, ⟨by decide, by decide⟩, ?_⟩
        exact ⟨sz 3, sz 3, ⟨rfl, rfl⟩, h _⟩
    · exact h.elim
def p_law : PSp := fun _ as μ Q => match as, μ with
  | [.d (.scr l)], [] => ∀ μ', Q (.d (.bl true)) μ'
  | _, _ => False
theorem h_law  (c : C K mg) : Has P w K mg base 11 "law" ["script"] (p_law) := by
  refine has_p (k := 10) c.d_law sc_law (fun _ _ _ _ _ _ us hl => match us, hl with | [_], _ => rfl) ?_ (fun f cdv A outer s H E hr => (pxs_one (psx_ret (px_all rfl rfl c.n_all (pxa_cons (px_lc (own := [("lap", 1)]) rfl sc_law.nd (pxi_range1 rfl c.n_range (pxa_cons (px_maxI rfl rfl c.n_max (pxa_cons px_int (pxa_cons (px_minI rfl rfl c.n_min (pxa_cons (px_len rfl c.n_len (pxa_cons (px_name 0) pxa_nil)) (pxa_cons px_int pxa_nil))) pxa_nil))) pxa_nil)) (by exact (show BlkOk N_law (defScope s_law) _ _ from ⟨rfl, by decide +kernel, by decide +kernel, by decide +kernel, by decide +kernel⟩)) (fun _ _ _ _ _ => (pxg_name (own := [1]) (by decide) sc_law.nd (i := 1) rfl (by first | exact Or.inl rfl | exact Or.inr rfl))) (fun _ _ _ _ _ => pxts_nil) (fun _ _ _ _ _ => (px_callH (h__law_right c) takes0 hr (by omega) rfl (pxa_cons (px_callH (h__law_pool c) takes0 hr (by omega) rfl (pxa_cons (px_name 0) (pxa_cons (px_name 1) pxa_nil))) pxa_nil)))) pxa_nil))))) ?_
  · intro x as μ Q h
    unfold p_law at h
    split at h
    · rfl
    · exact h.elim
  · intro x as μ Q h
    unfold p_law at h
    split at h
    · rename_i l
      (conv => whnf); try dsimp only [List.set_cons_zero, List.set_cons_succ]
      have hn : ∃ n : Nat, (if (if 2 < (l.length : Int) then 2 else (l.length : Int)) > 1 then if 2 < (l.length : Int) then 2 else (l.length : Int) else 1) = n ∧ n ≤ 2 := by
        by_cases e1 : 2 < (l.length : Int)
        · exact ⟨2, by simp [e1], by decide⟩
        · by_cases e2 : (l.length : Int) > 1
          · exact ⟨l.length, by simp only [e1, e2, if_true, if_false], by omega⟩
          · exact ⟨1, by simp only [e1, e2, if_false]; rfl, by decide⟩
      obtain ⟨n, e, hn⟩ := hn
      rw [e]
      refine ⟨⟨by omega, by omega⟩, by rw [rngD_length, sizeLine_eq]; omega, fun i acc μ' => acc = ((rngD 0 n).take i).map fun _ => .bl true, rfl, ?_, ?_⟩
      · rintro i d acc μ' hd rfl
        obtain ⟨hi, rfl⟩ := rngD_at hd
        refine ⟨⟨i, by omega⟩, fun a b => ?_⟩
        have e1 : picked (μ' ++ [Cell.lst [D.int a, D.int b, D.int 0]]) [μ'.length] = [Cell.lst [D.int a, D.int b, D.int 0]] := by simp [picked]
        (conv => whnf); try dsimp only [List.set_cons_zero, List.set_cons_succ]
        have e2 : picked (merge μ' (cellsOf [SV.d (D.scr l), SV.d (D.int (0 + (i : Int)))]) [Cell.lst [D.int a, D.int b, D.int 0]] ++ [[Cell.lst [D.int a, D.int b, D.int 0]].getD 0 nocell]) (cellsOf [SV.c (List.length μ')]) = [Cell.lst [D.int a, D.int b, D.int 0]] := e1
        rw [e2]
        intro μ2
        exact take_map_succ (fun _ => D.bl true) hd
      · rintro acc μ' rfl
        have e2 : List.take (rngD 0 (n : Int).toNat).length (rngD 0 n) = rngD 0 n := List.take_length
        rw [e2]
        (conv => whnf); try dsimp only [List.set_cons_zero, List.set_cons_succ]
        rw [show lstOf (.d (.lst ((rngD 0 n).map fun _ => D.bl true))) μ' = some ((rngD 0 n).map fun _ => D.bl true) from rfl, Option.bind_some, bools_map]
        have e : ((rngD 0 n).map fun _ => true).all id = true := by simp
        (conv => whnf); try dsimp only [List.set_cons_zero, List.set_cons_succ]
        rw [e]; exact h _
    · exact h.elim
end
def hd_is_whole : He.DefD := ⟨("is_whole", none), "is_whole", "is_whole", defArgs s_is_whole, defBody s_is_whole, defScope s_is_whole, [], []⟩
def hd_is_tuple_of : He.DefD := ⟨("is_tuple_of", none), "is_tuple_of", "is_tuple_of", defArgs s_is_tuple_of, defBody s_is_tuple_of, defScope s_is_tuple_of, [], []⟩
def hd_strip_by : He.DefD := ⟨("strip_by", none), "strip_by", "strip_by", defArgs s_strip_by, defBody s_strip_by, defScope s_strip_by, [], []⟩
def hd_do_overlap : He.DefD := ⟨("do_overlap", none), "do_overlap", "do_overlap", defArgs s_do_overlap, defBody s_do_overlap, defScope s_do_overlap, [], []⟩
def hd__law_pool : He.DefD := ⟨("_law_pool", none), "_law_pool", "_law_pool", defArgs s__law_pool, defBody s__law_pool, defScope s__law_pool, [], []⟩
def hd__law_below : He.DefD := ⟨("_law_below", none), "_law_below", "_law_below", defArgs s__law_below, defBody s__law_below, defScope s__law_below, [], []⟩
def hd__law_strip : He.DefD := ⟨("_law_strip", none), "_law_strip", "_law_strip", defArgs s__law_strip, defBody s__law_strip, defScope s__law_strip, [], []⟩
def hd__law_do_clash : He.DefD := ⟨("_law_do_clash", none), "_law_do_clash", "_law_do_clash", defArgs s__law_do_clash, defBody s__law_do_clash, defScope s__law_do_clash, [], []⟩
def hd__law_same : He.DefD := ⟨("_law_same", none), "_law_same", "_law_same", defArgs s__law_same, defBody s__law_same, defScope s__law_same, [], []⟩
def hd__law_cells : He.DefD := ⟨("_law_cells", none), "_law_cells", "_law_cells", defArgs s__law_cells, defBody s__law_cells, defScope s__law_cells, [], []⟩
def hd_is_between : He.DefD := ⟨("is_between", none), "is_between", "is_between", defArgs s_is_between, defBody s_is_between, defScope s_is_between, [], []⟩
def hd_do_clash_by : He.DefD := ⟨("do_clash_by", none), "do_clash_by", "do_clash_by", defArgs s_do_clash_by, defBody s_do_clash_by, defScope s_do_clash_by, [], []⟩
def hd__law_places : He.DefD := ⟨("_law_places", none), "_law_places", "_law_places", defArgs s__law_places, defBody s__law_places, defScope s__law_places, [], []⟩
def hd_are_between : He.DefD := ⟨("are_between", none), "are_between", "are_between", defArgs s_are_between, defBody s_are_between, defScope s_are_between, [], []⟩
def hd_check_place_index : He.DefD := ⟨("check_place_index", none), "check_place_index", "check_place_index", defArgs s_check_place_index, defBody s_check_place_index, defScope s_check_place_index, [], []⟩
def hd_check_page : He.DefD := ⟨("check_page", none), "check_page", "check_page", defArgs s_check_page, defBody s_check_page, defScope s_check_page, [], []⟩
def hd_is_place : He.DefD := ⟨("is_place", none), "is_place", "is_place", defArgs s_is_place, defBody s_is_place, defScope s_is_place, [], []⟩
def hd_first_wrong : He.DefD := ⟨("first_wrong", none), "first_wrong", "first_wrong", defArgs s_first_wrong, defBody s_first_wrong, defScope s_first_wrong, [], []⟩
def hd_wrong_in_places : He.DefD := ⟨("wrong_in_places", none), "wrong_in_places", "wrong_in_places", defArgs s_wrong_in_places, defBody s_wrong_in_places, defScope s_wrong_in_places, [], []⟩
def hd_check_places : He.DefD := ⟨("check_places", none), "check_places", "check_places", defArgs s_check_places, defBody s_check_places, defScope s_check_places, [], []⟩
def hd_check_label : He.DefD := ⟨("check_label", none), "check_label", "check_label", defArgs s_check_label, defBody s_check_label, defScope s_check_label, [], []⟩
def hd_strip : He.DefD := ⟨("strip", none), "strip", "strip", defArgs s_strip, defBody s_strip, defScope s_strip, [], []⟩
def hd_do_clash : He.DefD := ⟨("do_clash", none), "do_clash", "do_clash", defArgs s_do_clash, defBody s_do_clash, defScope s_do_clash, [], []⟩
def hd__law_right : He.DefD := ⟨("_law_right", none), "_law_right", "_law_right", defArgs s__law_right, defBody s__law_right, defScope s__law_right, [], []⟩
def hd_law : He.DefD := ⟨("law", none), "law", "law", defArgs s_law, defBody s_law, defScope s_law, [], []⟩
def hdFn : List He.DefD := [hd_is_whole, hd_is_tuple_of, hd_strip_by, hd_do_overlap, hd__law_pool, hd__law_below, hd__law_strip, hd__law_do_clash, hd__law_same, hd__law_cells, hd_is_between, hd_do_clash_by, hd__law_places, hd_are_between, hd_check_place_index, hd_check_page, hd_is_place, hd_first_wrong, hd_wrong_in_places, hd_check_places, hd_check_label, hd_strip, hd_do_clash, hd__law_right, hd_law]
def hdFa : List He.Fa := [.glo "is_whole", .glo "is_tuple_of", .glo "strip_by", .glo "do_overlap", .glo "_law_pool", .glo "_law_below", .glo "_law_strip", .glo "_law_do_clash", .glo "_law_same", .glo "_law_cells", .glo "is_between", .glo "do_clash_by", .glo "_law_places", .glo "are_between", .glo "check_place_index", .glo "check_page", .glo "is_place", .glo "first_wrong", .glo "wrong_in_places", .glo "check_places", .glo "check_label", .glo "strip", .glo "do_clash", .glo "_law_right", .glo "law", .free "abs", .free "all", .free "any", .free "bool", .free "divmod", .free "enumerate", .free "int", .free "isinstance", .free "len", .free "max", .free "min", .free "range", .free "str", .free "tuple", .free "zip", .int "MOST_NUMBER" 999, .int "MOST_PLACES" 14, .int "SIZE" 4]
abbrev hdR : PySem.W.OpenRow := PySem.W.OpenLaw.row PySem.Challenge.rw_takenorleft_k61_whole_strips_and_clashes
abbrev hdK : PySem.W.Hook := He.hookD 4 hdFa hdFn
def hdOb (s : PySem.W.SharedT) : He.AlD := He.obsDG 4 hdFa hdFn (HandSHeadRun.getT s)
theorem hdOb_eq (s : PySem.W.SharedT) : hdOb s = hdK.obs s.abs := He.obsDG_eq (HandSHeadRun.getT_eq s)
def hdL0 : List PySem.Str := ["RuleError", "InvalidNumber", "InvalidPlaces", "is_whole", "is_between", "is_tuple_of", "are_between", "first_wrong", "MOST_PLACES", "MOST_NUMBER", "SIZE", "is_place", "wrong_in_places", "strip_by", "do_overlap", "do_clash_by", "check_places", "check_place_index", "check_page", "check_label", "strip", "do_clash", "_law_pool", "_law_below", "_law_places", "_law_strip", "_law_do_clash", "_law_same", "_law_cells", "_law_right"]
abbrev hdLoose : List PySem.Str := hdL0
theorem hdRun (w : World) : HandSHeadRun.RunEq hdR (PySem.W.view hdR.prog [35]) hdK hdOb 6000 hdLoose w := by
  intro os
  kernel_rfl
theorem hdC {K : PySem.W.Frag} {h : Heap} {mg : Str → Option Value} (X : K.In h) (G : h.Ns mainGlobals mg) (c : He.SaysD hdFa hdFn K) : C K mg where
  d_is_whole := by
    obtain ⟨fd, F⟩ := c.def_ 0 (d := hd_is_whole) rfl
    exact ⟨_, fd, F, He.glo_ok X G (c.fact 0 (f := .glo "is_whole") rfl)⟩
  d_is_tuple_of := by
    obtain ⟨fd, F⟩ := c.def_ 1 (d := hd_is_tuple_of) rfl
    exact ⟨_, fd, F, He.glo_ok X G (c.fact 1 (f := .glo "is_tuple_of") rfl)⟩
  d_strip_by := by
    obtain ⟨fd, F⟩ := c.def_ 2 (d := hd_strip_by) rfl
    exact ⟨_, fd, F, He.glo_ok X G (c.fact 2 (f := .glo "strip_by") rfl)⟩
  d_do_overlap := by
    obtain ⟨fd, F⟩ := c.def_ 3 (d := hd_do_overlap) rfl
    exact ⟨_, fd, F, He.glo_ok X G (c.fact 3 (f := .glo "do_overlap") rfl)⟩
  d__law_pool := by
    obtain ⟨fd, F⟩ := c.def_ 4 (d := hd__law_pool) rfl
    exact ⟨_, fd, F, He.glo_ok X G (c.fact 4 (f := .glo "_law_pool") rfl)⟩
  d__law_below := by
    obtain ⟨fd, F⟩ := c.def_ 5 (d := hd__law_below) rfl
    exact ⟨_, fd, F, He.glo_ok X G (c.fact 5 (f := .glo "_law_below") rfl)⟩
  d__law_strip := by
    obtain ⟨fd, F⟩ := c.def_ 6 (d := hd__law_strip) rfl
    exact ⟨_, fd, F, He.glo_ok X G (c.fact 6 (f := .glo "_law_strip") rfl)⟩
  d__law_do_clash := by
    obtain ⟨fd, F⟩ := c.def_ 7 (d := hd__law_do_clash) rfl
    exact ⟨_, fd, F, He.glo_ok X G (c.fact 7 (f := .glo "_law_do_clash") rfl)⟩
  d__law_same := by
    obtain ⟨fd, F⟩ := c.def_ 8 (d := hd__law_same) rfl
    exact ⟨_, fd, F, He.glo_ok X G (c.fact 8 (f := .glo "_law_same") rfl)⟩
  d__law_cells := by
    obtain ⟨fd, F⟩ := c.def_ 9 (d := hd__law_cells) rfl
    exact ⟨_, fd, F, He.glo_ok X G (c.fact 9 (f := .glo "_law_cells") rfl)⟩
  d_is_between := by
    obtain ⟨fd, F⟩ := c.def_ 10 (d := hd_is_between) rfl
    exact ⟨_, fd, F, He.glo_ok X G (c.fact 10 (f := .glo "is_between") rfl)⟩
  d_do_clash_by := by
    obtain ⟨fd, F⟩ := c.def_ 11 (d := hd_do_clash_by) rfl
    exact ⟨_, fd, F, He.glo_ok X G (c.fact 11 (f := .glo "do_clash_by") rfl)⟩
  d__law_places := by
    obtain ⟨fd, F⟩ := c.def_ 12 (d := hd__law_places) rfl
    exact ⟨_, fd, F, He.glo_ok X G (c.fact 12 (f := .glo "_law_places") rfl)⟩
  d_are_between := by
    obtain ⟨fd, F⟩ := c.def_ 13 (d := hd_are_between) rfl
    exact ⟨_, fd, F, He.glo_ok X G (c.fact 13 (f := .glo "are_between") rfl)⟩
  d_check_place_index := by
    obtain ⟨fd, F⟩ := c.def_ 14 (d := hd_check_place_index) rfl
    exact ⟨_, fd, F, He.glo_ok X G (c.fact 14 (f := .glo "check_place_index") rfl)⟩
  d_check_page := by
    obtain ⟨fd, F⟩ := c.def_ 15 (d := hd_check_page) rfl
    exact ⟨_, fd, F, He.glo_ok X G (c.fact 15 (f := .glo "check_page") rfl)⟩
  d_is_place := by
    obtain ⟨fd, F⟩ := c.def_ 16 (d := hd_is_place) rfl
    exact ⟨_, fd, F, He.glo_ok X G (c.fact 16 (f := .glo "is_place") rfl)⟩
  d_first_wrong := by
    obtain ⟨fd, F⟩ := c.def_ 17 (d := hd_first_wrong) rfl
    exact ⟨_, fd, F, He.glo_ok X G (c.fact 17 (f := .glo "first_wrong") rfl)⟩
  d_wrong_in_places := by
    obtain ⟨fd, F⟩ := c.def_ 18 (d := hd_wrong_in_places) rfl
    exact ⟨_, fd, F, He.glo_ok X G (c.fact 18 (f := .glo "wrong_in_places") rfl)⟩
  d_check_places := by
    obtain ⟨fd, F⟩ := c.def_ 19 (d := hd_check_places) rfl
    exact ⟨_, fd, F, He.glo_ok X G (c.fact 19 (f := .glo "check_places") rfl)⟩
  d_check_label := by
    obtain ⟨fd, F⟩ := c.def_ 20 (d := hd_check_label) rfl
    exact ⟨_, fd, F, He.glo_ok X G (c.fact 20 (f := .glo "check_label") rfl)⟩
  d_strip := by
    obtain ⟨fd, F⟩ := c.def_ 21 (d := hd_strip) rfl
    exact ⟨_, fd, F, He.glo_ok X G (c.fact 21 (f := .glo "strip") rfl)⟩
  d_do_clash := by
    obtain ⟨fd, F⟩ := c.def_ 22 (d := hd_do_clash) rfl
    exact ⟨_, fd, F, He.glo_ok X G (c.fact 22 (f := .glo "do_clash") rfl)⟩
  d__law_right := by
    obtain ⟨fd, F⟩ := c.def_ 23 (d := hd__law_right) rfl
    exact ⟨_, fd, F, He.glo_ok X G (c.fact 23 (f := .glo "_law_right") rfl)⟩
  d_law := by
    obtain ⟨fd, F⟩ := c.def_ 24 (d := hd_law) rfl
    exact ⟨_, fd, F, He.glo_ok X G (c.fact 24 (f := .glo "law") rfl)⟩
  n_abs := He.free_ok X G (c.fact 25 (f := .free "abs") rfl)
  n_all := He.free_ok X G (c.fact 26 (f := .free "all") rfl)
  n_any := He.free_ok X G (c.fact 27 (f := .free "any") rfl)
  n_bool := He.free_ok X G (c.fact 28 (f := .free "bool") rfl)
  n_divmod := He.free_ok X G (c.fact 29 (f := .free "divmod") rfl)
  n_enumerate := He.free_ok X G (c.fact 30 (f := .free "enumerate") rfl)
  n_int := He.free_ok X G (c.fact 31 (f := .free "int") rfl)
  n_isinstance := He.free_ok X G (c.fact 32 (f := .free "isinstance") rfl)
  n_len := He.free_ok X G (c.fact 33 (f := .free "len") rfl)
  n_max := He.free_ok X G (c.fact 34 (f := .free "max") rfl)
  n_min := He.free_ok X G (c.fact 35 (f := .free "min") rfl)
  n_range := He.free_ok X G (c.fact 36 (f := .free "range") rfl)
  n_str := He.free_ok X G (c.fact 37 (f := .free "str") rfl)
  n_tuple := He.free_ok X G (c.fact 38 (f := .free "tuple") rfl)
  n_zip := He.free_ok X G (c.fact 39 (f := .free "zip") rfl)
  m_MOST_NUMBER := He.int_ok X G (c.fact 40 (f := .int "MOST_NUMBER" 999) rfl)
  m_MOST_PLACES := He.int_ok X G (c.fact 41 (f := .int "MOST_PLACES" 14) rfl)
  m_SIZE := He.int_ok X G (c.fact 42 (f := .int "SIZE" 4) rfl)
theorem hdLaw {P : Program} {w : World} {K : PySem.W.Frag} {h : Heap} {mg : Str → Option Value} {f : Addr} (X : K.In h) (G : h.Ns mainGlobals mg) (hfa : mg ("law" : Str) = some (.ref f)) (c : He.SaysD hdFa hdFn K) :
    ∃ fd : FuncData, (∀ (s : Shared) (v : Value), BindsTo s fd ⟨[v], []⟩ [("script", v)]) ∧ ∀ base : Heap, K.In base → base.Ns mainGlobals mg → FnOk P w K mg base (L2.CX P w) 11 f fd ["script"] (low K p_law) := by
  obtain ⟨fd, F⟩ := c.def_ 24 (d := hd_law) rfl
  have e := hfa.symm.trans (He.glo_ok X G (c.fact 24 (f := .glo "law") rfl))
  cases e
  have b := FunD.bindsA (ps := ["script"]) F fun _ _ _ _ _ _ us hl => match us, hl with | [_], _ => rfl
  refine ⟨fd, fun s v => b s [v] rfl, fun base _ _ => ?_⟩
  obtain ⟨f2, fd2, Fk, hm, _, _, st, F2⟩ := (h_law (P := P) (w := w) (base := base) (hdC X G c)).ex
  have e2 := hfa.symm.trans hm
  cases e2
  have e3 : fd2 = fd := by
    obtain ⟨_, _, _, _, _, _, _, _, _, _, _, l1, _⟩ := F2.ex
    obtain ⟨_, _, _, _, _, _, _, _, _, _, _, l2, _⟩ := F.ex
    rw [show (He.fAd K hd_law.at_) = He.ga K "law" from rfl] at l2
    rw [l1] at l2
    cases l2
    rfl
  rw [← e3]
  exact Fk
theorem hdSp {K : PySem.W.Frag} {H : Hp} {a : Addr} {ns : List Int} (hS : SqL K H a (ns.map V.int)) : low K p_law [.ref a] H (fun v _ => v = .bl true) (fun _ _ _ => False) := by
  refine ⟨[], [.d (.scr ns)], [], H, fun r _ => r = .d (.bl true), fun _ _ _ => False, ⟨Le.refl H, rfl, List.nodup_nil, fun a ha => by simp at ha, fun k a c h => by simp at h⟩, .cons (.scr hS) .nil, fun μ' => rfl, fun _ _ _ _ _ _ _ z => z.elim, fun r μ' A' G' H' v q _ _ rr => ?_⟩
  subst q
  cases rr
  rfl
end Lk61
open PySem PySem.W PySem.Calls PyProof.Rows
theorem PySem.Challenge.cw_takenorleft_k61_whole_strips_and_clashes_holds : PySem.Challenge.rw_takenorleft_k61_whole_strips_and_clashes.Holds := by
  w_on; o_law
  refine HandSHeadRun.head_any (r := OpenLaw.row PySem.Challenge.rw_takenorleft_k61_whole_strips_and_clashes) (q := view (OpenLaw.row PySem.Challenge.rw_takenorleft_k61_whole_strips_and_clashes).prog [35]) (H := Lk61.hdK) (ob := Lk61.hdOb) (M := 6000) (loose := Lk61.hdLoose) (d := HandSHeadRun.topDef (OpenLaw.row PySem.Challenge.rw_takenorleft_k61_whole_strips_and_clashes).prog 35) (kwd := []) Lk61.hdOb_eq
    (by kernel_rfl) (fun s => by kernel_rfl) Lk61.hdRun (by kernel_rfl) (by kernel_rfl) (by kernel_rfl) (by rfl) (by first | assumption | decide +kernel) (by decide +kernel) ⟨rfl, rfl, rfl, rfl, rfl, by decide +kernel⟩ ?hw ?hc
  case hw => w_witness2
  case hc =>
    refine L2.walk_ofE (l := PySem.Challenge.rw_takenorleft_k61_whole_strips_and_clashes) (n := 63) (k := 11) (x := "script") (CX := L2.CX0) rfl (by decide) (by kernel_rfl) ⟨rfl, by decide, by decide⟩ ?F (fun _ _ _ _ z => z)
    intro w mg fa h Y G hmg0
    obtain ⟨K, KX, c⟩ := Y
    have hmg : mg ("law" : PySem.Str) = some (.ref fa) := by
      have e : (HandSHeadRun.topDef (OpenLaw.row PySem.Challenge.rw_takenorleft_k61_whole_strips_and_clashes).prog 35).name = ("law" : PySem.Str) := by kernel_rfl
      rw [← e]
      exact hmg0
    obtain ⟨fd, hb, hF⟩ := Lk61.hdLaw (P := (PySem.Challenge.rw_takenorleft_k61_whole_strips_and_clashes).prog) (w := w) KX G hmg c
    exact ⟨K, fd, fun vs H Q _ => PL.low K Lk61.p_law vs H Q fun _ _ _ => False, KX, hb, fun H a ns hl _ hS => Lk61.hdSp hS, fun base kb gb => (hF base kb gb).ground⟩
