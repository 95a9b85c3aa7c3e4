import PyProof.Rows.All
import Wide.All
import OpenK.AllK
import Wide.FinOn
import HandS.ForMost
import HandS.ForExc
import HandS.CallSlots
import HandS.TupAny
import HandS.Deep
import HandS.TupMul
import HandS.Wide
import HandS.Style
import HandS.Conv
import HandS.Rev
import KE.DataEq
import HandS.Text
import HandS.IsInst
import KE.SortData
import HandS.DictTup
import HandS.TupLen
import KE.KDictDisplayH
import HandS.Defaults
import HandS.HeadEnd
import HandS.More
import PySem.Challenge.RW_wiresmeet_k74_whole_counts_round_and_rou
import HandS.HeadHook1
import HandS.HeadHook2
import HandS.Head0
import HandS.Head1
import HandS.Head2
set_option Elab.async false
set_option linter.all false
set_option autoImplicit false
set_option maxRecDepth 100000
namespace EV
open PySem PySem.Spec PyProof.Rows L2

/-! ### values -/
inductive PV where
  | non
  | bl (b : Bool)
  | int (i : Int)
  | str (x : Str)
  | tup (xs : List PV)
  | lst (xs : List PV)
  | scr (xs : List Int)
  | dct (ks vs : List PV)
  | ins (c : Str) (ns : List Str) (vs : List PV)
  | ref (n : Nat)

/-- what stands in the store -/
inductive SO where
  | lst (xs : List PV)
  | frz (v : PV)
  | dct (t : Bool) (ks vs : List PV)
  | ins (c : Str) (ns : List Str) (vs : List PV)

abbrev Rho := List (Option PV)
abbrev Mu := List SO
inductive R (α : Type) where
  | ok (a : α) (μ : Mu)
  | ex (e : PV) (μ : Mu)
  | bad
def R.bind {α β : Type} : R α → (α → Mu → R β) → R β
  | .ok a μ, f => f a μ
  | .ex e μ, _ => .ex e μ
  | .bad, _ => .bad
abbrev D := Rho → Mu → R PV
abbrev DT := Rho → Mu → R Bool
abbrev DA := Rho → Mu → R (List PV)
inductive F where
  | nx (ρ : Rho) (μ : Mu)
  | rt (v : PV) (μ : Mu)
  | bk (ρ : Rho) (μ : Mu)
  | ct (ρ : Rho) (μ : Mu)
  | ex (e : PV) (ρ : Rho) (μ : Mu)
  | bad
abbrev DS := Rho → Mu → F

/-! ### how values stand in a heap -/
abbrev Pd := Addr → Prop
def ScrAt (K : PySem.W.Frag) (Av : Pd) (H : Hp) (a : Addr) (xs : List V) : Prop :=
  (¬ Av a ∧ Rd H a (.lst xs)) ∨
    ∃ (o : Obj) (its : Array Value) (n : Nat), K.lookup a = some o ∧ o.cls = .type "list" ∧ o.dict = none ∧ o.data = .seq its n ∧ its.size ≤ sizeLine ∧ Vals xs its.toList
section
variable (K : PySem.W.Frag) (mg : Str → Option Value) (Av : Pd) (H : Hp)
mutual
def Rep : PV → V → Prop
  | .non, v => v = .non
  | .bl b, v => v = .bl b
  | .int i, v => v = .int i
  | .str x, v => v = .str x
  | .tup xs, v => ∃ a vs, v = .ref a ∧ ¬ Av a ∧ H a = some (.tup vs) ∧ Reps xs vs
  | .lst xs, v => ∃ a vs, v = .ref a ∧ ¬ Av a ∧ H a = some (.lst vs) ∧ Reps xs vs
  | .scr xs, v => ∃ a, v = .ref a ∧ ScrAt K Av H a (xs.map V.int)
  | .dct _ _, _ => False
  | .ins c ns vs, v => ∃ a C dx fs, v = .ref a ∧ ¬ Av a ∧ mg c = some (.ref C) ∧ H a = some (.ins C dx fs) ∧ fs.map (·.1) = ns ∧ Reps vs (fs.map (·.2))
  | .ref _, _ => False
def Reps : List PV → List V → Prop
  | [], vs => vs = []
  | x :: xs, vs => ∃ v r, vs = v :: r ∧ Rep x v ∧ Reps xs r
end
end


/-- the heap has gone on: as are the store's addresses, Av what values keep away from -/
structure Step (Av : Pd) (as : List Addr) (H : Hp) (Av' : Pd) (as' : List Addr) (H' : Hp) : Prop where
  ext : ∃ l, as' = as ++ l ∧ ∀ a ∈ l, H a = none
  keep : ∀ b o, H b = some o → (¬ Av b ∨ b ∉ as) → H' b = some o
  dom : ∀ b, H b ≠ none → H' b ≠ none
  av : ∀ b, H b ≠ none → Av' b → Av b
  out : ∀ b, H b ≠ none → Av b → b ∉ as → Av' b
theorem Step.refl {Av as H} : Step Av as H Av as H := ⟨⟨[], by simp, fun _ h => nomatch h⟩, fun _ _ h _ => h, fun _ h => h, fun _ _ h => h, fun _ _ h _ => h⟩
theorem Step.trans {Av as H Av1 as1 H1 Av2 as2 H2} (s : Step Av as H Av1 as1 H1) (t : Step Av1 as1 H1 Av2 as2 H2) : Step Av as H Av2 as2 H2 := by
  obtain ⟨l, rfl, hl⟩ := s.ext
  obtain ⟨l2, rfl, hl2⟩ := t.ext
  have nl : ∀ b, H b ≠ none → b ∉ as → b ∉ as ++ l := fun b hb hn hm => by
    rcases List.mem_append.mp hm with z | z
    · exact hn z
    · exact hb (hl b z)
  refine ⟨⟨l ++ l2, by simp, fun a ha => ?_⟩, fun b o hb hk => ?_, fun b hb => t.dom b (s.dom b hb), fun b hb h => s.av b hb (t.av b (s.dom b hb) h), fun b hb h1 hn => ?_⟩
  · rcases List.mem_append.mp ha with z | z
    · exact hl a z
    · cases q : H a with
      | none => rfl
      | some o => exact absurd (hl2 a z) (s.dom a (by rw [q]; simp))
  · have h1 := s.keep b o hb hk
    refine t.keep b o h1 ?_
    rcases hk with hk | hk
    · exact .inl fun z => hk (s.av b (by rw [hb]; simp) z)
    · exact .inr (nl b (by rw [hb]; simp) hk)
  · exact t.out b (s.dom b hb) (s.out b hb h1 hn) (nl b hb hn)

section
variable {K : PySem.W.Frag} {mg : Str → Option Value} {Av Av' Av1 Av2 : Pd} {H H' H1 H2 : Hp} {as as' as1 as2 : List Addr}
mutual
theorem Rep.keep (k : ∀ b o, H b = some o → ¬ Av b → H' b = some o ∧ ¬ Av' b) : ∀ (p : PV) (v : V), Rep K mg Av H p v → Rep K mg Av' H' p v
  | .non, v, h => h
  | .bl _, v, h => h
  | .int _, v, h => h
  | .str _, v, h => h
  | .tup xs, v, ⟨a, vs, e, n, q, r⟩ => ⟨a, vs, e, (k a _ q n).2, (k a _ q n).1, Reps.keep k xs vs r⟩
  | .lst xs, v, ⟨a, vs, e, n, q, r⟩ => ⟨a, vs, e, (k a _ q n).2, (k a _ q n).1, Reps.keep k xs vs r⟩
  | .scr xs, v, ⟨a, e, h⟩ => ⟨a, e, match h with
    | .inl ⟨n, .inl q⟩ => .inl ⟨(k a _ q n).2, .inl (k a _ q n).1⟩
    | .inl ⟨n, .inr ⟨o, q⟩⟩ => .inl ⟨(k a _ q n).2, .inr ⟨o, (k a _ q n).1⟩⟩
    | .inr q => .inr q⟩
  | .ins c ns vs, v, ⟨a, C, dx, fs, e, n, g, q, m, r⟩ => ⟨a, C, dx, fs, e, (k a _ q n).2, g, (k a _ q n).1, m, Reps.keep k vs _ r⟩
theorem Reps.keep (k : ∀ b o, H b = some o → ¬ Av b → H' b = some o ∧ ¬ Av' b) : ∀ (p : List PV) (v : List V), Reps K mg Av H p v → Reps K mg Av' H' p v
  | [], v, h => h
  | x :: xs, v, ⟨u, r, e, h1, h2⟩ => ⟨u, r, e, Rep.keep k x u h1, Reps.keep k xs r h2⟩
end
theorem Step.k (s : Step Av as H Av' as' H') : ∀ b o, H b = some o → ¬ Av b → H' b = some o ∧ ¬ Av' b := fun b o h n => ⟨s.keep b o h (.inl n), fun z => n (s.av b (by rw [h]; simp) z)⟩
/-- values stand -/
structure StepK (Av : Pd) (as : List Addr) (H : Hp) (Av' : Pd) (as' : List Addr) (H' : Hp) : Prop where
  ext : ∃ l, as' = as ++ l
  k : ∀ b o, H b = some o → ¬ Av b → H' b = some o ∧ ¬ Av' b
theorem Step.toK (s : Step Av as H Av' as' H') : StepK Av as H Av' as' H' := ⟨let ⟨l, e, _⟩ := s.ext; ⟨l, e⟩, s.k⟩
theorem StepK.refl : StepK Av as H Av as H := ⟨⟨[], by simp⟩, fun _ _ h n => ⟨h, n⟩⟩
theorem StepK.trans (s : StepK Av as H Av1 as1 H1) (t : StepK Av1 as1 H1 Av2 as2 H2) : StepK Av as H Av2 as2 H2 := by
  obtain ⟨l, rfl⟩ := s.ext
  obtain ⟨l2, rfl⟩ := t.ext
  exact ⟨⟨l ++ l2, by simp⟩, fun b o h n => let ⟨h1, n1⟩ := s.k b o h n; t.k b o h1 n1⟩
theorem Reps.len : ∀ {p : List PV} {v : List V}, Reps K mg Av H p v → v.length = p.length
  | [], v, h => by cases h; rfl
  | x :: xs, v, ⟨u, r, e, h1, h2⟩ => by subst e; simp [Reps.len h2]
theorem Reps.get : ∀ {p : List PV} {v : List V} {i : Nat} {x : PV}, Reps K mg Av H p v → p[i]? = some x → ∃ u, v[i]? = some u ∧ Rep K mg Av H x u
  | [], v, _, _, h, e => by simp at e
  | x :: xs, v, 0, y, ⟨u, r, e, h1, h2⟩, q => by subst e; simp at q; subst q; exact ⟨u, rfl, h1⟩
  | x :: xs, v, i + 1, y, ⟨u, r, e, h1, h2⟩, q => by subst e; simpa using Reps.get h2 (by simpa using q)
theorem Reps.get' : ∀ {p : List PV} {v : List V} {i : Nat} {u : V}, Reps K mg Av H p v → v[i]? = some u → ∃ x, p[i]? = some x ∧ Rep K mg Av H x u
  | [], v, _, _, h, e => by cases h; simp at e
  | x :: xs, v, 0, y, ⟨u, r, e, h1, h2⟩, q => by subst e; simp at q; subst q; exact ⟨x, rfl, h1⟩
  | x :: xs, v, i + 1, y, ⟨u, r, e, h1, h2⟩, q => by subst e; simpa using Reps.get' h2 (by simpa using q)
theorem Reps.append : ∀ {p q : List PV} {v w : List V}, Reps K mg Av H p v → Reps K mg Av H q w → Reps K mg Av H (p ++ q) (v ++ w)
  | [], q, v, w, h, h2 => by cases h; exact h2
  | x :: xs, q, v, w, ⟨u, r, e, h1, h2⟩, h3 => by subst e; exact ⟨u, r ++ w, rfl, h1, Reps.append h2 h3⟩
theorem Reps.set : ∀ {p : List PV} {v : List V} {x : PV} {u : V} (i : Nat), Reps K mg Av H p v → Rep K mg Av H x u → Reps K mg Av H (p.set i x) (v.set i u)
  | [], v, x, u, i, h, h2 => by cases h; simp [Reps]
  | y :: ys, v, x, u, 0, ⟨w, r, e, h1, h2⟩, h3 => by subst e; exact ⟨u, r, rfl, h3, h2⟩
  | y :: ys, v, x, u, i + 1, ⟨w, r, e, h1, h2⟩, h3 => by subst e; exact ⟨w, r.set i u, rfl, h1, Reps.set i h2 h3⟩
theorem Reps.take : ∀ {p : List PV} {v : List V} (i : Nat), Reps K mg Av H p v → Reps K mg Av H (p.take i) (v.take i)
  | [], v, i, h => by cases h; simp [Reps]
  | y :: ys, v, 0, h => by simp [Reps]
  | y :: ys, v, i + 1, ⟨w, r, e, h1, h2⟩ => by subst e; exact ⟨w, r.take i, rfl, h1, Reps.take i h2⟩
theorem Reps.drop : ∀ {p : List PV} {v : List V} (i : Nat), Reps K mg Av H p v → Reps K mg Av H (p.drop i) (v.drop i)
  | [], v, i, h => by cases h; simp [Reps]
  | y :: ys, v, 0, h => h
  | y :: ys, v, i + 1, ⟨w, r, e, h1, h2⟩ => by subst e; simpa using Reps.drop i h2
theorem Reps.eraseIdx : ∀ {p : List PV} {v : List V} (i : Nat), Reps K mg Av H p v → Reps K mg Av H (p.eraseIdx i) (v.eraseIdx i)
  | [], v, i, h => by cases h; simp [Reps]
  | y :: ys, v, 0, ⟨w, r, e, h1, h2⟩ => by subst e; exact h2
  | y :: ys, v, i + 1, ⟨w, r, e, h1, h2⟩ => by subst e; exact ⟨w, r.eraseIdx i, rfl, h1, Reps.eraseIdx i h2⟩
theorem Reps.reverse : ∀ {p : List PV} {v : List V}, Reps K mg Av H p v → Reps K mg Av H p.reverse v.reverse
  | [], v, h => by cases h; simp [Reps]
  | y :: ys, v, ⟨w, r, e, h1, h2⟩ => by
    subst e
    rw [List.reverse_cons, List.reverse_cons]
    exact Reps.append (Reps.reverse h2) ⟨w, [], rfl, h1, rfl⟩
theorem Reps.ints : ∀ {ns : List Int} {v : List V}, Reps K mg Av H (ns.map PV.int) v → v = ns.map V.int
  | [], v, h => by cases h; rfl
  | n :: ns, v, ⟨u, r, e, h1, h2⟩ => by subst e; cases h1; rw [Reps.ints h2]; rfl
theorem Reps.ofInts : ∀ {ns : List Int}, Reps K mg Av H (ns.map PV.int) (ns.map V.int)
  | [] => rfl
  | n :: ns => ⟨_, _, rfl, rfl, Reps.ofInts⟩

/-- keys of dicts: numbers and texts; flat tuples of these -/
def skey : PV → Option Key
  | .int i => some (.inl i)
  | .str x => some (.inr x)
  | _ => none
def skeys : List PV → Option (List Key)
  | [] => some []
  | x :: xs => match skey x with
    | some k => match skeys xs with
      | some ks => some (k :: ks)
      | none => none
    | none => none
def tkey : PV → Option (List Key)
  | .tup xs => skeys xs
  | _ => none
def tkeys : List PV → Option (List (List Key))
  | [] => some []
  | x :: xs => match tkey x with
    | some k => match tkeys xs with
      | some ks => some (k :: ks)
      | none => none
    | none => none
/-- a thing of the store -/
def SOk (K : PySem.W.Frag) (mg : Str → Option Value) (Av : Pd) (H : Hp) (a : Addr) : SO → Prop
  | .lst xs => Av a ∧ ∃ vs, H a = some (.lst vs) ∧ Reps K mg Av H xs vs
  | .frz v => Rep K mg Av H v (.ref a)
  | .dct true ks vs => Av a ∧ ∃ kvs, H a = some (.dT kvs) ∧ tkeys ks = some (kvs.map (·.1)) ∧ Reps K mg Av H vs (kvs.map (·.2))
  | .dct false ks vs => Av a ∧ ∃ kvs, H a = some (.dK kvs) ∧ skeys ks = some (kvs.map (·.1)) ∧ Reps K mg Av H vs (kvs.map (·.2))
  | .ins c ns vs => Av a ∧ ∃ C dx fs, mg c = some (.ref C) ∧ H a = some (.ins C dx fs) ∧ fs.map (·.1) = ns ∧ Reps K mg Av H vs (fs.map (·.2))
/-- a value at the top: a thing of the store, or a value -/
def RepT (K : PySem.W.Frag) (mg : Str → Option Value) (Av : Pd) (as : List Addr) (H : Hp) : PV → V → Prop
  | .ref n, v => ∃ a, as[n]? = some a ∧ v = .ref a
  | p, v => Rep K mg Av H p v
def RepTs (K : PySem.W.Frag) (mg : Str → Option Value) (Av : Pd) (as : List Addr) (H : Hp) : List PV → List V → Prop
  | [], vs => vs = []
  | x :: xs, vs => ∃ v r, vs = v :: r ∧ RepT K mg Av as H x v ∧ RepTs K mg Av as H xs r
theorem Rep.top {p : PV} {v : V} (h : Rep K mg Av H p v) : RepT K mg Av as H p v := by
  cases p <;> first | exact h | exact (False.elim h)
/-- the store and the slots -/
structure SM (K : PySem.W.Frag) (mg : Str → Option Value) (Av : Pd) (as : List Addr) (μ : Mu) (H : Hp) : Prop where
  trk : ∀ a, Av a → H a ≠ none
  tv : ∀ a xs, Av a → H a ≠ some (.tup xs)
  atr : ∀ a ∈ as, H a ≠ none
  nd : as.Nodup
  len : as.length = μ.length
  obj : ∀ (n : Nat) (a : Addr) (o : SO), as[n]? = some a → μ[n]? = some o → SOk K mg Av H a o
structure SR (K : PySem.W.Frag) (mg : Str → Option Value) (Av : Pd) (as : List Addr) (ρ : Rho) (μ : Mu) (σ : L2.St) (H : Hp) : Prop where
  sm : SM K mg Av as μ H
  slen : ρ.length = σ.length
  slot : ∀ (i : Nat) (p : PV), ρ[i]? = some (some p) → ∃ v, σ[i]? = some (some v) ∧ RepT K mg Av as H p v
theorem StepK.top (s : StepK Av as H Av' as' H') {p : PV} {v : V} (h : RepT K mg Av as H p v) : RepT K mg Av' as' H' p v := by
  cases p with
  | ref n =>
    obtain ⟨a, e, q⟩ := h
    obtain ⟨l, rfl⟩ := s.ext
    have hn : n < as.length := (List.getElem?_eq_some_iff.mp e).1
    exact ⟨a, by rw [List.getElem?_append_left hn]; exact e, q⟩
  | _ => exact Rep.keep s.k _ _ h
theorem StepK.reps (s : StepK Av as H Av' as' H') {p : List PV} {v : List V} (h : Reps K mg Av H p v) : Reps K mg Av' H' p v := Reps.keep s.k _ _ h
theorem Step.top (s : Step Av as H Av' as' H') {p : PV} {v : V} (h : RepT K mg Av as H p v) : RepT K mg Av' as' H' p v := s.toK.top h
theorem Step.tops (s : Step Av as H Av' as' H') : ∀ {p : List PV} {v : List V}, RepTs K mg Av as H p v → RepTs K mg Av' as' H' p v
  | [], v, h => h
  | x :: xs, v, ⟨u, r, e, h1, h2⟩ => ⟨u, r, e, s.top h1, s.tops h2⟩
theorem Step.reps (s : Step Av as H Av' as' H') {p : List PV} {v : List V} (h : Reps K mg Av H p v) : Reps K mg Av' H' p v := Reps.keep s.k _ _ h
end

/-! ### readings by denotations -/
section
variable (K : PySem.W.Frag) (mg : Str → Option Value)
/-- an exception in the air -/
def ExRep (Av : Pd) (H : Hp) (e : PV) (cls : Value) (d : Option Addr) : Prop :=
  ∃ c ns vs C dd fs, e = .ins c ns vs ∧ mg c = some (.ref C) ∧ cls = .ref C ∧ d = some dd ∧ ¬ Av dd ∧ H dd = some (.xd fs) ∧ fs.map (·.1) = ns ∧ Reps K mg Av H vs (fs.map (·.2))
def Wp {β : Type} (W : WX) (Av : Pd) (as : List Addr) (ρ : Rho) (σ : L2.St) (H : Hp) (r : R β) (P : Pd → List Addr → Hp → β → Mu → Prop) : Prop :=
  match r with
  | .ok v μ' => ∀ Av' as' H', Step Av as H Av' as' H' → SR K mg Av' as' ρ μ' σ H' → P Av' as' H' v μ'
  | .ex e μ' => ∀ Av' as' H' cls d, Step Av as H Av' as' H' → SR K mg Av' as' ρ μ' σ H' → ExRep K mg Av' H' e cls d → W cls d σ H'
  | .bad => False
def tD (W : WX) (d : D) : TE := fun σ H Q => ∃ Av as ρ μ, SR K mg Av as ρ μ σ H ∧ Wp K mg W Av as ρ σ H (d ρ μ) fun Av' as' H' v _ => ∀ x, RepT K mg Av' as' H' v x → Q x H'
def tDT (W : WX) (d : DT) : TT := fun σ H Q => ∃ Av as ρ μ, SR K mg Av as ρ μ σ H ∧ Wp K mg W Av as ρ σ H (d ρ μ) fun _ _ H' b _ => Q b H'
def tDA (W : WX) (d : DA) : TA := fun σ H Q => ∃ Av as ρ μ, SR K mg Av as ρ μ σ H ∧ Wp K mg W Av as ρ σ H (d ρ μ) fun Av' as' H' v _ => ∀ x, RepTs K mg Av' as' H' v x → Q x H'
/-- a new list: p, that nothing else knows -/
def tF (W : WX) (d : DA) : TE := fun σ H Q => ∃ Av as ρ μ, SR K mg Av as ρ μ σ H ∧ Wp K mg W Av as ρ σ H (d ρ μ) fun Av' as' H' xs _ => ∀ p vs, Av' p → p ∉ as' → H p = none → H' p = some (.lst vs) → Reps K mg Av' H' xs vs → Q (.ref p) H'
/-- how a statement may end -/
def SW (W : WX) (E : Ends) (Av : Pd) (as : List Addr) (H : Hp) : F → Prop
  | .nx ρ' μ' => ∀ Av' as' H' σ', Step Av as H Av' as' H' → SR K mg Av' as' ρ' μ' σ' H' → E.nx σ' H'
  | .bk ρ' μ' => ∀ Av' as' H' σ', Step Av as H Av' as' H' → SR K mg Av' as' ρ' μ' σ' H' → E.bk σ' H'
  | .ct ρ' μ' => ∀ Av' as' H' σ', Step Av as H Av' as' H' → SR K mg Av' as' ρ' μ' σ' H' → E.ct σ' H'
  | .rt v μ' => ∀ Av' as' H' x, Step Av as H Av' as' H' → SM K mg Av' as' μ' H' → RepT K mg Av' as' H' v x → E.rt x H'
  | .ex e ρ' μ' => ∀ Av' as' H' σ' cls d, Step Av as H Av' as' H' → SR K mg Av' as' ρ' μ' σ' H' → ExRep K mg Av' H' e cls d → W cls d σ' H'
  | .bad => False
def tS (W : WX) (s : DS) : TS := fun E σ H => ∃ Av as ρ μ, SR K mg Av as ρ μ σ H ∧ SW K mg W E Av as H (s ρ μ)
end
section
variable {K : PySem.W.Frag} {mg : Str → Option Value} {W : WX} {Av Av' Av1 Av2 : Pd} {H H' H1 H2 : Hp} {as as' as1 as2 : List Addr} {ρ : Rho} {μ μ' : Mu} {σ : L2.St} {β γ : Type}
theorem Wp.mono {r : R β} {P P' : Pd → List Addr → Hp → β → Mu → Prop} (h : Wp K mg W Av as ρ σ H r P)
    (m : ∀ Av' as' H' v μ', r = .ok v μ' → Step Av as H Av' as' H' → SR K mg Av' as' ρ μ' σ H' → P Av' as' H' v μ' → P' Av' as' H' v μ') : Wp K mg W Av as ρ σ H r P' := by
  cases r with
  | ok v μ' => exact fun Av' as' H' s q => m Av' as' H' v μ' rfl s q (h Av' as' H' s q)
  | ex e μ' => exact h
  | bad => exact h
/-- from a first part to a whole -/
theorem Wp.bind {r : R β} {k : β → Mu → R γ} {P : Pd → List Addr → Hp → γ → Mu → Prop} (h : Wp K mg W Av as ρ σ H (r.bind k) P) :
    Wp K mg W Av as ρ σ H r fun Av1 as1 H1 v μ1 => Wp K mg W Av1 as1 ρ σ H1 (k v μ1) P := by
  cases r with
  | ok v μ1 =>
    intro Av1 as1 H1 s1 S1
    have h' : Wp K mg W Av as ρ σ H (k v μ1) P := h
    show Wp K mg W Av1 as1 ρ σ H1 (k v μ1) P
    generalize k v μ1 = q at h' ⊢
    cases q with
    | ok w μ2 => exact fun Av2 as2 H2 s2 S2 => h' Av2 as2 H2 (s1.trans s2) S2
    | ex e μ2 => exact fun Av2 as2 H2 cls d s2 S2 => h' Av2 as2 H2 cls d (s1.trans s2) S2
    | bad => exact h'
  | ex e μ1 => exact h
  | bad => exact h
theorem Wp.here {v : β} {P : Pd → List Addr → Hp → β → Mu → Prop} (h : Wp K mg W Av as ρ σ H (.ok v μ) P) (S : SR K mg Av as ρ μ σ H) : P Av as H v μ := h _ _ _ .refl S
/-- a part's reading, the whole's being wanted -/
theorem tD.go {d : D} {Q : VK} {P : Pd → List Addr → Hp → PV → Mu → Prop} (S : SR K mg Av as ρ μ σ H) (h : Wp K mg W Av as ρ σ H (d ρ μ) P)
    (q : ∀ Av1 as1 H1 v μ1 x, Step Av as H Av1 as1 H1 → SR K mg Av1 as1 ρ μ1 σ H1 → RepT K mg Av1 as1 H1 v x → P Av1 as1 H1 v μ1 → Q x H1) : tD K mg W d σ H Q :=
  ⟨Av, as, ρ, μ, S, h.mono fun Av' as' H' v μ' _ s S' p x r => q Av' as' H' v μ' x s S' r p⟩
theorem tDT.go {d : DT} {Q : Bool → Hp → Prop} {P : Pd → List Addr → Hp → Bool → Mu → Prop} (S : SR K mg Av as ρ μ σ H) (h : Wp K mg W Av as ρ σ H (d ρ μ) P)
    (q : ∀ Av1 as1 H1 v μ1, Step Av as H Av1 as1 H1 → SR K mg Av1 as1 ρ μ1 σ H1 → P Av1 as1 H1 v μ1 → Q v H1) : tDT K mg W d σ H Q :=
  ⟨Av, as, ρ, μ, S, h.mono fun Av' as' H' v μ' _ s S' p => q Av' as' H' v μ' s S' p⟩
theorem tDA.go {d : DA} {Q : List V → Hp → Prop} {P : Pd → List Addr → Hp → List PV → Mu → Prop} (S : SR K mg Av as ρ μ σ H) (h : Wp K mg W Av as ρ σ H (d ρ μ) P)
    (q : ∀ Av1 as1 H1 v μ1 x, Step Av as H Av1 as1 H1 → SR K mg Av1 as1 ρ μ1 σ H1 → RepTs K mg Av1 as1 H1 v x → P Av1 as1 H1 v μ1 → Q x H1) : tDA K mg W d σ H Q :=
  ⟨Av, as, ρ, μ, S, h.mono fun Av' as' H' v μ' _ s S' p x r => q Av' as' H' v μ' x s S' r p⟩
theorem tF.go {d : DA} {Q : VK} {P : Pd → List Addr → Hp → List PV → Mu → Prop} (S : SR K mg Av as ρ μ σ H) (h : Wp K mg W Av as ρ σ H (d ρ μ) P)
    (q : ∀ Av1 as1 H1 v μ1 p vs, Step Av as H Av1 as1 H1 → SR K mg Av1 as1 ρ μ1 σ H1 → Av1 p → p ∉ as1 → H p = none → H1 p = some (.lst vs) → Reps K mg Av1 H1 v vs → P Av1 as1 H1 v μ1 → Q (.ref p) H1) : tF K mg W d σ H Q :=
  ⟨Av, as, ρ, μ, S, h.mono fun Av' as' H' v μ' _ s S' p x vs a b c d e => q Av' as' H' v μ' x vs s S' a b c d e p⟩
end
section
variable {X : Cx} {e : Expr} {t t' : TE}
theorem _root_.L2.PE.imp (h : PE X e t) (i : ∀ σ H Q, t' σ H Q → t σ H Q) : PE X e t' := ⟨fun pins s σ H Q I q => h.run pins s σ H Q I (i σ H Q q)⟩
theorem _root_.L2.PT.imp {t t' : TT} (h : PT X e t) (i : ∀ σ H Q, t' σ H Q → t σ H Q) : PT X e t' := ⟨fun pins s σ H Q I q => h.run pins s σ H Q I (i σ H Q q)⟩
theorem _root_.L2.PW.imp {t t' : TT} (h : PW X e t) (i : ∀ σ H Q, t' σ H Q → t σ H Q) : PW X e t' := ⟨fun w pins s σ H Q I q => h.run w pins s σ H Q I (i σ H Q q)⟩
theorem _root_.L2.PA.imp {es : List Expr} {t t' : TA} (h : PA X es t) (i : ∀ σ H Q, t' σ H Q → t σ H Q) : PA X es t' := ⟨fun p pins s σ H Q I q => h.run p pins s σ H Q I (i σ H Q q)⟩
theorem _root_.L2.PS.imp {st : Stmt} {t t' : TS} (h : PS X st t) (i : ∀ D σ H, t' D σ H → t D σ H) : PS X st t' := ⟨fun pins s σ H D I q => h.run pins s σ H D I (i D σ H q)⟩
theorem _root_.L2.PSs.imp {st : List Stmt} {t t' : TS} (h : PSs X st t) (i : ∀ D σ H, t' D σ H → t D σ H) : PSs X st t' := ⟨fun pins s σ H D I q => h.run pins s σ H D I (i D σ H q)⟩
end
end EV

set_option Elab.async false
set_option linter.all false
set_option autoImplicit false
set_option maxRecDepth 100000
namespace EV
open PySem PySem.Spec PyProof.Rows L2

section
variable {K : PySem.W.Frag} {mg : Str → Option Value} {W : WX} {Av Av' Av1 Av2 : Pd} {H H' H1 H2 : Hp} {as as' as1 as2 : List Addr} {ρ : Rho} {μ μ' : Mu} {σ : L2.St} {β γ : Type}
/-- Av with p -/
def plus (Av : Pd) (p : Addr) : Pd := fun a => Av a ∨ a = p
/-- Av without p -/
def less (Av : Pd) (p : Addr) : Pd := fun a => Av a ∧ a ≠ p
theorem SM.avFree (S : SM K mg Av as μ H) {p : Addr} (h : H p = none) : ¬ Av p := fun z => S.trk p z h
/-- a new object, that is avoided -/
theorem step_new {p : Addr} {o : HO} (h : H p = none) : Step Av as H (plus Av p) as (upd H p o) := by
  refine ⟨⟨[], by simp, fun _ z => nomatch z⟩, fun b u hb _ => ?_, fun b hb => ?_, fun b hb z => ?_, fun b _ z _ => .inl z⟩
  · rw [upd_ne (ne_of_none hb h)]; exact hb
  · by_cases e : b = p
    · subst e; rw [upd_same]; simp
    · rw [upd_ne e]; exact hb
  · rcases z with z | z
    · exact z
    · subst z; exact absurd h hb
theorem step_newv {p : Addr} {o : HO} (h : H p = none) : Step Av as H Av as (upd H p o) := by
  refine ⟨⟨[], by simp, fun _ z => nomatch z⟩, fun b u hb _ => ?_, fun b hb => ?_, fun b hb z => z, fun b _ z _ => z⟩
  · rw [upd_ne (ne_of_none hb h)]; exact hb
  · by_cases e : b = p
    · subst e; rw [upd_same]; simp
    · rw [upd_ne e]; exact hb
theorem SOk.step {a : Addr} (k : ∀ b o, H b = some o → ¬ Av b → H' b = some o ∧ ¬ Av' b) (ka : ∀ o, Av a → H a = some o → H' a = some o) (kv : Av a → Av' a) : ∀ {o : SO}, SOk K mg Av H a o → SOk K mg Av' H' a o
  | .lst xs, ⟨h1, vs, h2, h3⟩ => ⟨kv h1, vs, ka _ h1 h2, Reps.keep k _ _ h3⟩
  | .frz v, h => Rep.keep k _ _ h
  | .dct true ks vs, ⟨h1, kvs, h2, h3, h4⟩ => ⟨kv h1, kvs, ka _ h1 h2, h3, Reps.keep k _ _ h4⟩
  | .dct false ks vs, ⟨h1, kvs, h2, h3, h4⟩ => ⟨kv h1, kvs, ka _ h1 h2, h3, Reps.keep k _ _ h4⟩
  | .ins c ns vs, ⟨h1, C, dx, fs, h2, h3, h4, h5⟩ => ⟨kv h1, C, dx, fs, h2, ka _ h1 h3, h4, Reps.keep k _ _ h5⟩
/-- the store stands when nothing tracked is touched -/
theorem SM.grow (S : SM K mg Av as μ H) (k : ∀ b o, H b = some o → H' b = some o) (av : ∀ b, H b ≠ none → (Av' b ↔ Av b)) (trk : ∀ a, Av' a → H' a ≠ none) (tv : ∀ a xs, Av' a → H a = none → H' a ≠ some (.tup xs)) : SM K mg Av' as μ H' := by
  refine ⟨trk, fun a xs z => ?_, fun a ha => ?_, S.nd, S.len, fun n a o h1 h2 => ?_⟩
  · cases q : H a with
    | none => exact tv a xs z q
    | some o =>
      rw [k a o q, ← q]
      exact S.tv a xs ((av a (by rw [q]; simp)).mp z)
  · cases q : H a with
    | none => exact absurd q (S.atr a ha)
    | some o => rw [k a o q]; simp
  exact SOk.step (fun b o hb n => ⟨k b o hb, fun z => n ((av b (by rw [hb]; simp)).mp z)⟩) (fun o _ h => k a o h) (fun z => (av a (S.trk a z)).mpr z) (S.obj n a o h1 h2)
theorem SR.grow (S : SR K mg Av as ρ μ σ H) (s : Step Av as H Av' as H') (k : ∀ b o, H b = some o → H' b = some o) (av : ∀ b, H b ≠ none → (Av' b ↔ Av b)) (trk : ∀ a, Av' a → H' a ≠ none) (tv : ∀ a xs, Av' a → H a = none → H' a ≠ some (.tup xs)) : SR K mg Av' as ρ μ σ H' :=
  ⟨S.sm.grow k av trk tv, S.slen, fun i p h => let ⟨v, e, r⟩ := S.slot i p h; ⟨v, e, s.top r⟩⟩
theorem upd_keep {p : Addr} {o : HO} (h : H p = none) : ∀ b u, H b = some u → upd H p o b = some u := fun b u hb => by rw [upd_ne (ne_of_none hb h)]; exact hb
/-- a new object of which nothing in the store is told -/
theorem SR.newv (S : SR K mg Av as ρ μ σ H) {p : Addr} {o : HO} (h : H p = none) : SR K mg Av as ρ μ σ (upd H p o) :=
  S.grow (step_newv h) (upd_keep h) (fun _ _ => Iff.rfl) (fun a z => by
    have := S.sm.trk a z
    by_cases e : a = p
    · subst e; exact absurd h this
    · rw [upd_ne e]; exact this) fun a xs z hn => absurd hn (S.sm.trk a z)
theorem SR.newp (S : SR K mg Av as ρ μ σ H) {p : Addr} {o : HO} (h : H p = none) (ho : ∀ xs, o ≠ .tup xs := by intro _ z; cases z) : SR K mg (plus Av p) as ρ μ σ (upd H p o) :=
  S.grow (step_new h) (upd_keep h) (fun b hb => ⟨fun z => by rcases z with z | z; exact z; subst z; exact absurd h hb, .inl⟩) (fun a z => by
    by_cases e : a = p
    · subst e; rw [upd_same]; simp
    · rw [upd_ne e]
      rcases z with z | z
      · exact S.sm.trk a z
      · exact absurd z e) fun a xs z hn => by
    rcases z with z | z
    · exact absurd hn (S.sm.trk a z)
    · subst z
      rw [upd_same]
      exact fun e => ho xs (Option.some.inj e)
theorem SM.notas (S : SM K mg Av as μ H) {p : Addr} (h : H p = none) : p ∉ as := fun hm => S.atr p hm h
/-- a list that stands alone becomes a value -/
theorem SR.release (S : SR K mg Av as ρ μ σ H) {p : Addr} (hp : p ∉ as) : SR K mg (less Av p) as ρ μ σ H := by
  have k : ∀ b o, H b = some o → ¬ Av b → H b = some o ∧ ¬ less Av p b := fun b o h n => ⟨h, fun z => n z.1⟩
  refine ⟨⟨fun a z => S.sm.trk a z.1, fun a xs z => S.sm.tv a xs z.1, S.sm.atr, S.sm.nd, S.sm.len, fun n a o h1 h2 => ?_⟩, S.slen, fun i q h => ?_⟩
  · have ha : a ≠ p := fun e => hp (e ▸ List.mem_of_getElem? h1)
    exact SOk.step k (fun _ _ h => h) (fun z => ⟨z, ha⟩) (S.sm.obj n a o h1 h2)
  · obtain ⟨v, e, r⟩ := S.slot i q h
    refine ⟨v, e, ?_⟩
    cases q with
    | ref n => exact r
    | _ => exact Rep.keep k _ _ r
theorem Step.release (s : Step Av as H Av' as' H') {p : Addr} (h : H p = none) : Step Av as H (less Av' p) as' H' :=
  ⟨s.ext, s.keep, s.dom, fun b hb z => s.av b hb z.1, fun b hb z n => ⟨s.out b hb z n, fun e => hb (e ▸ h)⟩⟩
theorem Reps.less {p : Addr} {xs : List PV} {vs : List V} (r : Reps K mg Av H xs vs) : Reps K mg (less Av p) H xs vs := Reps.keep (fun _ _ h n => ⟨h, fun z => n z.1⟩) _ _ r
/-- .. or a thing of the store -/
theorem SR.alloc (S : SR K mg Av as ρ μ σ H) {p : Addr} {xs : List PV} {vs : List V} (hp : p ∉ as) (av : Av p) (h : H p = some (.lst vs)) (r : Reps K mg Av H xs vs) : SR K mg Av (as ++ [p]) ρ (μ ++ [.lst xs]) σ H := by
  refine ⟨⟨S.sm.trk, S.sm.tv, fun a ha => ?_, ?_, ?_, fun n a o h1 h2 => ?_⟩, S.slen, fun i q hq => ?_⟩
  · rcases List.mem_append.mp ha with z | z
    · exact S.sm.atr a z
    · simp at z; subst z; rw [h]; simp
  · refine List.nodup_append.mpr ⟨S.sm.nd, by simp, fun a ha b hb e => ?_⟩
    simp at hb; subst hb; subst e; exact hp ha
  · simp [S.sm.len]
  · by_cases hn : n < as.length
    · rw [List.getElem?_append_left hn] at h1
      rw [List.getElem?_append_left (by rw [← S.sm.len]; exact hn)] at h2
      exact S.sm.obj n a o h1 h2
    · have hn' : as.length ≤ n := by omega
      rw [List.getElem?_append_right hn'] at h1
      rw [List.getElem?_append_right (by rw [← S.sm.len]; exact hn')] at h2
      have e0 : n - as.length = 0 := by
        have := (List.getElem?_eq_some_iff.mp h1).1
        simp at this; omega
      rw [e0] at h1
      rw [← S.sm.len, e0] at h2
      simp at h1 h2
      subst h1 h2
      exact ⟨av, vs, h, r⟩
  · obtain ⟨v, e, z⟩ := S.slot i q hq
    refine ⟨v, e, ?_⟩
    cases q with
    | ref n =>
      obtain ⟨a, e1, e2⟩ := z
      exact ⟨a, by rw [List.getElem?_append_left (List.getElem?_eq_some_iff.mp e1).1]; exact e1, e2⟩
    | _ => exact z
theorem Step.alloc (s : Step Av as H Av' as' H') {p : Addr} (h : H p = none) : Step Av as H Av' (as' ++ [p]) H' := by
  obtain ⟨l, rfl, hl⟩ := s.ext
  refine ⟨⟨l ++ [p], by simp, fun a ha => ?_⟩, s.keep, s.dom, s.av, s.out⟩
  rcases List.mem_append.mp ha with z | z
  · exact hl a z
  · simp at z; subst z; exact h
end

/-! ### the denotations of expressions -/
def dV (i : Nat) : D := fun ρ μ => match ρ[i]? with
  | some (some v) => .ok v μ
  | _ => .bad
def dK (v : PV) : D := fun _ μ => .ok v μ
/-- a new list as a value; as a thing of the store -/
def dL (d : DA) : D := fun ρ μ => (d ρ μ).bind fun xs μ1 => .ok (.lst xs) μ1
def dN (d : DA) : D := fun ρ μ => (d ρ μ).bind fun xs μ1 => .ok (.ref μ1.length) (μ1 ++ [.lst xs])
/-- a thing of the store becomes a value for good -/
def fzv (v : PV) (μ : Mu) : R PV := match v with
  | .ref n => match μ[n]? with
    | some (.lst xs) => .ok (.lst xs) (μ.set n (.frz (.lst xs)))
    | some (.frz w) => .ok w μ
    | some (.ins c ns vs) => .ok (.ins c ns vs) (μ.set n (.frz (.ins c ns vs)))
    | _ => .bad
  | w => .ok w μ
def dZ (d : D) : D := fun ρ μ => (d ρ μ).bind fzv
def d2 (f : PV → PV → Mu → R PV) (a b : D) : D := fun ρ μ => (a ρ μ).bind fun x μ1 => (b ρ μ1).bind fun y μ2 => f x y μ2
def d1 (f : PV → Mu → R PV) (a : D) : D := fun ρ μ => (a ρ μ).bind fun x μ1 => f x μ1
def dT (d : D) : DT := fun ρ μ => (d ρ μ).bind fun v μ1 => match v with
  | .bl b => .ok b μ1
  | _ => .bad
def dTv (d : DT) : D := fun ρ μ => (d ρ μ).bind fun b μ1 => .ok (.bl b) μ1
def dAnd (a b : DT) : DT := fun ρ μ => (a ρ μ).bind fun x μ1 => if x then b ρ μ1 else .ok false μ1
def dOr (a b : DT) : DT := fun ρ μ => (a ρ μ).bind fun x μ1 => if x then .ok true μ1 else b ρ μ1
def dNot (a : DT) : DT := fun ρ μ => (a ρ μ).bind fun x μ1 => .ok (!x) μ1
def dIf (c : DT) (a b : D) : D := fun ρ μ => (c ρ μ).bind fun x μ1 => if x then a ρ μ1 else b ρ μ1
def dNil : DA := fun _ μ => .ok [] μ
def dCons (a : D) (r : DA) : DA := fun ρ μ => (a ρ μ).bind fun x μ1 => (r ρ μ1).bind fun xs μ2 => .ok (x :: xs) μ2
def lim (n : Nat) : Bool := Nat.ble n 16777216
def dTup (d : DA) : D := fun ρ μ => (d ρ μ).bind fun xs μ1 => if lim xs.length then .ok (.tup xs) μ1 else .bad
def dLst (d : DA) : DA := fun ρ μ => (d ρ μ).bind fun xs μ1 => if lim xs.length then .ok xs μ1 else .bad
theorem lim_ok {n : Nat} (h : lim n = true) : n ≤ sizeLine := by rw [sizeLine_eq]; exact Nat.le_of_ble_eq_true h

section
variable {X : Cx} {W : WX} {e a b c : Expr} {da db : D} {ta tb tc : DT} {pos : Pos}
abbrev tE (X : Cx) (W : WX) (d : D) : TE := tD X.K X.mg W d
abbrev tB (X : Cx) (W : WX) (d : DT) : TT := tDT X.K X.mg W d
theorem e_var (i : Nat) {x : Str} (hN : X.N[i]? = some x := by rfl) (hv : Vis X.env.scope x := by first | exact Or.inl rfl | exact Or.inr (Or.inl rfl) | exact Or.inr (Or.inr rfl)) (hd : (x == ("__debug__" : Str)) = false := by decide)
    (hcd : (x == ("__classdict__" : Str)) = false := by decide) : PE X (.Name x pos) (tE X W (dV i)) :=
  (pe_var hN hv hd hcd).imp fun σ H Q ⟨Av, as, ρ, μ, S, h⟩ => by
    unfold dV at h
    split at h
    · rename_i v e
      obtain ⟨u, e2, r⟩ := S.slot i v e
      exact ⟨u, e2, h.here S u r⟩
    · exact h.elim
theorem tDC {v : PV} {u : V} (r : ∀ Av H, Rep X.K X.mg Av H v u) : ∀ σ H Q, tE X W (dK v) σ H Q → tC u σ H Q := fun σ H Q ⟨Av, as, ρ, μ, S, h⟩ => h.here S u (r _ _).top
theorem e_int {i : Int} {j : Nat} : PE X (.Constant (.int i) j pos) (tE X W (dK (.int i))) := pe_int.imp (tDC fun _ _ => rfl)
theorem e_bl {i : Bool} {j : Nat} : PE X (.Constant (.bool i) j pos) (tE X W (dK (.bl i))) := pe_bl.imp (tDC fun _ _ => rfl)
theorem e_str {i : Str} {j : Nat} : PE X (.Constant (.str i) j pos) (tE X W (dK (.str i))) := pe_str.imp (tDC fun _ _ => rfl)
theorem e_non {j : Nat} : PE X (.Constant .none j pos) (tE X W (dK .non)) := pe_non.imp (tDC fun _ _ => rfl)
theorem e_pure {d : DA} (h : PE X e (tF X.K X.mg W d)) : PE X e (tE X W (dL d)) :=
  h.imp fun σ H Q ⟨Av, as, ρ, μ, S, h⟩ => ⟨Av, as, ρ, μ, S, by
    unfold dL at h
    generalize d ρ μ = r at h ⊢
    cases r with
    | ok xs μ1 =>
      intro Av' as' H' s S' p vs h1 h2 h3 h4 h5
      exact h _ _ _ (s.release h3) (S'.release h2) (.ref p) ⟨p, vs, rfl, fun z => z.2 rfl, h4, h5.less⟩
    | ex e μ1 => exact h
    | bad => exact h⟩
theorem e_new {d : DA} (h : PE X e (tF X.K X.mg W d)) : PE X e (tE X W (dN d)) :=
  h.imp fun σ H Q ⟨Av, as, ρ, μ, S, h⟩ => ⟨Av, as, ρ, μ, S, by
    unfold dN at h
    generalize d ρ μ = r at h ⊢
    cases r with
    | ok xs μ1 =>
      intro Av' as' H' s S' p vs h1 h2 h3 h4 h5
      refine h _ _ _ (s.alloc h3) (S'.alloc h2 h1 h4 h5) (.ref p) ⟨p, ?_, rfl⟩
      rw [← S'.sm.len]; simp
    | ex e μ1 => exact h
    | bad => exact h⟩
theorem fz_ok {K : PySem.W.Frag} {mg : Str → Option Value} {Av : Pd} {H : Hp} {as : List Addr} {ρ : Rho} {μ : Mu} {σ : L2.St} {v : PV} {u : V} {P : Pd → List Addr → Hp → PV → Mu → Prop}
    (S : SR K mg Av as ρ μ σ H) (r : RepT K mg Av as H v u) (h : Wp K mg W Av as ρ σ H (fzv v μ) P) :
    ∃ Av' w μ', fzv v μ = .ok w μ' ∧ Step Av as H Av' as H ∧ SR K mg Av' as ρ μ' σ H ∧ Rep K mg Av' H w u ∧ P Av' as H w μ' := by
  have fr : ∀ (n : Nat) (w : PV) (a : Addr) (o : SO), v = .ref n → as[n]? = some a → μ[n]? = some o → Av a → (∀ Av', (∀ b, Av' b → Av b) → ¬ Av' a → Rep K mg Av' H w (.ref a)) → u = .ref a → fzv v μ = .ok w (μ.set n (.frz w)) →
      ∃ Av' w μ', fzv v μ = .ok w μ' ∧ Step Av as H Av' as H ∧ SR K mg Av' as ρ μ' σ H ∧ Rep K mg Av' H w u ∧ P Av' as H w μ' := by
    intro n w a o e h1 h2 ha hr eu ef
    have hn := (List.getElem?_eq_some_iff.mp h1).1
    have k : ∀ b o, H b = some o → ¬ Av b → H b = some o ∧ ¬ less Av a b := fun b o h n => ⟨h, fun z => n z.1⟩
    have st : Step Av as H (less Av a) as H := ⟨⟨[], by simp, fun _ z => nomatch z⟩, fun _ _ z _ => z, fun _ z => z, fun _ _ z => z.1, fun b hb z nm => ⟨z, fun e => nm (e ▸ List.mem_of_getElem? h1)⟩⟩
    have rw' := hr (less Av a) (fun b z => z.1) fun z => z.2 rfl
    have S' : SR K mg (less Av a) as ρ (μ.set n (.frz w)) σ H := by
      refine ⟨⟨fun b z => S.sm.trk b z.1, fun a xs z => S.sm.tv a xs z.1, S.sm.atr, S.sm.nd, by simp [S.sm.len], fun m b o' q1 q2 => ?_⟩, S.slen, fun i q hq => ?_⟩
      · by_cases e : m = n
        · subst e
          rw [h1] at q1; cases q1
          rw [List.getElem?_set_self (by rw [← S.sm.len]; exact hn)] at q2
          cases q2
          exact rw'
        · rw [List.getElem?_set_ne (fun z => e z.symm)] at q2
          have hne : b ≠ a := fun z => by
            subst z
            exact e ((List.getElem?_inj (List.getElem?_eq_some_iff.mp q1).1 S.sm.nd).mp (by rw [q1, h1]))
          exact SOk.step k (fun _ _ h => h) (fun z => ⟨z, hne⟩) (S.sm.obj m b o' q1 q2)
      · obtain ⟨v, e, z⟩ := S.slot i q hq
        refine ⟨v, e, ?_⟩
        cases q with
        | ref n => exact z
        | _ => exact Rep.keep k _ _ z
    rw [ef] at h
    subst eu
    exact ⟨_, w, _, ef, st, S', rw', h _ _ _ st S'⟩
  cases v with
  | ref n =>
    obtain ⟨a, h1, eu⟩ := r
    have hn := (List.getElem?_eq_some_iff.mp h1).1
    unfold fzv at h
    cases q : μ[n]? with
    | none => simp only [q] at h; exact h.elim
    | some o =>
      have so := S.sm.obj n a o h1 q
      cases o with
      | lst xs =>
        obtain ⟨ha, vs, e1, e2⟩ := so
        exact fr n (.lst xs) a _ rfl h1 q ha (fun Av' h3 h4 => ⟨a, vs, rfl, h4, e1, Reps.keep (fun _ _ h n => ⟨h, fun z => n (h3 _ z)⟩) _ _ e2⟩) eu (by simp only [fzv, q])
      | frz w =>
        simp only [q] at h
        subst eu
        exact ⟨Av, w, μ, by simp only [fzv, q], .refl, S, so, h _ _ _ .refl S⟩
      | dct _ _ => simp only [q] at h; exact h.elim
      | ins c ns vs =>
        obtain ⟨ha, C, dx, fs, e1, e2, e3, e4⟩ := so
        exact fr n (.ins c ns vs) a _ rfl h1 q ha (fun Av' h3 h4 => ⟨a, C, dx, fs, rfl, h4, e1, e2, e3, Reps.keep (fun _ _ h n => ⟨h, fun z => n (h3 _ z)⟩) _ _ e4⟩) eu (by simp only [fzv, q])
  | _ => exact ⟨Av, _, μ, rfl, .refl, S, r, h _ _ _ .refl S⟩
theorem e_fz (h : PE X e (tE X W da)) : PE X e (tE X W (dZ da)) :=
  h.imp fun σ H Q ⟨Av, as, ρ, μ, S, h⟩ => tD.go S h.bind fun Av1 as1 H1 v μ1 x s S1 r h1 => by
    obtain ⟨Av', w, μ', _, s2, S2, r2, q⟩ := fz_ok S1 r h1
    exact q x r2.top

/-! ### operators, tests -/
def OpS (K : PySem.W.Frag) (mg : Str → Option Value) (f : PV → PV → Mu → R PV) (r : R2) : Prop :=
  ∀ {W : WX} {Av : Pd} {as : List Addr} {ρ : Rho} {μ : Mu} {σ : L2.St} {H : Hp} {x y : PV} {v w : V} {Q : VK}, SR K mg Av as ρ μ σ H → RepT K mg Av as H x v → RepT K mg Av as H y w →
    Wp K mg W Av as ρ σ H (f x y μ) (fun Av' as' H' z _ => ∀ u, RepT K mg Av' as' H' z u → Q u H') → r v w H Q
def Op1 (K : PySem.W.Frag) (mg : Str → Option Value) (f : PV → Mu → R PV) (r : V → Hp → VK → Prop) : Prop :=
  ∀ {W : WX} {Av : Pd} {as : List Addr} {ρ : Rho} {μ : Mu} {σ : L2.St} {H : Hp} {x : PV} {v : V} {Q : VK}, SR K mg Av as ρ μ σ H → RepT K mg Av as H x v →
    Wp K mg W Av as ρ σ H (f x μ) (fun Av' as' H' z _ => ∀ u, RepT K mg Av' as' H' z u → Q u H') → r v H Q
/-- two parts, then an operator -/
theorem go2 {f : PV → PV → Mu → R PV} {r : R2} {da db : D} (hs : OpS X.K X.mg f r) : ∀ σ H Q, tE X W (d2 f da db) σ H Q → tOp r (tE X W da) (tE X W db) σ H Q := fun σ H Q ⟨Av, as, ρ, μ, S, h⟩ =>
  tD.go S h.bind fun Av1 as1 H1 v1 μ1 x s1 S1 r1 h1 => tD.go S1 h1.bind fun Av2 as2 H2 v2 μ2 y s2 S2 r2 h2 => hs S2 (s2.top r1) r2 h2
theorem e_op {op : Operator} {f : PV → PV → Mu → R PV} {r : R2} {da db : D} (ho : OpR X (binaryOp op) r) (hs : OpS X.K X.mg f r) (ha : PE X a (tE X W da)) (hb : PE X b (tE X W db)) : PE X (.BinOp a op b pos) (tE X W (d2 f da db)) := (pe_op ho ha hb).imp (go2 hs)
theorem e_ix {f : PV → PV → Mu → R PV} {r : R2} {da db : D} (ho : IxR X r) (hs : OpS X.K X.mg f r) (ha : PE X a (tE X W da)) (hb : PE X b (tE X W db)) (hx : PlainIx b := by exact fun _ _ => rfl) : PE X (.Subscript a b pos) (tE X W (d2 f da db)) := (pe_ix ho ha hb hx).imp (go2 hs)
theorem e_cmp {op : CmpOp} {f : PV → PV → Mu → R PV} {r : R2} {da db : D} (ho : OpR X (compareOp op) r) (hs : OpS X.K X.mg f r) (ha : PE X a (tE X W da)) (hb : PE X b (tE X W db)) (hm : behindInMarks op b = false := by rfl) : PE X (.Compare a [op] [b] pos) (tE X W (d2 f da db)) := (pe_cmpR ho ha hb hm).imp (go2 hs)
theorem e_un {op : UnaryOp} {f : PV → Mu → R PV} {r : V → Hp → VK → Prop} {da : D} (ho : UnR X (unaryOp op) r) (hs : Op1 X.K X.mg f r) (ha : PE X a (tE X W da)) : PE X (.UnaryOp op a pos) (tE X W (d1 f da)) :=
  (pe_un ho ha).imp fun σ H Q ⟨Av, as, ρ, μ, S, h⟩ => tD.go S h.bind fun Av1 as1 H1 v1 μ1 x s1 S1 r1 h1 => hs S1 r1 h1
/-- where a bool is wanted -/
theorem goT {d : D} : ∀ σ H Q, tB X W (dT d) σ H Q → tTest (tE X W d) σ H Q := fun σ H Q ⟨Av, as, ρ, μ, S, h⟩ =>
  tD.go S h.bind fun Av1 as1 H1 v1 μ1 x s1 S1 r1 h1 => by
    cases v1 with
    | bl b => cases r1; exact ⟨b, rfl, h1.here S1⟩
    | _ => exact h1.elim
theorem t_cmp {op : CmpOp} {f : PV → PV → Mu → R PV} {r : R2} {da db : D} (ho : OpR X (compareOp op) r) (hs : OpS X.K X.mg f r) (ha : PE X a (tE X W da)) (hb : PE X b (tE X W db)) (hm : behindInMarks op b = false := by rfl) : PT X (.Compare a [op] [b] pos) (tB X W (dT (d2 f da db))) :=
  (pt_cmpR ho ha hb hm).imp fun σ H Q h => by
    obtain ⟨Av, as, ρ, μ, S, h⟩ := h
    have h' := h.bind
    exact tD.go S h'.bind fun Av1 as1 H1 v1 μ1 x s1 S1 r1 h1 => tD.go S1 h1.bind fun Av2 as2 H2 v2 μ2 y s2 S2 r2 h2 => hs S2 (s2.top r1) r2 (h2.mono fun Av3 as3 H3 v3 μ3 _ s3 S3 h3 u r3 => by
      cases v3 with
      | bl b => cases r3; exact ⟨b, rfl, h3.here S3⟩
      | _ => exact h3.elim)
theorem t_val {d : D} (h : PE X e (tE X W d)) (he : ∀ whole, isTrue e X.env whole = (do let v ← whole; standAt e.pos; holding [v] (truthy v)) := by intro _; rfl) : PT X e (tB X W (dT d)) := (pt_val h he).imp goT
theorem t_not (ha : PT X a (tB X W ta)) : PT X (.UnaryOp .Not a pos) (tB X W (dNot ta)) :=
  (pt_not ha).imp fun σ H Q ⟨Av, as, ρ, μ, S, h⟩ => tDT.go S h.bind fun Av1 as1 H1 v1 μ1 s1 S1 h1 => h1.here S1
theorem w_and1 (ha : PT X a (tB X W ta)) : PW X (.BoolOp .And [a] pos) (tB X W ta) := pw_and1 ha
theorem w_or1 (ha : PT X a (tB X W ta)) : PW X (.BoolOp .Or [a] pos) (tB X W ta) := pw_or1 ha
theorem w_and {rest : List Expr} (ha : PT X a (tB X W ta)) (hb : PW X (.BoolOp .And (b :: rest) pos) (tB X W tb)) : PW X (.BoolOp .And (a :: b :: rest) pos) (tB X W (dAnd ta tb)) :=
  (pw_and ha hb).imp fun σ H Q ⟨Av, as, ρ, μ, S, h⟩ => tDT.go S h.bind fun Av1 as1 H1 v1 μ1 s1 S1 h1 => by
    cases v1 with
    | true => exact iteT ⟨Av1, as1, ρ, μ1, S1, h1⟩
    | false => exact iteF (h1.here S1)
theorem w_or {rest : List Expr} (ha : PT X a (tB X W ta)) (hb : PW X (.BoolOp .Or (b :: rest) pos) (tB X W tb)) : PW X (.BoolOp .Or (a :: b :: rest) pos) (tB X W (dOr ta tb)) :=
  (pw_or ha hb).imp fun σ H Q ⟨Av, as, ρ, μ, S, h⟩ => tDT.go S h.bind fun Av1 as1 H1 v1 μ1 s1 S1 h1 => by
    cases v1 with
    | true => exact iteT (h1.here S1)
    | false => exact iteF ⟨Av1, as1, ρ, μ1, S1, h1⟩
theorem w_pt (h : PW X e (tB X W ta)) : PT X e (tB X W ta) := h.pt
/-- and, or, not as values -/
theorem goB {d : D} {σ : L2.St} {H : Hp} {Q : Bool → Hp → Prop} (h : tB X W (dT d) σ H Q) : tE X W d σ H fun x H1 => ∃ c, x = .bl c ∧ Q c H1 := goT σ H Q h
theorem v_one {op : BoolOp} {d : D} (h : PE X a (tE X W d)) : PE X (.BoolOp op [a] pos) (tE X W (dTv (dT d))) :=
  (pe_one h).imp fun σ H Q ⟨Av, as, ρ, μ, S, h⟩ => tD.go S h.bind.bind fun Av1 as1 H1 v1 μ1 x s1 S1 r1 h1 => by
    cases v1 with
    | bl b => cases r1; exact (h1.here S1).here S1 _ rfl
    | _ => exact h1.elim
theorem v_and {rest : List Expr} {d : D} (ha : PE X a (tE X W d)) (hb : PE X (.BoolOp .And (b :: rest) pos) (tE X W (dTv tb))) : PE X (.BoolOp .And (a :: b :: rest) pos) (tE X W (dTv (dAnd (dT d) tb))) :=
  (pe_and ha hb).imp fun σ H Q ⟨Av, as, ρ, μ, S, h⟩ => tD.go S h.bind.bind.bind fun Av1 as1 H1 v1 μ1 x s1 S1 r1 h1 => by
    cases v1 with
    | bl c =>
      cases r1
      refine ⟨c, rfl, ?_⟩
      have h2 := h1.here S1
      cases c with
      | true => exact iteT (tD.go (P := fun Av2 as2 H2 v _ => ∀ u, RepT X.K X.mg Av2 as2 H2 v u → Q u H2) S1 (by
          show Wp X.K X.mg W Av1 as1 ρ σ H1 (dTv tb ρ μ1) _
          unfold dTv
          first | rw [if_pos rfl] at h2 | rw [if_neg Bool.false_ne_true] at h2
          generalize tb ρ μ1 = r at h2 ⊢
          cases r with
          | ok v μ2 => exact fun Av' as' H' s S' u r => (h2 Av' as' H' s S').here S' u r
          | ex e μ2 => exact h2
          | bad => exact h2) fun Av2 as2 H2 v2 μ2 x s2 S2 r2 h3 => h3 x r2)
      | false => exact iteF ((h2.here S1).here S1 _ rfl)
    | _ => exact h1.elim
theorem v_or {rest : List Expr} {d : D} (ha : PE X a (tE X W d)) (hb : PE X (.BoolOp .Or (b :: rest) pos) (tE X W (dTv tb))) : PE X (.BoolOp .Or (a :: b :: rest) pos) (tE X W (dTv (dOr (dT d) tb))) :=
  (pe_or ha hb).imp fun σ H Q ⟨Av, as, ρ, μ, S, h⟩ => tD.go S h.bind.bind.bind fun Av1 as1 H1 v1 μ1 x s1 S1 r1 h1 => by
    cases v1 with
    | bl c =>
      cases r1
      refine ⟨c, rfl, ?_⟩
      have h2 := h1.here S1
      cases c with
      | false => exact iteF (tD.go (P := fun Av2 as2 H2 v _ => ∀ u, RepT X.K X.mg Av2 as2 H2 v u → Q u H2) S1 (by
          show Wp X.K X.mg W Av1 as1 ρ σ H1 (dTv tb ρ μ1) _
          unfold dTv
          first | rw [if_pos rfl] at h2 | rw [if_neg Bool.false_ne_true] at h2
          generalize tb ρ μ1 = r at h2 ⊢
          cases r with
          | ok v μ2 => exact fun Av' as' H' s S' u r => (h2 Av' as' H' s S').here S' u r
          | ex e μ2 => exact h2
          | bad => exact h2) fun Av2 as2 H2 v2 μ2 x s2 S2 r2 h3 => h3 x r2)
      | true => exact iteT ((h2.here S1).here S1 _ rfl)
    | _ => exact h1.elim
theorem v_not {d : D} (ha : PE X a (tE X W d)) : PE X (.UnaryOp .Not a pos) (tE X W (dTv (dNot (dT d)))) :=
  (pe_not ha).imp fun σ H Q ⟨Av, as, ρ, μ, S, h⟩ => tD.go S h.bind.bind.bind fun Av1 as1 H1 v1 μ1 x s1 S1 r1 h1 => by
    cases v1 with
    | bl c => cases r1; exact ⟨c, rfl, ((h1.here S1).here S1).here S1 _ rfl⟩
    | _ => exact h1.elim
theorem e_if {da db : D} (hc : PT X c (tB X W tc)) (ha : PE X a (tE X W da)) (hb : PE X b (tE X W db)) : PE X (.IfExp c a b pos) (tE X W (dIf tc da db)) :=
  (pe_ifExp hc ha hb).imp fun σ H Q ⟨Av, as, ρ, μ, S, h⟩ => tDT.go S h.bind fun Av1 as1 H1 v1 μ1 s1 S1 h1 => by
    cases v1 with
    | true => exact iteT ⟨Av1, as1, ρ, μ1, S1, h1⟩
    | false => exact iteF ⟨Av1, as1, ρ, μ1, S1, h1⟩
/-! ### lists of arguments, displays -/
abbrev tAr (X : Cx) (W : WX) (d : DA) : TA := tDA X.K X.mg W d
theorem a_nil : PA X [] (tAr X W dNil) := pa_nil.imp fun σ H Q ⟨Av, as, ρ, μ, S, h⟩ => h.here S [] rfl
theorem a_cons {es : List Expr} {d : DA} (ha : PE X e (tE X W da)) (hr : PA X es (tAr X W d)) (hs : starEach (e :: es) X.env = (false, eval e X.env) :: starEach es X.env := by rfl) : PA X (e :: es) (tAr X W (dCons da d)) :=
  (pa_cons ha hr hs).imp fun σ H Q ⟨Av, as, ρ, μ, S, h⟩ => tD.go S h.bind fun Av1 as1 H1 v1 μ1 x s1 S1 r1 h1 => tDA.go S1 h1.bind fun Av2 as2 H2 v2 μ2 y s2 S2 r2 h2 => h2.here S2 (x :: y) ⟨x, y, rfl, s2.top r1, r2⟩
end
/-- every one a value -/
def pvs : List PV → Bool
  | [] => true
  | .ref _ :: _ => false
  | _ :: r => pvs r
theorem pvs_ok {K : PySem.W.Frag} {mg : Str → Option Value} {Av : Pd} {as : List Addr} {H : Hp} : ∀ {xs : List PV} {vs : List V}, pvs xs = true → RepTs K mg Av as H xs vs → Reps K mg Av H xs vs
  | [], vs, _, h => h
  | x :: xs, vs, p, ⟨v, r, e, h1, h2⟩ => by
    cases x with
    | ref n => cases p
    | _ => exact ⟨v, r, e, h1, pvs_ok p h2⟩
def dVs (d : DA) : DA := fun ρ μ => (d ρ μ).bind fun xs μ1 => if pvs xs then .ok xs μ1 else .bad
section
variable {X : Cx} {W : WX} {e : Expr} {es : List Expr} {d : DA} {pos : Pos}
theorem e_tup {x1} (h : PA X es (tAr X W d)) : PE X (.Tuple es x1 pos) (tE X W (dTup (dVs d))) :=
  (pe_tup h).imp fun σ H Q ⟨Av, as, ρ, μ, S, h⟩ => tDA.go S h.bind.bind fun Av1 as1 H1 xs μ1 vs s1 S1 r1 h1 => by
    by_cases hp : pvs xs = true
    · rw [if_pos hp] at h1
      have h2 := h1.here S1
      by_cases hl : lim xs.length = true
      · rw [if_pos hl] at h2
        have rr := pvs_ok hp r1
        have el := rr.len
        refine ⟨by rw [el]; exact lim_ok hl, fun p hn => ?_⟩
        exact h2 Av1 as1 _ (step_newv hn) (S1.newv hn) (.ref p) ⟨p, vs, rfl, S1.sm.avFree hn, upd_same, (step_newv (as := as1) hn).reps rr⟩
      · rw [if_neg hl] at h2; exact h2.elim
    · rw [if_neg hp] at h1; exact h1.elim
theorem f_lst (h : PA X es (tAr X W d)) : PE X (.List es pos) (tF X.K X.mg W (dLst (dVs d))) :=
  (pe_lst h).imp fun σ H Q ⟨Av, as, ρ, μ, S, h⟩ => tDA.go S h.bind.bind fun Av1 as1 H1 xs μ1 vs s1 S1 r1 h1 => by
    by_cases hp : pvs xs = true
    · rw [if_pos hp] at h1
      have h2 := h1.here S1
      by_cases hl : lim xs.length = true
      · rw [if_pos hl] at h2
        have rr := pvs_ok hp r1
        have el := rr.len
        refine ⟨by rw [el]; exact lim_ok hl, fun p hn => ?_⟩
        refine h2 (plus Av1 p) as1 _ (step_new hn) (S1.newp hn) p vs (.inr rfl) (S1.sm.notas hn) ?_ upd_same ((step_new (as := as1) hn).reps rr)
        cases q : H p with
        | none => rfl
        | some o => exact absurd hn (s1.dom p (by rw [q]; simp))
      · rw [if_neg hl] at h2; exact h2.elim
    · rw [if_neg hp] at h1; exact h1.elim
end
end EV

set_option Elab.async false
set_option linter.all false
set_option autoImplicit false
set_option maxRecDepth 100000
namespace EV
open PySem PySem.Spec PyProof.Rows L2

/-! ### sequences as they are met -/
def lsOf (μ : Mu) : PV → Option (List PV)
  | .lst xs => some xs
  | .ref n => match μ[n]? with
    | some (.lst xs) => some xs
    | some (.frz (.lst xs)) => some xs
    | _ => none
  | _ => none
def sqOf (μ : Mu) : PV → Option (List PV)
  | .tup xs => some xs
  | .scr ns => some (ns.map .int)
  | x => lsOf μ x
section
variable {K : PySem.W.Frag} {mg : Str → Option Value} {W : WX} {Av Av' Av1 Av2 : Pd} {H H' H1 H2 : Hp} {as as' as1 as2 : List Addr} {ρ : Rho} {μ μ' : Mu} {σ : L2.St} {x : PV} {v : V} {xs : List PV}
theorem lsOf_ok (S : SM K mg Av as μ H) (r : RepT K mg Av as H x v) (h : lsOf μ x = some xs) : ∃ a vs, v = .ref a ∧ H a = some (.lst vs) ∧ Reps K mg Av H xs vs := by
  cases x with
  | lst ys => cases h; obtain ⟨a, vs, e, _, q, rr⟩ := r; exact ⟨a, vs, e, q, rr⟩
  | ref n =>
    obtain ⟨a, h1, eu⟩ := r
    cases q : μ[n]? with
    | none => simp only [lsOf, q] at h; cases h
    | some o =>
      have so := S.obj n a o h1 q
      cases o with
      | lst ys =>
        simp only [lsOf, q] at h
        cases h
        obtain ⟨_, vs, e1, e2⟩ := so
        exact ⟨a, vs, eu, e1, e2⟩
      | frz w =>
        cases w with
        | lst ys =>
          simp only [lsOf, q] at h
          cases h
          obtain ⟨b, vs, e0, _, e1, e2⟩ := so
          cases e0
          exact ⟨a, vs, eu, e1, e2⟩
        | _ => simp only [lsOf, q] at h; cases h
      | _ => simp only [lsOf, q] at h; cases h
  | _ => cases h
theorem scr_sq {a : Addr} {ys : List V} (h : ScrAt K Av H a ys) : SqL K H a ys := by
  rcases h with ⟨_, h⟩ | h
  · exact .inl h
  · exact .inr h
theorem sqOf_ok (S : SM K mg Av as μ H) (r : RepT K mg Av as H x v) (h : sqOf μ x = some xs) : ∃ a vs, v = .ref a ∧ (SqL K H a vs ∨ SqT K H a vs) ∧ Reps K mg Av H xs vs := by
  have base : lsOf μ x = some xs → ∃ a vs, v = .ref a ∧ (SqL K H a vs ∨ SqT K H a vs) ∧ Reps K mg Av H xs vs := fun h => by
    obtain ⟨a, vs, e, q, rr⟩ := lsOf_ok S r h
    exact ⟨a, vs, e, .inl (.of q), rr⟩
  cases x with
  | tup ys => cases h; obtain ⟨a, vs, e, _, q, rr⟩ := r; exact ⟨a, vs, e, .inr (.of q), rr⟩
  | scr ns => cases h; obtain ⟨a, e, q⟩ := r; exact ⟨a, _, e, .inl (scr_sq q), Reps.ofInts⟩
  | lst ys => exact base h
  | ref n => exact base h
  | _ => cases h
end

/-! ### operators on ints and sequences -/
def mulOk (i j : Int) : Bool := Nat.blt (i.natAbs.log2 + j.natAbs.log2) 1000000
def divOk (j : Int) : Bool := decide (0 < j) && Nat.blt j.natAbs.log2 9000
def powOk (i j : Int) : Bool := decide (0 ≤ j) && (decide (j ≤ 1000000) && decide (i.natAbs < 18446744073709551616))
def fAdd (x y : PV) (μ : Mu) : R PV := match x, y with
  | .int i, .int j => .ok (.int (i + j)) μ
  | .tup xs, .tup ys => if lim (xs.length + ys.length) then .ok (.tup (xs ++ ys)) μ else .bad
  | .str i, .str j => if lim (i.length + j.length) then .ok (.str (i ++ j)) μ else .bad
  | x, y => match lsOf μ x, lsOf μ y with
    | some xs, some ys => if lim (xs.length + ys.length) then .ok (.lst (xs ++ ys)) μ else .bad
    | _, _ => .bad
def fSub (x y : PV) (μ : Mu) : R PV := match x, y with
  | .int i, .int j => .ok (.int (i - j)) μ
  | _, _ => .bad
def fMul (x y : PV) (μ : Mu) : R PV := match x, y with
  | .int i, .int j => if mulOk i j then .ok (.int (i * j)) μ else .bad
  | _, _ => .bad
def fMod (x y : PV) (μ : Mu) : R PV := match x, y with
  | .int i, .int j => if 0 < j then .ok (.int (i % j)) μ else .bad
  | _, _ => .bad
def fDiv (x y : PV) (μ : Mu) : R PV := match x, y with
  | .int i, .int j => if divOk j then .ok (.int (i / j)) μ else .bad
  | _, _ => .bad
def fPow (x y : PV) (μ : Mu) : R PV := match x, y with
  | .int i, .int j => if powOk i j then .ok (.int (i ^ j.toNat)) μ else .bad
  | _, _ => .bad
def fShl (x y : PV) (μ : Mu) : R PV := match x, y with
  | .int i, .int j => if powOk i j then .ok (.int (i * 2 ^ j.toNat)) μ else .bad
  | _, _ => .bad
def fShr (x y : PV) (μ : Mu) : R PV := match x, y with
  | .int i, .int j => if 0 ≤ j then .ok (.int (i / 2 ^ j.toNat)) μ else .bad
  | _, _ => .bad
def fAnd (x y : PV) (μ : Mu) : R PV := match x, y with
  | .int i, .int j => .ok (.int (Builtin.bitAnd i j)) μ
  | _, _ => .bad
def fOr (x y : PV) (μ : Mu) : R PV := match x, y with
  | .int i, .int j => .ok (.int (Builtin.bitOr i j)) μ
  | _, _ => .bad
def fXor (x y : PV) (μ : Mu) : R PV := match x, y with
  | .int i, .int j => .ok (.int (Builtin.bitXor i j)) μ
  | _, _ => .bad
def fNeg (x : PV) (μ : Mu) : R PV := match x with
  | .int i => .ok (.int (-i)) μ
  | _ => .bad
def fLt (x y : PV) (μ : Mu) : R PV := match x, y with
  | .int i, .int j => .ok (.bl (decide (i < j))) μ
  | _, _ => .bad
def fLe (x y : PV) (μ : Mu) : R PV := match x, y with
  | .int i, .int j => .ok (.bl (decide (i ≤ j))) μ
  | _, _ => .bad
def fGt (x y : PV) (μ : Mu) : R PV := match x, y with
  | .int i, .int j => .ok (.bl (decide (j < i))) μ
  | _, _ => .bad
def fGe (x y : PV) (μ : Mu) : R PV := match x, y with
  | .int i, .int j => .ok (.bl (decide (j ≤ i))) μ
  | _, _ => .bad
def fIsN (x _y : PV) (μ : Mu) : R PV := match x with
  | .non => .ok (.bl true) μ
  | _ => .ok (.bl false) μ
def fNotN (x _y : PV) (μ : Mu) : R PV := match x with
  | .non => .ok (.bl false) μ
  | _ => .ok (.bl true) μ
/-- xs[i] -/
def fIx (x y : PV) (μ : Mu) : R PV := match y with
  | .int i => match sqOf μ x with
    | some xs => match atI xs i with
      | some v => .ok v μ
      | none => .bad
    | none => match x with
      | .str z => if lim z.length then match atI z.cps.toList i with
        | some c => .ok (.str ⟨#[c]⟩) μ
        | none => .bad
        else .bad
      | _ => .bad
  | _ => .bad

def isNon : PV → Bool
  | .non => true
  | _ => false
section
variable {K : PySem.W.Frag} {mg : Str → Option Value}
theorem os_int {f : PV → PV → Mu → R PV} {C : Int → Int → Prop} {g : Int → Int → PV} {g' : Int → Int → V} (hg : ∀ i j Av H, Rep K mg Av H (g i j) (g' i j))
    (h : ∀ x y μ, f x y μ = .bad ∨ ∃ i j, x = .int i ∧ y = .int j ∧ C i j ∧ f x y μ = .ok (g i j) μ) : OpS K mg f (rI C g') := by
  intro W Av as ρ μ σ H x y v w Q S rx ry hw
  rcases h x y μ with e | ⟨i, j, rfl, rfl, c, e⟩
  · rw [e] at hw; exact hw.elim
  · rw [e] at hw; cases rx; cases ry
    exact ⟨i, j, rfl, rfl, c, hw.here S _ (hg i j _ _).top⟩
theorem os_int0 {f : PV → PV → Mu → R PV} {g : Int → Int → PV} {g' : Int → Int → V} (hg : ∀ i j Av H, Rep K mg Av H (g i j) (g' i j))
    (h : ∀ x y μ, f x y μ = .bad ∨ ∃ i j, x = .int i ∧ y = .int j ∧ f x y μ = .ok (g i j) μ) : OpS K mg f (rI0 g') := by
  intro W Av as ρ μ σ H x y v w Q S rx ry hw
  rcases h x y μ with e | ⟨i, j, rfl, rfl, e⟩
  · rw [e] at hw; exact hw.elim
  · rw [e] at hw; cases rx; cases ry
    exact ⟨i, j, rfl, rfl, hw.here S _ (hg i j _ _).top⟩
theorem two_case {f : PV → PV → Mu → R PV} {P : Int → Int → R PV → Prop} (hb : ∀ x y μ, (∀ i j, ¬ (x = .int i ∧ y = .int j)) → f x y μ = .bad) {C : Int → Int → Prop} {g : Int → Int → PV}
    (h : ∀ i j μ, f (.int i) (.int j) μ = .bad ∨ (C i j ∧ f (.int i) (.int j) μ = .ok (g i j) μ)) (x y : PV) (μ : Mu) : f x y μ = .bad ∨ ∃ i j, x = .int i ∧ y = .int j ∧ C i j ∧ f x y μ = .ok (g i j) μ := by
  by_cases e : ∃ i j, x = .int i ∧ y = .int j
  · obtain ⟨i, j, rfl, rfl⟩ := e
    rcases h i j μ with z | z
    · exact .inl z
    · exact .inr ⟨i, j, rfl, rfl, z⟩
  · exact .inl (hb x y μ fun i j z => e ⟨i, j, z⟩)
theorem s_sub : OpS K mg fSub (rI0 fun i j => .int (i - j)) := os_int0 (g := fun i j => .int (i - j)) (fun _ _ _ _ => rfl) fun x y μ => by
  cases x <;> cases y <;> first | exact .inl rfl | exact .inr ⟨_, _, rfl, rfl, rfl⟩
theorem s_mul : OpS K mg fMul (rI CMulW fun i j => .int (i * j)) := os_int (g := fun i j => .int (i * j)) (fun _ _ _ _ => rfl) fun x y μ => by
  cases x <;> cases y <;> first | exact .inl rfl | skip
  rename_i i j
  unfold fMul
  by_cases h : mulOk i j = true
  · exact .inr ⟨i, j, rfl, rfl, Nat.blt_eq.mp h, if_pos h⟩
  · exact .inl (if_neg h)
theorem s_mod : OpS K mg fMod (rI (fun _ j => 0 < j) fun i j => .int (i % j)) := os_int (g := fun i j => .int (i % j)) (fun _ _ _ _ => rfl) fun x y μ => by
  cases x <;> cases y <;> first | exact .inl rfl | skip
  rename_i i j
  unfold fMod
  by_cases h : 0 < j
  · exact .inr ⟨i, j, rfl, rfl, h, if_pos h⟩
  · exact .inl (if_neg h)
theorem s_div : OpS K mg fDiv (rI CDivW fun i j => .int (i / j)) := os_int (g := fun i j => .int (i / j)) (fun _ _ _ _ => rfl) fun x y μ => by
  cases x <;> cases y <;> first | exact .inl rfl | skip
  rename_i i j
  unfold fDiv
  by_cases h : divOk j = true
  · have h' := h
    unfold divOk at h'
    rw [Bool.and_eq_true] at h'
    exact .inr ⟨i, j, rfl, rfl, ⟨of_decide_eq_true h'.1, Nat.blt_eq.mp h'.2⟩, if_pos h⟩
  · exact .inl (if_neg h)
theorem powOk_ok {i j : Int} (h : powOk i j = true) : CPow i j := by
  unfold powOk at h
  rw [Bool.and_eq_true, Bool.and_eq_true] at h
  exact ⟨of_decide_eq_true h.1, of_decide_eq_true h.2.1, of_decide_eq_true h.2.2⟩
theorem s_pow : OpS K mg fPow (rI CPow fun i j => .int (i ^ j.toNat)) := os_int (g := fun i j => .int (i ^ j.toNat)) (fun _ _ _ _ => rfl) fun x y μ => by
  cases x <;> cases y <;> first | exact .inl rfl | skip
  rename_i i j
  unfold fPow
  by_cases h : powOk i j = true
  · exact .inr ⟨i, j, rfl, rfl, powOk_ok h, if_pos h⟩
  · exact .inl (if_neg h)
theorem s_shl : OpS K mg fShl (rI CPow fun i j => .int (i * 2 ^ j.toNat)) := os_int (g := fun i j => .int (i * 2 ^ j.toNat)) (fun _ _ _ _ => rfl) fun x y μ => by
  cases x <;> cases y <;> first | exact .inl rfl | skip
  rename_i i j
  unfold fShl
  by_cases h : powOk i j = true
  · exact .inr ⟨i, j, rfl, rfl, powOk_ok h, if_pos h⟩
  · exact .inl (if_neg h)
theorem s_shr : OpS K mg fShr (rI (fun _ j => 0 ≤ j) fun i j => .int (i / 2 ^ j.toNat)) := os_int (g := fun i j => .int (i / 2 ^ j.toNat)) (fun _ _ _ _ => rfl) fun x y μ => by
  cases x <;> cases y <;> first | exact .inl rfl | skip
  rename_i i j
  unfold fShr
  by_cases h : 0 ≤ j
  · exact .inr ⟨i, j, rfl, rfl, h, if_pos h⟩
  · exact .inl (if_neg h)
theorem s_and : OpS K mg fAnd (rI0 fun i j => .int (Builtin.bitAnd i j)) := os_int0 (g := fun i j => .int (Builtin.bitAnd i j)) (fun _ _ _ _ => rfl) fun x y μ => by
  cases x <;> cases y <;> first | exact .inl rfl | exact .inr ⟨_, _, rfl, rfl, rfl⟩
theorem s_or : OpS K mg fOr (rI0 fun i j => .int (Builtin.bitOr i j)) := os_int0 (g := fun i j => .int (Builtin.bitOr i j)) (fun _ _ _ _ => rfl) fun x y μ => by
  cases x <;> cases y <;> first | exact .inl rfl | exact .inr ⟨_, _, rfl, rfl, rfl⟩
theorem s_xor : OpS K mg fXor (rI0 fun i j => .int (Builtin.bitXor i j)) := os_int0 (g := fun i j => .int (Builtin.bitXor i j)) (fun _ _ _ _ => rfl) fun x y μ => by
  cases x <;> cases y <;> first | exact .inl rfl | exact .inr ⟨_, _, rfl, rfl, rfl⟩
theorem s_lt : OpS K mg fLt (rI0 fun i j => .bl (decide (i < j))) := os_int0 (g := fun i j => .bl (decide (i < j))) (fun _ _ _ _ => rfl) fun x y μ => by
  cases x <;> cases y <;> first | exact .inl rfl | exact .inr ⟨_, _, rfl, rfl, rfl⟩
theorem s_le : OpS K mg fLe (rI0 fun i j => .bl (decide (i ≤ j))) := os_int0 (g := fun i j => .bl (decide (i ≤ j))) (fun _ _ _ _ => rfl) fun x y μ => by
  cases x <;> cases y <;> first | exact .inl rfl | exact .inr ⟨_, _, rfl, rfl, rfl⟩
theorem s_gt : OpS K mg fGt (rI0 fun i j => .bl (decide (j < i))) := os_int0 (g := fun i j => .bl (decide (j < i))) (fun _ _ _ _ => rfl) fun x y μ => by
  cases x <;> cases y <;> first | exact .inl rfl | exact .inr ⟨_, _, rfl, rfl, rfl⟩
theorem s_ge : OpS K mg fGe (rI0 fun i j => .bl (decide (j ≤ i))) := os_int0 (g := fun i j => .bl (decide (j ≤ i))) (fun _ _ _ _ => rfl) fun x y μ => by
  cases x <;> cases y <;> first | exact .inl rfl | exact .inr ⟨_, _, rfl, rfl, rfl⟩
theorem s_neg : Op1 K mg fNeg (rU fun i => .int (-i)) := by
  intro W Av as ρ μ σ H x v Q S rx hw
  cases x with
  | int i => cases rx; exact ⟨i, rfl, hw.here S _ rfl⟩
  | _ => exact hw.elim
theorem rep_non {Av : Pd} {as : List Addr} {H : Hp} {x : PV} {v : V} (r : RepT K mg Av as H x v) : decide (v = .non) = isNon x := by
  cases x with
  | non => cases r; rfl
  | bl b => cases r; rfl
  | int b => cases r; rfl
  | str b => cases r; rfl
  | tup xs => obtain ⟨a, vs, e, _⟩ := r; subst e; rfl
  | lst xs => obtain ⟨a, vs, e, _⟩ := r; subst e; rfl
  | scr xs => obtain ⟨a, e, _⟩ := r; subst e; rfl
  | ins c ns vs => obtain ⟨a, _, _, _, e, _⟩ := r; subst e; rfl
  | ref n => obtain ⟨a, _, e⟩ := r; subst e; rfl
  | dct _ _ => cases r
end
def dIsN (d : D) : D := fun ρ μ => (d ρ μ).bind fun v μ1 => .ok (.bl (isNon v)) μ1
def dNotN (d : D) : D := fun ρ μ => (d ρ μ).bind fun v μ1 => .ok (.bl (!isNon v)) μ1
section
variable {X : Cx} {W : WX} {a : Expr} {da : D} {pos p2 : Pos} {j : Nat}
theorem e_isN (ha : PE X a (tE X W da)) : PE X (.Compare a [.Is] [.Constant .none j p2] pos) (tE X W (dIsN da)) :=
  (pe_cmp (pc_isN ha)).imp fun σ H Q ⟨Av, as, ρ, μ, S, h⟩ => tD.go S h.bind fun Av1 as1 H1 v1 μ1 x s1 S1 r1 h1 => h1.here S1 _ (congrArg V.bl (rep_non r1))
theorem e_notN (ha : PE X a (tE X W da)) : PE X (.Compare a [.IsNot] [.Constant .none j p2] pos) (tE X W (dNotN da)) :=
  (pe_cmp (pc_notN ha)).imp fun σ H Q ⟨Av, as, ρ, μ, S, h⟩ => tD.go S h.bind fun Av1 as1 H1 v1 μ1 x s1 S1 r1 h1 => h1.here S1 _ (congrArg (fun b => V.bl (!b)) (rep_non r1))
theorem t_isN (ha : PE X a (tE X W da)) : PT X (.Compare a [.Is] [.Constant .none j p2] pos) (tB X W (dT (dIsN da))) :=
  (pt_cmp (pc_isN ha)).imp fun σ H Q ⟨Av, as, ρ, μ, S, h⟩ => tD.go S h.bind.bind fun Av1 as1 H1 v1 μ1 x s1 S1 r1 h1 => ⟨_, rfl, by rw [rep_non r1]; exact (h1.here S1).here S1⟩
theorem t_notN (ha : PE X a (tE X W da)) : PT X (.Compare a [.IsNot] [.Constant .none j p2] pos) (tB X W (dT (dNotN da))) :=
  (pt_cmp (pc_notN ha)).imp fun σ H Q ⟨Av, as, ρ, μ, S, h⟩ => tD.go S h.bind.bind fun Av1 as1 H1 v1 μ1 x s1 S1 r1 h1 => ⟨_, rfl, by rw [rep_non r1]; exact (h1.here S1).here S1⟩
end
end EV

set_option Elab.async false
set_option linter.all false
set_option autoImplicit false
set_option maxRecDepth 100000
namespace EV
open PySem PySem.Spec PyProof.Rows L2

/-! ### + of sequences -/
section
variable {K : PySem.W.Frag} {mg : Str → Option Value}
def rAddA (K : PySem.W.Frag) : R2 := fun x y H Q => (rI0 (fun i j => V.int (i + j)) x y H Q ∨ rCatA K x y H Q) ∨ ((∃ i j, x = .str i ∧ y = .str j ∧ i.length + j.length ≤ sizeLine ∧ Q (.str (i ++ j)) H) ∨ rCat x y H Q)
theorem op_addA {X : Cx} : OpR X (binaryOp .Add) (rAddA X.K) := (op_add.or op_catA).or (op_add_str.or op_cat)
theorem Reps.nil_iff {Av : Pd} {H : Hp} {xs : List PV} {vs : List V} (r : Reps K mg Av H xs vs) : vs = [] ↔ xs = [] := by
  cases xs with
  | nil => cases r; simp
  | cons x xs => obtain ⟨v, t, e, _⟩ := r; subst e; simp
theorem add_lists {W : WX} {Av : Pd} {as : List Addr} {ρ : Rho} {μ : Mu} {σ : L2.St} {H : Hp} {x y : PV} {v w : V} {Q : VK} (S : SR K mg Av as ρ μ σ H) (rx : RepT K mg Av as H x v) (ry : RepT K mg Av as H y w)
    (h : Wp K mg W Av as ρ σ H (match lsOf μ x, lsOf μ y with
      | some xs, some ys => if lim (xs.length + ys.length) then R.ok (PV.lst (xs ++ ys)) μ else .bad
      | _, _ => .bad) (fun Av' as' H' z _ => ∀ u, RepT K mg Av' as' H' z u → Q u H')) : rCat v w H Q := by
  cases e1 : lsOf μ x with
  | none => simp only [e1] at h; exact h.elim
  | some xs =>
    cases e2 : lsOf μ y with
    | none => simp only [e1, e2] at h; exact h.elim
    | some ys =>
      simp only [e1, e2] at h
      by_cases hl : lim (xs.length + ys.length) = true
      · rw [if_pos hl] at h
        obtain ⟨a, vs, rfl, ha, r1⟩ := lsOf_ok S.sm rx e1
        obtain ⟨b, ws, rfl, hb, r2⟩ := lsOf_ok S.sm ry e2
        refine ⟨a, b, vs, ws, rfl, rfl, ha, hb, by rw [r1.len, r2.len]; exact lim_ok hl, fun p hn => ?_⟩
        exact h Av as _ (step_newv hn) (S.newv hn) (.ref p) ⟨p, _, rfl, S.sm.avFree hn, upd_same, (step_newv (as := as) hn).reps (r1.append r2)⟩
      · rw [if_neg hl] at h; exact h.elim
theorem s_add : OpS K mg fAdd (rAddA K) := by
  intro W Av as ρ μ σ H x y v w Q S rx ry hw
  have ls : (match lsOf μ x, lsOf μ y with
      | some xs, some ys => if lim (xs.length + ys.length) then R.ok (PV.lst (xs ++ ys)) μ else .bad
      | _, _ => .bad) = fAdd x y μ → rAddA K v w H Q := fun e => .inr (.inr (add_lists S rx ry (W := W) (by rw [e]; exact hw)))
  have no : ∀ a : PV, lsOf μ a = none → fAdd a y μ = fAdd a y μ := fun _ _ => rfl
  cases x with
  | int i =>
    cases y with
    | int j => cases rx; cases ry; exact .inl (.inl ⟨i, j, rfl, rfl, hw.here S _ rfl⟩)
    | _ => exact ls rfl
  | tup xs =>
    cases y with
    | tup ys =>
      obtain ⟨a, vs, rfl, na, ha, r1⟩ := id rx
      obtain ⟨b, ws, rfl, nb, hb, r2⟩ := id ry
      unfold fAdd at hw
      by_cases hl : lim (xs.length + ys.length) = true
      · simp only [if_pos hl] at hw
        refine .inl (.inr ⟨a, b, vs, ws, rfl, rfl, .of ha, .of hb, by rw [r1.len, r2.len]; exact lim_ok hl, fun e => ?_, fun e1 e2 => ?_, fun e1 e2 p hn => ?_⟩)
        · have e' := r1.nil_iff.mp e
          subst e'
          exact hw.here S _ ry
        · have e' := r2.nil_iff.mp e2
          subst e'
          rw [List.append_nil] at hw
          exact hw.here S _ rx
        · exact hw Av as _ (step_newv hn) (S.newv hn) (.ref p) ⟨p, _, rfl, S.sm.avFree hn, upd_same, (step_newv (as := as) hn).reps (r1.append r2)⟩
      · simp only [if_neg hl] at hw; exact hw.elim
    | _ => exact ls rfl
  | str i =>
    cases y with
    | str j =>
      cases rx; cases ry
      unfold fAdd at hw
      by_cases hl : lim (i.length + j.length) = true
      · simp only [if_pos hl] at hw
        exact .inr (.inl ⟨i, j, rfl, rfl, lim_ok hl, hw.here S _ rfl⟩)
      · simp only [if_neg hl] at hw; exact hw.elim
    | _ => exact ls rfl
  | _ => exact ls rfl
end

/-! ### new lists by operators -/
/-- x + y, x * k of lists: a new list -/
def d2F (f : PV → PV → Mu → R (List PV)) (a b : D) : DA := fun ρ μ => (a ρ μ).bind fun x μ1 => (b ρ μ1).bind fun y μ2 => f x y μ2
def fCat (x y : PV) (μ : Mu) : R (List PV) := match lsOf μ x, lsOf μ y with
  | some xs, some ys => if lim (xs.length + ys.length) then .ok (xs ++ ys) μ else .bad
  | _, _ => .bad
def repl (xs : List PV) : Nat → List PV
  | 0 => []
  | n + 1 => xs ++ repl xs n
theorem repl_eq (xs : List PV) : ∀ n, repl xs n = (List.replicate n xs).flatten
  | 0 => rfl
  | n + 1 => by rw [List.replicate_succ, List.flatten_cons, ← repl_eq xs n]; rfl
def fRep (x y : PV) (μ : Mu) : R (List PV) := match y with
  | .int k => match lsOf μ x with
    | some xs => if decide (k < 16777216) && decide (-16777216 < k) && lim (xs.length * k.toNat) then .ok (repl xs k.toNat) μ else .bad
    | none => .bad
  | _ => .bad
abbrev FrP (K : PySem.W.Frag) (mg : Str → Option Value) (H : Hp) (Q : VK) : Pd → List Addr → Hp → List PV → Mu → Prop := fun Av' as' H' xs _ => ∀ p vs, Av' p → p ∉ as' → H p = none → H' p = some (.lst vs) → Reps K mg Av' H' xs vs → Q (.ref p) H'
def OpF (K : PySem.W.Frag) (mg : Str → Option Value) (f : PV → PV → Mu → R (List PV)) (r : R2) : Prop :=
  ∀ {W : WX} {Av : Pd} {as : List Addr} {ρ : Rho} {μ : Mu} {σ : L2.St} {H : Hp} {x y : PV} {v w : V} {Q : VK}, SR K mg Av as ρ μ σ H → RepT K mg Av as H x v → RepT K mg Av as H y w →
    Wp K mg W Av as ρ σ H (f x y μ) (FrP K mg H Q) → r v w H Q
/-- a fresh list of these at p -/
theorem Wp.fresh {K : PySem.W.Frag} {mg : Str → Option Value} {W : WX} {Av : Pd} {as : List Addr} {ρ : Rho} {μ : Mu} {σ : L2.St} {H : Hp} {Q : VK} {xs : List PV} {vs : List V} {p : Addr} (h : Wp K mg W Av as ρ σ H (.ok xs μ) (FrP K mg H Q))
    (S : SR K mg Av as ρ μ σ H) (hn : H p = none) (r : Reps K mg Av H xs vs) : Q (.ref p) (upd H p (.lst vs)) :=
  h (plus Av p) as _ (step_new hn) (S.newp hn) p vs (.inr rfl) (S.sm.notas hn) hn upd_same ((step_new (as := as) hn).reps r)
theorem Step.none {Av as H Av' as' H'} (s : Step Av as H Av' as' H') {p : Addr} (h : H' p = none) : H p = none := by
  cases q : H p with
  | none => rfl
  | some o => exact absurd h (s.dom p (by rw [q]; simp))
theorem frp_back {K : PySem.W.Frag} {mg : Str → Option Value} {W : WX} {Av Av0 : Pd} {as as0 : List Addr} {ρ : Rho} {σ : L2.St} {H H0 : Hp} {Q : VK} {r : R (List PV)} (s : Step Av0 as0 H0 Av as H) (h : Wp K mg W Av as ρ σ H r (FrP K mg H0 Q)) : Wp K mg W Av as ρ σ H r (FrP K mg H Q) :=
  h.mono fun Av' as' H' v μ' _ s' S' q p vs h1 h2 h3 h4 h5 => q p vs h1 h2 (s.none h3) h4 h5
section
variable {X : Cx} {W : WX} {a b : Expr} {da db : D} {pos : Pos}
theorem go2F {f : PV → PV → Mu → R (List PV)} {r : R2} (hs : OpF X.K X.mg f r) : ∀ σ H Q, tF X.K X.mg W (d2F f da db) σ H Q → tOp r (tE X W da) (tE X W db) σ H Q := fun σ H Q ⟨Av, as, ρ, μ, S, h⟩ =>
  tD.go S h.bind fun Av1 as1 H1 v1 μ1 x s1 S1 r1 h1 => tD.go S1 h1.bind fun Av2 as2 H2 v2 μ2 y s2 S2 r2 h2 => hs S2 (s2.top r1) r2 (frp_back (s1.trans s2) h2)
theorem f_op {op : Operator} {f : PV → PV → Mu → R (List PV)} {r : R2} (ho : OpR X (binaryOp op) r) (hs : OpF X.K X.mg f r) (ha : PE X a (tE X W da)) (hb : PE X b (tE X W db)) : PE X (.BinOp a op b pos) (tF X.K X.mg W (d2F f da db)) := (pe_op ho ha hb).imp (go2F hs)
end
section
variable {K : PySem.W.Frag} {mg : Str → Option Value}
theorem s_cat : OpF K mg fCat rCat := by
  intro W Av as ρ μ σ H x y v w Q S rx ry h
  unfold fCat at h
  cases e1 : lsOf μ x with
  | none => simp only [e1] at h; exact h.elim
  | some xs =>
    cases e2 : lsOf μ y with
    | none => simp only [e1, e2] at h; exact h.elim
    | some ys =>
      simp only [e1, e2] at h
      by_cases hl : lim (xs.length + ys.length) = true
      · rw [if_pos hl] at h
        obtain ⟨a, vs, rfl, ha, r1⟩ := lsOf_ok S.sm rx e1
        obtain ⟨b, ws, rfl, hb, r2⟩ := lsOf_ok S.sm ry e2
        exact ⟨a, b, vs, ws, rfl, rfl, ha, hb, by rw [r1.len, r2.len]; exact lim_ok hl, fun p hn => h.fresh S hn (r1.append r2)⟩
      · rw [if_neg hl] at h; exact h.elim
theorem Reps.repl {Av : Pd} {H : Hp} {xs : List PV} {vs : List V} (r : Reps K mg Av H xs vs) : ∀ n, Reps K mg Av H (repl xs n) (List.replicate n vs).flatten
  | 0 => rfl
  | n + 1 => by rw [List.replicate_succ, List.flatten_cons]; exact r.append (r.repl n)
theorem s_rep : OpF K mg fRep rRep := by
  intro W Av as ρ μ σ H x y v w Q S rx ry h
  cases y with
  | int k =>
    cases ry
    unfold fRep at h
    cases e1 : lsOf μ x with
    | none => simp only [e1] at h; exact h.elim
    | some xs =>
      simp only [e1] at h
      by_cases hl : (decide (k < 16777216) && decide (-16777216 < k) && lim (xs.length * k.toNat)) = true
      · rw [if_pos hl] at h
        rw [Bool.and_eq_true, Bool.and_eq_true] at hl
        have h1 := of_decide_eq_true hl.1.1
        have h2 := of_decide_eq_true hl.1.2
        obtain ⟨a, vs, rfl, ha, r1⟩ := lsOf_ok S.sm rx e1
        exact ⟨a, k, vs, rfl, rfl, ha, by omega, by omega, by rw [r1.len]; exact lim_ok hl.2, fun p hn => h.fresh S hn (r1.repl _)⟩
      · rw [if_neg hl] at h; exact h.elim
  | _ => exact h.elim
/-- xs[i] -/
theorem atI_ok {Av : Pd} {H : Hp} {xs : List PV} {vs : List V} {i : Int} {x : PV} (r : Reps K mg Av H xs vs) (h : atI xs i = some x) : ∃ u, atI vs i = some u ∧ Rep K mg Av H x u := by
  unfold atI at h ⊢
  rw [r.len]
  cases e : ixN xs.length i with
  | none => rw [e] at h; cases h
  | some j =>
    rw [e] at h
    exact r.get h
theorem s_ix : OpS K mg fIx (rIx K) := by
  intro W Av as ρ μ σ H x y v w Q S rx ry h
  cases y with
  | int i =>
    cases ry
    unfold fIx at h
    cases e1 : sqOf μ x with
    | some xs =>
      simp only [e1] at h
      cases e2 : atI xs i with
      | none => simp only [e2] at h; exact h.elim
      | some z =>
        simp only [e2] at h
        obtain ⟨a, vs, rfl, hs, r1⟩ := sqOf_ok S.sm rx e1
        obtain ⟨u, q1, q2⟩ := atI_ok r1 e2
        rcases hs with hs | hs
        · exact .inl ⟨a, vs, i, u, rfl, rfl, hs, q1, h.here S _ q2.top⟩
        · exact .inr (.inl ⟨a, vs, i, u, rfl, rfl, hs, q1, h.here S _ q2.top⟩)
    | none =>
      simp only [e1] at h
      cases x with
      | str z =>
        cases rx
        simp only at h
        by_cases hl : lim z.length = true
        · rw [if_pos hl] at h
          cases e2 : atI z.cps.toList i with
          | none => simp only [e2] at h; exact h.elim
          | some c =>
            simp only [e2] at h
            exact .inr (.inr ⟨z, i, c, rfl, rfl, lim_ok hl, e2, h.here S _ rfl⟩)
        · rw [if_neg hl] at h; exact h.elim
      | _ => exact h.elim
  | _ => exact h.elim
end
end EV

set_option Elab.async false
set_option linter.all false
set_option autoImplicit false
set_option maxRecDepth 100000
namespace EV
open PySem PySem.Spec PyProof.Rows L2

/-! ### equality -/
mutual
def toD : PV → PyData
  | .non => .none
  | .bl b => .bool b
  | .int i => .int i
  | .str x => .str x
  | .tup xs => .tuple (toDs xs)
  | .lst xs => .list (toDs xs)
  | .scr ns => .list (ns.map .int)
  | _ => .none
def toDs : List PV → List PyData
  | [] => []
  | x :: xs => toD x :: toDs xs
end
mutual
/-- it reads as data, to a depth -/
def isD : PV → Bool
  | .non => true
  | .bl _ => true
  | .int _ => true
  | .str _ => true
  | .tup xs => isDs xs
  | .lst xs => isDs xs
  | .scr _ => true
  | _ => false
def isDs : List PV → Bool
  | [] => true
  | x :: xs => isD x && isDs xs
end
mutual
def dep : PV → Nat
  | .tup xs => deps xs + 1
  | .lst xs => deps xs + 1
  | .scr _ => 1
  | _ => 0
def deps : List PV → Nat
  | [] => 0
  | x :: xs => max (dep x) (deps xs)
end
mutual
/-- Python's == of data -/
def peq : PV → PV → Bool
  | .non, .non => true
  | .bl a, .bl b => a == b
  | .bl a, .int j => (if a then 1 else 0) == j
  | .int i, .bl b => i == (if b then 1 else 0)
  | .int i, .int j => i == j
  | .str x, .str y => decide (x = y)
  | .tup xs, .tup ys => peqs xs ys
  | .lst xs, .lst ys => peqs xs ys
  | .lst xs, .scr ns => PyData.eqvAll (toDs xs) (ns.map .int)
  | .scr ns, .lst ys => PyData.eqvAll (ns.map .int) (toDs ys)
  | .scr ns, .scr ms => PyData.eqvAll (ns.map .int) (ms.map .int)
  | _, _ => false
def peqs : List PV → List PV → Bool
  | [], [] => true
  | x :: xs, y :: ys => peq x y && peqs xs ys
  | _, _ => false
end
theorem depthAll_ints : ∀ ns : List Int, PyData.depthAll (ns.map PyData.int) = 0
  | [] => rfl
  | n :: ns => by simp only [List.map_cons, PyData.depthAll, PyData.depth, depthAll_ints ns]; rfl
mutual
theorem dep_toD : ∀ x : PV, (toD x).depth = dep x
  | .non => rfl
  | .bl _ => rfl
  | .int _ => rfl
  | .str _ => rfl
  | .tup xs => by simp only [toD, PyData.depth, dep, deps_toDs xs]
  | .lst xs => by simp only [toD, PyData.depth, dep, deps_toDs xs]
  | .scr ns => by simp only [toD, PyData.depth, dep, depthAll_ints]
  | .dct _ _ => rfl
  | .ins _ _ _ => rfl
  | .ref _ => rfl
theorem deps_toDs : ∀ xs : List PV, PyData.depthAll (toDs xs) = deps xs
  | [] => rfl
  | x :: xs => by simp only [toDs, PyData.depthAll, deps, dep_toD x, deps_toDs xs]
end
mutual
theorem plain_toD : ∀ x : PV, (toD x).plain = true
  | .non => rfl
  | .bl _ => rfl
  | .int _ => rfl
  | .str _ => rfl
  | .tup xs => by simp only [toD, PyData.plain, plains_toDs xs]
  | .lst xs => by simp only [toD, PyData.plain, plains_toDs xs]
  | .scr ns => by
    have : ∀ ns : List Int, PyData.plainAll (ns.map PyData.int) = true := fun ns => by
      induction ns with
      | nil => rfl
      | cons n ns ih => simp [PyData.plainAll, PyData.plain, ih]
    simp only [toD, PyData.plain, this]
  | .dct _ _ => rfl
  | .ins _ _ _ => rfl
  | .ref _ => rfl
theorem plains_toDs : ∀ xs : List PV, PyData.plainAll (toDs xs) = true
  | [] => rfl
  | x :: xs => by simp only [toDs, PyData.plainAll, plain_toD x, plains_toDs xs, Bool.and_self]
end
mutual
theorem peq_ok : ∀ x y : PV, isD x = true → isD y = true → peq x y = PyData.eqv (toD x) (toD y)
  | .tup xs, .tup ys, h, k => by simp only [toD, PyData.eqv, peq]; exact peqs_ok xs ys h k
  | .lst xs, .lst ys, h, k => by simp only [toD, PyData.eqv, peq]; exact peqs_ok xs ys h k
  | .lst xs, .scr ns, h, k => by simp only [toD, PyData.eqv, peq]
  | .scr xs, .lst ns, h, k => by simp only [toD, PyData.eqv, peq]
  | .scr xs, .scr ns, h, k => by simp only [toD, PyData.eqv, peq]
  | .str x, .str y, h, k => by
    simp only [toD, PyData.eqv, peq]
    by_cases e : x = y
    · subst e; simp
    · simp [e]
  | .non, y, h, k => by cases y <;> first | rfl | cases k
  | .bl _, y, h, k => by cases y <;> first | rfl | cases k
  | .int _, y, h, k => by cases y <;> first | rfl | cases k
  | .str _, .non, h, k => rfl
  | .str _, .bl _, h, k => rfl
  | .str _, .int _, h, k => rfl
  | .str _, .tup _, h, k => rfl
  | .str _, .lst _, h, k => rfl
  | .str _, .scr _, h, k => rfl
  | .tup _, .non, h, k => rfl
  | .tup _, .bl _, h, k => rfl
  | .tup _, .int _, h, k => rfl
  | .tup _, .str _, h, k => rfl
  | .tup _, .lst _, h, k => rfl
  | .tup _, .scr _, h, k => rfl
  | .lst _, .non, h, k => rfl
  | .lst _, .bl _, h, k => rfl
  | .lst _, .int _, h, k => rfl
  | .lst _, .str _, h, k => rfl
  | .lst _, .tup _, h, k => rfl
  | .scr _, .non, h, k => rfl
  | .scr _, .bl _, h, k => rfl
  | .scr _, .int _, h, k => rfl
  | .scr _, .str _, h, k => rfl
  | .scr _, .tup _, h, k => rfl
  | .dct _ _, _, h, k => by cases h
  | .ins _ _ _, _, h, k => by cases h
  | .ref _, _, h, k => by cases h
  | _, .dct _ _, h, k => by cases k
  | _, .ins _ _ _, h, k => by cases k
  | _, .ref _, h, k => by cases k
theorem peqs_ok : ∀ xs ys : List PV, isDs xs = true → isDs ys = true → peqs xs ys = PyData.eqvAll (toDs xs) (toDs ys)
  | [], [], h, k => rfl
  | [], _ :: _, h, k => rfl
  | _ :: _, [], h, k => rfl
  | x :: xs, y :: ys, h, k => by
    simp only [isDs, Bool.and_eq_true] at h k
    simp only [toDs, PyData.eqvAll, peqs]
    rw [peq_ok x y h.1 k.1, peqs_ok xs ys h.2 k.2]
end
section
variable {K : PySem.W.Frag} {mg : Str → Option Value} {Av : Pd} {H : Hp}
theorem dp_ints : ∀ ns : List Int, DpAll K H (ns.map V.int) (ns.map PyData.int)
  | [] => .nil
  | n :: ns => .cons (.int n) (dp_ints ns)
mutual
theorem dp_ok : ∀ (x : PV) (v : V), isD x = true → Rep K mg Av H x v → Dp K H v (toD x)
  | .non, v, _, h => by cases h; exact .non
  | .bl b, v, _, h => by cases h; exact .bl b
  | .int i, v, _, h => by cases h; exact .int i
  | .str x, v, _, h => by cases h; exact .str x
  | .tup xs, v, p, ⟨a, vs, e, _, q, r⟩ => by subst e; exact .tup (.of q) (dps_ok xs vs p r)
  | .lst xs, v, p, ⟨a, vs, e, _, q, r⟩ => by subst e; exact .lst (.of q) (dps_ok xs vs p r)
  | .scr ns, v, p, ⟨a, e, q⟩ => by subst e; exact .lst (scr_sq q) (dp_ints ns)
  | .dct _ _, _, p, _ => by cases p
  | .ins _ _ _, _, p, _ => by cases p
  | .ref _, _, p, _ => by cases p
theorem dps_ok : ∀ (xs : List PV) (vs : List V), isDs xs = true → Reps K mg Av H xs vs → DpAll K H vs (toDs xs)
  | [], vs, _, h => by cases h; exact .nil
  | x :: xs, vs, p, ⟨u, r, e, h1, h2⟩ => by
    subst e
    simp only [isDs, Bool.and_eq_true] at p
    exact .cons (dp_ok x u p.1 h1) (dps_ok xs r p.2 h2)
end
end
/-- what stands there, as a value (read, not kept) -/
def peek (μ : Mu) : PV → PV
  | .ref n => match μ[n]? with
    | some (.lst xs) => .lst xs
    | some (.frz v) => v
    | _ => .ref n
  | v => v
section
variable {K : PySem.W.Frag} {mg : Str → Option Value} {Av : Pd} {H : Hp} {as : List Addr} {μ : Mu}
theorem peek_dp (S : SM K mg Av as μ H) {x : PV} {v : V} (r : RepT K mg Av as H x v) (p : isD (peek μ x) = true) : Dp K H v (toD (peek μ x)) := by
  cases x with
  | ref n =>
    obtain ⟨a, h1, eu⟩ := r
    subst eu
    cases q : μ[n]? with
    | none => simp only [peek, q] at p; cases p
    | some o =>
      have so := S.obj n a o h1 q
      cases o with
      | lst ys =>
        simp only [peek, q] at p ⊢
        obtain ⟨_, vs, e1, e2⟩ := so
        exact .lst (.of e1) (dps_ok ys vs p e2)
      | frz w =>
        simp only [peek, q] at p ⊢
        exact dp_ok w _ p so
      | _ => simp only [peek, q] at p; cases p
  | _ => exact dp_ok (mg := mg) (Av := Av) _ _ p r
end
def eqOk (x y : PV) : Bool := isD x && (isD y && (Nat.ble (dep x) 60 && Nat.ble (dep y) 60))
def fEq (x y : PV) (μ : Mu) : R PV := if eqOk (peek μ x) (peek μ y) then .ok (.bl (peq (peek μ x) (peek μ y))) μ else .bad
def fNe (x y : PV) (μ : Mu) : R PV := if eqOk (peek μ x) (peek μ y) then .ok (.bl (!peq (peek μ x) (peek μ y))) μ else .bad
theorem eqOk_ok {x y : PV} (h : eqOk x y = true) : isD x = true ∧ isD y = true ∧ dep x ≤ 60 ∧ dep y ≤ 60 := by
  unfold eqOk at h
  simp only [Bool.and_eq_true] at h
  exact ⟨h.1, h.2.1, Nat.le_of_ble_eq_true h.2.2.1, Nat.le_of_ble_eq_true h.2.2.2⟩
def rEqP (K : PySem.W.Frag) (n : Bool) : R2 := fun x y H Q => ∃ d e, Dp K H x d ∧ Dp K H y e ∧ d.plain = true ∧ e.plain = true ∧ d.depth ≤ 60 ∧ Q (.bl (if n then !PyData.eqv d e else PyData.eqv d e)) H
theorem op_eqP {X : Cx} (hu : X.A.units + 64 < cLine) : OpR X (compareOp .Eq) (rEqP X.K false) := by
  intro pins s σ H x y v u Q I rx ry h
  obtain ⟨d, e, hd, he, pd, pe, dd, q⟩ := h
  obtain ⟨as, r1⟩ := Dp.reads I d x v hd rx
  obtain ⟨bs, r2⟩ := Dp.reads I e y u he ry
  exact SeqAt.eq_plain r1 r2 pd pe (by have := Nat.min_le_left d.depth e.depth; omega) ⟨.bl _, H, I, rfl, q⟩
theorem op_neP {X : Cx} (hu : X.A.units + 64 < cLine) : OpR X (compareOp .NotEq) (rEqP X.K true) := by
  intro pins s σ H x y v u Q I rx ry h
  obtain ⟨d, e, hd, he, pd, pe, dd, q⟩ := h
  obtain ⟨as, r1⟩ := Dp.reads I d x v hd rx
  obtain ⟨bs, r2⟩ := Dp.reads I e y u he ry
  exact SeqAt.ne_plain r1 r2 pd pe (by have := Nat.min_le_left d.depth e.depth; omega) ⟨.bl _, H, I, rfl, q⟩
section
variable {K : PySem.W.Frag} {mg : Str → Option Value}
theorem s_eq : OpS K mg fEq (rEqP K false) := by
  intro W Av as ρ μ σ H x y v w Q S rx ry h
  unfold fEq at h
  by_cases hk : eqOk (peek μ x) (peek μ y) = true
  · rw [if_pos hk] at h
    obtain ⟨h1, h2, h3, h4⟩ := eqOk_ok hk
    refine ⟨_, _, peek_dp S.sm rx h1, peek_dp S.sm ry h2, plain_toD _, plain_toD _, by rw [dep_toD]; exact h3, ?_⟩
    rw [if_neg Bool.false_ne_true, ← peq_ok _ _ h1 h2]
    exact h.here S _ rfl
  · rw [if_neg hk] at h; exact h.elim
theorem s_ne : OpS K mg fNe (rEqP K true) := by
  intro W Av as ρ μ σ H x y v w Q S rx ry h
  unfold fNe at h
  by_cases hk : eqOk (peek μ x) (peek μ y) = true
  · rw [if_pos hk] at h
    obtain ⟨h1, h2, h3, h4⟩ := eqOk_ok hk
    refine ⟨_, _, peek_dp S.sm rx h1, peek_dp S.sm ry h2, plain_toD _, plain_toD _, by rw [dep_toD]; exact h3, ?_⟩
    rw [if_pos rfl, ← peq_ok _ _ h1 h2]
    exact h.here S _ rfl
  · rw [if_neg hk] at h; exact h.elim
end
/-! ### in, not in, of lists and tuples -/
def pmem (x : PV) : List PV → Bool
  | [] => false
  | y :: ys => peq y x || pmem x ys
theorem pmem_ok {x : PV} (hx : isD x = true) : ∀ {xs : List PV}, isDs xs = true → pmem x xs = (toDs xs).any fun z => PyData.eqv z (toD x)
  | [], _ => rfl
  | y :: ys, h => by
    simp only [isDs, Bool.and_eq_true] at h
    simp only [pmem, toDs, List.any_cons, peq_ok y x h.1 hx, pmem_ok hx h.2]
def inOk (x : PV) (xs : List PV) : Bool := isD x && (isDs xs && (Nat.ble (dep x) 60 && Nat.ble (deps xs) 60))
def fIn (x y : PV) (μ : Mu) : R PV := match sqOf μ y with
  | some xs => if inOk (peek μ x) xs then .ok (.bl (pmem (peek μ x) xs)) μ else .bad
  | none => .bad
def fNotIn (x y : PV) (μ : Mu) : R PV := match sqOf μ y with
  | some xs => if inOk (peek μ x) xs then .ok (.bl (!pmem (peek μ x) xs)) μ else .bad
  | none => .bad
def rInP (K : PySem.W.Frag) (n : Bool) : R2 := fun x y H Q => ∃ d ds a vs, Dp K H x d ∧ y = .ref a ∧ (SqL K H a vs ∨ SqT K H a vs) ∧ DpAll K H vs ds ∧ d.plain = true ∧ PyData.plainAll ds = true ∧ d.depth ≤ 60 ∧ Q (.bl (if n then !(ds.any fun z => PyData.eqv z d) else ds.any fun z => PyData.eqv z d)) H
theorem op_inP {X : Cx} (hu : X.A.units + 64 < cLine) : OpR X (compareOp .In) (rInP X.K false) := by
  intro pins s σ H x y v u Q I rx ry h
  obtain ⟨d, ds, a, vs, hd, rfl, hs, he, pd, pe, dd, q⟩ := h
  obtain ⟨as, r1⟩ := Dp.reads I d x v hd rx
  have hm : X.A.units + 1 + min (PyData.depthAll ds) d.depth < cLine := by have := Nat.min_le_right (PyData.depthAll ds) d.depth; omega
  rcases hs with hs | hs
  · obtain ⟨bs, r2⟩ := Dp.reads I (.list ds) _ u (.lst hs he) ry
    exact SeqAt.in_list_data r2 r1 pe pd hm ⟨.bl _, H, I, rfl, q⟩
  · obtain ⟨bs, r2⟩ := Dp.reads I (.tuple ds) _ u (.tup hs he) ry
    exact SeqAt.in_tuple_data r2 r1 pe pd hm ⟨.bl _, H, I, rfl, q⟩
theorem op_notInP {X : Cx} (hu : X.A.units + 64 < cLine) : OpR X (compareOp .NotIn) (rInP X.K true) := by
  intro pins s σ H x y v u Q I rx ry h
  obtain ⟨d, ds, a, vs, hd, rfl, hs, he, pd, pe, dd, q⟩ := h
  obtain ⟨as, r1⟩ := Dp.reads I d x v hd rx
  have hm : X.A.units + 1 + min (PyData.depthAll ds) d.depth < cLine := by have := Nat.min_le_right (PyData.depthAll ds) d.depth; omega
  rcases hs with hs | hs
  · obtain ⟨bs, r2⟩ := Dp.reads I (.list ds) _ u (.lst hs he) ry
    exact SeqAt.notIn_list_data r2 r1 pe pd hm ⟨.bl _, H, I, rfl, q⟩
  · obtain ⟨bs, r2⟩ := Dp.reads I (.tuple ds) _ u (.tup hs he) ry
    exact SeqAt.notIn_tuple_data r2 r1 pe pd hm ⟨.bl _, H, I, rfl, q⟩
section
variable {K : PySem.W.Frag} {mg : Str → Option Value}
theorem s_inG {n : Bool} {f : PV → PV → Mu → R PV} (hf : ∀ x y μ, f x y μ = match sqOf μ y with
  | some xs => if inOk (peek μ x) xs then .ok (.bl (if n then !pmem (peek μ x) xs else pmem (peek μ x) xs)) μ else .bad
  | none => .bad) : OpS K mg f (rInP K n) := by
  intro W Av as ρ μ σ H x y v w Q S rx ry h
  rw [hf] at h
  cases e : sqOf μ y with
  | none => simp only [e] at h; exact h.elim
  | some xs =>
    simp only [e] at h
    by_cases hk : inOk (peek μ x) xs = true
    · rw [if_pos hk] at h
      unfold inOk at hk
      simp only [Bool.and_eq_true] at hk
      obtain ⟨h1, h2, h3, h4⟩ := hk
      obtain ⟨a, vs, rfl, hs, rr⟩ := sqOf_ok S.sm ry e
      refine ⟨_, toDs xs, a, vs, peek_dp S.sm rx h1, rfl, hs, dps_ok xs vs h2 rr, plain_toD _, plains_toDs _, by rw [dep_toD]; exact Nat.le_of_ble_eq_true h3, ?_⟩
      have hq := h.here S _ rfl
      cases n with
      | true => simp only [if_true] at hq ⊢; rw [← pmem_ok h1 h2]; exact hq
      | false => simp only [Bool.false_eq_true, if_false] at hq ⊢; rw [← pmem_ok h1 h2]; exact hq
    · rw [if_neg hk] at h; exact h.elim
theorem s_in : OpS K mg fIn (rInP K false) := s_inG fun x y μ => by unfold fIn; rfl
theorem s_notIn : OpS K mg fNotIn (rInP K true) := s_inG fun x y μ => by unfold fNotIn; rfl
end
end EV

set_option Elab.async false
set_option linter.all false
set_option autoImplicit false
set_option maxRecDepth 100000
namespace EV
open PySem PySem.Spec PyProof.Rows L2

section
variable {K : PySem.W.Frag} {mg : Str → Option Value} {W : WX} {Av Av' Av1 Av2 : Pd} {H H' H1 H2 : Hp} {as as' as1 as2 : List Addr} {ρ : Rho} {μ μ' : Mu} {σ : L2.St} {E E' : Ends}
theorem SW.on {f : F} (h : SW K mg W E Av as H f) (s : Step Av as H Av1 as1 H1) : SW K mg W E Av1 as1 H1 f := by
  cases f with
  | nx ρ' μ' => exact fun Av' as' H' σ' t => h _ _ _ _ (s.trans t)
  | bk ρ' μ' => exact fun Av' as' H' σ' t => h _ _ _ _ (s.trans t)
  | ct ρ' μ' => exact fun Av' as' H' σ' t => h _ _ _ _ (s.trans t)
  | rt v μ' => exact fun Av' as' H' x t => h _ _ _ _ (s.trans t)
  | ex e ρ' μ' => exact fun Av' as' H' σ' cls d t => h _ _ _ _ _ _ (s.trans t)
  | bad => exact h
/-- an expression's end as a statement's -/
def R.f {β : Type} (r : R β) (ρ : Rho) (k : β → Mu → F) : F := match r with
  | .ok v μ => k v μ
  | .ex e μ => .ex e ρ μ
  | .bad => .bad
theorem SW.bind {β : Type} {r : R β} {k : β → Mu → F} (h : SW K mg W E Av as H (r.f ρ k)) : Wp K mg W Av as ρ σ H r fun Av1 as1 H1 v μ1 => SW K mg W E Av1 as1 H1 (k v μ1) := by
  cases r with
  | ok v μ1 => exact fun Av1 as1 H1 s1 S1 => SW.on (show SW K mg W E Av as H (k v μ1) from h) s1
  | ex e μ1 => exact fun Av' as' H' cls d t S' x => h _ _ _ _ _ _ t S' x
  | bad => exact h
end

/-! ### what is walked -/
/-- a value that no one changes, as items -/
def itv : PV → Option (List PV)
  | .tup xs => some xs
  | .lst xs => some xs
  | .scr ns => some (ns.map .int)
  | _ => none
/-- the items of a sequence: it is a value from here on -/
def dSeq (d : D) : DA := fun ρ μ => (d ρ μ).bind fun v μ1 => (fzv v μ1).bind fun w μ2 => match itv w with
  | some xs => .ok xs μ2
  | none => .bad
section
variable {K : PySem.W.Frag} {mg : Str → Option Value} {W : WX} {Av Av' Av1 Av2 : Pd} {H H' H1 H2 : Hp} {as as' as1 as2 : List Addr} {ρ : Rho} {μ μ' : Mu} {σ : L2.St}
/-- J walks xs, whatever comes -/
def ItOk (K : PySem.W.Frag) (mg : Str → Option Value) (J : It) (xs : List PV) (Av0 : Pd) (as0 : List Addr) (H0 : Hp) : Prop := ∀ (i : Nat) (Av : Pd) (as : List Addr) (H : Hp), StepK Av0 as0 H0 Av as H →
  (xs.length ≤ i → J.stop i H) ∧ (i < xs.length → J.go i H) ∧
  ∀ x H', i < xs.length → J.yld i H x H' → ∃ p, xs[i]? = some p ∧ Step Av as H Av as H' ∧ (∀ ρ μ σ, SR K mg Av as ρ μ σ H → SR K mg Av as ρ μ σ H') ∧ Rep K mg Av H' p x
def tI (K : PySem.W.Frag) (mg : Str → Option Value) (W : WX) (d : DA) : TI := fun σ H Rr => ∃ Av as ρ μ, SR K mg Av as ρ μ σ H ∧ Wp K mg W Av as ρ σ H (d ρ μ) fun Av' as' H' xs _ => ∀ J, ItOk K mg J xs Av' as' H' → Rr J H'
theorem _root_.L2.PI.imp {X : Cx} {tg e : Expr} {t t' : TI} (h : PI X tg e t) (i : ∀ σ H Q, t' σ H Q → t σ H Q) : PI X tg e t' := ⟨fun pins s σ H Q I q => h.run pins s σ H Q I (i σ H Q q)⟩
/-- a list or a tuple -/
def iSeq (K : PySem.W.Frag) (tl : TE) : TI := fun σ H R => tl σ H fun x H1 => ∃ a, x = .ref a ∧ (((∃ xs, SqL K H1 a xs) ∧ R (Itl K a) H1) ∨ ((∃ xs, SqT K H1 a xs) ∧ R (Itt K a) H1))
theorem pi_seq {X : Cx} {tg l : Expr} {tl : TE} (hl : PE X l tl) : PI X tg l (iSeq X.K tl) := by
  refine ⟨fun pins s σ H R I h => ?_⟩
  refine thn (hl.run pins s σ H _ I h) fun v s1 ⟨x, H1, I1, r1, q1⟩ => ?_
  obtain ⟨a, e, q⟩ := q1
  subst e
  cases r1
  have fin : ∀ b ∈ [s1.heap.objs.size], FpOk X pins H1 b := fun b hb => by
    have e : b = s1.heap.objs.size := by simpa using hb
    subst e
    exact I1.fpOk (Nat.le_refl _) (I1.hok.fresh (Nat.le_refl _))
  rcases q with ⟨⟨xs, hq⟩, q⟩ | ⟨⟨xs, hq⟩, q⟩
  · obtain ⟨its, rv, p, hz⟩ := I1.list hq
    refine wpAny_pyIter_list p.isList ?_
    exact ⟨s1.heap.objs.size, [s1.heap.objs.size], _, _, H1, rfl, I1.kept (t' := s1.toks) fun b o e => Heap.get?_push_of_some _ e, turn_list a _, ⟨_, Heap.get?_push_size _ rfl, rfl, rfl⟩, fin, q⟩
  · obtain ⟨its, rv, p, hz⟩ := I1.tuple hq
    refine wpAny_pyIter_tuple (show s1.heap.IsTuple a its.toArray from p) ?_
    exact ⟨s1.heap.objs.size, [s1.heap.objs.size], _, _, H1, rfl, I1.kept (t' := s1.toks) fun b o e => Heap.get?_push_of_some _ e, turn_tuple a _, ⟨_, Heap.get?_push_size _ rfl, rfl, rfl⟩, fin, q⟩
theorem itv_ok {w : PV} {v : V} {xs : List PV} (r : Rep K mg Av H w v) (h : itv w = some xs) :
    ∃ a, v = .ref a ∧ (((∃ vs, SqL K H a vs) ∧ ItOk K mg (Itl K a) xs Av as H) ∨ ((∃ vs, SqT K H a vs) ∧ ItOk K mg (Itt K a) xs Av as H)) := by
  have L : ∀ (a : Addr), (∀ Av' as' H', StepK Av as H Av' as' H' → ∃ vs, SqL K H' a vs ∧ Reps K mg Av' H' xs vs) → ItOk K mg (Itl K a) xs Av as H := fun a h i Av' as' H' s => by
    obtain ⟨vs, q, rr⟩ := h Av' as' H' s
    refine ⟨fun hi => ⟨vs, q, by rw [rr.len]; exact hi⟩, fun hi => ⟨vs, vs[i]'(by rw [rr.len]; exact hi), q, List.getElem?_eq_getElem _⟩, fun x H2 hi ⟨e, y⟩ => ?_⟩
    subst e
    obtain ⟨p, e1, e2⟩ := rr.get' (y vs q)
    exact ⟨p, e1, .refl, fun _ _ _ S => S, e2⟩
  cases w with
  | tup ys =>
    cases h
    obtain ⟨a, vs, e, n, q, rr⟩ := id r
    refine ⟨a, e, .inr ⟨⟨vs, .of q⟩, fun i Av' as' H' s => ?_⟩⟩
    have hq := (s.k a _ q n).1
    have hr := s.reps rr
    refine ⟨fun hi => ⟨vs, .of hq, by rw [rr.len]; exact hi⟩, fun hi => ⟨vs, vs[i]'(by rw [rr.len]; exact hi), .of hq, List.getElem?_eq_getElem _⟩, fun x H2 hi ⟨e, y⟩ => ?_⟩
    subst e
    obtain ⟨p, e1, e2⟩ := hr.get' (y vs (.of hq))
    exact ⟨p, e1, .refl, fun _ _ _ S => S, e2⟩
  | lst ys =>
    cases h
    obtain ⟨a, vs, e, n, q, rr⟩ := id r
    exact ⟨a, e, .inl ⟨⟨vs, .of q⟩, L a fun Av' as' H' s => ⟨vs, .of (s.k a _ q n).1, s.reps rr⟩⟩⟩
  | scr ns =>
    cases h
    obtain ⟨a, e, q⟩ := id r
    refine ⟨a, e, .inl ⟨⟨_, scr_sq q⟩, L a fun Av' as' H' s => ?_⟩⟩
    obtain ⟨b, e', q'⟩ := Rep.keep s.k (.scr ns) v r
    rw [e] at e'
    cases e'
    exact ⟨_, scr_sq q', Reps.ofInts⟩
  | _ => cases h
theorem i_seq {X : Cx} {W : WX} {tg e : Expr} {d : D} (h : PE X e (tE X W d)) : PI X tg e (tI X.K X.mg W (dSeq d)) :=
  (pi_seq h).imp fun σ H Rr ⟨Av, as, ρ, μ, S, h⟩ => tD.go S h.bind fun Av1 as1 H1 v1 μ1 x s1 S1 r1 h1 => by
    obtain ⟨Av2, w, μ2, ef, s2, S2, r2, q⟩ := fz_ok S1 r1 h1.bind
    cases e : itv w with
    | none => simp only [e] at q; exact q.elim
    | some xs =>
      simp only [e] at q
      obtain ⟨a, ea, z⟩ := itv_ok (as := as1) r2 e
      refine ⟨a, ea, ?_⟩
      rcases z with ⟨z1, z2⟩ | ⟨z1, z2⟩
      · exact .inl ⟨z1, q.here S2 _ z2⟩
      · exact .inr ⟨z1, q.here S2 _ z2⟩
/-- range(n), range(a, b) -/
def rgl (lo : Int) : Nat → List PV
  | 0 => []
  | n + 1 => .int lo :: rgl (lo + 1) n
theorem rgl_len : ∀ (n : Nat) (lo : Int), (rgl lo n).length = n
  | 0, _ => rfl
  | n + 1, lo => by rw [rgl, List.length_cons, rgl_len n]
theorem rgl_get : ∀ (n : Nat) (lo : Int) (i : Nat), i < n → (rgl lo n)[i]? = some (.int (lo + i))
  | 0, _, i, h => absurd h (Nat.not_lt_zero _)
  | n + 1, lo, 0, _ => by simp [rgl]
  | n + 1, lo, i + 1, h => by
    rw [rgl, List.getElem?_cons_succ, rgl_get n (lo + 1) i (by omega)]
    congr 2
    omega
def rgOk (i : Int) : Bool := Nat.blt i.natAbs 1152921504606846976
theorem rgOk_ok {i : Int} (h : rgOk i = true) : -(2 ^ 62) ≤ i ∧ i < 2 ^ 62 := by
  unfold rgOk at h
  rw [Nat.blt_eq] at h
  omega
def dRg1 (a : DA) : DA := fun ρ μ => (a ρ μ).bind fun v μ1 => match v with
  | [.int n] => if rgOk n then .ok (rgl 0 n.toNat) μ1 else .bad
  | _ => .bad
def dRg2 (a : DA) : DA := fun ρ μ => (a ρ μ).bind fun v μ1 => match v with
  | [.int i, .int j] => if rgOk i && rgOk j then .ok (rgl i (j - i).toNat) μ1 else .bad
  | _ => .bad
theorem itr_ok {lo : Int} {n : Nat} : ItOk K mg (Itr lo n) (rgl lo n) Av as H := fun i Av' as' H' s => by
  rw [rgl_len]
  refine ⟨fun h => h, fun h => h, fun x H2 hi ⟨e, y⟩ => ?_⟩
  subst e y
  exact ⟨_, rgl_get n lo i hi, .refl, fun _ _ _ S => S, rfl⟩
theorem i_rg1 {X : Cx} {W : WX} {tg a : Expr} {d : DA} {p pos : Pos} (hm : X.mg "range" = none) (ha : PA X [a] (tAr X W d)) (hg : Gl X "range" := by rfl) (hs : starEach [a] X.env = [(false, eval a X.env)] := by rfl) :
    PI X tg (.Call (.Name "range" p) [a] [] pos) (tI X.K X.mg W (dRg1 d)) :=
  (pi_range1 hg hm ha hs).imp fun σ H Rr ⟨Av, as, ρ, μ, S, h⟩ => tDA.go S h.bind fun Av1 as1 H1 v1 μ1 x s1 S1 r1 h1 => by
    split at h1
    · rename_i n
      obtain ⟨v, t, rfl, r, rfl⟩ := r1
      cases r
      by_cases hk : rgOk n = true
      · rw [if_pos hk] at h1
        exact ⟨n, rfl, (rgOk_ok hk).1, (rgOk_ok hk).2, h1.here S1 _ itr_ok⟩
      · rw [if_neg hk] at h1; exact h1.elim
    · exact h1.elim
theorem i_rg2 {X : Cx} {W : WX} {tg a b : Expr} {d : DA} {p pos : Pos} (hm : X.mg "range" = none) (ha : PA X [a, b] (tAr X W d)) (hg : Gl X "range" := by rfl) (hs : starEach [a, b] X.env = [(false, eval a X.env), (false, eval b X.env)] := by rfl) (hs2 : starEach [b] X.env = [(false, eval b X.env)] := by rfl) :
    PI X tg (.Call (.Name "range" p) [a, b] [] pos) (tI X.K X.mg W (dRg2 d)) :=
  (pi_range2 hg hm ha hs hs2).imp fun σ H Rr ⟨Av, as, ρ, μ, S, h⟩ => tDA.go S h.bind fun Av1 as1 H1 v1 μ1 x s1 S1 r1 h1 => by
    split at h1
    · rename_i i j
      obtain ⟨v, t, rfl, r, v', t', rfl, r', rfl⟩ := r1
      cases r
      cases r'
      by_cases hk : (rgOk i && rgOk j) = true
      · rw [if_pos hk] at h1
        rw [Bool.and_eq_true] at hk
        exact ⟨i, j, rfl, ⟨(rgOk_ok hk.1).1, (rgOk_ok hk.1).2, (rgOk_ok hk.2).1, (rgOk_ok hk.2).2⟩, h1.here S1 _ itr_ok⟩
      · rw [if_neg hk] at h1; exact h1.elim
    · exact h1.elim
end

/-! ### targets -/
abbrev DG := PV → Rho → Mu → R Rho
def gN (i : Nat) : DG := fun p ρ μ => .ok (ρ.set i (some p)) μ
def gGo : List DG → List PV → Rho → Mu → R Rho
  | [], [], ρ, μ => .ok ρ μ
  | g :: gs, x :: xs, ρ, μ => (g x ρ μ).bind fun ρ' μ' => gGo gs xs ρ' μ'
  | _, _, _, _ => .bad
def gL (gs : List DG) : DG := fun p ρ μ => match p with
  | .tup xs => gGo gs xs ρ μ
  | _ => .bad
/-- but for these the slots are as they were -/
def Off (is : List Nat) (σ σ' : L2.St) : Prop := σ'.length = σ.length ∧ ∀ j, j ∉ is → σ'[j]? = σ[j]?
theorem Off.refl {is : List Nat} {σ : L2.St} : Off is σ σ := ⟨rfl, fun _ _ => rfl⟩
theorem Off.app {is js : List Nat} {σ σ1 σ2 : L2.St} (a : Off is σ σ1) (b : Off js σ1 σ2) : Off (is ++ js) σ σ2 := ⟨b.1.trans a.1, fun j h => (b.2 j fun z => h (List.mem_append_right _ z)).trans (a.2 j fun z => h (List.mem_append_left _ z))⟩
/-- behind a store -/
def WG (K : PySem.W.Frag) (mg : Str → Option Value) (is : List Nat) (σ : L2.St) (Av : Pd) (as : List Addr) (H : Hp) (r : R Rho) (Q : L2.St → Hp → Prop) : Prop := match r with
  | .ok ρ' μ' => ∀ Av' as' H' σ', Step Av as H Av' as' H' → SR K mg Av' as' ρ' μ' σ' H' → Off is σ σ' → Q σ' H'
  | _ => False
def tGt (K : PySem.W.Frag) (mg : Str → Option Value) (is : List Nat) (g : DG) : TG := fun v σ H Q => ∃ Av as ρ μ p, SR K mg Av as ρ μ σ H ∧ RepT K mg Av as H p v ∧ WG K mg is σ Av as H (g p ρ μ) Q
def tGts (K : PySem.W.Frag) (mg : Str → Option Value) (is : List Nat) (gs : List DG) : TGs := fun vs σ H Q => ∃ Av as ρ μ ps, SR K mg Av as ρ μ σ H ∧ RepTs K mg Av as H ps vs ∧ WG K mg is σ Av as H (gGo gs ps ρ μ) Q
theorem _root_.L2.PG.imp {X : Cx} {e : Expr} {t t' : TG} (h : PG X e t) (i : ∀ v σ H Q, t' v σ H Q → t v σ H Q) : PG X e t' := ⟨fun pins s σ H v u Q I r q => h.run pins s σ H v u Q I r (i v σ H Q q)⟩
theorem _root_.L2.PGs.imp {X : Cx} {e : List Expr} {t t' : TGs} (h : PGs X e t) (i : ∀ v σ H Q, t' v σ H Q → t v σ H Q) : PGs X e t' := ⟨fun pins s σ H v u Q I r q => h.run pins s σ H v u Q I r (i v σ H Q q)⟩
section
variable {K : PySem.W.Frag} {mg : Str → Option Value} {W : WX} {Av Av' Av1 Av2 : Pd} {H H' H1 H2 : Hp} {as as' as1 as2 : List Addr} {ρ ρ' : Rho} {μ μ' : Mu} {σ σ' : L2.St}
theorem SR.put (S : SR K mg Av as ρ μ σ H) {i : Nat} {p : PV} {v : V} (r : RepT K mg Av as H p v) : SR K mg Av as (ρ.set i (some p)) μ (σ.set i (some v)) H := by
  refine ⟨S.sm, by simp [S.slen], fun j q h => ?_⟩
  by_cases e : i = j
  · subst e
    rw [List.getElem?_set] at h
    simp only [if_true] at h
    split at h
    · rename_i hl
      cases h
      refine ⟨v, ?_, r⟩
      rw [List.getElem?_set]
      simp [← S.slen, hl]
    · cases h
  · rw [List.getElem?_set_ne e] at h
    rw [List.getElem?_set_ne e]
    exact S.slot j q h
theorem Reps.tops : ∀ {ps : List PV} {vs : List V}, Reps K mg Av H ps vs → RepTs K mg Av as H ps vs
  | [], _, h => h
  | _ :: _, _, ⟨v, r, e, h1, h2⟩ => ⟨v, r, e, h1.top, h2.tops⟩
theorem RepTs.len : ∀ {ps : List PV} {vs : List V}, RepTs K mg Av as H ps vs → vs.length = ps.length
  | [], _, h => by cases h; rfl
  | _ :: _, _, ⟨v, r, e, h1, h2⟩ => by subst e; simp [RepTs.len h2]
theorem WG.mono {is : List Nat} {r : R Rho} {Q Q' : L2.St → Hp → Prop} (h : WG K mg is σ Av as H r Q) (m : ∀ σ H, Q σ H → Q' σ H) : WG K mg is σ Av as H r Q' := by
  cases r with
  | ok ρ' μ' => exact fun Av' as' H' σ' s S o => m _ _ (h Av' as' H' σ' s S o)
  | ex e μ' => exact h
  | bad => exact h
theorem WG.on {is : List Nat} {r : R Rho} {Q : L2.St → Hp → Prop} (h : WG K mg is σ Av as H r Q) (s : Step Av as H Av1 as1 H1) : WG K mg is σ Av1 as1 H1 r Q := by
  cases r with
  | ok ρ' μ' => exact fun Av' as' H' σ' t S => h Av' as' H' σ' (s.trans t) S
  | ex e μ' => exact h
  | bad => exact h
theorem WG.from {is js : List Nat} {r : R Rho} {Q : L2.St → Hp → Prop} (h : WG K mg (is ++ js) σ Av as H r Q) (o : Off is σ σ') : WG K mg js σ' Av as H r Q := by
  cases r with
  | ok ρ' μ' => exact fun Av' as' H' σ2 t S o2 => h Av' as' H' σ2 t S (o.app o2)
  | ex e μ' => exact h
  | bad => exact h
theorem WG.bind {is js : List Nat} {r : R Rho} {k : Rho → Mu → R Rho} {Q : L2.St → Hp → Prop} (h : WG K mg (is ++ js) σ Av as H (r.bind k) Q) : WG K mg is σ Av as H r fun σ1 H1 => ∃ Av1 as1 ρ1 μ1, r = .ok ρ1 μ1 ∧ Step Av as H Av1 as1 H1 ∧ SR K mg Av1 as1 ρ1 μ1 σ1 H1 ∧ WG K mg js σ1 Av1 as1 H1 (k ρ1 μ1) Q := by
  cases r with
  | ok ρ' μ' =>
    intro Av' as' H' σ' s S o
    have h' : WG K mg (is ++ js) σ Av as H (k ρ' μ') Q := h
    exact ⟨Av', as', ρ', μ', rfl, s, S, (h'.on s).from o⟩
  | ex e μ' => exact h
  | bad => exact h
theorem WG.ofWp {β : Type} {is : List Nat} {r : R β} {k : β → Mu → R Rho} {Q : L2.St → Hp → Prop} (h : WG K mg is σ Av as H (r.bind k) Q) : Wp K mg W Av as ρ σ H r fun Av1 as1 H1 v μ1 => WG K mg is σ Av1 as1 H1 (k v μ1) Q := by
  cases r with
  | ok v μ1 => exact fun Av1 as1 H1 s1 S1 => WG.on (show WG K mg is σ Av as H (k v μ1) Q from h) s1
  | ex e μ1 => exact (show False from h).elim
  | bad => exact h
end
section
variable {X : Cx} {pos : Pos} {e : Expr}
theorem g_name (i : Nat) {x : Str} (nd : X.N.Nodup) (hi : X.N[i]? = some x := by rfl) (hx : X.env.scope.names.lookup x = some .local ∨ X.env.scope.names.lookup x = some .cell := by first | exact .inl rfl | exact .inr rfl)
    (hf : X.fn x = true ∨ X.env.scope.names.lookup x = some .local := by first | exact .inl rfl | exact .inr rfl) : PG X (.Name x pos) (tGt X.K X.mg [i] (gN i)) :=
  (pg_name nd hi hx hf).imp fun v σ H Q ⟨Av, as, ρ, μ, p, S, r, q⟩ => q Av as H _ .refl (S.put r) ⟨by simp, fun j h => by rw [List.getElem?_set_ne]; intro e; subst e; exact h List.mem_cons_self⟩
theorem gs_nil : PGs X [] (tGts X.K X.mg [] []) := pgs_nil.imp fun vs σ H Q ⟨Av, as, ρ, μ, ps, S, r, q⟩ => by
  cases ps with
  | nil => cases r; exact ⟨rfl, q Av as H _ .refl S .refl⟩
  | cons x xs => exact q.elim
theorem gs_cons {es : List Expr} {g : DG} {gs : List DG} {is js : List Nat} (h : PG X e (tGt X.K X.mg is g)) (h2 : PGs X es (tGts X.K X.mg js gs))
    (hs : (assignEach (e :: es) X.env).map (·.2) = assign e X.env :: (assignEach es X.env).map (·.2) := by rfl) : PGs X (e :: es) (tGts X.K X.mg (is ++ js) (g :: gs)) :=
  (pgs_cons h h2 hs).imp fun vs σ H Q ⟨Av, as, ρ, μ, ps, S, r, q⟩ => by
    cases ps with
    | nil => exact q.elim
    | cons x xs =>
      obtain ⟨v, t, rfl, r1, r2⟩ := r
      refine ⟨v, t, rfl, Av, as, ρ, μ, x, S, r1, (WG.bind q).mono fun σ1 H1 ⟨Av1, as1, ρ1, μ1, _, s1, S1, w⟩ => ?_⟩
      exact ⟨Av1, as1, ρ1, μ1, xs, S1, s1.tops r2, w⟩
theorem gGo_len {K : PySem.W.Frag} {mg : Str → Option Value} {is : List Nat} {σ : L2.St} {Av : Pd} {as : List Addr} {H : Hp} {Q : L2.St → Hp → Prop} : ∀ {gs : List DG} {ps : List PV} {ρ : Rho} {μ : Mu}, WG K mg is σ Av as H (gGo gs ps ρ μ) Q → ps.length = gs.length
  | [], [], _, _, _ => rfl
  | [], _ :: _, _, _, h => h.elim
  | _ :: _, [], _, _, h => h.elim
  | g :: gs, p :: ps, ρ, μ, h => by
    simp only [gGo] at h
    cases eg : g p ρ μ with
    | ok ρ1 μ1 => rw [eg] at h; simp [gGo_len (show WG K mg is σ Av as H (gGo gs ps ρ1 μ1) Q from h)]
    | ex e μ1 => rw [eg] at h; exact (show False from h).elim
    | bad => rw [eg] at h; exact (show False from h).elim
theorem g_tup {es : List Expr} {k : Nat} {gs : List DG} {is : List Nat} {n : Nat} (h : PGs X es (tGts X.K X.mg is gs)) (hn : (assignEach es X.env).length = n := by rfl) (hg : gs.length = n := by rfl) (hc : X.calm = true := by rfl) (hst : (assignEach es X.env).findIdx? (·.1) = none := by rfl) : PG X (.Tuple es k pos) (tGt X.K X.mg is (gL gs)) :=
  (pg_tup hc h hn hst).imp fun v σ H Q ⟨Av, as, ρ, μ, p, S, r, q⟩ => by
    cases p with
    | tup xs =>
      obtain ⟨a, vs, rfl, n, hq, rr⟩ := r
      exact ⟨a, vs, rfl, .of hq, by rw [rr.len, gGo_len q, hg], Av, as, ρ, μ, xs, S, rr.tops, q⟩
    | _ => exact q.elim
/-- x[i] = .. of a list in the store -/
def setIx (o i p : PV) (μ : Mu) : Option Mu := match o, i with
  | .ref n, .int k => match μ[n]? with
    | some (.lst xs) => match ixN xs.length k with
      | some j => some (μ.set n (.lst (xs.set j p)))
      | none => none
    | _ => none
  | _, _ => none
def gSub (o i : D) : DG := fun p ρ μ => (o ρ μ).bind fun x μ1 => (i ρ μ1).bind fun k μ2 => (fzv p μ2).bind fun w μ3 => match setIx x k w μ3 with
  | some μ4 => .ok ρ μ4
  | none => .bad
/-- a list of the store is another one -/
theorem SM.setL {K : PySem.W.Frag} {mg : Str → Option Value} {Av : Pd} {as : List Addr} {μ : Mu} {H : Hp} (S : SM K mg Av as μ H) {n : Nat} {a : Addr} {xs ys : List PV} {ws : List V} (h1 : as[n]? = some a) (h2 : μ[n]? = some (.lst xs)) (r : Reps K mg Av H ys ws) :
    Step Av as H Av as (upd H a (.lst ws)) ∧ SM K mg Av as (μ.set n (.lst ys)) (upd H a (.lst ws)) := by
  obtain ⟨ha, vs, e1, e2⟩ := S.obj n a _ h1 h2
  have hm := List.mem_of_getElem? h1
  have hn := (List.getElem?_eq_some_iff.mp h1).1
  have k : ∀ b o, H b = some o → ¬ Av b → upd H a (.lst ws) b = some o ∧ ¬ Av b := fun b o hb nb => ⟨by rw [upd_ne (show b ≠ a from fun e => nb (by rw [e]; exact ha))]; exact hb, nb⟩
  have dm : ∀ b, H b ≠ none → upd H a (.lst ws) b ≠ none := fun b hb => by
    by_cases e : b = a
    · subst e; rw [upd_same]; simp
    · rw [upd_ne e]; exact hb
  refine ⟨⟨⟨[], by simp, fun _ z => nomatch z⟩, fun b o hb hk => ?_, dm, fun _ _ z => z, fun _ _ z _ => z⟩, ⟨fun b z => dm b (S.trk b z), fun b xs z => by
    by_cases e : b = a
    · subst e; rw [upd_same]; intro w; cases w
    · rw [upd_ne e]; exact S.tv b xs z, fun b z => dm b (S.atr b z), S.nd, by simp [S.len], fun m b o q1 q2 => ?_⟩⟩
  · rw [upd_ne]
    · exact hb
    · intro e
      subst e
      rcases hk with z | z
      · exact z ha
      · exact z hm
  · by_cases e : m = n
    · subst e
      rw [h1] at q1; cases q1
      rw [List.getElem?_set_self (by rw [← S.len]; exact hn)] at q2
      cases q2
      exact ⟨ha, ws, upd_same, Reps.keep k _ _ r⟩
    · rw [List.getElem?_set_ne (fun z => e z.symm)] at q2
      have hne : b ≠ a := fun z => by
        subst z
        exact e ((List.getElem?_inj (List.getElem?_eq_some_iff.mp q1).1 S.nd).mp (by rw [q1, h1]))
      exact SOk.step k (fun o _ h => by rw [upd_ne hne]; exact h) (fun z => z) (S.obj m b o q1 q2)
theorem SR.setL {K : PySem.W.Frag} {mg : Str → Option Value} {Av : Pd} {as : List Addr} {ρ : Rho} {μ : Mu} {σ : L2.St} {H : Hp} (S : SR K mg Av as ρ μ σ H) {n : Nat} {a : Addr} {xs ys : List PV} {ws : List V} (h1 : as[n]? = some a) (h2 : μ[n]? = some (.lst xs)) (r : Reps K mg Av H ys ws) :
    Step Av as H Av as (upd H a (.lst ws)) ∧ SR K mg Av as ρ (μ.set n (.lst ys)) σ (upd H a (.lst ws)) :=
  let ⟨s, m⟩ := S.sm.setL h1 h2 r
  ⟨s, m, S.slen, fun i p h => let ⟨v, e, q⟩ := S.slot i p h; ⟨v, e, s.top q⟩⟩
theorem g_sub {W : WX} {o i : Expr} {do_ di : D} (ho : PE X o (tE X W do_)) (hi : PE X i (tE X W di))
    (ha : ∀ v, assign (.Subscript o i pos) X.env v = (do
      let ov ← holding [v] (eval o X.env)
      let iv ← holding [v, ov] (eval i X.env)
      standAt pos
      holding [v, ov, iv] (setItem ov iv v)
      release [v, ov, iv] []) := by intro _; rfl) : PG X (.Subscript o i pos) (tGt X.K X.mg [] (gSub do_ di)) :=
  (pg_sub ho hi set_list ha).imp fun v σ H Q ⟨Av, as, ρ, μ, p, S, r, q⟩ =>
    tD.go S (WG.ofWp q) fun Av1 as1 H1 x μ1 xv s1 S1 r1 q1 => tD.go S1 (WG.ofWp q1) fun Av2 as2 H2 k μ2 kv s2 S2 r2 q2 => by
      obtain ⟨Av3, w, μ3, ef, s3, S3, r3, q3⟩ := fz_ok (W := W) S2 ((s1.trans s2).top r) (WG.ofWp q2)
      have rx := s3.top (s2.top r1)
      have rk := s3.top r2
      unfold setIx at q3
      cases x with
      | ref n =>
        cases k with
        | int j =>
          obtain ⟨a, h1, ea⟩ := rx
          cases rk
          cases e2 : μ3[n]? with
          | none => simp only [e2] at q3; exact q3.elim
          | some so =>
            cases so with
            | lst xs =>
              simp only [e2] at q3
              cases e3 : ixN xs.length j with
              | none => simp only [e3] at q3; exact q3.elim
              | some l =>
                simp only [e3] at q3
                obtain ⟨_, vs, e4, e5⟩ := S3.sm.obj n a _ h1 e2
                obtain ⟨st, S4⟩ := S3.setL h1 e2 (e5.set l r3)
                exact ⟨a, vs, j, l, ea, rfl, e4, by rw [e5.len]; exact e3, q3 _ _ _ _ st S4 .refl⟩
            | _ => simp only [e2] at q3; exact q3.elim
        | _ => exact q3.elim
      | _ => exact q3.elim
end
end EV

set_option Elab.async false
set_option linter.all false
set_option autoImplicit false
set_option maxRecDepth 100000
namespace EV
open PySem PySem.Spec PyProof.Rows L2

/-! ### statements -/
def ret1 (r : R Rho) : F := match r with
  | .ok ρ' μ' => .nx ρ' μ'
  | _ => .bad
def dAsg (d : D) (g : DG) : DS := fun ρ μ => (d ρ μ).f ρ fun v μ1 => ret1 (g v ρ μ1)
def dDo (d : D) : DS := fun ρ μ => (d ρ μ).f ρ fun _ μ1 => .nx ρ μ1
def dRt (d : D) : DS := fun ρ μ => (d ρ μ).f ρ fun v μ1 => .rt v μ1
def dRtN : DS := fun _ μ => .rt .non μ
def dNx : DS := fun ρ μ => .nx ρ μ
def dBk : DS := fun ρ μ => .bk ρ μ
def dCt : DS := fun ρ μ => .ct ρ μ
def dSq (a b : DS) : DS := fun ρ μ => match a ρ μ with
  | .nx ρ' μ' => b ρ' μ'
  | o => o
def dIfS (c : DT) (a b : DS) : DS := fun ρ μ => (c ρ μ).f ρ fun k μ1 => if k then a ρ μ1 else b ρ μ1
def dWh : Nat → DT → DS → DS
  | 0, _, _ => fun _ _ => .bad
  | n + 1, c, b => fun ρ μ => (c ρ μ).f ρ fun k μ1 => if k then (match b ρ μ1 with
      | .nx ρ' μ' => dWh n c b ρ' μ'
      | .ct ρ' μ' => dWh n c b ρ' μ'
      | .bk ρ' μ' => .nx ρ' μ'
      | o => o) else .nx ρ μ1
def forGo (g : DG) (b : DS) : List PV → DS
  | [] => fun ρ μ => .nx ρ μ
  | x :: xs => fun ρ μ => match g x ρ μ with
    | .ok ρ1 μ1 => (match b ρ1 μ1 with
      | .nx ρ' μ' => forGo g b xs ρ' μ'
      | .ct ρ' μ' => forGo g b xs ρ' μ'
      | .bk ρ' μ' => .nx ρ' μ'
      | o => o)
    | _ => .bad
def dFor (it : DA) (g : DG) (b : DS) : DS := fun ρ μ => (it ρ μ).f ρ fun xs μ1 => forGo g b xs ρ μ1
/-- a, b = e1, e2 of plain names -/
def dPar2 (i j : Nat) (d : DA) : DS := fun ρ μ => (d ρ μ).f ρ fun vs μ1 => match vs with
  | [v, w] => .nx ((ρ.set i (some v)).set j (some w)) μ1
  | _ => .bad
def dPar3 (i j l : Nat) (d : DA) : DS := fun ρ μ => (d ρ μ).f ρ fun vs μ1 => match vs with
  | [u, v, w] => .nx (((ρ.set i (some u)).set j (some v)).set l (some w)) μ1
  | _ => .bad
/-- a tuple made and taken apart at once -/
def dTT (d : DA) (gs : List DG) : DS := fun ρ μ => (d ρ μ).f ρ fun vs μ1 => if lim vs.length then ret1 (gGo gs vs ρ μ1) else .bad

section
variable {X : Cx} {W : WX} {pos : Pos} {e : Expr} {d : D}
abbrev tSt (X : Cx) (W : WX) (s : DS) : TS := tS X.K X.mg W s
theorem SW.ofG {K : PySem.W.Frag} {mg : Str → Option Value} {W : WX} {E : Ends} {Av : Pd} {as : List Addr} {H : Hp} {r : R Rho} {is : List Nat} {σ : L2.St} (h : SW K mg W E Av as H (ret1 r)) : WG K mg is σ Av as H r E.nx := by
  cases r with
  | ok ρ' μ' => exact fun Av' as' H' σ' s S _ => h _ _ _ _ s S
  | ex e μ' => exact h
  | bad => exact h
theorem s_asg {tg : Expr} {g : DG} {is : List Nat} (he : PE X e (tE X W d)) (hg : PG X tg (tGt X.K X.mg is g)) (hs : swapsWithSole [tg] e pos.line X.env = pure false := by rfl) (hw : swappedStores [tg] e X.env = pure none := by rfl)
    (h1 : (assignEach [tg] X.env).map (·.2) = [assign tg X.env] := by rfl) : PS X (.Assign [tg] e pos) (tSt X W (dAsg d g)) :=
  (ps_asg he hg hs hw h1).imp fun E σ H ⟨Av, as, ρ, μ, S, h⟩ => tD.go S (SW.bind h) fun Av1 as1 H1 v μ1 x s1 S1 r1 q => ⟨Av1, as1, ρ, μ1, v, S1, r1, SW.ofG q⟩
theorem s_expr (he : PE X e (tE X W d)) (hs : swapsWith e none pos.line X.env = pure false := by rfl) : PS X (.Expr e pos) (tSt X W (dDo d)) :=
  (ps_expr he hs).imp fun E σ H ⟨Av, as, ρ, μ, S, h⟩ => tD.go S (SW.bind h) fun Av1 as1 H1 v μ1 x s1 S1 r1 q => q _ _ _ _ .refl S1
theorem s_doc {x : Str} {j : Nat} {p2 : Pos} : PS X (.Expr (.Constant (.str x) j p2) pos) (tSt X W dNx) :=
  ps_doc.imp fun E σ H ⟨Av, as, ρ, μ, S, h⟩ => h _ _ _ _ .refl S
theorem s_ret (he : PE X e (tE X W d)) : PS X (.Return (some e) pos) (tSt X W (dRt d)) :=
  (ps_ret he).imp fun E σ H ⟨Av, as, ρ, μ, S, h⟩ => tD.go S (SW.bind h) fun Av1 as1 H1 v μ1 x s1 S1 r1 q => q _ _ _ _ .refl S1.sm r1
theorem s_retN : PS X (.Return none pos) (tSt X W dRtN) :=
  ps_retN.imp fun E σ H ⟨Av, as, ρ, μ, S, h⟩ => h _ _ _ _ .refl S.sm rfl
theorem s_pass : PS X (.Pass pos) (tSt X W dNx) := ps_pass.imp fun E σ H ⟨Av, as, ρ, μ, S, h⟩ => h _ _ _ _ .refl S
theorem s_break : PS X (.Break pos) (tSt X W dBk) := ps_break.imp fun E σ H ⟨Av, as, ρ, μ, S, h⟩ => h _ _ _ _ .refl S
theorem s_cont : PS X (.Continue pos) (tSt X W dCt) := ps_continue.imp fun E σ H ⟨Av, as, ρ, μ, S, h⟩ => h _ _ _ _ .refl S
theorem ss_nil : PSs X [] (tSt X W dNx) := pss_nil.imp fun E σ H ⟨Av, as, ρ, μ, S, h⟩ => h _ _ _ _ .refl S
theorem ss_one {st : Stmt} {a : DS} (h : PS X st (tSt X W a)) : PSs X [st] (tSt X W a) := pss_one h
theorem SW.mono {K : PySem.W.Frag} {mg : Str → Option Value} {W : WX} {E E' : Ends} {Av : Pd} {as : List Addr} {H : Hp} {f : F} (h : SW K mg W E Av as H f) (h1 : ∀ σ H, E.nx σ H → E'.nx σ H) (h2 : ∀ σ H, E.bk σ H → E'.bk σ H) (h3 : ∀ σ H, E.ct σ H → E'.ct σ H) (h4 : ∀ v H, E.rt v H → E'.rt v H) : SW K mg W E' Av as H f := by
  cases f with
  | nx ρ' μ' => exact fun Av' as' H' σ' t S => h1 _ _ (h _ _ _ _ t S)
  | bk ρ' μ' => exact fun Av' as' H' σ' t S => h2 _ _ (h _ _ _ _ t S)
  | ct ρ' μ' => exact fun Av' as' H' σ' t S => h3 _ _ (h _ _ _ _ t S)
  | rt v μ' => exact fun Av' as' H' x t S r => h4 _ _ (h _ _ _ _ t S r)
  | ex e ρ' μ' => exact h
  | bad => exact h
theorem ss_cons {st : Stmt} {rest : List Stmt} {a b : DS} (h : PS X st (tSt X W a)) (h2 : PSs X rest (tSt X W b)) : PSs X (st :: rest) (tSt X W (dSq a b)) :=
  (pss_cons h h2).imp fun E σ H ⟨Av, as, ρ, μ, S, h⟩ => ⟨Av, as, ρ, μ, S, by
    unfold dSq at h
    cases e : a ρ μ with
    | nx ρ' μ' =>
      simp only [e] at h
      exact fun Av' as' H' σ' s S' => ⟨Av', as', ρ', μ', S', h.on s⟩
    | bk ρ' μ' => simp only [e] at h; exact h
    | ct ρ' μ' => simp only [e] at h; exact h
    | rt v μ' => simp only [e] at h; exact h
    | ex x ρ' μ' => simp only [e] at h; exact h
    | bad => simp only [e] at h; exact h⟩
theorem s_if {c : Expr} {as bs : List Stmt} {tc : DT} {a b : DS} (hc : PT X c (tB X W tc)) (ha : PSs X as (tSt X W a)) (hb : PSs X bs (tSt X W b)) : PS X (.If c as bs pos) (tSt X W (dIfS tc a b)) :=
  (ps_if hc ha hb).imp fun E σ H ⟨Av, as, ρ, μ, S, h⟩ => tDT.go S (SW.bind h) fun Av1 as1 H1 v μ1 s1 S1 q => by
    cases v with
    | true => exact iteT ⟨Av1, as1, ρ, μ1, S1, q⟩
    | false => exact iteF ⟨Av1, as1, ρ, μ1, S1, q⟩
/-- a loop's body, then what comes -/
theorem SW.loop {K : PySem.W.Frag} {mg : Str → Option Value} {W : WX} {E : Ends} {Av : Pd} {as : List Addr} {H : Hp} {f : F} {k : Rho → Mu → F} {N : L2.St → Hp → Prop}
    (h : SW K mg W E Av as H (match f with
      | .nx ρ' μ' => k ρ' μ'
      | .ct ρ' μ' => k ρ' μ'
      | .bk ρ' μ' => .nx ρ' μ'
      | o => o)) (hN : ∀ Av' as' H' σ' ρ' μ', Step Av as H Av' as' H' → SR K mg Av' as' ρ' μ' σ' H' → SW K mg W E Av' as' H' (k ρ' μ') → N σ' H') : SW K mg W { E with nx := N, ct := N, bk := E.nx } Av as H f := by
  cases f with
  | nx ρ' μ' => exact fun Av' as' H' σ' s S => hN _ _ _ _ _ _ s S (SW.on h s)
  | ct ρ' μ' => exact fun Av' as' H' σ' s S => hN _ _ _ _ _ _ s S (SW.on h s)
  | bk ρ' μ' => exact h
  | rt v μ' => exact h
  | ex x ρ' μ' => exact h
  | bad => exact h
theorem s_while (n : Nat) {c : Expr} {body : List Stmt} {tc : DT} {b : DS} (hp : PassesOwn (model X.prog X.w) X.A X.env X.xe) (hc : PT X c (tB X W tc)) (hb : PSs X body (tSt X W b)) : PS X (.While c body [] pos) (tSt X W (dWh n tc b)) :=
  (ps_while hp hc hb).imp fun E σ H ⟨Av, as, ρ, μ, S, h⟩ => by
    refine ⟨fun m σ H => ∃ Av as ρ μ, SR X.K X.mg Av as ρ μ σ H ∧ SW X.K X.mg W E Av as H (dWh m tc b ρ μ), ⟨n, Av, as, ρ, μ, S, h⟩, ?_⟩
    rintro m σ1 H1 ⟨Av1, as1, ρ1, μ1, S1, h1⟩
    cases m with
    | zero => exact h1.elim
    | succ m =>
      refine tDT.go S1 (SW.bind h1) fun Av2 as2 H2 v μ2 s2 S2 q => ?_
      cases v with
      | false => exact iteF (q _ _ _ _ .refl S2)
      | true =>
        refine iteT ⟨fun σ' H' => ∃ Av as ρ μ, SR X.K X.mg Av as ρ μ σ' H' ∧ SW X.K X.mg W E Av as H' (dWh m tc b ρ μ), fun σ' H' z => ⟨m, Nat.lt_succ_self m, z⟩, Av2, as2, ρ1, μ2, S2, ?_⟩
        exact SW.loop (k := dWh m tc b) q fun Av' as' H' σ' ρ' μ' s S' w => ⟨Av', as', ρ', μ', S', w⟩
theorem s_for {tg iter : Expr} {body : List Stmt} {it : DA} {g : DG} {is : List Nat} {b : DS} (hp : PassesOwn (model X.prog X.w) X.A X.env X.xe) (hi : PI X tg iter (tI X.K X.mg W it)) (hg : PG X tg (tGt X.K X.mg is g)) (hb : PSs X body (tSt X W b))
    (hc : X.calm = true := by rfl) (hs : ∀ x, foldedSetIterable iter X.env x = pure x := by intro _; rfl) : PS X (.For tg iter body [] pos) (tSt X W (dFor it g b)) :=
  (ps_for hp hc hi hg hb hs).imp fun E σ H ⟨Av, as, ρ, μ, S, h⟩ => by
    refine ⟨Av, as, ρ, μ, S, (SW.bind h).mono fun Av1 as1 H1 xs μ1 _ s1 S1 q J hJ => ?_⟩
    refine ⟨fun i m σ H => ∃ Av as ρ μ, Step Av1 as1 H1 Av as H ∧ SR X.K X.mg Av as ρ μ σ H ∧ SW X.K X.mg W E Av as H (forGo g b (xs.drop i) ρ μ) ∧ m = xs.length - i ∧ i ≤ xs.length, ⟨xs.length, Av1, as1, ρ, μ1, .refl, S1, q, by simp, Nat.zero_le _⟩, ?_⟩
    rintro i m σ2 H2 ⟨Av2, as2, ρ2, μ2, s2, S2, w2, rfl, hi2⟩
    obtain ⟨j1, j2, j3⟩ := hJ i Av2 as2 H2 s2.toK
    by_cases hlt : i < xs.length
    · refine .inr ⟨j2 hlt, fun σ' H' => ∃ Av as ρ μ, Step Av1 as1 H1 Av as H' ∧ SR X.K X.mg Av as ρ μ σ' H' ∧ SW X.K X.mg W E Av as H' (forGo g b (xs.drop (i + 1)) ρ μ), ?_, fun x H3 y => ?_⟩
      · rintro σ' H' ⟨Av', as', ρ', μ', s', S', w'⟩
        exact ⟨xs.length - (i + 1), by omega, Av', as', ρ', μ', s', S', w', rfl, hlt⟩
      · obtain ⟨p, ep, s3, k3, r3⟩ := j3 x H3 hlt y
        have S3 := k3 _ _ _ S2
        have ed : xs.drop i = p :: xs.drop (i + 1) := by
          have := List.getElem?_eq_some_iff.mp ep
          obtain ⟨hl, e⟩ := this
          rw [← e]
          exact List.drop_eq_getElem_cons hl
        rw [ed] at w2
        have w3 := w2.on s3
        refine ⟨Av2, as2, ρ2, μ2, p, S3, r3.top, ?_⟩
        simp only [forGo] at w3
        cases eg : g p ρ2 μ2 with
        | ok ρ4 μ4 =>
          simp only [eg] at w3
          intro Av4 as4 H4 σ4 s4 S4 _
          refine ⟨Av4, as4, ρ4, μ4, S4, SW.loop (k := forGo g b (xs.drop (i + 1))) (w3.on s4) fun Av' as' H' σ' ρ' μ' s S' w => ⟨Av', as', ρ', μ', ?_, S', w⟩⟩
          exact (s2.trans s3).trans (s4.trans s)
        | ex x μ4 => simp only [eg] at w3; exact w3.elim
        | bad => simp only [eg] at w3; exact w3.elim
    · have e0 : xs.drop i = [] := List.drop_eq_nil_of_le (by omega)
      rw [e0] at w2
      exact .inl ⟨j1 (by omega), w2 _ _ _ _ .refl S2⟩
theorem s_par2 {i j : Nat} {x y : Str} {a b : Expr} {da : DA} {px py pt : Pos} {kt k2 pt2} (hN : X.N.Nodup) (hi : X.N[i]? = some x) (hj : X.N[j]? = some y) (hij : i ≠ j) (ha : PA X [a, b] (tAr X W da))
    (hx : X.env.scope.names.lookup x = some .local := by rfl) (hy : X.env.scope.names.lookup y = some .local := by rfl)
    (hw : swappedStores [.Tuple [.Name x px, .Name y py] kt pt] (.Tuple [a, b] k2 pt2) X.env = pure (some [x, y]) := by rfl) (hc : X.calm = true := by rfl)
    (hs : swapsWithSole [.Tuple [.Name x px, .Name y py] kt pt] (.Tuple [a, b] k2 pt2) pos.line X.env = pure false := by rfl) :
    PS X (.Assign [.Tuple [.Name x px, .Name y py] kt pt] (.Tuple [a, b] k2 pt2) pos) (tSt X W (dPar2 i j da)) :=
  (ps_par hc hN hi hj hij hx hy ha hw hs).imp fun E σ H ⟨Av, as, ρ, μ, S, h⟩ => tDA.go S (SW.bind h) fun Av1 as1 H1 vs μ1 xs s1 S1 r1 q => by
    split at q
    · rename_i v w
      obtain ⟨v', t, rfl, r, w', t', rfl, r', rfl⟩ := r1
      exact ⟨v', w', rfl, q _ _ _ _ .refl ((S1.put r).put r')⟩
    · exact q.elim
theorem s_par3 {i j l : Nat} {x y z : Str} {a b c : Expr} {da : DA} {px py pz pt : Pos} {kt k2 pt2} (hN : X.N.Nodup) (hi : X.N[i]? = some x) (hj : X.N[j]? = some y) (hl : X.N[l]? = some z) (hij : i ≠ j) (hil : i ≠ l) (hjl : j ≠ l) (ha : PA X [a, b, c] (tAr X W da))
    (hx : X.env.scope.names.lookup x = some .local := by rfl) (hy : X.env.scope.names.lookup y = some .local := by rfl) (hz : X.env.scope.names.lookup z = some .local := by rfl)
    (hw : swappedStores [.Tuple [.Name x px, .Name y py, .Name z pz] kt pt] (.Tuple [a, b, c] k2 pt2) X.env = pure (some [x, y, z]) := by rfl) (hc : X.calm = true := by rfl)
    (hs : swapsWithSole [.Tuple [.Name x px, .Name y py, .Name z pz] kt pt] (.Tuple [a, b, c] k2 pt2) pos.line X.env = pure false := by rfl) :
    PS X (.Assign [.Tuple [.Name x px, .Name y py, .Name z pz] kt pt] (.Tuple [a, b, c] k2 pt2) pos) (tSt X W (dPar3 i j l da)) :=
  (ps_par3 hc hN hi hj hl hij hil hjl hx hy hz ha hw hs).imp fun E σ H ⟨Av, as, ρ, μ, S, h⟩ => tDA.go S (SW.bind h) fun Av1 as1 H1 vs μ1 xs s1 S1 r1 q => by
    split at q
    · rename_i u v w
      obtain ⟨u', t, rfl, r, v', t', rfl, r', w', t'', rfl, r'', rfl⟩ := r1
      exact ⟨u', v', w', rfl, q _ _ _ _ .refl (((S1.put r).put r').put r'')⟩
    · exact q.elim
theorem s_tt {es ts : List Expr} {da : DA} {gs : List DG} {is : List Nat} {k k2 n : Nat} {pt p2 : Pos} (ha : PA X es (tAr X W da)) (hg : PGs X ts (tGts X.K X.mg is gs)) (hn : (assignEach ts X.env).length = n := by rfl) (hl : gs.length = n := by rfl)
    (hw : swappedStores [.Tuple ts k pt] (.Tuple es k2 p2) X.env = pure none := by rfl) (hc : X.calm = true := by rfl) (hst : (assignEach ts X.env).findIdx? (·.1) = none := by rfl)
    (hs : swapsWithSole [.Tuple ts k pt] (.Tuple es k2 p2) pos.line X.env = pure false := by rfl) (h1 : (assignEach [.Tuple ts k pt] X.env).map (·.2) = [assign (.Tuple ts k pt) X.env] := by rfl) :
    PS X (.Assign [.Tuple ts k pt] (.Tuple es k2 p2) pos) (tSt X W (dTT da gs)) :=
  (ps_asg (pe_tup ha) (pg_tup hc hg hn hst) hs hw h1).imp fun E σ H ⟨Av, as, ρ, μ, S, h⟩ => tDA.go S (SW.bind h) fun Av1 as1 H1 vs μ1 xs s1 S1 r1 q => by
    by_cases hk : lim vs.length = true
    · rw [if_pos hk] at q
      refine ⟨by rw [r1.len]; exact lim_ok hk, fun p hn => ?_⟩
      have st : Step Av1 as1 H1 Av1 as1 (upd H1 p (.tup xs)) := step_newv hn
      exact ⟨p, xs, rfl, .of upd_same, by rw [r1.len, gGo_len (SW.ofG (is := []) (σ := []) q), hl], Av1, as1, ρ, μ1, vs, S1.newv hn, st.tops r1, (SW.ofG q).on st⟩
    · rw [if_neg hk] at q; exact q.elim
end
end EV

set_option Elab.async false
set_option linter.all false
set_option autoImplicit false
set_option maxRecDepth 100000
namespace EV
open PySem PySem.Spec PyProof.Rows L2

/-! ### defs -/
/-- what a def is worth: its arguments (things of the store are told by their places in the list of them), these things -/
abbrev DF := List PV → Mu → R PV
def slots (n : Nat) (xs : List PV) : Rho := xs.map some ++ List.replicate (n - xs.length) none
/-- what is handed back: a thing of one's own as a value -/
def fin (v : PV) (n : Nat) (μ : Mu) : R PV := match v with
  | .ref k => if k < n then .ok (.ref k) (μ.take n) else match μ[k]? with
    | some (.lst xs) => .ok (.lst xs) (μ.take n)
    | some (.frz w) => .ok w (μ.take n)
    | some (.ins c ns vs) => .ok (.ins c ns vs) (μ.take n)
    | _ => .bad
  | w => .ok w (μ.take n)
def dFun (m n : Nat) (b : DS) : DF := fun xs μ => if Nat.beq xs.length m then (match b (slots n xs) μ with
  | .nx _ μ' => .ok .non (μ'.take μ.length)
  | .rt v μ' => fin v μ.length μ'
  | .ex e _ μ' => .ex e (μ'.take μ.length)
  | _ => .bad) else .bad
section
variable (K : PySem.W.Frag) (mg : Str → Option Value)
def FW (Q : VK) (E : XK) (Av : Pd) (as : List Addr) (H : Hp) (r : R PV) : Prop := match r with
  | .ok v μ' => ∀ Av' H' x, Step Av as H Av' as H' → SM K mg Av' as μ' H' → RepT K mg Av' as H' v x → Q x H'
  | .ex e μ' => ∀ Av' H' cls d, Step Av as H Av' as H' → SM K mg Av' as μ' H' → ExRep K mg Av' H' e cls d → E cls d H'
  | .bad => False
def spF (φ : DF) : Sp := fun vs H Q E => ∃ Av as xs μ, SM K mg Av as μ H ∧ RepTs K mg Av as H xs vs ∧ FW K mg Q E Av as H (φ xs μ)
end
section
variable {K : PySem.W.Frag} {mg : Str → Option Value} {W : WX} {Av Av' Av1 Av2 : Pd} {H H' H1 H2 : Hp} {as as' as1 as2 : List Addr} {ρ : Rho} {μ μ' : Mu} {σ : L2.St}
theorem slots_get {n : Nat} {xs : List PV} {i : Nat} {p : PV} (h : (slots n xs)[i]? = some (some p)) : xs[i]? = some p := by
  unfold slots at h
  by_cases hi : i < xs.length
  · rw [List.getElem?_append_left (by simpa using hi), List.getElem?_map] at h
    cases e : xs[i]? with
    | none => rw [e] at h; cases h
    | some q => rw [e] at h; cases h; rfl
  · rw [List.getElem?_append_right (by simpa using hi), List.getElem?_replicate] at h
    split at h <;> cases h
theorem RepTs.get : ∀ {p : List PV} {v : List V} {i : Nat} {x : PV}, RepTs K mg Av as H p v → p[i]? = some x → ∃ u, v[i]? = some u ∧ RepT K mg Av as H x u
  | [], v, _, _, h, e => by simp at e
  | x :: xs, v, 0, y, ⟨u, r, e, h1, h2⟩, q => by subst e; simp at q; subst q; exact ⟨u, rfl, h1⟩
  | x :: xs, v, i + 1, y, ⟨u, r, e, h1, h2⟩, q => by subst e; simpa using RepTs.get h2 (by simpa using q)
theorem SR.start {N : List Str} {xs : List PV} {vs : List V} (S : SM K mg Av as μ H) (r : RepTs K mg Av as H xs vs) : SR K mg Av as (slots N.length xs) μ (L2.start N vs) H := by
  refine ⟨S, ?_, fun i p h => ?_⟩
  · unfold slots L2.start
    simp [r.len]
  · have e := slots_get h
    obtain ⟨u, e1, e2⟩ := r.get e
    refine ⟨u, ?_, e2⟩
    unfold L2.start
    have hl := (List.getElem?_eq_some_iff.mp e1).1
    rw [List.getElem?_append_left (by simpa using hl), List.getElem?_map, e1]
    rfl
/-- what a def has laid is let go -/
def lessL (Av : Pd) (l : List Addr) : Pd := fun a => Av a ∧ a ∉ l
theorem SM.drop {l : List Addr} {n : Nat} (S : SM K mg Av (as ++ l) μ H) (hn : n = as.length) : SM K mg (lessL Av l) as (μ.take n) H := by
  have k : ∀ b o, H b = some o → ¬ Av b → H b = some o ∧ ¬ lessL Av l b := fun b o h n => ⟨h, fun z => n z.1⟩
  have nd := List.nodup_append.mp S.nd
  refine ⟨fun a z => S.trk a z.1, fun a xs z => S.tv a xs z.1, fun a z => S.atr a (List.mem_append_left _ z), nd.1, ?_, fun m a o h1 h2 => ?_⟩
  · have := S.len
    rw [List.length_append] at this
    rw [List.length_take]
    omega
  · have hm := (List.getElem?_eq_some_iff.mp h1).1
    have ha : a ∉ l := fun z => nd.2.2 a (List.mem_of_getElem? h1) a z rfl
    rw [List.getElem?_take] at h2
    split at h2
    · exact SOk.step k (fun _ _ h => h) (fun z => ⟨z, ha⟩) (S.obj m a o (by rw [List.getElem?_append_left hm]; exact h1) h2)
    · cases h2
theorem Step.drop {l : List Addr} (s : Step Av as H Av' (as ++ l) H') : Step Av as H (lessL Av' l) as H' := by
  obtain ⟨l', e, hl⟩ := s.ext
  have e' : l = l' := List.append_cancel_left e
  subst e'
  exact ⟨⟨[], by simp, fun _ z => nomatch z⟩, s.keep, s.dom, fun b hb z => s.av b hb z.1, fun b hb z n => ⟨s.out b hb z n, fun hm => hb (hl b hm)⟩⟩
theorem Rep.lessL {l : List Addr} {p : PV} {v : V} (r : Rep K mg Av H p v) : Rep K mg (lessL Av l) H p v := Rep.keep (fun _ _ h n => ⟨h, fun z => n z.1⟩) _ _ r
theorem Reps.lessL {l : List Addr} {p : List PV} {v : List V} (r : Reps K mg Av H p v) : Reps K mg (EV.lessL Av l) H p v := Reps.keep (fun _ _ h n => ⟨h, fun z => n z.1⟩) _ _ r
theorem ExRep.lessL {l : List Addr} {e : PV} {cls : Value} {d : Option Addr} (x : ExRep K mg Av H e cls d) : ExRep K mg (EV.lessL Av l) H e cls d := by
  obtain ⟨c, ns, vs, C, dd, fs, h1, h2, h3, h4, h5, h6, h7, h8⟩ := x
  exact ⟨c, ns, vs, C, dd, fs, h1, h2, h3, h4, fun z => h5 z.1, h6, h7, h8.lessL⟩
theorem fin_ok {Q : VK} {E : XK} {v : PV} {x : V} {l : List Addr} (S : SM K mg Av' (as ++ l) μ' H') (s : Step Av as H Av' (as ++ l) H') (r : RepT K mg Av' (as ++ l) H' v x) (h : FW K mg Q E Av as H (fin v as.length μ')) : Q x H' := by
  have S' := S.drop (n := as.length) rfl
  have s' := s.drop
  have val : ∀ {w : PV}, FW K mg Q E Av as H (.ok w (μ'.take as.length)) → Rep K mg (EV.lessL Av' l) H' w x → Q x H' := fun h r => h _ _ _ s' S' r.top
  cases v with
  | ref k =>
    obtain ⟨a, h1, ex⟩ := r
    subst ex
    unfold fin at h
    by_cases hk : k < as.length
    · simp only [hk, if_true] at h
      refine h _ _ _ s' S' ⟨a, ?_, rfl⟩
      rw [← h1, List.getElem?_append_left hk]
    · simp only [hk, if_false] at h
      have ha : a ∈ l := by
        rw [List.getElem?_append_right (by omega)] at h1
        exact List.mem_of_getElem? h1
      cases q : μ'[k]? with
      | none => simp only [q] at h; exact h.elim
      | some o =>
        have so := S.obj k a o h1 q
        cases o with
        | lst xs =>
          simp only [q] at h
          obtain ⟨_, vs, e1, e2⟩ := so
          exact val h ⟨a, vs, rfl, fun z => z.2 ha, e1, e2.lessL⟩
        | frz w =>
          simp only [q] at h
          exact val h (Rep.lessL so)
        | dct _ _ => simp only [q] at h; exact h.elim
        | ins c ns vs =>
          simp only [q] at h
          obtain ⟨_, C, dx, fs, e1, e2, e3, e4⟩ := so
          exact val h ⟨a, C, dx, fs, rfl, fun z => z.2 ha, e1, e2, e3, e4.lessL⟩
  | _ => exact val h (Rep.lessL r)
end
section
variable {P : Program} {w : World} {K : PySem.W.Frag} {mg : Str → Option Value} {base : Heap}
/-- THE RULE for a def -/
theorem ok_def {x qual : Str} {st : Stmt} {f : Addr} {fd : FuncData} {N ps : List Str} {k : Nat} (b : DS) (F : L2.Fun K x qual st f fd) (S : FnScope N ps (defScope st))
    (hb : ∀ (cdv : Value) (A : Around) (outer : List Env) (s : Shared) (H : Hp) (E : XK), Room k (A.deeper (envOfC qual (defScope st) s.heap.objs.size f cdv)) →
      PSs (cxOf (L2.CX P w) P w K mg base N qual (defScope st) f cdv A outer s H E) (defBody st) (tS K mg (fun cls d _ H => E cls d H) b)) :
    FnOk P w K mg base (L2.CX P w) (k + 1) f fd ps (spF K mg (dFun ps.length N.length b)) := by
  refine F.okX S (fun vs H Q E h => ?_) (fun cdv A outer s H vs Q E hr h => ?_)
  · obtain ⟨Av, as, xs, μ, Sm, r, h⟩ := h
    rw [r.len]
    by_cases hl : Nat.beq xs.length ps.length = true
    · exact Nat.eq_of_beq_eq_true hl
    · unfold dFun at h
      rw [if_neg hl] at h
      exact h.elim
  · obtain ⟨Av, as, xs, μ, Sm, r, h⟩ := h
    refine ⟨_, hb cdv A outer s H E hr, Av, as, slots N.length xs, μ, SR.start Sm r, ?_⟩
    have hlen := Sm.len
    unfold dFun at h
    by_cases hl : Nat.beq xs.length ps.length = true
    case neg => rw [if_neg hl] at h; exact h.elim
    rw [if_pos hl] at h
    cases e : b (slots N.length xs) μ with
    | nx ρ' μ' =>
      simp only [e] at h
      intro Av' as' H' σ' s' S'
      obtain ⟨l, rfl, _⟩ := s'.ext
      rw [← hlen] at h
      exact h _ _ _ s'.drop (S'.sm.drop rfl) rfl
    | rt v μ' =>
      simp only [e] at h
      intro Av' as' H' x s' S' r'
      obtain ⟨l, rfl, _⟩ := s'.ext
      rw [← hlen] at h
      exact fin_ok S' s' r' h
    | ex x ρ' μ' =>
      simp only [e] at h
      intro Av' as' H' σ' cls d s' S' r'
      obtain ⟨l, rfl, _⟩ := s'.ext
      rw [← hlen] at h
      exact h _ _ _ _ s'.drop (S'.sm.drop rfl) r'.lessL
    | bk _ _ => simp only [e] at h; exact h.elim
    | ct _ _ => simp only [e] at h; exact h.elim
    | bad => simp only [e] at h; exact h.elim
end

/-! ### calls -/
def refs : List PV → List Nat
  | [] => []
  | .ref n :: r => n :: refs r
  | _ :: r => refs r
def renum : Nat → List PV → List PV
  | _, [] => []
  | k, .ref _ :: r => .ref k :: renum (k + 1) r
  | k, x :: r => x :: renum k r
def gets (μ : Mu) : List Nat → Option Mu
  | [] => some []
  | n :: r => match μ[n]? with
    | some o => match gets μ r with
      | some os => some (o :: os)
      | none => none
    | none => none
def puts : List Nat → Mu → Mu → Mu
  | n :: ns, o :: os, μ => puts ns os (μ.set n o)
  | _, _, μ => μ
def ndp : List Nat → Bool
  | [] => true
  | n :: r => !r.contains n && ndp r
def unref (ns : List Nat) : PV → Option PV
  | .ref k => match ns[k]? with
    | some n => some (.ref n)
    | none => none
  | v => some v
def callF (φ : DF) (xs : List PV) (μ : Mu) : R PV := match gets μ (refs xs) with
  | some os => if ndp (refs xs) then match φ (renum 0 xs) os with
    | .ok v os' => if os'.length == os.length then match unref (refs xs) v with
      | some w => .ok w (puts (refs xs) os' μ)
      | none => .bad
      else .bad
    | .ex e os' => if os'.length == os.length then .ex e (puts (refs xs) os' μ) else .bad
    | .bad => .bad
    else .bad
  | none => .bad
def dCall (φ : DF) (d : DA) : D := fun ρ μ => (d ρ μ).bind fun xs μ1 => callF φ xs μ1
section
variable {K : PySem.W.Frag} {mg : Str → Option Value} {W : WX} {Av Av' Av1 Av2 : Pd} {H H' H1 H2 : Hp} {as as' as1 as2 : List Addr} {ρ : Rho} {μ μ' : Mu} {σ : L2.St}
def getA (as : List Addr) : List Nat → List Addr
  | [] => []
  | n :: r => as.getD n 0 :: getA as r
theorem getA_len (as : List Addr) : ∀ ns : List Nat, (getA as ns).length = ns.length
  | [] => rfl
  | n :: r => by simp [getA, getA_len as r]
theorem gets_len : ∀ {ns : List Nat} {os : Mu}, gets μ ns = some os → os.length = ns.length
  | [], os, h => by cases h; rfl
  | n :: r, os, h => by
    unfold gets at h
    cases q : μ[n]? with
    | none => simp only [q] at h; cases h
    | some o =>
      simp only [q] at h
      cases q2 : gets μ r with
      | none => simp only [q2] at h; cases h
      | some os' => simp only [q2] at h; cases h; simp [gets_len q2]
theorem gets_get : ∀ {ns : List Nat} {os : Mu} {i n : Nat}, gets μ ns = some os → ns[i]? = some n → os[i]? = μ[n]? ∧ n < μ.length
  | [], os, i, n, h, e => by simp at e
  | m :: r, os, i, n, h, e => by
    unfold gets at h
    cases q : μ[m]? with
    | none => simp only [q] at h; cases h
    | some o =>
      simp only [q] at h
      cases q2 : gets μ r with
      | none => simp only [q2] at h; cases h
      | some os' =>
        simp only [q2] at h
        cases h
        cases i with
        | zero => simp at e; subst e; exact ⟨by simp [q], (List.getElem?_eq_some_iff.mp q).1⟩
        | succ i => simpa using gets_get q2 (by simpa using e)
theorem getA_get (as : List Addr) : ∀ (ns : List Nat) (i n : Nat), ns[i]? = some n → (getA as ns)[i]? = some (as.getD n 0)
  | [], i, n, e => by simp at e
  | m :: r, 0, n, e => by simp at e; subst e; rfl
  | m :: r, i + 1, n, e => by simpa [getA] using getA_get as r i n (by simpa using e)
theorem getA_get' (as : List Addr) {ns : List Nat} {i : Nat} {a : Addr} (h : (getA as ns)[i]? = some a) : ∃ n, ns[i]? = some n ∧ a = as.getD n 0 := by
  have hl := (List.getElem?_eq_some_iff.mp h).1
  rw [getA_len] at hl
  refine ⟨ns[i], List.getElem?_eq_getElem hl, ?_⟩
  have := getA_get as ns i _ (List.getElem?_eq_getElem hl)
  rw [h] at this
  exact Option.some.inj this
theorem ndp_ok : ∀ {ns : List Nat}, ndp ns = true → ns.Nodup
  | [], _ => List.nodup_nil
  | n :: r, h => by
    unfold ndp at h
    rw [Bool.and_eq_true] at h
    refine List.nodup_cons.mpr ⟨fun z => ?_, ndp_ok h.2⟩
    have := h.1
    simp [List.contains_iff_mem] at this
    exact this z
theorem getA_mem (as : List Addr) {ns : List Nat} {a : Addr} (h : a ∈ getA as ns) : ∃ n ∈ ns, a = as.getD n 0 := by
  obtain ⟨i, hi⟩ := List.getElem?_of_mem h
  obtain ⟨n, e, q⟩ := getA_get' as hi
  exact ⟨n, List.mem_of_getElem? e, q⟩
theorem getA_nodup (nd : as.Nodup) : ∀ {ns : List Nat}, ns.Nodup → (∀ n ∈ ns, n < as.length) → (getA as ns).Nodup
  | [], _, _ => List.nodup_nil
  | n :: r, h, hb => by
    have h' := List.nodup_cons.mp h
    refine List.nodup_cons.mpr ⟨fun z => ?_, getA_nodup nd h'.2 fun m hm => hb m (List.mem_cons_of_mem _ hm)⟩
    obtain ⟨m, hm, e⟩ := getA_mem as z
    have hn := hb n List.mem_cons_self
    have hm' := hb m (List.mem_cons_of_mem _ hm)
    have : n = m := (List.getElem?_inj hn nd).mp (by
      rw [List.getD_eq_getElem?_getD, List.getD_eq_getElem?_getD, List.getElem?_eq_getElem hn, List.getElem?_eq_getElem hm'] at e
      rw [List.getElem?_eq_getElem hn, List.getElem?_eq_getElem hm']
      simpa using e)
    exact h'.1 (this ▸ hm)
theorem refs_lt {xs : List PV} {os : Mu} (h : gets μ (refs xs) = some os) : ∀ n ∈ refs xs, n < μ.length := fun n hn => by
  obtain ⟨i, hi⟩ := List.getElem?_of_mem hn
  exact (gets_get h hi).2
/-- the callee's view -/
theorem SM.view (S : SM K mg Av as μ H) {ns : List Nat} {os : Mu} (h : gets μ ns = some os) (nd : ndp ns = true) : SM K mg Av (getA as ns) os H := by
  have lt : ∀ n ∈ ns, n < as.length := fun n hn => by
    obtain ⟨i, hi⟩ := List.getElem?_of_mem hn
    rw [S.len]
    exact (gets_get h hi).2
  have at_ : ∀ n ∈ ns, as[n]? = some (as.getD n 0) := fun n hn => by
    rw [List.getD_eq_getElem?_getD, List.getElem?_eq_getElem (lt n hn)]; rfl
  refine ⟨S.trk, S.tv, fun a ha => ?_, getA_nodup S.nd (ndp_ok nd) lt, by rw [getA_len, gets_len h], fun i a o h1 h2 => ?_⟩
  · obtain ⟨n, hn, e⟩ := getA_mem as ha
    subst e
    exact S.atr _ (List.mem_of_getElem? (at_ n hn))
  · obtain ⟨n, e, q⟩ := getA_get' as h1
    subst q
    have g := (gets_get h e).1
    rw [h2] at g
    exact S.obj n _ o (at_ n (List.mem_of_getElem? e)) g.symm
theorem view_args (as : List Addr) {H : Hp} : ∀ {xs : List PV} {vs : List V} (k : Nat) (bs : List Addr), RepTs K mg Av as H xs vs → bs.length = k → RepTs K mg Av (bs ++ getA as (refs xs)) H (renum k xs) vs
  | [], vs, k, bs, h, _ => h
  | x :: xs, vs, k, bs, ⟨v, r, e, h1, h2⟩, hk => by
    have other : (∀ n, x ≠ .ref n) → RepTs K mg Av (bs ++ getA as (refs (x :: xs))) H (renum k (x :: xs)) vs := fun hx => by
      have e1 : refs (x :: xs) = refs xs := by cases x <;> first | rfl | exact absurd rfl (hx _)
      have e2 : renum k (x :: xs) = x :: renum k xs := by cases x <;> first | rfl | exact absurd rfl (hx _)
      rw [e1, e2]
      refine ⟨v, r, e, ?_, view_args as k bs h2 hk⟩
      cases x <;> first | exact h1 | exact absurd rfl (hx _)
    cases x with
    | ref n =>
      obtain ⟨a, e1, e2⟩ := h1
      refine ⟨v, r, e, ⟨a, ?_, e2⟩, ?_⟩
      · rw [List.getElem?_append_right (by omega)]
        have : k - bs.length = 0 := by omega
        rw [this]
        simp [refs, getA, List.getD_eq_getElem?_getD, e1]
      · have := view_args as (k + 1) (bs ++ [as.getD n 0]) h2 (by simp [hk])
        rw [List.append_assoc] at this
        exact this
    | _ => exact other (by intro n z; cases z)
theorem puts_len : ∀ (ns : List Nat) (os μ : Mu), (puts ns os μ).length = μ.length
  | [], os, μ => rfl
  | n :: ns, [], μ => rfl
  | n :: ns, o :: os, μ => by rw [puts, puts_len ns os]; simp
theorem puts_other : ∀ (ns : List Nat) (os μ : Mu) (m : Nat), m ∉ ns → (puts ns os μ)[m]? = μ[m]?
  | [], os, μ, m, _ => rfl
  | n :: ns, [], μ, m, _ => rfl
  | n :: ns, o :: os, μ, m, h => by
    rw [puts, puts_other ns os _ m fun z => h (List.mem_cons_of_mem _ z), List.getElem?_set_ne]
    intro e
    subst e
    exact h List.mem_cons_self
theorem puts_at : ∀ (ns : List Nat) (os μ : Mu) (i n : Nat), ns.Nodup → os.length = ns.length → (∀ n ∈ ns, n < μ.length) → ns[i]? = some n → (puts ns os μ)[n]? = os[i]?
  | [], os, μ, i, n, _, _, _, h => by simp at h
  | m :: ns, [], μ, i, n, _, hl, _, h => by simp at hl
  | m :: ns, o :: os, μ, i, n, nd, hl, hb, h => by
    have nd' := List.nodup_cons.mp nd
    rw [puts]
    cases i with
    | zero =>
      simp at h
      subst h
      rw [puts_other ns os _ m nd'.1, List.getElem?_set_self (hb m List.mem_cons_self)]
      rfl
    | succ i =>
      rw [puts_at ns os _ i n nd'.2 (by simpa using hl) (fun n hn => by simpa using hb n (List.mem_cons_of_mem _ hn)) (by simpa using h)]
      rfl
/-- behind a call -/
theorem SR.back (S : SR K mg Av as ρ μ σ H) {ns : List Nat} {os os' : Mu} (h : gets μ ns = some os) (nd : ndp ns = true) (hl : os'.length = os.length) (s : Step Av (getA as ns) H Av' (getA as ns) H') (S' : SM K mg Av' (getA as ns) os' H') :
    Step Av as H Av' as H' ∧ SR K mg Av' as ρ (puts ns os' μ) σ H' := by
  have lt : ∀ n ∈ ns, n < μ.length := fun n hn => by
    obtain ⟨i, hi⟩ := List.getElem?_of_mem hn
    exact (gets_get h hi).2
  have at_ : ∀ n ∈ ns, as[n]? = some (as.getD n 0) := fun n hn => by
    have : n < as.length := by rw [S.sm.len]; exact lt n hn
    rw [List.getD_eq_getElem?_getD, List.getElem?_eq_getElem this]; rfl
  have sub : ∀ a, a ∈ getA as ns → a ∈ as := fun a ha => by
    obtain ⟨n, hn, e⟩ := getA_mem as ha
    subst e
    exact List.mem_of_getElem? (at_ n hn)
  have st : Step Av as H Av' as H' := ⟨⟨[], by simp, fun _ z => nomatch z⟩, fun b o hb hk => s.keep b o hb (hk.imp id fun z w => z (sub b w)), s.dom, s.av, fun b hb z hn => s.out b hb z fun w => hn (sub b w)⟩
  refine ⟨st, ⟨S'.trk, S'.tv, fun a ha => s.dom a (S.sm.atr a ha), S.sm.nd, by rw [puts_len]; exact S.sm.len, fun m a o h1 h2 => ?_⟩, S.slen, fun i p hp => ?_⟩
  · by_cases hm : m ∈ ns
    · obtain ⟨i, hi⟩ := List.getElem?_of_mem hm
      rw [puts_at ns os' μ i m (ndp_ok nd) (by rw [hl, gets_len h]) lt hi] at h2
      have e := at_ m hm
      rw [h1] at e
      cases e
      exact S'.obj i _ o (getA_get as ns i m hi) h2
    · rw [puts_other ns os' μ m hm] at h2
      have hna : a ∉ getA as ns := fun z => by
        obtain ⟨n, hn, e⟩ := getA_mem as z
        have e2 := at_ n hn
        rw [← e] at e2
        have em : m = n := (List.getElem?_inj (List.getElem?_eq_some_iff.mp h1).1 S.sm.nd).mp (h1.trans e2.symm)
        exact hm (by rw [em]; exact hn)
      exact SOk.step s.k (fun o _ e => s.keep a o e (.inr hna)) (fun z => s.out a (S.sm.trk a z) z hna) (S.sm.obj m a o h1 h2)
  · obtain ⟨v, e, r⟩ := S.slot i p hp
    exact ⟨v, e, st.top r⟩
theorem unref_ok {ns : List Nat} {v w : PV} {x : V} (hat : ∀ n ∈ ns, as[n]? = some (as.getD n 0)) (h : unref ns v = some w) (r : RepT K mg Av (getA as ns) H v x) : RepT K mg Av as H w x := by
  cases v with
  | ref k =>
    obtain ⟨a, e1, e2⟩ := r
    obtain ⟨n, en, ea⟩ := getA_get' as e1
    simp only [unref, en] at h
    cases h
    subst ea
    exact ⟨_, hat n (List.mem_of_getElem? en), e2⟩
  | _ => cases h; exact r
end
/-- what a context takes of exceptions -/
def Lets (X : Cx) (W : WX) : Prop := ∀ σ, PassesAt (L2.CX X.prog X.w) X σ (WE W σ)
theorem lets_of {X : Cx} {W : WX} (tk : Takes X W) : Lets X W := fun σ => passAt tk σ
abbrev W0 : WX := fun _ _ _ _ => False
theorem lets0 {X : Cx} : Lets X W0 := fun σ pins H s e s' I h => by
  obtain ⟨_, _, _, _, _, _, _, _, _, _, _, _, z⟩ := h
  exact z.elim
section
variable {X : Cx} {W : WX} {e : Expr} {es : List Expr} {pos p : Pos} {k : Nat} {f : Addr} {fd : FuncData} {ps : List Str} {x : Str}
theorem call_ok {K : PySem.W.Frag} {mg : Str → Option Value} {Av : Pd} {as : List Addr} {ρ : Rho} {μ : Mu} {σ : L2.St} {H : Hp} {xs : List PV} {vs : List V} {φ : DF} {Q : VK} (S : SR K mg Av as ρ μ σ H) (r : RepTs K mg Av as H xs vs)
    (h : Wp K mg W Av as ρ σ H (callF φ xs μ) fun Av' as' H' v _ => ∀ x, RepT K mg Av' as' H' v x → Q x H') : spF K mg φ vs H Q (WE W σ) := by
  unfold callF at h
  cases eg : gets μ (refs xs) with
  | none => simp only [eg] at h; exact h.elim
  | some os =>
    simp only [eg] at h
    by_cases nd : ndp (refs xs) = true
    · rw [if_pos nd] at h
      have lt : ∀ n ∈ refs xs, as[n]? = some (as.getD n 0) := fun n hn => by
        have : n < as.length := by rw [S.sm.len]; exact refs_lt eg n hn
        rw [List.getD_eq_getElem?_getD, List.getElem?_eq_getElem this]; rfl
      refine ⟨Av, getA as (refs xs), renum 0 xs, os, S.sm.view eg nd, by simpa using view_args as 0 [] r rfl, ?_⟩
      cases ef : φ (renum 0 xs) os with
      | ok v os' =>
        simp only [ef] at h
        by_cases hl : os'.length = os.length
        · simp only [hl, beq_self_eq_true, if_true] at h
          cases eu : unref (refs xs) v with
          | none => simp only [eu] at h; exact h.elim
          | some w =>
            simp only [eu] at h
            intro Av' H' x s S' r'
            obtain ⟨st, SB⟩ := S.back eg nd hl s S'
            exact h _ _ _ st SB x (unref_ok lt eu r')
        · have : (os'.length == os.length) = false := by simpa using hl
          simp only [this] at h; exact h.elim
      | ex e os' =>
        simp only [ef] at h
        by_cases hl : os'.length = os.length
        · simp only [hl, beq_self_eq_true, if_true] at h
          intro Av' H' cls d s S' r'
          obtain ⟨st, SB⟩ := S.back eg nd hl s S'
          exact h _ _ _ cls d st SB r'
        · have : (os'.length == os.length) = false := by simpa using hl
          simp only [this] at h; exact h.elim
      | bad => simp only [ef] at h; exact h.elim
    · rw [if_neg nd] at h; exact h.elim
theorem e_call {φ : DF} {d : DA} (F : FnOk X.prog X.w X.K X.mg X.base (L2.CX X.prog X.w) k f fd ps (spF X.K X.mg φ)) (hr : Room k X.A) (hm : X.mg x = some (.ref f)) (hk : PySem.W.keepIn X.K (.ref f) = true) (hb : Binds X.K fd ps []) (hx : Lets X W)
    (ha : PA X (e :: es) (tAr X W d)) (hg : Gl X x := by rfl) (hdb : (x == ("__debug__" : Str)) = false := by decide) (he : starEach (e :: es) X.env = (false, eval e X.env) :: starEach es X.env := by rfl) (hpl : (backTo pos (starEach es X.env)).any (·.1) = false := by rfl) :
    PE X (.Call (.Name x p) (e :: es) [] pos) (tE X W (dCall φ d)) :=
  (pe_callS F hr hg hm hk hb hx ha hdb he hpl).imp fun σ H Q ⟨Av, as, ρ, μ, S, h⟩ => tDA.go S h.bind fun Av1 as1 H1 xs μ1 vs s1 S1 r1 q => call_ok S1 r1 q
end
end EV

set_option Elab.async false
set_option linter.all false
set_option autoImplicit false
set_option maxRecDepth 100000
namespace EV
open PySem PySem.Spec PyProof.Rows L2

/-! ### list comprehensions -/
def wipeR (ρ : Rho) : List Nat → Rho
  | [] => ρ
  | v :: vs => (wipeR ρ vs).set v none
def lcGo (g : DG) (tt : DT) (el : D) (ρ0 : Rho) : List PV → Mu → R (List PV)
  | [], μ => .ok [] μ
  | x :: xs, μ => match g x ρ0 μ with
    | .ok ρ1 μ1 => (match tt ρ1 μ1 with
      | .ok true μ2 => (match dZ el ρ1 μ2 with
        | .ok w μ3 => (match lcGo g tt el ρ0 xs μ3 with
          | .ok ys μ4 => .ok (w :: ys) μ4
          | _ => .bad)
        | _ => .bad)
      | .ok false μ2 => lcGo g tt el ρ0 xs μ2
      | _ => .bad)
    | _ => .bad
def lcEnd (r : R (List PV)) : R (List PV) := match r with
  | .ok ys μ => if lim ys.length then .ok ys μ else .bad
  | _ => .bad
def dYes : DT := fun _ μ => .ok true μ
def dLC (vs : List Nat) (it : DA) (g : DG) (tt : DT) (el : D) : DA := fun ρ μ => (it ρ μ).bind fun xs μ1 => lcEnd (lcGo g tt el (wipeR ρ vs) xs μ1)
section
variable {K : PySem.W.Frag} {mg : Str → Option Value} {W : WX} {Av Av' Av1 Av2 : Pd} {H H' H1 H2 : Hp} {as as' as1 as2 : List Addr} {ρ : Rho} {μ μ' : Mu} {σ σ' : L2.St} {D : Addr} {o o' : HO}
theorem SR.re (S : SR K mg Av as ρ μ σ H) (s : StepK Av as H Av' as' H') (M : SM K mg Av' as' μ' H') : SR K mg Av' as' ρ μ' σ H' := ⟨M, S.slen, fun i p h => let ⟨v, e, r⟩ := S.slot i p h; ⟨v, e, s.top r⟩⟩
theorem SR.wipe (S : SR K mg Av as ρ μ σ H) (vs : List Nat) : SR K mg Av as (wipeR ρ vs) μ (L2.wipe σ vs) H := by
  have one : ∀ {ρ : Rho} {σ : L2.St} (v : Nat), SR K mg Av as ρ μ σ H → SR K mg Av as (ρ.set v none) μ (σ.set v none) H := fun {ρ σ} v S => by
    refine ⟨S.sm, by simp [S.slen], fun i p h => ?_⟩
    by_cases e : v = i
    · subst e
      rw [List.getElem?_set] at h
      simp only [if_true] at h
      split at h <;> cases h
    · rw [List.getElem?_set_ne e] at h
      rw [List.getElem?_set_ne e]
      exact S.slot i p h
  induction vs with
  | nil => exact S
  | cons v vs ih => exact one v ih
theorem wipe_at {σ : L2.St} {i : Nat} : ∀ {vs : List Nat}, i ∈ vs → i < σ.length → (L2.wipe σ vs)[i]? = some none
  | [], h, _ => nomatch h
  | v :: vs, h, hl => by
    unfold L2.wipe
    by_cases e : v = i
    · subst e
      rw [List.getElem?_set_self (by rw [wipe_length]; exact hl)]
    · rw [List.getElem?_set_ne e]
      rcases List.mem_cons.mp h with z | z
      · exact absurd z.symm e
      · exact wipe_at z hl
theorem wipe_off {is vs : List Nat} (h : ∀ i ∈ is, i ∈ vs) (o : Off is (L2.wipe σ vs) σ') : L2.wipe σ' vs = L2.wipe σ vs := by
  have hl : σ'.length = σ.length := by rw [o.1, wipe_length]
  refine List.ext_getElem? fun i => ?_
  by_cases hi : i ∈ vs
  · by_cases hb : i < σ.length
    · rw [wipe_at hi (by rw [hl]; exact hb), wipe_at hi hb]
    · rw [List.getElem?_eq_none (by rw [wipe_length]; omega), List.getElem?_eq_none (by rw [wipe_length]; omega)]
  · rw [wipe_out hi, wipe_out hi, o.2 i fun z => hi (h i z), wipe_out hi]
/-- a new list that grows, kept away from -/
structure Own (Av : Pd) (as : List Addr) (H : Hp) (D : Addr) (o : HO) : Prop where
  av : Av D
  ns : D ∉ as
  at_ : H D = some o
theorem Own.on (w : Own Av as H D o) (s : Step Av as H Av' as' H') : Own Av' as' H' D o := by
  have hn : H D ≠ none := by rw [w.at_]; simp
  refine ⟨s.out D hn w.av w.ns, fun hm => ?_, s.keep D o w.at_ (.inr w.ns)⟩
  obtain ⟨l, rfl, hl⟩ := s.ext
  rcases List.mem_append.mp hm with z | z
  · exact w.ns z
  · exact hn (hl D z)
theorem Own.sm (w : Own Av as H D o) (S : SM K mg Av as μ H) (ho : ∀ xs, o' ≠ .tup xs := by intro _ z; cases z) : SM K mg Av as μ (upd H D o') := by
  have k : ∀ b u, H b = some u → ¬ Av b → upd H D o' b = some u ∧ ¬ Av b := fun b u hb n => ⟨by rw [upd_ne (show b ≠ D from fun e => n (by rw [e]; exact w.av))]; exact hb, n⟩
  have dm : ∀ b, H b ≠ none → upd H D o' b ≠ none := fun b hb => by
    by_cases e : b = D
    · subst e; rw [upd_same]; simp
    · rw [upd_ne e]; exact hb
  refine ⟨fun a z => dm a (S.trk a z), fun b xs z => by
    by_cases e : b = D
    · subst e; rw [upd_same]; exact fun w => ho xs (Option.some.inj w)
    · rw [upd_ne e]; exact S.tv b xs z, fun a z => dm a (S.atr a z), S.nd, S.len, fun n a u h1 h2 => ?_⟩
  have ha : a ≠ D := fun e => w.ns (by rw [← e]; exact List.mem_of_getElem? h1)
  exact SOk.step k (fun x _ h => by rw [upd_ne ha]; exact h) (fun z => z) (S.obj n a u h1 h2)
theorem Own.reps (w : Own Av as H D o) {xs : List PV} {vs : List V} (r : Reps K mg Av H xs vs) : Reps K mg Av (upd H D o') xs vs := Reps.keep (fun b u hb n => ⟨by rw [upd_ne (show b ≠ D from fun e => n (by rw [e]; exact w.av))]; exact hb, n⟩) _ _ r
/-- .. values stand -/
theorem Own.toK (w : Own Av as H D o) : StepK Av as H Av as (L2.upd H D o') := ⟨⟨[], by simp⟩, fun b u hb n => ⟨by rw [upd_ne (show b ≠ D from fun e => n (by rw [e]; exact w.av))]; exact hb, n⟩⟩
theorem Own.upd (w : Own Av as H D o) : Own Av as (upd H D o') D o' := ⟨w.av, w.ns, upd_same⟩
/-- from a time when it was not -/
theorem Own.step (w : Own Av as H D o) {Av0 : Pd} {as0 : List Addr} {H0 : Hp} (s : Step Av0 as0 H0 Av as H) (hn : H0 D = none) : Step Av0 as0 H0 Av as (L2.upd H D o') := by
  refine ⟨s.ext, fun b u hb hk => ?_, fun b hb => ?_, s.av, s.out⟩
  · rw [upd_ne (show b ≠ D from fun e => by rw [e, hn] at hb; cases hb)]
    exact s.keep b u hb hk
  · by_cases e : b = D
    · subst e; rw [upd_same]; simp
    · rw [upd_ne e]; exact s.dom b hb
end
section
variable {X : Cx} {W : WX} {tg iter elt : Expr} {ifs : List Expr} {scope : Scope} {own : List (Str × Nat)} {pos : Pos} {it : DA} {g : DG} {is : List Nat} {tt : DT} {el : D}
theorem lcEnd_ok {r : R (List PV)} {K : PySem.W.Frag} {mg : Str → Option Value} {Av : Pd} {as : List Addr} {ρ : Rho} {σ : L2.St} {H : Hp} {P : Pd → List Addr → Hp → List PV → Mu → Prop} (h : Wp K mg W Av as ρ σ H (lcEnd r) P) :
    ∃ ys μf, r = .ok ys μf ∧ lim ys.length = true ∧ Wp K mg W Av as ρ σ H (.ok ys μf) P := by
  cases r with
  | ok ys μf =>
    by_cases hl : lim ys.length = true
    · refine ⟨ys, μf, rfl, hl, ?_⟩
      simp only [lcEnd, hl, if_true] at h
      exact h
    · simp only [lcEnd, hl] at h
      exact h.elim
  | ex e μ => exact h.elim
  | bad => exact h.elim
theorem lc_read (hs : ∀ i ∈ is, i ∈ own.map (·.2)) (σ : L2.St) (H : Hp) (Q : VK) (h : tF X.K X.mg W (dLC (own.map (·.2)) it g tt el) σ H Q) :
    tLc (tI X.K X.mg W it) (tGt X.K X.mg is g) (tDT X.K X.mg W0 tt) (tD X.K X.mg W0 el) (own.map (·.2)) σ H Q := by
  generalize own.map (·.2) = vs at hs h ⊢
  obtain ⟨Av, as, ρ, μ, S, h⟩ := h
  refine ⟨Av, as, ρ, μ, S, h.bind.mono fun Av1 as1 H1 xs μ1 _ s1 S1 q J hJ D hD => ?_⟩
  obtain ⟨ys, μf, ego, hlim, q'⟩ := lcEnd_ok q
  refine ⟨fun i m H2 => ∃ Av2 as2 μ2 acc accv ysr, Step Av1 as1 H1 Av2 as2 H2 ∧ SM X.K X.mg Av2 as2 μ2 H2 ∧ Own Av2 as2 H2 D (.lst accv) ∧ Reps X.K X.mg Av2 H2 acc accv ∧ lcGo g tt el (wipeR ρ vs) (xs.drop i) μ2 = .ok ysr μf ∧ acc ++ ysr = ys ∧ m = xs.length - i ∧ i ≤ xs.length,
    ⟨xs.length, plus Av1 D, as1, μ1, [], [], ys, step_new hD, (S1.newp hD).sm, ⟨.inr rfl, S1.sm.notas hD, upd_same⟩, rfl, ego, rfl, by simp, Nat.zero_le _⟩, ?_⟩
  rintro i m H2 ⟨Av2, as2, μ2, acc, accv, ysr, s2, M2, w2, r2, e2, ea, rfl, hi⟩
  obtain ⟨j1, j2, j3⟩ := hJ i Av2 as2 H2 s2.toK
  by_cases hlt : i < xs.length
  · refine .inr ⟨j2 hlt, fun H' => ∃ Av2 as2 μ2 acc accv ysr, Step Av1 as1 H1 Av2 as2 H' ∧ SM X.K X.mg Av2 as2 μ2 H' ∧ Own Av2 as2 H' D (.lst accv) ∧ Reps X.K X.mg Av2 H' acc accv ∧ lcGo g tt el (wipeR ρ vs) (xs.drop (i + 1)) μ2 = .ok ysr μf ∧ acc ++ ysr = ys, ?_, fun x H3 y => ?_⟩
    · rintro H' ⟨Av', as', μ', acc', accv', ysr', z1, z2, z3, z4, z5, z6⟩
      exact ⟨xs.length - (i + 1), by omega, Av', as', μ', acc', accv', ysr', z1, z2, z3, z4, z5, z6, rfl, hlt⟩
    · obtain ⟨p, ep, s3, k3, r3⟩ := j3 x H3 hlt y
      have S2 : SR X.K X.mg Av2 as2 (wipeR ρ vs) μ2 (L2.wipe σ vs) H2 := (S1.re s2.toK M2).wipe vs
      have S3 := k3 _ _ _ S2
      have ed : xs.drop i = p :: xs.drop (i + 1) := by
        obtain ⟨hl, e⟩ := List.getElem?_eq_some_iff.mp ep
        rw [← e]
        exact List.drop_eq_getElem_cons hl
      rw [ed] at e2
      simp only [lcGo] at e2
      cases eg : g p (wipeR ρ vs) μ2 with
      | ok ρ4 μ4 =>
        simp only [eg] at e2
        refine ⟨Av2, as2, _, μ2, p, S3, r3.top, ?_⟩
        rw [eg]
        intro Av4 as4 H4 σ4 s4 S4 off
        refine ⟨wipe_off hs off, Av4, as4, ρ4, μ4, S4, ?_⟩
        have s24 := s3.trans s4
        cases et : tt ρ4 μ4 with
        | ok b μ5 =>
          simp only [et] at e2
          intro Av5 as5 H5 s5 S5
          have s25 := s24.trans s5
          cases b with
          | false =>
            simp only at e2
            exact iteF ⟨Av5, as5, μ5, acc, accv, ysr, s2.trans s25, S5.sm, w2.on s25, s25.reps r2, e2, ea⟩
          | true =>
            simp only at e2
            refine iteT ⟨Av5, as5, ρ4, μ5, S5, ?_⟩
            cases el' : dZ el ρ4 μ5 with
            | ok w μ6 =>
              simp only [el'] at e2
              cases er : lcGo g tt el (wipeR ρ vs) (xs.drop (i + 1)) μ6 with
              | ok ysr' μ7 =>
                simp only [er] at e2
                cases e2
                have hb : Wp X.K X.mg W0 Av5 as5 ρ4 σ4 H5 (dZ el ρ4 μ5) fun Av6 as6 H6 v _ => v = w ∧ SM X.K X.mg Av6 as6 μ6 H6 := by
                  rw [el']
                  exact fun Av6 as6 H6 s6 S6 => ⟨rfl, S6.sm⟩
                refine hb.bind.mono fun Av6 as6 H6 v μ6' _ s6 S6 z yv ry => ?_
                obtain ⟨Av7, w', μ7', ef, s7, S7, r7, z1, z2⟩ := fz_ok S6 ry z
                subst z1
                have s27 := s25.trans (s6.trans s7)
                have w7 := w2.on s27
                have ea' : acc ++ [w'] ++ ysr' = ys := by rw [← ea]; simp
                refine ⟨accv, w7.at_, ?_, Av7, as6, μ6, acc ++ [w'], accv ++ [yv], ysr', w7.step (s2.trans s27) hD, w7.sm z2, w7.upd, w7.reps ((s27.reps r2).append ⟨yv, [], rfl, r7, rfl⟩), er, ea'⟩
                have h1 := lim_ok hlim
                have h2 := r2.len
                rw [← ea'] at h1
                simp only [List.length_append, List.length_cons, List.length_nil] at h1
                omega
              | ex e μ7 => simp only [er] at e2; cases e2
              | bad => simp only [er] at e2; cases e2
            | ex e μ6 => simp only [el'] at e2; cases e2
            | bad => simp only [el'] at e2; cases e2
        | ex e μ5 => simp only [et] at e2; cases e2
        | bad => simp only [et] at e2; cases e2
      | ex e μ4 => simp only [eg] at e2; cases e2
      | bad => simp only [eg] at e2; cases e2
  · have e0 : xs.drop i = [] := List.drop_eq_nil_of_le (by omega)
    rw [e0] at e2
    cases e2
    rw [List.append_nil] at ea
    subst ea
    exact .inl ⟨j1 (by omega), q' _ _ _ s2 (S1.re s2.toK M2) D accv w2.av w2.ns (s1.none hD) w2.at_ r2⟩
theorem ts_nil {X : Cx} : PTs X [] (tDT X.K X.mg W0 dYes) := ⟨fun pins s σ H Q I h => pts_nil.run pins s σ H Q I (by
  obtain ⟨Av, as, ρ, μ, S, h⟩ := h
  exact h.here S)⟩
theorem ts_one {X : Cx} {c : Expr} (h : PT X c (tDT X.K X.mg W0 tt)) : PTs X [c] (tDT X.K X.mg W0 tt) := pts_one h
theorem f_lc (nd : X.N.Nodup) (hi : PI X tg iter (tI X.K X.mg W it)) (ok : BlkOk X.N X.env.scope scope own) (hs : ∀ i ∈ is, i ∈ own.map (·.2))
    (hg : ∀ (s : Shared) (H : Hp) (C : Addr) (cl : List (Str × Addr)) (fp : List Addr), PG (X.blk s H scope (compEnvC scope cl C X.env) fp) tg (tGt X.K X.mg is g))
    (ht : ∀ (s : Shared) (H : Hp) (C : Addr) (cl : List (Str × Addr)) (fp : List Addr), PTs (X.blk s H scope (compEnvC scope cl C X.env) fp) ifs (tDT X.K X.mg W0 tt))
    (he : ∀ (s : Shared) (H : Hp) (C : Addr) (cl : List (Str × Addr)) (fp : List Addr), PE (X.blk s H scope (compEnvC scope cl C X.env) fp) elt (tD X.K X.mg W0 el)) (hc : X.calm = true := by rfl) (hf : ∀ x, foldedSetIterable iter X.env x = pure x := by intro _; rfl) :
    PE X (.ListComp elt [⟨tg, iter, ifs, 0⟩] scope pos) (tF X.K X.mg W (dLC (own.map (·.2)) it g tt el)) := (pe_lc hc nd hi ok hg ht he hf).imp (lc_read hs)
theorem pure_read {d : DA} : ∀ σ H Q, tE X W (dL d) σ H Q → tF X.K X.mg W d σ H Q := fun σ H Q ⟨Av, as, ρ, μ, S, h⟩ => ⟨Av, as, ρ, μ, S, by
    unfold dL at h
    generalize d ρ μ = r at h ⊢
    cases r with
    | ok xs μ1 =>
      intro Av' as' H' s S' p vs h1 h2 h3 h4 h5
      exact h _ _ _ (s.release h3) (S'.release h2) (.ref p) ⟨p, vs, rfl, fun z => z.2 rfl, h4, h5.less⟩
    | ex e μ1 => exact h
    | bad => exact h⟩
theorem new_read {d : DA} : ∀ σ H Q, tE X W (dN d) σ H Q → tF X.K X.mg W d σ H Q := fun σ H Q ⟨Av, as, ρ, μ, S, h⟩ => ⟨Av, as, ρ, μ, S, by
    unfold dN at h
    generalize d ρ μ = r at h ⊢
    cases r with
    | ok xs μ1 =>
      intro Av' as' H' s S' p vs h1 h2 h3 h4 h5
      refine h _ _ _ (s.alloc h3) (S'.alloc h2 h1 h4 h5) (.ref p) ⟨p, ?_, rfl⟩
      rw [← S'.sm.len]; simp
    | ex e μ1 => exact h
    | bad => exact h⟩
/-- name = [..] -/
theorem asg_read {d : DA} {dd : D} {t : TE} {i : Nat} (h1 : ∀ σ H Q, tE X W dd σ H Q → tF X.K X.mg W d σ H Q) (h2 : ∀ σ H Q, tF X.K X.mg W d σ H Q → t σ H Q) : ∀ E σ H, tSt X W (dAsg dd (gN i)) E σ H → tAsg t (gName i) E σ H := fun E σ H ⟨Av, as, ρ, μ, S, h⟩ =>
  h2 _ _ _ (h1 _ _ _ (tD.go S (SW.bind h) fun Av1 as1 H1 v μ1 x s1 S1 r1 q => q _ _ _ _ .refl (S1.put r1)))
theorem s_setlc {dd : D} {i : Nat} {y : Str} {py spos : Pos} (hr : ∀ σ H Q, tE X W dd σ H Q → tF X.K X.mg W (dLC (own.map (·.2)) it g tt el) σ H Q) (nd : X.N.Nodup) (hy : X.N[i]? = some y) (hi : PI X tg iter (tI X.K X.mg W it)) (ok : BlkOk X.N X.env.scope scope own) (hs : ∀ i ∈ is, i ∈ own.map (·.2))
    (hg : ∀ (s : Shared) (H : Hp) (C : Addr) (cl : List (Str × Addr)) (fp : List Addr), PG (X.blk s H scope (compEnvC scope cl C X.env) fp) tg (tGt X.K X.mg is g))
    (ht : ∀ (s : Shared) (H : Hp) (C : Addr) (cl : List (Str × Addr)) (fp : List Addr), PTs (X.blk s H scope (compEnvC scope cl C X.env) fp) ifs (tDT X.K X.mg W0 tt))
    (he : ∀ (s : Shared) (H : Hp) (C : Addr) (cl : List (Str × Addr)) (fp : List Addr), PE (X.blk s H scope (compEnvC scope cl C X.env) fp) elt (tD X.K X.mg W0 el))
    (hyl : X.env.scope.names.lookup y = some .local := by rfl) (hsw : swapsWith (.ListComp elt [⟨tg, iter, ifs, 0⟩] scope pos) (some (.Name y py)) spos.line X.env = pure true := by exact sw_true rfl rfl rfl (by decide +kernel)) (hc : X.calm = true := by rfl) (hf : ∀ x, foldedSetIterable iter X.env x = pure x := by intro _; rfl) :
    PS X (.Assign [.Name y py] (.ListComp elt [⟨tg, iter, ifs, 0⟩] scope pos) spos) (tSt X W (dAsg dd (gN i))) := (ps_setLc hc nd hy hyl hsw hi ok hg ht he hf).imp (asg_read hr (lc_read hs))
end

/-! ### two clauses -/
def lcGo1 (g1 : DG) (tt1 : DT) (el : D) (ρ1 : Rho) : List PV → Mu → R (List PV) := lcGo g1 tt1 el ρ1
def lcGo2 (g : DG) (tt : DT) (it1 : DA) (g1 : DG) (tt1 : DT) (el : D) (vs1 : List Nat) (ρ0 : Rho) : List PV → Mu → R (List PV)
  | [], μ => .ok [] μ
  | x :: xs, μ => match g x ρ0 μ with
    | .ok ρ1 μ1 => (match tt ρ1 μ1 with
      | .ok true μ2 => (match it1 ρ1 μ2 with
        | .ok xs1 μ3 => (match lcGo g1 tt1 el (wipeR ρ1 vs1) xs1 μ3 with
          | .ok ys1 μ4 => (match lcGo2 g tt it1 g1 tt1 el vs1 ρ0 xs μ4 with
            | .ok ys μ5 => .ok (ys1 ++ ys) μ5
            | _ => .bad)
          | _ => .bad)
        | _ => .bad)
      | .ok false μ2 => lcGo2 g tt it1 g1 tt1 el vs1 ρ0 xs μ2
      | _ => .bad)
    | _ => .bad
def dLC2 (vs vs1 : List Nat) (it : DA) (g : DG) (tt : DT) (it1 : DA) (g1 : DG) (tt1 : DT) (el : D) : DA := fun ρ μ => (it ρ μ).bind fun xs μ1 => lcEnd (lcGo2 g tt it1 g1 tt1 el vs1 (wipeR ρ vs) xs μ1)
section
variable {X : Cx} {W : WX} {tg iter tg1 iter1 elt : Expr} {ifs ifs1 : List Expr} {scope : Scope} {own : List (Str × Nat)} {vs1 : List Nat} {pos : Pos} {it it1 : DA} {g g1 : DG} {is is1 : List Nat} {tt tt1 : DT} {el : D}
theorem lc2_read (hs : ∀ i ∈ is, i ∈ own.map (·.2)) (hs1 : ∀ i ∈ is1, i ∈ vs1) (σ : L2.St) (H : Hp) (Q : VK) (h : tF X.K X.mg W (dLC2 (own.map (·.2)) vs1 it g tt it1 g1 tt1 el) σ H Q) :
    tLc2 (tI X.K X.mg W it) (tGt X.K X.mg is g) (tDT X.K X.mg W0 tt) (tI X.K X.mg W0 it1) (tGt X.K X.mg is1 g1) (tDT X.K X.mg W0 tt1) (tD X.K X.mg W0 el) (own.map (·.2)) vs1 σ H Q := by
  generalize own.map (·.2) = vs at hs h ⊢
  obtain ⟨Av, as, ρ, μ, S, h⟩ := h
  refine ⟨Av, as, ρ, μ, S, h.bind.mono fun Av1 as1 H1 xs μ1 _ s1 S1 q J hJ D hD => ?_⟩
  obtain ⟨ys, μf, ego, hlim, q'⟩ := lcEnd_ok q
  refine ⟨fun i m H2 => ∃ Av2 as2 μ2 acc accv ysr, Step Av1 as1 H1 Av2 as2 H2 ∧ SM X.K X.mg Av2 as2 μ2 H2 ∧ Own Av2 as2 H2 D (.lst accv) ∧ Reps X.K X.mg Av2 H2 acc accv ∧ lcGo2 g tt it1 g1 tt1 el vs1 (wipeR ρ vs) (xs.drop i) μ2 = .ok ysr μf ∧ acc ++ ysr = ys ∧ m = xs.length - i ∧ i ≤ xs.length,
    ⟨xs.length, plus Av1 D, as1, μ1, [], [], ys, step_new hD, (S1.newp hD).sm, ⟨.inr rfl, S1.sm.notas hD, upd_same⟩, rfl, ego, rfl, by simp, Nat.zero_le _⟩, ?_⟩
  rintro i m H2 ⟨Av2, as2, μ2, acc, accv, ysr, s2, M2, w2, r2, e2, ea, rfl, hi⟩
  obtain ⟨j1, j2, j3⟩ := hJ i Av2 as2 H2 s2.toK
  by_cases hlt : i < xs.length
  · refine .inr ⟨j2 hlt, fun H' => ∃ Av2 as2 μ2 acc accv ysr, Step Av1 as1 H1 Av2 as2 H' ∧ SM X.K X.mg Av2 as2 μ2 H' ∧ Own Av2 as2 H' D (.lst accv) ∧ Reps X.K X.mg Av2 H' acc accv ∧ lcGo2 g tt it1 g1 tt1 el vs1 (wipeR ρ vs) (xs.drop (i + 1)) μ2 = .ok ysr μf ∧ acc ++ ysr = ys, ?_, fun x H3 y => ?_⟩
    · rintro H' ⟨Av', as', μ', acc', accv', ysr', z1, z2, z3, z4, z5, z6⟩
      exact ⟨xs.length - (i + 1), by omega, Av', as', μ', acc', accv', ysr', z1, z2, z3, z4, z5, z6, rfl, hlt⟩
    · obtain ⟨p, ep, s3, k3, r3⟩ := j3 x H3 hlt y
      have S2 : SR X.K X.mg Av2 as2 (wipeR ρ vs) μ2 (L2.wipe σ vs) H2 := (S1.re s2.toK M2).wipe vs
      have S3 := k3 _ _ _ S2
      have ed : xs.drop i = p :: xs.drop (i + 1) := by
        obtain ⟨hl, e⟩ := List.getElem?_eq_some_iff.mp ep
        rw [← e]
        exact List.drop_eq_getElem_cons hl
      rw [ed] at e2
      simp only [lcGo2] at e2
      cases eg : g p (wipeR ρ vs) μ2 with
      | ok ρ4 μ4 =>
        simp only [eg] at e2
        refine ⟨Av2, as2, _, μ2, p, S3, r3.top, ?_⟩
        rw [eg]
        intro Av4 as4 H4 σ4 s4 S4 off
        refine ⟨wipe_off hs off, Av4, as4, ρ4, μ4, S4, ?_⟩
        have s24 := s3.trans s4
        cases et : tt ρ4 μ4 with
        | ok b μ5 =>
          simp only [et] at e2
          intro Av5 as5 H5 s5 S5
          have s25 := s24.trans s5
          cases b with
          | false =>
            simp only at e2
            exact iteF ⟨Av5, as5, μ5, acc, accv, ysr, s2.trans s25, S5.sm, w2.on s25, s25.reps r2, e2, ea⟩
          | true =>
            simp only at e2
            cases ei : it1 ρ4 μ5 with
            | ok xs1 μ6 =>
              simp only [ei] at e2
              cases e1 : lcGo g1 tt1 el (wipeR ρ4 vs1) xs1 μ6 with
              | ok ys1 μ7 =>
                simp only [e1] at e2
                cases er : lcGo2 g tt it1 g1 tt1 el vs1 (wipeR ρ vs) (xs.drop (i + 1)) μ7 with
                | ok ysr' μ8 =>
                  simp only [er] at e2
                  cases e2
                  refine iteT ⟨Av5, as5, ρ4, μ5, S5, ?_⟩
                  rw [ei]
                  intro Av6 as6 H6 s6 S6 J1 hJ1
                  have s26 := s25.trans s6
                  -- the inner loop
                  refine ⟨fun j k H7 => ∃ Av7 as7 μx acc1 accv1 ysr1, StepK Av6 as6 H6 Av7 as7 H7 ∧ Step Av1 as1 H1 Av7 as7 H7 ∧ SM X.K X.mg Av7 as7 μx H7 ∧ Own Av7 as7 H7 D (.lst accv1) ∧ Reps X.K X.mg Av7 H7 acc1 accv1 ∧ lcGo g1 tt1 el (wipeR ρ4 vs1) (xs1.drop j) μx = .ok ysr1 μ7 ∧ acc1 ++ (ysr1 ++ ysr') = ys ∧ k = xs1.length - j ∧ j ≤ xs1.length, ⟨xs1.length, Av6, as6, μ6, acc, accv, ys1, .refl, s2.trans s26, S6.sm, w2.on s26, s26.reps r2, e1, ea, by simp, Nat.zero_le _⟩, ?_⟩
                  rintro j k H7 ⟨Av7, as7, μx, acc1, accv1, ysr1, s7, s17, M7, w7, r7, e7, ea7, rfl, hj⟩
                  obtain ⟨k1, k2, k3'⟩ := hJ1 j Av7 as7 H7 s7
                  by_cases hjlt : j < xs1.length
                  · refine .inr ⟨k2 hjlt, fun H' => ∃ Av7 as7 μx acc1 accv1 ysr1, StepK Av6 as6 H6 Av7 as7 H' ∧ Step Av1 as1 H1 Av7 as7 H' ∧ SM X.K X.mg Av7 as7 μx H' ∧ Own Av7 as7 H' D (.lst accv1) ∧ Reps X.K X.mg Av7 H' acc1 accv1 ∧ lcGo g1 tt1 el (wipeR ρ4 vs1) (xs1.drop (j + 1)) μx = .ok ysr1 μ7 ∧ acc1 ++ (ysr1 ++ ysr') = ys, ?_, fun x1 H8 y1 => ?_⟩
                    · rintro H' ⟨Av', as', μ', acc', accv', ysr'', z0, z1, z2, z3, z4, z5, z6⟩
                      exact ⟨xs1.length - (j + 1), by omega, Av', as', μ', acc', accv', ysr'', z0, z1, z2, z3, z4, z5, z6, rfl, hjlt⟩
                    · obtain ⟨p1, ep1, s8, k8, r8⟩ := k3' x1 H8 hjlt y1
                      have S7 : SR X.K X.mg Av7 as7 (wipeR ρ4 vs1) μx (L2.wipe σ4 vs1) H7 := (S6.re s7 M7).wipe vs1
                      have S8 := k8 _ _ _ S7
                      have ed1 : xs1.drop j = p1 :: xs1.drop (j + 1) := by
                        obtain ⟨hl, e⟩ := List.getElem?_eq_some_iff.mp ep1
                        rw [← e]
                        exact List.drop_eq_getElem_cons hl
                      rw [ed1] at e7
                      simp only [lcGo] at e7
                      cases eg1 : g1 p1 (wipeR ρ4 vs1) μx with
                      | ok ρ9 μ9 =>
                        simp only [eg1] at e7
                        refine ⟨Av7, as7, _, μx, p1, S8, r8.top, ?_⟩
                        rw [eg1]
                        intro Av9 as9 H9 σ9 s9 S9 off1
                        refine ⟨wipe_off hs1 off1, Av9, as9, ρ9, μ9, S9, ?_⟩
                        have s79 := s8.trans s9
                        cases et1 : tt1 ρ9 μ9 with
                        | ok b1 μa =>
                          simp only [et1] at e7
                          intro Ava asa Ha sa Sa
                          have s7a := s79.trans sa
                          cases b1 with
                          | false =>
                            simp only at e7
                            exact iteF ⟨Ava, asa, μa, acc1, accv1, ysr1, s7.trans s7a.toK, s17.trans s7a, Sa.sm, w7.on s7a, s7a.reps r7, e7, ea7⟩
                          | true =>
                            simp only at e7
                            refine iteT ⟨Ava, asa, ρ9, μa, Sa, ?_⟩
                            cases el' : dZ el ρ9 μa with
                            | ok w μb =>
                              simp only [el'] at e7
                              cases er1 : lcGo g1 tt1 el (wipeR ρ4 vs1) (xs1.drop (j + 1)) μb with
                              | ok ysr2 μc =>
                                simp only [er1] at e7
                                cases e7
                                have hb : Wp X.K X.mg W0 Ava asa ρ9 σ9 Ha (dZ el ρ9 μa) fun Av6 as6 H6 v _ => v = w ∧ SM X.K X.mg Av6 as6 μb H6 := by
                                  rw [el']
                                  exact fun Av6 as6 H6 s6 S6 => ⟨rfl, S6.sm⟩
                                refine hb.bind.mono fun Avc asc Hc v μc' _ sc Sc z yv ry => ?_
                                obtain ⟨Avd, w', μd', ef, sd, Sd, rd, z1, z2⟩ := fz_ok Sc ry z
                                subst z1
                                have s7d := s7a.trans (sc.trans sd)
                                have wd := w7.on s7d
                                have ea' : acc1 ++ [w'] ++ (ysr2 ++ ysr') = ys := by rw [← ea7]; simp
                                have hn6 : H6 D ≠ none := by
                                  have := (w2.on s26).at_
                                  rw [this]; simp
                                refine ⟨accv1, wd.at_, ?_, Avd, asc, μb, acc1 ++ [w'], accv1 ++ [yv], ysr2, ?_, wd.step (s17.trans s7d) hD, wd.sm z2, wd.upd, wd.reps ((s7d.reps r7).append ⟨yv, [], rfl, rd, rfl⟩), er1, ea'⟩
                                · have h1 := lim_ok hlim
                                  have h2 := r7.len
                                  rw [← ea'] at h1
                                  simp only [List.length_append, List.length_cons, List.length_nil] at h1
                                  omega
                                · exact s7.trans (s7d.toK.trans wd.toK)
                              | ex e μ7 => simp only [er1] at e7; cases e7
                              | bad => simp only [er1] at e7; cases e7
                            | ex e μ6 => simp only [el'] at e7; cases e7
                            | bad => simp only [el'] at e7; cases e7
                        | ex e μ5 => simp only [et1] at e7; cases e7
                        | bad => simp only [et1] at e7; cases e7
                      | ex e μ4 => simp only [eg1] at e7; cases e7
                      | bad => simp only [eg1] at e7; cases e7
                  · have e0 : xs1.drop j = [] := List.drop_eq_nil_of_le (by omega)
                    rw [e0] at e7
                    cases e7
                    exact .inl ⟨k1 (by omega), Av7, as7, μ7, acc1, accv1, ysr', s17, M7, w7, r7, er, ea7⟩
                | ex e μ7 => simp only [er] at e2; cases e2
                | bad => simp only [er] at e2; cases e2
              | ex e μ6 => simp only [e1] at e2; cases e2
              | bad => simp only [e1] at e2; cases e2
            | ex e μ6 => simp only [ei] at e2; cases e2
            | bad => simp only [ei] at e2; cases e2
        | ex e μ5 => simp only [et] at e2; cases e2
        | bad => simp only [et] at e2; cases e2
      | ex e μ4 => simp only [eg] at e2; cases e2
      | bad => simp only [eg] at e2; cases e2
  · have e0 : xs.drop i = [] := List.drop_eq_nil_of_le (by omega)
    rw [e0] at e2
    cases e2
    rw [List.append_nil] at ea
    subst ea
    exact .inl ⟨j1 (by omega), q' _ _ _ s2 (S1.re s2.toK M2) D accv w2.av w2.ns (s1.none hD) w2.at_ r2⟩
theorem f_lc2 (nd : X.N.Nodup) (hi : PI X tg iter (tI X.K X.mg W it)) (ok : BlkOk X.N X.env.scope scope own) (hv : ∀ i ∈ vs1, i ∈ own.map (·.2)) (hs : ∀ i ∈ is, i ∈ own.map (·.2)) (hs1 : ∀ i ∈ is1, i ∈ vs1)
    (hg : ∀ (s : Shared) (H : Hp) (C : Addr) (cl : List (Str × Addr)) (fp : List Addr), PG (X.blk s H scope (compEnvC scope cl C X.env) fp) tg (tGt X.K X.mg is g))
    (ht : ∀ (s : Shared) (H : Hp) (C : Addr) (cl : List (Str × Addr)) (fp : List Addr), PTs (X.blk s H scope (compEnvC scope cl C X.env) fp) ifs (tDT X.K X.mg W0 tt))
    (hi1 : ∀ (s : Shared) (H : Hp) (C : Addr) (cl : List (Str × Addr)) (fp : List Addr), PI (X.blk s H scope (compEnvC scope cl C X.env) fp) tg1 iter1 (tI X.K X.mg W0 it1))
    (hg1 : ∀ (s : Shared) (H : Hp) (C : Addr) (cl : List (Str × Addr)) (fp : List Addr), PG (X.blk s H scope (compEnvC scope cl C X.env) fp) tg1 (tGt X.K X.mg is1 g1))
    (ht1 : ∀ (s : Shared) (H : Hp) (C : Addr) (cl : List (Str × Addr)) (fp : List Addr), PTs (X.blk s H scope (compEnvC scope cl C X.env) fp) ifs1 (tDT X.K X.mg W0 tt1))
    (he : ∀ (s : Shared) (H : Hp) (C : Addr) (cl : List (Str × Addr)) (fp : List Addr), PE (X.blk s H scope (compEnvC scope cl C X.env) fp) elt (tD X.K X.mg W0 el)) (hc : X.calm = true := by rfl) (hf : ∀ x, foldedSetIterable iter X.env x = pure x := by intro _; rfl) (hf1 : ∀ env x, foldedSetIterable iter1 env x = pure x := by intro _ _; rfl) :
    PE X (.ListComp elt [⟨tg, iter, ifs, 0⟩, ⟨tg1, iter1, ifs1, 0⟩] scope pos) (tF X.K X.mg W (dLC2 (own.map (·.2)) vs1 it g tt it1 g1 tt1 el)) := (pe_lc2 hc nd hi ok hv hg ht hi1 hg1 ht1 he hf hf1).imp (lc2_read hs hs1)
theorem s_setlc2 {dd : D} {i : Nat} {y : Str} {py spos : Pos} (hr : ∀ σ H Q, tE X W dd σ H Q → tF X.K X.mg W (dLC2 (own.map (·.2)) vs1 it g tt it1 g1 tt1 el) σ H Q) (nd : X.N.Nodup) (hy : X.N[i]? = some y) (hi : PI X tg iter (tI X.K X.mg W it)) (ok : BlkOk X.N X.env.scope scope own) (hv : ∀ i ∈ vs1, i ∈ own.map (·.2)) (hs : ∀ i ∈ is, i ∈ own.map (·.2)) (hs1 : ∀ i ∈ is1, i ∈ vs1)
    (hg : ∀ (s : Shared) (H : Hp) (C : Addr) (cl : List (Str × Addr)) (fp : List Addr), PG (X.blk s H scope (compEnvC scope cl C X.env) fp) tg (tGt X.K X.mg is g))
    (ht : ∀ (s : Shared) (H : Hp) (C : Addr) (cl : List (Str × Addr)) (fp : List Addr), PTs (X.blk s H scope (compEnvC scope cl C X.env) fp) ifs (tDT X.K X.mg W0 tt))
    (hi1 : ∀ (s : Shared) (H : Hp) (C : Addr) (cl : List (Str × Addr)) (fp : List Addr), PI (X.blk s H scope (compEnvC scope cl C X.env) fp) tg1 iter1 (tI X.K X.mg W0 it1))
    (hg1 : ∀ (s : Shared) (H : Hp) (C : Addr) (cl : List (Str × Addr)) (fp : List Addr), PG (X.blk s H scope (compEnvC scope cl C X.env) fp) tg1 (tGt X.K X.mg is1 g1))
    (ht1 : ∀ (s : Shared) (H : Hp) (C : Addr) (cl : List (Str × Addr)) (fp : List Addr), PTs (X.blk s H scope (compEnvC scope cl C X.env) fp) ifs1 (tDT X.K X.mg W0 tt1))
    (he : ∀ (s : Shared) (H : Hp) (C : Addr) (cl : List (Str × Addr)) (fp : List Addr), PE (X.blk s H scope (compEnvC scope cl C X.env) fp) elt (tD X.K X.mg W0 el))
    (hyl : X.env.scope.names.lookup y = some .local := by rfl) (hsw : swapsWith (.ListComp elt [⟨tg, iter, ifs, 0⟩, ⟨tg1, iter1, ifs1, 0⟩] scope pos) (some (.Name y py)) spos.line X.env = pure true := by exact sw_true rfl rfl rfl (by decide +kernel)) (hc : X.calm = true := by rfl) (hf : ∀ x, foldedSetIterable iter X.env x = pure x := by intro _; rfl) (hf1 : ∀ env x, foldedSetIterable iter1 env x = pure x := by intro _ _; rfl) :
    PS X (.Assign [.Name y py] (.ListComp elt [⟨tg, iter, ifs, 0⟩, ⟨tg1, iter1, ifs1, 0⟩] scope pos) spos) (tSt X W (dAsg dd (gN i))) := (ps_setLc2 hc nd hy hyl hsw hi ok hv hg ht hi1 hg1 ht1 he hf hf1).imp (asg_read hr (lc2_read hs hs1))
end
end EV

set_option Elab.async false
set_option linter.all false
set_option autoImplicit false
set_option maxRecDepth 100000
namespace EV
open PySem PySem.Spec PyProof.Rows L2

/-! ### calls of what is built in -/
def dB (f : List PV → Mu → R PV) (d : DA) : D := fun ρ μ => (d ρ μ).bind f
def dBF (f : List PV → Mu → R (List PV)) (d : DA) : DA := fun ρ μ => (d ρ μ).bind f
def CalS (K : PySem.W.Frag) (mg : Str → Option Value) (f : List PV → Mu → R PV) (r : List V → Hp → VK → Prop) : Prop :=
  ∀ {W : WX} {Av : Pd} {as : List Addr} {ρ : Rho} {μ : Mu} {σ : L2.St} {H : Hp} {xs : List PV} {vs : List V} {Q : VK}, SR K mg Av as ρ μ σ H → RepTs K mg Av as H xs vs →
    Wp K mg W Av as ρ σ H (f xs μ) (fun Av' as' H' z _ => ∀ u, RepT K mg Av' as' H' z u → Q u H') → r vs H Q
def CalF (K : PySem.W.Frag) (mg : Str → Option Value) (f : List PV → Mu → R (List PV)) (r : List V → Hp → VK → Prop) : Prop :=
  ∀ {W : WX} {Av : Pd} {as : List Addr} {ρ : Rho} {μ : Mu} {σ : L2.St} {H : Hp} {xs : List PV} {vs : List V} {Q : VK}, SR K mg Av as ρ μ σ H → RepTs K mg Av as H xs vs →
    Wp K mg W Av as ρ σ H (f xs μ) (FrP K mg H Q) → r vs H Q
section
variable {X : Cx} {W : WX} {e o : Expr} {es : List Expr} {pos p apos cpos : Pos} {x name : Str} {id T : String} {d : DA} {r : List V → Hp → VK → Prop}
theorem goB1 {f : List PV → Mu → R PV} (hs : CalS X.K X.mg f r) : ∀ σ H Q, tE X W (dB f d) σ H Q → tCB r (tAr X W d) σ H Q := fun σ H Q ⟨Av, as, ρ, μ, S, h⟩ => tDA.go S h.bind fun Av1 as1 H1 xs μ1 vs s1 S1 r1 q => hs S1 r1 q
theorem goBF {f : List PV → Mu → R (List PV)} (hs : CalF X.K X.mg f r) : ∀ σ H Q, tF X.K X.mg W (dBF f d) σ H Q → tCB r (tAr X W d) σ H Q := fun σ H Q ⟨Av, as, ρ, μ, S, h⟩ => tDA.go S h.bind fun Av1 as1 H1 xs μ1 vs s1 S1 r1 q => hs S1 r1 (frp_back s1 q)
theorem e_bi {f : List PV → Mu → R PV} (hc : CallR X (.builtin id) r) (hs : CalS X.K X.mg f r) (hm : X.mg x = none) (ha : PA X (e :: es) (tAr X W d)) (hv : bootBuiltins x = some (.builtin id)) (hg : Gl X x := by rfl) (hn : x ≠ "__name__" := by decide) (hdb : (x == ("__debug__" : Str)) = false := by decide)
    (he : starEach (e :: es) X.env = (false, eval e X.env) :: starEach es X.env := by rfl) (hpl : (backTo pos (starEach es X.env)).any (·.1) = false := by rfl) : PE X (.Call (.Name x p) (e :: es) [] pos) (tE X W (dB f d)) := (pe_callB hc hg hm hv ha hn hdb he hpl).imp (goB1 hs)
theorem e_ty {f : List PV → Mu → R PV} (hc : CallR X (.type T) r) (hs : CalS X.K X.mg f r) (hm : X.mg x = none) (ha : PA X (e :: es) (tAr X W d)) (hv : bootBuiltins x = some (.type T)) (hg : Gl X x := by rfl) (hn : x ≠ "__name__" := by decide) (hdb : (x == ("__debug__" : Str)) = false := by decide)
    (he : starEach (e :: es) X.env = (false, eval e X.env) :: starEach es X.env := by rfl) (hpl : (backTo pos (starEach es X.env)).any (·.1) = false := by rfl) : PE X (.Call (.Name x p) (e :: es) [] pos) (tE X W (dB f d)) := (pe_callTy hc hg hm hv ha hn hdb he hpl).imp (goB1 hs)
theorem f_bi {f : List PV → Mu → R (List PV)} (hc : CallR X (.builtin id) r) (hs : CalF X.K X.mg f r) (hm : X.mg x = none) (ha : PA X (e :: es) (tAr X W d)) (hv : bootBuiltins x = some (.builtin id)) (hg : Gl X x := by rfl) (hn : x ≠ "__name__" := by decide) (hdb : (x == ("__debug__" : Str)) = false := by decide)
    (he : starEach (e :: es) X.env = (false, eval e X.env) :: starEach es X.env := by rfl) (hpl : (backTo pos (starEach es X.env)).any (·.1) = false := by rfl) : PE X (.Call (.Name x p) (e :: es) [] pos) (tF X.K X.mg W (dBF f d)) := (pe_callB hc hg hm hv ha hn hdb he hpl).imp (goBF hs)
theorem f_ty {f : List PV → Mu → R (List PV)} (hc : CallR X (.type T) r) (hs : CalF X.K X.mg f r) (hm : X.mg x = none) (ha : PA X (e :: es) (tAr X W d)) (hv : bootBuiltins x = some (.type T)) (hg : Gl X x := by rfl) (hn : x ≠ "__name__" := by decide) (hdb : (x == ("__debug__" : Str)) = false := by decide)
    (he : starEach (e :: es) X.env = (false, eval e X.env) :: starEach es X.env := by rfl) (hpl : (backTo pos (starEach es X.env)).any (·.1) = false := by rfl) : PE X (.Call (.Name x p) (e :: es) [] pos) (tF X.K X.mg W (dBF f d)) := (pe_callTy hc hg hm hv ha hn hdb he hpl).imp (goBF hs)
end
/-! ### methods of lists -/
def isL (x : PV) (μ : Mu) : Bool := (lsOf μ x).isSome
def dM (chk : PV → Mu → Bool) (f : PV → List PV → Mu → R PV) (o : D) (d : DA) : D := fun ρ μ => (o ρ μ).bind fun x μ1 => if chk x μ1 then (d ρ μ1).bind fun vs μ2 => f x vs μ2 else .bad
def MetS (K : PySem.W.Frag) (mg : Str → Option Value) (f : PV → List PV → Mu → R PV) (r : V → List V → Hp → VK → Prop) : Prop :=
  ∀ {W : WX} {Av : Pd} {as : List Addr} {ρ : Rho} {μ : Mu} {σ : L2.St} {H : Hp} {x : PV} {xs : List PV} {v : V} {vs : List V} {Q : VK}, SR K mg Av as ρ μ σ H → RepT K mg Av as H x v → RepTs K mg Av as H xs vs →
    Wp K mg W Av as ρ σ H (f x xs μ) (fun Av' as' H' z _ => ∀ u, RepT K mg Av' as' H' z u → Q u H') → r v vs H Q
section
variable {X : Cx} {W : WX} {e o : Expr} {es : List Expr} {pos p apos cpos : Pos} {name : Str} {id T : String} {d : DA} {do_ : D} {r : V → List V → Hp → VK → Prop}
theorem isL_ok {K : PySem.W.Frag} {mg : Str → Option Value} {Av : Pd} {as : List Addr} {μ : Mu} {H : Hp} {x : PV} {v : V} (S : SM K mg Av as μ H) (rx : RepT K mg Av as H x v) (h : isL x μ = true) : tyV K "list" v H := by
  unfold isL at h
  cases e : lsOf μ x with
  | none => rw [e] at h; cases h
  | some xs =>
    obtain ⟨a, vs, rfl, ha, _⟩ := lsOf_ok S rx e
    exact .inl ⟨rfl, vs, .of ha⟩
theorem e_m {chk : PV → Mu → Bool} {f : PV → List PV → Mu → R PV} (pa : PlainAttrs T) (slot : Slot T name id) (hty : typeOf (.builtin id) = pure (.type "method_descriptor")) (hm : MtR X id r) (hs : MetS X.K X.mg f r)
    (hk : ∀ {Av as μ H x v}, SM X.K X.mg Av as μ H → RepT X.K X.mg Av as H x v → chk x μ = true → tyV X.K T v H) (ho : PE X o (tE X W do_)) (ha : PA X (e :: es) (tAr X W d))
    (hbase : attributeBase o name X.env (eval o X.env) = eval o X.env := by rfl)
    (hfew : ((backTo cpos (starEach (e :: es) X.env)).all (fun x => !x.1) && (backToKw cpos (keywordEach [] X.env)).all (fun x => x.1.isSome)
      && decide ((e :: es).length + ([] : List Keyword).length + (if ([] : List Keyword).isEmpty then 0 else 1) < 30)) = true := by rfl)
    (hline : (apos.endLine == cpos.line) = true := by rfl) (hst : starEach (e :: es) X.env = (false, eval e X.env) :: starEach es X.env := by rfl) (hplain : (backTo cpos (starEach es X.env)).any (·.1) = false := by rfl) :
    PE X (.Call (.Attribute o name apos) (e :: es) [] cpos) (tE X W (dM chk f do_ d)) :=
  (pe_bm pa slot hty hm ho ha hbase hfew hline hst hplain).imp fun σ H Q ⟨Av, as, ρ, μ, S, h⟩ => tD.go S h.bind fun Av1 as1 H1 x μ1 v s1 S1 r1 q => by
    by_cases hc : chk x μ1 = true
    · rw [if_pos hc] at q
      exact ⟨hk S1.sm r1 hc, tDA.go S1 q.bind fun Av2 as2 H2 xs μ2 vs s2 S2 r2 q2 => hs S2 (s2.top r1) r2 q2⟩
    · rw [if_neg hc] at q; exact q.elim
theorem e_m0 {chk : PV → Mu → Bool} {f : PV → List PV → Mu → R PV} (pa : PlainAttrs T) (slot : Slot T name id) (hty : typeOf (.builtin id) = pure (.type "method_descriptor")) (hm : MtR X id r) (hs : MetS X.K X.mg f r)
    (hk : ∀ {Av as μ H x v}, SM X.K X.mg Av as μ H → RepT X.K X.mg Av as H x v → chk x μ = true → tyV X.K T v H) (ho : PE X o (tE X W do_))
    (hbase : attributeBase o name X.env (eval o X.env) = eval o X.env := by rfl) (hline : (apos.endLine == cpos.line) = true := by rfl) :
    PE X (.Call (.Attribute o name apos) [] [] cpos) (tE X W (dM chk f do_ dNil)) :=
  (pe_bm0 pa slot hty hm ho hbase hline).imp fun σ H Q ⟨Av, as, ρ, μ, S, h⟩ => tD.go S h.bind fun Av1 as1 H1 x μ1 v s1 S1 r1 q => by
    by_cases hc : chk x μ1 = true
    · rw [if_pos hc] at q
      exact ⟨hk S1.sm r1 hc, hs (xs := []) S1 r1 rfl q⟩
    · rw [if_neg hc] at q; exact q.elim
end
def setS (x : PV) (μ : Mu) (k : List PV → Option (PV × List PV)) : R PV := match x with
  | .ref n => match μ[n]? with
    | some (.lst xs) => match k xs with
      | some (v, ys) => .ok v (μ.set n (.lst ys))
      | none => .bad
    | _ => .bad
  | _ => .bad
def mAppend (x : PV) (vs : List PV) (μ : Mu) : R PV := match vs with
  | [y] => (fzv y μ).bind fun w μ1 => setS x μ1 fun xs => if lim (xs.length + 1) then some (.non, xs ++ [w]) else none
  | _ => .bad
def mPop (x : PV) (vs : List PV) (μ : Mu) : R PV := match vs with
  | [] => setS x μ fun xs => match xs[xs.length - 1]? with
    | some y => some (y, xs.dropLast)
    | none => none
  | [.int i] => if rgOk i then setS x μ fun xs => match ixN xs.length i with
    | some k => match xs[k]? with
      | some y => some (y, xs.eraseIdx k)
      | none => none
    | none => none
    else .bad
  | _ => .bad
def mInsert (x : PV) (vs : List PV) (μ : Mu) : R PV := match vs with
  | [.int i, y] => (fzv y μ).bind fun w μ1 => setS x μ1 fun xs => if lim (xs.length + 1) && (decide (0 ≤ i) && decide (i < 16777216)) then some (.non, xs.take i.toNat ++ [w] ++ xs.drop i.toNat) else none
  | _ => .bad
def mReverse (x : PV) (vs : List PV) (μ : Mu) : R PV := match vs with
  | [] => setS x μ fun xs => some (.non, xs.reverse)
  | _ => .bad
def mExtend (x : PV) (vs : List PV) (μ : Mu) : R PV := match vs with
  | [y] => match lsOf μ y with
    | some ys => setS x μ fun xs => if lim (xs.length + ys.length) then some (.non, xs ++ ys) else none
    | none => .bad
  | _ => .bad
section
variable {K : PySem.W.Frag} {mg : Str → Option Value} {W : WX} {Av : Pd} {as : List Addr} {ρ : Rho} {μ : Mu} {σ : L2.St} {H : Hp} {x : PV} {v : V} {P : Pd → List Addr → Hp → PV → Mu → Prop}
theorem setS_ok (S : SR K mg Av as ρ μ σ H) (r : RepT K mg Av as H x v) {k : List PV → Option (PV × List PV)} (h : Wp K mg W Av as ρ σ H (setS x μ k) P) :
    ∃ n a xs vs y ys, x = .ref n ∧ v = .ref a ∧ H a = some (.lst vs) ∧ Reps K mg Av H xs vs ∧ Av a ∧ k xs = some (y, ys) ∧ ∀ ws, Reps K mg Av H ys ws → ∃ μ', Step Av as H Av as (upd H a (.lst ws)) ∧ SR K mg Av as ρ μ' σ (upd H a (.lst ws)) ∧ P Av as (upd H a (.lst ws)) y μ' := by
  cases x with
  | ref n =>
    obtain ⟨a, h1, ev⟩ := r
    unfold setS at h
    cases q : μ[n]? with
    | none => simp only [q] at h; exact h.elim
    | some o =>
      cases o with
      | lst xs =>
        simp only [q] at h
        cases ek : k xs with
        | none => simp only [ek] at h; exact h.elim
        | some yy =>
          obtain ⟨y, ys⟩ := yy
          simp only [ek] at h
          obtain ⟨ha, vs, e1, e2⟩ := S.sm.obj n a _ h1 q
          refine ⟨n, a, xs, vs, y, ys, rfl, ev, e1, e2, ha, ek, fun ws rw' => ?_⟩
          obtain ⟨st, S'⟩ := S.setL h1 q rw'
          exact ⟨_, st, S', h _ _ _ st S'⟩
      | _ => simp only [q] at h; exact h.elim
  | _ => exact h.elim
end
theorem Reps.at {K : PySem.W.Frag} {mg : Str → Option Value} {Av : Pd} {H : Hp} {a : Addr} {o : HO} {p : PV} {v : V} (ha : Av a) (r : Rep K mg Av H p v) : Rep K mg Av (upd H a o) p v := Rep.keep (fun b u hb n => ⟨by rw [upd_ne (show b ≠ a from fun e => n (by rw [e]; exact ha))]; exact hb, n⟩) _ _ r
section
variable {K : PySem.W.Frag} {mg : Str → Option Value}
theorem m_append : MetS K mg mAppend rAppend := by
  intro W Av as ρ μ σ H x xs v vs Q S rx rv h
  unfold mAppend at h
  split at h
  · rename_i y
    obtain ⟨yv, t, rfl, ry, rfl⟩ := rv
    obtain ⟨Av1, w, μ1, ef, s1, S1, r1, q⟩ := fz_ok S ry h.bind
    obtain ⟨n, a, zs, zv, y', ys, ex, ev, e1, e2, ha, ek, fin⟩ := setS_ok S1 (s1.top rx) q
    subst ev
    by_cases hl : lim (zs.length + 1) = true
    · simp only [hl, if_true, Option.some.injEq, Prod.mk.injEq] at ek
      obtain ⟨rfl, rfl⟩ := ek
      obtain ⟨μ', st, S', q'⟩ := fin (zv ++ [yv]) (e2.append ⟨yv, [], rfl, r1, rfl⟩)
      refine ⟨a, zv, yv, rfl, rfl, e1, ?_, q' _ rfl⟩
      have := lim_ok hl
      rw [e2.len]; omega
    · simp only [hl] at ek; cases ek
  · exact h.elim
theorem m_pop : MetS K mg mPop (fun x vs H Q => rPop x vs H Q ∨ rPopAt x vs H Q) := by
  intro W Av as ρ μ σ H x xs v vs Q S rx rv h
  unfold mPop at h
  split at h
  · cases rv
    obtain ⟨n, a, zs, zv, y', ys, ex, ev, e1, e2, ha, ek, fin⟩ := setS_ok S rx h
    subst ev
    split at ek
    · rename_i y e3
      cases ek
      obtain ⟨u, e4, e5⟩ := e2.get e3
      have ed : zs.dropLast = zs.take (zs.length - 1) := List.dropLast_eq_take
      have ed2 : zv.dropLast = zv.take (zv.length - 1) := List.dropLast_eq_take
      have rr : Reps K mg Av H zs.dropLast zv.dropLast := by rw [ed, ed2, e2.len]; exact e2.take _
      obtain ⟨μ', st, S', q'⟩ := fin _ rr
      exact .inl ⟨a, zv, u, rfl, rfl, e1, by rw [e2.len]; exact e4, q' _ (st.top e5.top)⟩
    · cases ek
  · rename_i i
    obtain ⟨iv, t, rfl, ri, rfl⟩ := rv
    cases ri
    by_cases hi : rgOk i = true
    case neg => rw [if_neg hi] at h; exact h.elim
    rw [if_pos hi] at h
    obtain ⟨n, a, zs, zv, y', ys, ex, ev, e1, e2, ha, ek, fin⟩ := setS_ok S rx h
    subst ev
    split at ek
    · rename_i k ei
      split at ek
      · rename_i y e3
        cases ek
        obtain ⟨u, e4, e5⟩ := e2.get e3
        obtain ⟨μ', st, S', q'⟩ := fin _ (e2.eraseIdx k)
        obtain ⟨k1, k2, k3, k4⟩ := ixN_seq ei
        have hb := rgOk_ok hi
        exact .inr ⟨a, zv, i, k, u, rfl, rfl, e1, by omega, by omega, by rw [e2.len]; exact k1, e4, q' _ (st.top e5.top)⟩
      · cases ek
    · cases ek
  · exact h.elim
theorem m_reverse : MetS K mg mReverse rReverse := by
  intro W Av as ρ μ σ H x xs v vs Q S rx rv h
  unfold mReverse at h
  split at h
  · cases rv
    obtain ⟨n, a, zs, zv, y', ys, ex, ev, e1, e2, ha, ek, fin⟩ := setS_ok S rx h
    subst ev
    cases ek
    obtain ⟨μ', st, S', q'⟩ := fin _ e2.reverse
    exact ⟨a, zv, rfl, rfl, e1, q' _ rfl⟩
  · exact h.elim
theorem m_extend : MetS K mg mExtend rExtend := by
  intro W Av as ρ μ σ H x xs v vs Q S rx rv h
  unfold mExtend at h
  split at h
  · rename_i y
    obtain ⟨yv, t, rfl, ry, rfl⟩ := rv
    cases ey : lsOf μ y with
    | none => simp only [ey] at h; exact h.elim
    | some bs =>
      simp only [ey] at h
      obtain ⟨b, bv, rfl, hb, rb⟩ := lsOf_ok S.sm ry ey
      obtain ⟨n, a, zs, zv, y', ys, ex, ev, e1, e2, ha, ek, fin⟩ := setS_ok S rx h
      subst ev
      by_cases hl : lim (zs.length + bs.length) = true
      · simp only [hl, if_true, Option.some.injEq, Prod.mk.injEq] at ek
        obtain ⟨rfl, rfl⟩ := ek
        obtain ⟨μ', st, S', q'⟩ := fin _ (e2.append rb)
        exact ⟨a, b, zv, bv, rfl, rfl, e1, hb, by rw [e2.len, rb.len]; exact lim_ok hl, q' _ rfl⟩
      · simp only [hl] at ek; cases ek
  · exact h.elim
def rInsert : V → List V → Hp → VK → Prop := fun x vs H Q => ∃ (l : Addr) (xs : List V) (i : Int) (y : V), x = .ref l ∧ vs = [.int i, y] ∧ H l = some (.lst xs) ∧ xs.length < sizeLine ∧ 0 ≤ i ∧ i < 2 ^ 63 ∧
    Q .non (upd H l (.lst (xs.take i.toNat ++ [y] ++ xs.drop i.toNat)))
theorem m_insert : MetS K mg mInsert rInsert := by
  intro W Av as ρ μ σ H x xs v vs Q S rx rv h
  unfold mInsert at h
  split at h
  · rename_i i y
    obtain ⟨iv, t, rfl, ri, yv, t', rfl, ry, rfl⟩ := rv
    cases ri
    obtain ⟨Av1, w, μ1, ef, s1, S1, r1, q⟩ := fz_ok S ry h.bind
    obtain ⟨n, a, zs, zv, y', ys, ex, ev, e1, e2, ha, ek, fin⟩ := setS_ok S1 (s1.top rx) q
    subst ev
    by_cases hl : (lim (zs.length + 1) && (decide (0 ≤ i) && decide (i < 16777216))) = true
    · simp only [hl, if_true, Option.some.injEq, Prod.mk.injEq] at ek
      obtain ⟨rfl, rfl⟩ := ek
      simp only [Bool.and_eq_true] at hl
      have h1 := of_decide_eq_true hl.2.1
      have h2 := of_decide_eq_true hl.2.2
      obtain ⟨μ', st, S', q'⟩ := fin _ (((e2.take i.toNat).append (show Reps K mg Av1 H [w] [yv] from ⟨yv, [], rfl, r1, rfl⟩)).append (e2.drop i.toNat))
      refine ⟨a, zv, i, yv, rfl, rfl, e1, ?_, h1, by omega, q' _ rfl⟩
      have := lim_ok hl.1
      rw [e2.len]; omega
    · simp only [hl] at ek; cases ek
  · exact h.elim
end

/-! ### built-ins -/
/-- the items of a list alone -/
def llOf (μ : Mu) : PV → Option (List PV)
  | .scr ns => some (ns.map .int)
  | x => lsOf μ x
def bLen (xs : List PV) (μ : Mu) : R PV := match xs with
  | [x] => match sqOf μ x with
    | some ys => .ok (.int ys.length) μ
    | none => match x with
      | .str z => if lim z.length then .ok (.int z.length) μ else .bad
      | _ => .bad
  | _ => .bad
def bInt (xs : List PV) (μ : Mu) : R PV := match xs with
  | [.int i] => .ok (.int i) μ
  | [.bl b] => .ok (.int (if b then 1 else 0)) μ
  | _ => .bad
def bAbs (xs : List PV) (μ : Mu) : R PV := match xs with
  | [.int i] => .ok (.int (if i < 0 then -i else i)) μ
  | _ => .bad
def bMax2 (xs : List PV) (μ : Mu) : R PV := match xs with
  | [.int i, .int j] => .ok (.int (if j > i then j else i)) μ
  | _ => .bad
def bMin2 (xs : List PV) (μ : Mu) : R PV := match xs with
  | [.int i, .int j] => .ok (.int (if j < i then j else i)) μ
  | _ => .bad
def bList (xs : List PV) (μ : Mu) : R (List PV) := match xs with
  | [x] => match sqOf μ x with
    | some ys => .ok ys μ
    | none => .bad
  | _ => .bad
def bTuple (xs : List PV) (μ : Mu) : R PV := match xs with
  | [.tup ys] => .ok (.tup ys) μ
  | [x] => match llOf μ x with
    | some ys => .ok (.tup ys) μ
    | none => .bad
  | _ => .bad
def intsOf : List PV → Option (List Int)
  | [] => some []
  | .int i :: r => match intsOf r with
    | some ns => some (i :: ns)
    | none => none
  | _ :: _ => none
def boolsOf : List PV → Option (List Bool)
  | [] => some []
  | .bl i :: r => match boolsOf r with
    | some ns => some (i :: ns)
    | none => none
  | _ :: _ => none
theorem intsOf_ok : ∀ {xs : List PV} {ns : List Int}, intsOf xs = some ns → xs = ns.map PV.int
  | [], ns, h => by cases h; rfl
  | x :: xs, ns, h => by
    cases x with
    | int i =>
      simp only [intsOf] at h
      cases e : intsOf xs with
      | none => rw [e] at h; cases h
      | some ms => rw [e] at h; cases h; rw [intsOf_ok e]; rfl
    | _ => cases h
theorem boolsOf_ok : ∀ {xs : List PV} {ns : List Bool}, boolsOf xs = some ns → xs = ns.map PV.bl
  | [], ns, h => by cases h; rfl
  | x :: xs, ns, h => by
    cases x with
    | bl i =>
      simp only [boolsOf] at h
      cases e : boolsOf xs with
      | none => rw [e] at h; cases h
      | some ms => rw [e] at h; cases h; rw [boolsOf_ok e]; rfl
    | _ => cases h
def bSum (xs : List PV) (μ : Mu) : R PV := match xs with
  | [x] => match llOf μ x with
    | some ys => match intsOf ys with
      | some ns => .ok (.int ns.sum) μ
      | none => .bad
    | none => .bad
  | _ => .bad
def bAll (xs : List PV) (μ : Mu) : R PV := match xs with
  | [x] => match llOf μ x with
    | some ys => match boolsOf ys with
      | some bs => .ok (.bl (bs.all id)) μ
      | none => .bad
    | none => .bad
  | _ => .bad
def bAny (xs : List PV) (μ : Mu) : R PV := match xs with
  | [x] => match llOf μ x with
    | some ys => match boolsOf ys with
      | some bs => .ok (.bl (bs.any id)) μ
      | none => .bad
    | none => .bad
  | _ => .bad
section
variable {K : PySem.W.Frag} {mg : Str → Option Value}
theorem llOf_ok {Av : Pd} {as : List Addr} {μ : Mu} {H : Hp} {x : PV} {v : V} {xs : List PV} (S : SM K mg Av as μ H) (r : RepT K mg Av as H x v) (h : llOf μ x = some xs) : ∃ a vs, v = .ref a ∧ SqL K H a vs ∧ Reps K mg Av H xs vs := by
  have base : lsOf μ x = some xs → ∃ a vs, v = .ref a ∧ SqL K H a vs ∧ Reps K mg Av H xs vs := fun h => by
    obtain ⟨a, vs, e, q, rr⟩ := lsOf_ok S r h
    exact ⟨a, vs, e, .of q, rr⟩
  cases x with
  | scr ns => cases h; obtain ⟨a, e, q⟩ := r; exact ⟨a, _, e, scr_sq q, Reps.ofInts⟩
  | _ => exact base h
theorem Reps.bls {Av : Pd} {H : Hp} : ∀ {ns : List Bool} {v : List V}, Reps K mg Av H (ns.map PV.bl) v → v = ns.map V.bl
  | [], v, h => by cases h; rfl
  | n :: ns, v, ⟨u, r, e, h1, h2⟩ => by subst e; cases h1; rw [Reps.bls h2]; rfl
def rLenP (K : PySem.W.Frag) : List V → Hp → VK → Prop := fun xs H Q => (∃ p ys, xs = [.ref p] ∧ (SqL K H p ys ∨ SqT K H p ys) ∧ Q (.int ys.length) H) ∨ ∃ z, xs = [.str z] ∧ z.length ≤ sizeLine ∧ Q (.int z.length) H
theorem cr_lenP {X : Cx} : CallR X (.builtin "len") (rLenP X.K) := call_len_seq.or call_len_str
theorem b_len : CalS K mg bLen (rLenP K) := by
  intro W Av as ρ μ σ H xs vs Q S r h
  unfold bLen at h
  split at h
  · rename_i x
    obtain ⟨v, t, rfl, rx, rfl⟩ := r
    cases e : sqOf μ x with
    | some ys =>
      simp only [e] at h
      obtain ⟨a, ws, rfl, hs, rr⟩ := sqOf_ok S.sm rx e
      exact .inl ⟨a, ws, rfl, hs, by rw [rr.len]; exact h.here S _ rfl⟩
    | none =>
      simp only [e] at h
      cases x with
      | str z =>
        cases rx
        by_cases hl : lim z.length = true
        · simp only [hl, if_true] at h
          exact .inr ⟨z, rfl, lim_ok hl, h.here S _ rfl⟩
        · simp only [hl] at h; exact h.elim
      | _ => exact h.elim
  · exact h.elim
theorem b_int : CalS K mg bInt (fun xs H Q => (∃ i, xs = [.int i] ∧ Q (.int i) H) ∨ ∃ k, xs = [.bl k] ∧ Q (.int (if k then 1 else 0)) H) := by
  intro W Av as ρ μ σ H xs vs Q S r h
  unfold bInt at h
  split at h
  · obtain ⟨v, t, rfl, rx, rfl⟩ := r
    cases rx
    exact .inl ⟨_, rfl, h.here S _ rfl⟩
  · obtain ⟨v, t, rfl, rx, rfl⟩ := r
    cases rx
    exact .inr ⟨_, rfl, h.here S _ rfl⟩
  · exact h.elim
theorem b_abs : CalS K mg bAbs (fun xs H Q => ∃ i, xs = [.int i] ∧ Q (.int (if i < 0 then -i else i)) H) := by
  intro W Av as ρ μ σ H xs vs Q S r h
  unfold bAbs at h
  split at h
  · obtain ⟨v, t, rfl, rx, rfl⟩ := r
    cases rx
    exact ⟨_, rfl, h.here S _ rfl⟩
  · exact h.elim
theorem b_max2 : CalS K mg bMax2 (fun xs H Q => ∃ i j, xs = [.int i, .int j] ∧ Q (.int (if j > i then j else i)) H) := by
  intro W Av as ρ μ σ H xs vs Q S r h
  unfold bMax2 at h
  split at h
  · obtain ⟨v, t, rfl, rx, v', t', rfl, ry, rfl⟩ := r
    cases rx
    cases ry
    exact ⟨_, _, rfl, h.here S _ rfl⟩
  · exact h.elim
theorem b_min2 : CalS K mg bMin2 (fun xs H Q => ∃ i j, xs = [.int i, .int j] ∧ Q (.int (if j < i then j else i)) H) := by
  intro W Av as ρ μ σ H xs vs Q S r h
  unfold bMin2 at h
  split at h
  · obtain ⟨v, t, rfl, rx, v', t', rfl, ry, rfl⟩ := r
    cases rx
    cases ry
    exact ⟨_, _, rfl, h.here S _ rfl⟩
  · exact h.elim
theorem b_list : CalF K mg bList (fun xs H Q => ∃ p ys, xs = [.ref p] ∧ (SqL K H p ys ∨ SqT K H p ys) ∧ ∀ l, H l = none → Q (.ref l) (upd H l (.lst ys))) := by
  intro W Av as ρ μ σ H xs vs Q S r h
  unfold bList at h
  split at h
  · rename_i x
    obtain ⟨v, t, rfl, rx, rfl⟩ := r
    cases e : sqOf μ x with
    | none => simp only [e] at h; exact h.elim
    | some ys =>
      simp only [e] at h
      obtain ⟨a, ws, rfl, hs, rr⟩ := sqOf_ok S.sm rx e
      exact ⟨a, ws, rfl, hs, fun l hl => h.fresh S hl rr⟩
  · exact h.elim
theorem b_tuple : CalS K mg bTuple (fun xs H Q => ∃ p ys, xs = [.ref p] ∧ ((SqL K H p ys ∧ ∀ l, H l = none → Q (.ref l) (upd H l (.tup ys))) ∨ (SqT K H p ys ∧ Q (.ref p) H))) := by
  intro W Av as ρ μ σ H xs vs Q S r h
  unfold bTuple at h
  split at h
  · obtain ⟨v, t, rfl, rx, rfl⟩ := r
    obtain ⟨a, ws, rfl, na, ha, rr⟩ := id rx
    exact ⟨a, ws, rfl, .inr ⟨.of ha, h.here S _ rx⟩⟩
  · obtain ⟨v, t, rfl, rx, rfl⟩ := r
    rename_i x _
    cases e : llOf μ x with
    | none => simp only [e] at h; exact h.elim
    | some ys =>
      simp only [e] at h
      obtain ⟨a, ws, rfl, hs, rr⟩ := llOf_ok S.sm rx e
      exact ⟨a, ws, rfl, .inl ⟨hs, fun l hl => h Av as _ (step_newv hl) (S.newv hl) (.ref l) ⟨l, ws, rfl, S.sm.avFree hl, upd_same, (step_newv (as := as) hl).reps rr⟩⟩⟩
  · exact h.elim
theorem b_sum : CalS K mg bSum (rSum K) := by
  intro W Av as ρ μ σ H xs vs Q S r h
  unfold bSum at h
  split at h
  · rename_i x
    obtain ⟨v, t, rfl, rx, rfl⟩ := r
    cases e : llOf μ x with
    | none => simp only [e] at h; exact h.elim
    | some ys =>
      simp only [e] at h
      cases e2 : intsOf ys with
      | none => simp only [e2] at h; exact h.elim
      | some ns =>
        simp only [e2] at h
        obtain ⟨a, ws, rfl, hs, rr⟩ := llOf_ok S.sm rx e
        rw [intsOf_ok e2] at rr
        rw [rr.ints] at hs
        exact ⟨a, ns, rfl, hs, h.here S _ rfl⟩
  · exact h.elim
theorem b_all : CalS K mg bAll (rAll K) := by
  intro W Av as ρ μ σ H xs vs Q S r h
  unfold bAll at h
  split at h
  · rename_i x
    obtain ⟨v, t, rfl, rx, rfl⟩ := r
    cases e : llOf μ x with
    | none => simp only [e] at h; exact h.elim
    | some ys =>
      simp only [e] at h
      cases e2 : boolsOf ys with
      | none => simp only [e2] at h; exact h.elim
      | some ns =>
        simp only [e2] at h
        obtain ⟨a, ws, rfl, hs, rr⟩ := llOf_ok S.sm rx e
        rw [boolsOf_ok e2] at rr
        rw [rr.bls] at hs
        exact ⟨a, ns, rfl, hs, h.here S _ rfl⟩
  · exact h.elim
theorem b_any : CalS K mg bAny (rAny K) := by
  intro W Av as ρ μ σ H xs vs Q S r h
  unfold bAny at h
  split at h
  · rename_i x
    obtain ⟨v, t, rfl, rx, rfl⟩ := r
    cases e : llOf μ x with
    | none => simp only [e] at h; exact h.elim
    | some ys =>
      simp only [e] at h
      cases e2 : boolsOf ys with
      | none => simp only [e2] at h; exact h.elim
      | some ns =>
        simp only [e2] at h
        obtain ⟨a, ws, rfl, hs, rr⟩ := llOf_ok S.sm rx e
        rw [boolsOf_ok e2] at rr
        rw [rr.bls] at hs
        exact ⟨a, ns, rfl, hs, h.here S _ rfl⟩
  · exact h.elim
end
end EV

set_option Elab.async false
set_option linter.all false
set_option autoImplicit false
set_option maxRecDepth 100000
set_option maxHeartbeats 4000000
namespace L2
open PySem PySem.Spec PyProof.Rows
theorem tuple_mulSame (l : Addr) (items : Array Value) (n : Nat) (dd : Option Addr) (sl : Array (Option Value)) (x : Int) (u : Tok) (c0 : (decide (x < -(2 ^ 63)) || decide (x ≥ 2 ^ 63)) = false) (c1 : (items.isEmpty || x == 1) = true) :
    Meets (Builtin.«tuple.__mul__» ⟨[.ref l, .int x u], []⟩) (fun _ R s => s.heap.get? l = some { cls := .type "tuple", dict := dd, data := .seq items n, slots := sl } ∧ R (.ok (.ret (Value.ref l))) s) :=
  .of_wp fun prog w A R s h => by
    obtain ⟨hp, g, d, tk, os⟩ := s
    obtain ⟨hl, h⟩ := h
    have f1 := AutoSeq1.idx_int
    wp_walk using wpAny_loadPart' hl
    repeat (first
      | (refine wpAny_ite_false (decide_eq_false (by rw [c0]; exact Bool.false_ne_true)) ?_; wp_walk using wpAny_loadPart' hl)
      | (refine wpAny_ite_true (decide_eq_true c1) ?_; wp_walk using wpAny_loadPart' hl))
    exact ⟨_, rfl, h⟩
theorem tuple_mulNone (l : Addr) (items : Array Value) (n : Nat) (dd : Option Addr) (sl : Array (Option Value)) (x : Int) (u : Tok) (c0 : (decide (x < -(2 ^ 63)) || decide (x ≥ 2 ^ 63)) = false) (c1 : (items.isEmpty || x == 1) = false) (c2 : (decide (x ≤ 0) || items.isEmpty) = true) :
    Meets (Builtin.«tuple.__mul__» ⟨[.ref l, .int x u], []⟩) (fun _ R s => s.heap.get? l = some { cls := .type "tuple", dict := dd, data := .seq items n, slots := sl } ∧
      R (.ok (.ret (Value.ref s.heap.objs.size))) { s with heap := s.heap.push { cls := Value.type "tuple", data := Data.seq #[] }, toks := s.toks }) :=
  .of_wp fun prog w A R s h => by
    obtain ⟨hp, g, d, tk, os⟩ := s
    obtain ⟨hl, h⟩ := h
    have f1 := AutoSeq1.idx_int
    wp_walk using wpAny_loadPart' hl
    repeat (first
      | (refine wpAny_ite_false (decide_eq_false (by rw [c0]; exact Bool.false_ne_true)) ?_; wp_walk using wpAny_loadPart' hl)
      | (refine wpAny_ite_false (decide_eq_false (by rw [c1]; exact Bool.false_ne_true)) ?_; wp_walk using wpAny_loadPart' hl)
      | (refine wpAny_ite_true (decide_eq_true c2) ?_; wp_walk using wpAny_loadPart' hl))
    repeat (first
      | (refine wpAny_ite_false (decide_eq_false (Nat.not_lt.mpr (by rw [sizeLine_eq]; decide))) ?_; wp_walk using wpAny_loadPart' hl))
    exact ⟨_, rfl, h⟩
/-- tuple * int -/
def rRepA (K : PySem.W.Frag) : R2 := fun x y H Q => ∃ l k xs, x = .ref l ∧ y = .int k ∧ SqT K H l xs ∧ -(2 ^ 62) ≤ k ∧ k ≤ 1000 ∧ xs.length ≤ 1000 ∧ (xs = [] ∨ k = 1 → Q (.ref l) H) ∧ (xs ≠ [] → k ≠ 1 → ∀ p, H p = none → Q (.ref p) (upd H p (.tup (List.replicate k.toNat xs).flatten)))
theorem op_repA {X : Cx} : OpR X (binaryOp .Mult) (rRepA X.K) := by
  intro pins s σ H x y v u Q I rx ry h
  obtain ⟨l, k, xs, rfl, rfl, hT, h1, h2, hz, q1, q2⟩ := h
  by_cases hc : xs ≠ [] ∧ 2 ≤ k
  · exact op_repT pins s σ H _ _ v u Q I rx ry ⟨l, k, xs, rfl, rfl, hT, hc.1, hc.2, h2, hz, q2 hc.1 (by omega)⟩
  · cases rx
    obtain ⟨t, rfl⟩ := ry
    obtain ⟨its, r, ⟨⟨cls, dd, data, sl⟩, ho, hcc, n, hd⟩, hs⟩ := I.tuple hT
    simp only at hcc hd
    subst hcc hd
    have hle : its.length = xs.length := r.length.symm
    have c0 : (decide (k < -(2 ^ 63)) || decide (k ≥ 2 ^ 63)) = false := by
      rw [decide_eq_false (by omega), decide_eq_false (by omega)] <;> rfl
    by_cases e : xs = [] ∨ k = 1
    · have c1 : (its.toArray.isEmpty || k == 1) = true := by
        rcases e with e | e
        · subst e
          have : its = [] := List.eq_nil_of_length_eq_zero hle
          subst this
          rfl
        · subst e; simp
      refine wpAny_binaryOp_repeat_ref (T := "tuple") (U := "int") (by decide) ⟨_, ho, rfl⟩ (fun s' => typeIs_int s' k t) noFill_tuple_mul F.fills_int_mul F.slot_int_rmul repeat_tuple F.slot_int_index.lookup
        (call_meets F.slot_int_rmul (typeIs_int s k t) F.entry_int_rmul (F.args_int_rmul_2 _ _) (int_rmul_tuple k t l its.toArray n dd sl)
          ⟨ho, rfl, ⟨_, ho, rfl⟩, call_meets F.slot_tuple_mul ⟨_, ho, rfl⟩ F.entry_tuple_mul (F.args_tuple_mul_2 _ _) (tuple_mulSame l its.toArray n dd sl k t c0 c1) ⟨ho, ?_⟩⟩)
      exact ⟨.ref l, H, I, rfl, q1 e⟩
    · have e1 : xs ≠ [] := fun z => e (.inl z)
      have e2 : k ≠ 1 := fun z => e (.inr z)
      have hn : its ≠ [] := fun e => e1 (by
        rw [e] at hle
        exact List.eq_nil_of_length_eq_zero hle.symm)
      have hi : its.toArray.isEmpty = false := by
        cases its with
        | nil => exact absurd rfl hn
        | cons a b => rfl
      have hk : k ≤ 0 := by
        have : ¬ 2 ≤ k := fun z => hc ⟨e1, z⟩
        omega
      have c1 : (its.toArray.isEmpty || k == 1) = false := by
        rw [hi, Bool.false_or]
        exact beq_eq_false_iff_ne.mpr e2
      have c2 : (decide (k ≤ 0) || its.toArray.isEmpty) = true := by
        rw [decide_eq_true hk] <;> rfl
      have e0 : k.toNat = 0 := by omega
      refine wpAny_binaryOp_repeat_ref (T := "tuple") (U := "int") (by decide) ⟨_, ho, rfl⟩ (fun s' => typeIs_int s' k t) noFill_tuple_mul F.fills_int_mul F.slot_int_rmul repeat_tuple F.slot_int_index.lookup
        (call_meets F.slot_int_rmul (typeIs_int s k t) F.entry_int_rmul (F.args_int_rmul_2 _ _) (int_rmul_tuple k t l its.toArray n dd sl)
          ⟨ho, rfl, ⟨_, ho, rfl⟩, call_meets F.slot_tuple_mul ⟨_, ho, rfl⟩ F.entry_tuple_mul (F.args_tuple_mul_2 _ _) (tuple_mulNone l its.toArray n dd sl k t c0 c1 c2) ⟨ho, ?_⟩⟩)
      have q := q2 e1 e2 s.heap.objs.size (I.hok.fresh (Nat.le_refl _))
      rw [e0] at q
      refine ⟨.ref s.heap.objs.size, _, I.laid (t' := s.toks) (o := .tup (List.replicate 0 xs).flatten) (fun b ob q => Heap.get?_push_of_some _ q) (Nat.le_refl _) ?_, rfl, q⟩
      exact ⟨Nat.zero_le _, [], .nil, IsTup.new _ _⟩
end L2
namespace EV
open PySem PySem.Spec PyProof.Rows L2
/-- * of ints, of a tuple and an int, of a list and an int -/
def fMulA (x y : PV) (μ : Mu) : R PV := match x, y with
  | .int i, .int j => if mulOk i j then .ok (.int (i * j)) μ else .bad
  | .tup xs, .int k => if decide (-1152921504606846976 < k) && (decide (k ≤ 1000) && Nat.ble xs.length 1000) then .ok (.tup (repl xs k.toNat)) μ else .bad
  | x, .int k => match lsOf μ x with
    | some xs => if decide (k < 16777216) && decide (-16777216 < k) && lim (xs.length * k.toNat) then .ok (.lst (repl xs k.toNat)) μ else .bad
    | none => .bad
  | _, _ => .bad
def rMulA (K : PySem.W.Frag) : R2 := fun x y H Q => (rI CMulW (fun i j => V.int (i * j)) x y H Q ∨ rRepA K x y H Q) ∨ rRep x y H Q
theorem op_mulA {X : Cx} : OpR X (binaryOp .Mult) (rMulA X.K) := (op_mulW.or op_repA).or op_rep
section
variable {K : PySem.W.Frag} {mg : Str → Option Value}
theorem s_mulA : OpS K mg fMulA (rMulA K) := by
  intro W Av as ρ μ σ H x y v w Q S rx ry h
  unfold fMulA at h
  split at h
  · rename_i i j
    cases rx
    cases ry
    by_cases hk : mulOk i j = true
    · rw [if_pos hk] at h
      exact .inl (.inl ⟨i, j, rfl, rfl, Nat.blt_eq.mp hk, h.here S _ rfl⟩)
    · rw [if_neg hk] at h; exact h.elim
  · rename_i xs k
    cases ry
    obtain ⟨a, vs, rfl, na, ha, rr⟩ := id rx
    by_cases hk : (decide (-1152921504606846976 < k) && (decide (k ≤ 1000) && Nat.ble xs.length 1000)) = true
    · rw [if_pos hk] at h
      simp only [Bool.and_eq_true] at hk
      have h1 := of_decide_eq_true hk.1
      have h2 := of_decide_eq_true hk.2.1
      have h3 := Nat.le_of_ble_eq_true hk.2.2
      refine .inl (.inr ⟨a, k, vs, rfl, rfl, .of ha, by omega, h2, by rw [rr.len]; exact h3, fun e => ?_, fun e1 e2 p hn => ?_⟩)
      · have e' : repl xs k.toNat = xs := by
          rcases e with e | e
          · have ex := rr.nil_iff.mp e
            subst ex
            rw [repl_eq]
            simp
          · subst e
            show xs ++ [] = xs
            exact List.append_nil xs
        rw [e'] at h
        exact h.here S _ rx
      · exact h Av as _ (step_newv hn) (S.newv hn) (.ref p) ⟨p, _, rfl, S.sm.avFree hn, upd_same, (step_newv (as := as) hn).reps (rr.repl _)⟩
    · rw [if_neg hk] at h; exact h.elim
  · rename_i k _ _
    cases ry
    cases e1 : lsOf μ x with
    | none => simp only [e1] at h; exact h.elim
    | some xs =>
      simp only [e1] at h
      by_cases hl : (decide (k < 16777216) && decide (-16777216 < k) && lim (xs.length * k.toNat)) = true
      · rw [if_pos hl] at h
        rw [Bool.and_eq_true, Bool.and_eq_true] at hl
        have h1 := of_decide_eq_true hl.1.1
        have h2 := of_decide_eq_true hl.1.2
        obtain ⟨a, vs, rfl, ha, r1⟩ := lsOf_ok S.sm rx e1
        exact .inr ⟨a, k, vs, rfl, rfl, ha, by omega, by omega, by rw [r1.len]; exact lim_ok hl.2, fun p hn => h Av as _ (step_newv hn) (S.newv hn) (.ref p) ⟨p, _, rfl, S.sm.avFree hn, upd_same, (step_newv (as := as) hn).reps (r1.repl _)⟩⟩
      · rw [if_neg hl] at h; exact h.elim
  · exact h.elim
end

/-! ### slices -/
abbrev DO := Rho → Mu → R (Option Int)
def oN : DO := fun _ μ => .ok none μ
def oS (d : D) : DO := fun ρ μ => (d ρ μ).bind fun v μ1 => match v with
  | .int i => .ok (some i) μ1
  | _ => .bad
def cutP {α : Type} (xs : List α) (lo hi : Option Int) : List α := (xs.drop (HT.sIx xs.length 0 lo)).take (HT.sIx xs.length xs.length hi - HT.sIx xs.length 0 lo)
def fSl (x : PV) (lo hi : Option Int) (μ : Mu) : R PV := match x with
  | .tup xs => .ok (.tup (cutP xs lo hi)) μ
  | .str z => if lim z.length then .ok (.str (cutS z lo hi)) μ else .bad
  | x => match llOf μ x with
    | some xs => .ok (.lst (cutP xs lo hi)) μ
    | none => .bad
def fSlF (x : PV) (lo hi : Option Int) (μ : Mu) : R (List PV) := match llOf μ x with
  | some xs => .ok (cutP xs lo hi) μ
  | none => .bad
def dSl (d : D) (lo hi : DO) : D := fun ρ μ => (d ρ μ).bind fun x μ1 => (lo ρ μ1).bind fun l μ2 => (hi ρ μ2).bind fun h μ3 => fSl x l h μ3
def dSlF (d : D) (lo hi : DO) : DA := fun ρ μ => (d ρ μ).bind fun x μ1 => (lo ρ μ1).bind fun l μ2 => (hi ρ μ2).bind fun h μ3 => fSlF x l h μ3
def tDO (K : PySem.W.Frag) (mg : Str → Option Value) (W : WX) (d : DO) : TO := fun σ H Q => ∃ Av as ρ μ, SR K mg Av as ρ μ σ H ∧ Wp K mg W Av as ρ σ H (d ρ μ) fun _ _ H' b _ => Q b H'
theorem _root_.L2.PO.imp {X : Cx} {e : Option Expr} {t t' : TO} (h : PO X e t) (i : ∀ σ H Q, t' σ H Q → t σ H Q) : PO X e t' := ⟨fun pins s σ H Q I q => h.run pins s σ H Q I (i σ H Q q)⟩
section
variable {X : Cx} {W : WX} {e : Expr} {pos p2 : Pos} {d : D} {l h : DO} {lo hi : Option Expr}
theorem tDO.go {K : PySem.W.Frag} {mg : Str → Option Value} {Av : Pd} {as : List Addr} {ρ : Rho} {μ : Mu} {σ : L2.St} {H : Hp} {d : DO} {Q : Option Int → Hp → Prop} {P : Pd → List Addr → Hp → Option Int → Mu → Prop} (S : SR K mg Av as ρ μ σ H) (h : Wp K mg W Av as ρ σ H (d ρ μ) P)
    (q : ∀ Av1 as1 H1 v μ1, Step Av as H Av1 as1 H1 → SR K mg Av1 as1 ρ μ1 σ H1 → P Av1 as1 H1 v μ1 → Q v H1) : tDO K mg W d σ H Q :=
  ⟨Av, as, ρ, μ, S, h.mono fun Av' as' H' v μ' _ s S' p => q Av' as' H' v μ' s S' p⟩
theorem o_none : PO X none (tDO X.K X.mg W oN) := po_none.imp fun σ H Q ⟨Av, as, ρ, μ, S, h⟩ => h.here S
theorem o_some (he : PE X e (tE X W d)) : PO X (some e) (tDO X.K X.mg W (oS d)) := (po_some he).imp fun σ H Q ⟨Av, as, ρ, μ, S, h⟩ => tD.go S h.bind fun Av1 as1 H1 v μ1 x s1 S1 r1 q => by
  cases v with
  | int i => cases r1; exact ⟨i, rfl, q.here S1⟩
  | _ => exact q.elim
theorem Reps.cut {K : PySem.W.Frag} {mg : Str → Option Value} {Av : Pd} {H : Hp} {xs : List PV} {vs : List V} (r : Reps K mg Av H xs vs) (lo hi : Option Int) : Reps K mg Av H (cutP xs lo hi) (cutV vs lo hi) := by
  unfold cutP cutV
  rw [r.len]
  exact (r.drop _).take _
def rSlP (K : PySem.W.Frag) : V → Option Int → Option Int → Hp → VK → Prop := fun x lo hi H Q => (rSlA K x lo hi H Q ∨ rSlL K x lo hi H Q) ∨ rSlS x lo hi H Q
theorem sl_P : SlR X (rSlP X.K) := (sl_tupA.or sl_list).or sl_str
theorem e_slice (he : PE X e (tE X W d)) (hl : PO X lo (tDO X.K X.mg W l)) (hu : PO X hi (tDO X.K X.mg W h)) : PE X (.Subscript e (.Slice lo hi none p2) pos) (tE X W (dSl d l h)) :=
  (pe_slice sl_P he hl hu).imp fun σ H Q ⟨Av, as, ρ, μ, S, h0⟩ => tD.go S h0.bind fun Av1 as1 H1 x μ1 v s1 S1 r1 q1 => tDO.go S1 q1.bind fun Av2 as2 H2 lo' μ2 s2 S2 q2 => tDO.go S2 q2.bind fun Av3 as3 H3 hi' μ3 s3 S3 q3 => by
    have rx := (s2.trans s3).top r1
    unfold fSl at q3
    split at q3
    · rename_i xs
      obtain ⟨a, vs, rfl, na, ha, rr⟩ := id rx
      refine .inl (.inl ⟨a, vs, rfl, .of ha, fun e => ?_, fun _ p hn => ?_⟩)
      · have ec : cutP xs lo' hi' = xs := by
          unfold cutP
          rw [← rr.len, e.1, e.2]
          simp [rr.len]
        rw [ec] at q3
        exact q3.here S3 _ rx
      · exact q3 Av3 as3 _ (step_newv hn) (S3.newv hn) (.ref p) ⟨p, _, rfl, S3.sm.avFree hn, upd_same, (step_newv (as := as3) hn).reps (rr.cut _ _)⟩
    · rename_i z
      cases rx
      by_cases hk : lim z.length = true
      · rw [if_pos hk] at q3
        exact .inr ⟨z, rfl, lim_ok hk, q3.here S3 _ rfl⟩
      · rw [if_neg hk] at q3; exact q3.elim
    · cases e1 : llOf μ3 x with
      | none => simp only [e1] at q3; exact q3.elim
      | some xs =>
        simp only [e1] at q3
        obtain ⟨a, vs, rfl, hs, rr⟩ := llOf_ok S3.sm rx e1
        exact .inl (.inr ⟨a, vs, rfl, hs, fun p hn => q3 Av3 as3 _ (step_newv hn) (S3.newv hn) (.ref p) ⟨p, _, rfl, S3.sm.avFree hn, upd_same, (step_newv (as := as3) hn).reps (rr.cut _ _)⟩⟩)
theorem f_slice (he : PE X e (tE X W d)) (hl : PO X lo (tDO X.K X.mg W l)) (hu : PO X hi (tDO X.K X.mg W h)) : PE X (.Subscript e (.Slice lo hi none p2) pos) (tF X.K X.mg W (dSlF d l h)) :=
  (pe_slice sl_P he hl hu).imp fun σ H Q ⟨Av, as, ρ, μ, S, h0⟩ => tD.go S h0.bind fun Av1 as1 H1 x μ1 v s1 S1 r1 q1 => tDO.go S1 q1.bind fun Av2 as2 H2 lo' μ2 s2 S2 q2 => tDO.go S2 q2.bind fun Av3 as3 H3 hi' μ3 s3 S3 q3 => by
    have rx := (s2.trans s3).top r1
    unfold fSlF at q3
    cases e1 : llOf μ3 x with
    | none => simp only [e1] at q3; exact q3.elim
    | some xs =>
      simp only [e1] at q3
      obtain ⟨a, vs, rfl, hs, rr⟩ := llOf_ok S3.sm rx e1
      exact .inl (.inr ⟨a, vs, rfl, hs, fun p hn => (frp_back (s1.trans (s2.trans s3)) q3).fresh S3 hn (rr.cut _ _)⟩)
end

/-! ### list(range(..)), tuple(range(..)), reversed -/
theorem rgl_map : ∀ (n : Nat) (lo : Int), rgl lo n = ((List.range n).map fun i : Nat => PV.int (lo + (i : Nat)))
  | n, lo => by
    refine List.ext_getElem? fun i => ?_
    by_cases hi : i < n
    · rw [rgl_get n lo i hi, List.getElem?_map, List.getElem?_range hi]; rfl
    · rw [List.getElem?_eq_none (by rw [rgl_len]; omega), List.getElem?_eq_none (by simp; omega)]
theorem reps_rg {K : PySem.W.Frag} {mg : Str → Option Value} {Av : Pd} {H : Hp} : ∀ (l : List Nat) (lo : Int), Reps K mg Av H (l.map fun i : Nat => PV.int (lo + (i : Nat))) (l.map fun i : Nat => V.int (lo + (i : Nat)))
  | [], _ => rfl
  | i :: l, lo => ⟨_, _, rfl, rfl, reps_rg l lo⟩
def rg2Ok (i j : Int) : Bool := rgOk i && (rgOk j && lim (j - i).toNat)
theorem rg2Ok_ok {i j : Int} (h : rg2Ok i j = true) : RgOk i j := by
  unfold rg2Ok at h
  simp only [Bool.and_eq_true] at h
  have h1 := rgOk_ok h.1
  have h2 := rgOk_ok h.2.1
  have h3 := lim_ok h.2.2
  rw [sizeLine_eq] at h3
  exact ⟨h1.1, h1.2, h2.1, h2.2, by omega⟩
/-- the ends of a range that is handed on -/
abbrev DR := Rho → Mu → R (Int × Int)
def dR1 (a : D) : DR := fun ρ μ => (a ρ μ).bind fun v μ1 => match v with
  | .int n => .ok (0, n) μ1
  | _ => .bad
def dR2 (a b : D) : DR := fun ρ μ => (a ρ μ).bind fun v μ1 => (b ρ μ1).bind fun w μ2 => match v, w with
  | .int i, .int j => .ok (i, j) μ2
  | _, _ => .bad
def tDR (K : PySem.W.Frag) (mg : Str → Option Value) (W : WX) (d : DR) : L2.St → Hp → (Int → Int → Hp → Prop) → Prop := fun σ H Q => ∃ Av as ρ μ, SR K mg Av as ρ μ σ H ∧ Wp K mg W Av as ρ σ H (d ρ μ) fun Av' as' H' b μ' => SR K mg Av' as' ρ μ' σ H' → Q b.1 b.2 H'
def dRgL (d : DR) : DA := fun ρ μ => (d ρ μ).bind fun b μ1 => if rg2Ok b.1 b.2 then .ok (rgl b.1 (b.2 - b.1).toNat) μ1 else .bad
def dRgT (d : DR) : D := fun ρ μ => (d ρ μ).bind fun b μ1 => if rg2Ok b.1 b.2 then .ok (.tup (rgl b.1 (b.2 - b.1).toNat)) μ1 else .bad
section
variable {X : Cx} {W : WX} {a b e : Expr} {pos p : Pos} {da db : D} {dr : DR}
theorem prg_imp {t t' : L2.St → Hp → (Int → Int → Hp → Prop) → Prop} (h : PRg X e t) (i : ∀ σ H Q, t' σ H Q → t σ H Q) : PRg X e t' := fun pins s σ H Q I q => h pins s σ H Q I (i σ H Q q)
theorem r_1 (hm : X.mg "range" = none) (ha : PE X a (tE X W da)) (hg : Gl X "range" := by rfl) (na : starEach [a] X.env = (false, eval a X.env) :: starEach [] X.env := by rfl) : PRg X (.Call (.Name "range" p) [a] [] pos) (tDR X.K X.mg W (dR1 da)) :=
  prg_imp (prg_1 hg hm ha na) fun σ H Q ⟨Av, as, ρ, μ, S, h⟩ => tD.go S h.bind fun Av1 as1 H1 v μ1 x s1 S1 r1 q => by
    cases v with
    | int n => cases r1; exact ⟨n, rfl, q.here S1 S1⟩
    | _ => exact q.elim
theorem r_2 (hm : X.mg "range" = none) (ha : PE X a (tE X W da)) (hb : PE X b (tE X W db)) (hg : Gl X "range" := by rfl) (na : starEach [a, b] X.env = (false, eval a X.env) :: starEach [b] X.env := by rfl)
    (nb : starEach [b] X.env = (false, eval b X.env) :: starEach [] X.env := by rfl) (hp : (backTo pos (starEach [b] X.env)).any (·.1) = false := by rfl) : PRg X (.Call (.Name "range" p) [a, b] [] pos) (tDR X.K X.mg W (dR2 da db)) :=
  prg_imp (prg_2 hg hm ha hb na nb hp) fun σ H Q ⟨Av, as, ρ, μ, S, h⟩ => tD.go S h.bind fun Av1 as1 H1 v μ1 x s1 S1 r1 q1 => tD.go S1 q1.bind fun Av2 as2 H2 w μ2 y s2 S2 r2 q => by
    cases v with
    | int i =>
      cases w with
      | int j => cases r1; cases r2; exact ⟨i, j, rfl, rfl, q.here S2 S2⟩
      | _ => exact q.elim
    | _ => exact q.elim
theorem f_listRg (hm : X.mg "list" = none) (he : PRg X e (tDR X.K X.mg W dr)) (hc : X.calm = true := by rfl) (hg : Gl X "list" := by rfl) (na : starEach [e] X.env = (false, eval e X.env) :: starEach [] X.env := by rfl) : PE X (.Call (.Name "list" p) [e] [] pos) (tF X.K X.mg W (dRgL dr)) :=
  (pe_listRg hc hg hm he na).imp fun σ H Q ⟨Av, as, ρ, μ, S, h⟩ => ⟨Av, as, ρ, μ, S, h.bind.mono fun Av1 as1 H1 b μ1 _ s1 S1 q _ => by
    by_cases hk : rg2Ok b.1 b.2 = true
    · rw [if_pos hk] at q
      refine ⟨rg2Ok_ok hk, fun p hn => (frp_back s1 q).fresh S1 hn ?_⟩
      rw [rgl_map]
      exact reps_rg _ _
    · rw [if_neg hk] at q; exact q.elim⟩
theorem e_tupRg (hm : X.mg "tuple" = none) (he : PRg X e (tDR X.K X.mg W dr)) (hc : X.calm = true := by rfl) (hg : Gl X "tuple" := by rfl) (na : starEach [e] X.env = (false, eval e X.env) :: starEach [] X.env := by rfl) : PE X (.Call (.Name "tuple" p) [e] [] pos) (tE X W (dRgT dr)) :=
  (pe_tupRg hc hg hm he na).imp fun σ H Q ⟨Av, as, ρ, μ, S, h⟩ => ⟨Av, as, ρ, μ, S, h.bind.mono fun Av1 as1 H1 b μ1 _ s1 S1 q _ => by
    by_cases hk : rg2Ok b.1 b.2 = true
    · rw [if_pos hk] at q
      refine ⟨rg2Ok_ok hk, fun p hn => q Av1 as1 _ (step_newv hn) (S1.newv hn) (.ref p) ⟨p, _, rfl, S1.sm.avFree hn, upd_same, ?_⟩⟩
      rw [rgl_map]
      exact reps_rg _ _
    · rw [if_neg hk] at q; exact q.elim⟩
/-- reversed(x) walked -/
def dRev (d : D) : DA := fun ρ μ => (d ρ μ).bind fun v μ1 => (fzv v μ1).bind fun w μ2 => match itv w with
  | some xs => .ok xs.reverse μ2
  | none => .bad
theorem i_rev {tg : Expr} (hm : X.mg "reversed" = none) (he : PE X e (tE X W da)) (hg : Gl X "reversed" := by rfl) (hs : starEach [e] X.env = (false, eval e X.env) :: starEach [] X.env := by rfl) : PI X tg (.Call (.Name "reversed" p) [e] [] pos) (tI X.K X.mg W (dRev da)) :=
  (RT.pi_revA hg hm he hs).imp fun σ H Rr ⟨Av, as, ρ, μ, S, h⟩ => tD.go S h.bind fun Av1 as1 H1 v1 μ1 x s1 S1 r1 h1 => by
    obtain ⟨Av2, w, μ2, ef, s2, S2, r2, q⟩ := fz_ok S1 r1 h1.bind
    have rev : ∀ {xs : List PV} {i : Nat}, i < xs.length → xs.reverse[i]? = xs[xs.length - 1 - i]? := fun {xs i} h => List.getElem?_reverse h
    have L : ∀ (a : Addr) (xs : List PV) (n : Nat), n = xs.length → (∀ Av' as' H', StepK Av2 as1 H1 Av' as' H' → ∃ vs, SqL X.K H' a vs ∧ Reps X.K X.mg Av' H' xs vs) → ItOk X.K X.mg (Itv X.K a n) xs.reverse Av2 as1 H1 := fun a xs n en h i Av' as' H' s => by
      obtain ⟨vs, q, rr⟩ := h Av' as' H' s
      subst en
      rw [List.length_reverse]
      refine ⟨fun hi => hi, fun hi => ⟨hi, vs, vs[xs.length - 1 - i]'(by rw [rr.len]; omega), q, List.getElem?_eq_getElem _⟩, fun x H2 hi ⟨e, y⟩ => ?_⟩
      subst e
      obtain ⟨p, e1, e2⟩ := rr.get' (y vs q)
      exact ⟨p, by rw [rev hi]; exact e1, .refl, fun _ _ _ S => S, e2⟩
    cases w with
    | tup ys =>
      obtain ⟨a, vs, e, n, hq, rr⟩ := id r2
      refine ⟨a, vs, e, .inr ⟨.of hq, q.here S2 _ fun i Av' as' H' s => ?_⟩⟩
      have hq' := (s.k a _ hq n).1
      have hr := s.reps rr
      rw [List.length_reverse, rr.len]
      refine ⟨fun hi => hi, fun hi => ⟨hi, vs, vs[ys.length - 1 - i]'(by rw [rr.len]; omega), .of hq', List.getElem?_eq_getElem _⟩, fun x H2 hi ⟨e, y⟩ => ?_⟩
      subst e
      obtain ⟨p, e1, e2⟩ := hr.get' (y vs (.of hq'))
      exact ⟨p, by rw [rev hi]; exact e1, .refl, fun _ _ _ S => S, e2⟩
    | lst ys =>
      obtain ⟨a, vs, e, n, hq, rr⟩ := id r2
      exact ⟨a, vs, e, .inl ⟨.of hq, q.here S2 _ (L a ys _ rr.len fun Av' as' H' s => ⟨vs, .of (s.k a _ hq n).1, s.reps rr⟩)⟩⟩
    | scr ns =>
      obtain ⟨a, e, hq⟩ := id r2
      refine ⟨a, _, e, .inl ⟨scr_sq hq, q.here S2 _ (L a (ns.map .int) _ (by simp) fun Av' as' H' s => ?_)⟩⟩
      obtain ⟨b, e', q'⟩ := Rep.keep s.k (.scr ns) _ r2
      rw [e] at e'
      cases e'
      exact ⟨_, scr_sq q', Reps.ofInts⟩
    | _ => exact q.elim
end
end EV

set_option Elab.async false
set_option linter.all false
set_option autoImplicit false
set_option maxRecDepth 100000
namespace EV
open PySem PySem.Spec PyProof.Rows L2

/-! ### isinstance of a built-in type -/
inductive TN where
  | non | bl | int | str | tup | lst | dct | set | flt
def TN.nm : TN → String
  | .non => "NoneType" | .bl => "bool" | .int => "int" | .str => "str" | .tup => "tuple" | .lst => "list" | .dct => "dict" | .set => "set" | .flt => "float"
def TN.isa : TN → TN → Bool
  | .non, .non => true | .bl, .bl => true | .bl, .int => true | .int, .int => true | .str, .str => true | .tup, .tup => true | .lst, .lst => true | .dct, .dct => true | .set, .set => true | .flt, .flt => true
  | _, _ => false
def tyN : PV → Option TN
  | .non => some .non
  | .bl _ => some .bl
  | .int _ => some .int
  | .str _ => some .str
  | .tup _ => some .tup
  | .lst _ => some .lst
  | .scr _ => some .lst
  | _ => none
def isaD (t : TN) (x : PV) (μ : Mu) : R PV := match tyN (peek μ x) with
  | some a => .ok (.bl (a.isa t)) μ
  | none => .bad
def dIsi (t : TN) (d : D) : D := fun ρ μ => (d ρ μ).bind fun x μ1 => isaD t x μ1
theorem isa_ok (a b : TN) : kitB a.nm b.nm = some (a.isa b) := by cases a <;> cases b <;> decide +kernel
section
variable {K : PySem.W.Frag} {mg : Str → Option Value} {Av : Pd} {H : Hp} {as : List Addr} {μ : Mu}
theorem tyN_ok {x : PV} {v : V} {a : TN} (r : Rep K mg Av H x v) (e : tyN x = some a) : TyX K H v (.type a.nm) := by
  cases x with
  | non => cases r; cases e; exact .base .non
  | bl b => cases r; cases e; exact .base (.bl b)
  | int i => cases r; cases e; exact .base (.int i)
  | str z => cases r; cases e; exact .base (.str z)
  | tup xs => obtain ⟨b, vs, rfl, _, h, _⟩ := r; cases e; exact .base (.tup h)
  | lst xs => obtain ⟨b, vs, rfl, _, h, _⟩ := r; cases e; exact .base (.lst h)
  | scr xs =>
    obtain ⟨b, rfl, h⟩ := r
    cases e
    rcases h with ⟨_, h | ⟨o, h⟩⟩ | ⟨o, its, n, h1, h2, _⟩
    · exact .base (.lst h)
    · exact .base (.frz h)
    · exact .kList h1 h2
  | _ => cases e
theorem tyN_peek (S : SM K mg Av as μ H) {x : PV} {v : V} {a : TN} (r : RepT K mg Av as H x v) (e : tyN (peek μ x) = some a) : TyX K H v (.type a.nm) := by
  cases x with
  | ref n =>
    obtain ⟨b, h1, eu⟩ := r
    subst eu
    cases q : μ[n]? with
    | none => simp only [peek, q] at e; cases e
    | some o =>
      have so := S.obj n b o h1 q
      cases o with
      | lst ys =>
        simp only [peek, q] at e
        obtain ⟨_, vs, e1, e2⟩ := so
        cases e
        exact .base (.lst e1)
      | frz w =>
        simp only [peek, q] at e
        exact tyN_ok so e
      | _ => simp only [peek, q] at e; cases e
  | _ => exact tyN_ok (mg := mg) (Av := Av) r e
end
section
variable {X : Cx} {W : WX} {e : Expr} {pos p q : Pos} {x y : Str} {d : D}
theorem e_isi (t : TN) (hm : X.mg x = none) (hm2 : X.mg y = none) (he : PE X e (tE X W d)) (hv : bootBuiltins x = some (.builtin "isinstance")) (hv2 : bootBuiltins y = some (.type t.nm)) (hg : Gl X x := by rfl) (hg2 : Gl X y := by rfl) (hn : x ≠ "__name__" := by decide) (hdb : (x == ("__debug__" : Str)) = false := by decide) (hn2 : y ≠ "__name__" := by decide) (hdb2 : (y == ("__debug__" : Str)) = false := by decide)
    (hs : starEach (e :: [.Name y q]) X.env = (false, eval e X.env) :: starEach [.Name y q] X.env := by rfl) (hpl : (backTo pos (starEach [.Name y q] X.env)).any (·.1) = false := by rfl) (hs2 : starEach (.Name y q :: []) X.env = (false, eval (.Name y q) X.env) :: starEach [] X.env := by rfl) :
    PE X (.Call (.Name x p) (e :: [.Name y q]) [] pos) (tE X W (dIsi t d)) :=
  (pe_callB call_isi hg hm hv (pa_cons he (pa_cons (pe_bltn (v := .ty t.nm) hg2 hm2 hv2 rfl hn2 hdb2) pa_nil hs2) hs) hn hdb hs hpl).imp fun σ H Q ⟨Av, as, ρ, μ, S, h⟩ => tD.go S h.bind fun Av1 as1 H1 z μ1 v s1 S1 r1 q => by
    unfold isaD at q
    cases ey : tyN (peek μ1 z) with
    | none => simp only [ey] at q; exact q.elim
    | some a =>
      simp only [ey] at q
      exact ⟨v, .ty t.nm, .type a.nm, .type t.nm, a.isa t, rfl, .ty _, tyN_peek S1.sm r1 ey, kit_ty (isa_ok a t), q.here S1 _ rfl⟩
end

/-! ### sorted -/
mutual
def isE : PV → Bool
  | .non => true
  | .bl _ => true
  | .int _ => true
  | .str _ => true
  | .tup xs => isEs xs
  | .lst xs => isEs xs
  | _ => false
def isEs : List PV → Bool
  | [] => true
  | x :: xs => isE x && isEs xs
end
mutual
/-- Python's < of data that are alike -/
def plt : PV → PV → Bool
  | .bl a, .bl b => !a && b
  | .int i, .int j => decide (i < j)
  | .str x, .str y => decide (x.cps.toList < y.cps.toList)
  | .tup xs, .tup ys => plts xs ys
  | .lst xs, .lst ys => plts xs ys
  | _, _ => false
def plts : List PV → List PV → Bool
  | [], [] => false
  | [], _ :: _ => true
  | _ :: _, [] => false
  | x :: xs, y :: ys => if peq x y then plts xs ys else plt x y
end
mutual
theorem isE_D : ∀ x : PV, isE x = true → isD x = true
  | .non, _ => rfl
  | .bl _, _ => rfl
  | .int _, _ => rfl
  | .str _, _ => rfl
  | .tup xs, h => isEs_D xs h
  | .lst xs, h => isEs_D xs h
  | .scr _, h => by cases h
  | .dct _ _, h => by cases h
  | .ins _ _ _, h => by cases h
  | .ref _, h => by cases h
theorem isEs_D : ∀ xs : List PV, isEs xs = true → isDs xs = true
  | [], _ => rfl
  | x :: xs, h => by
    simp only [isEs, Bool.and_eq_true] at h
    simp only [isDs, isE_D x h.1, isEs_D xs h.2, Bool.and_self]
end
mutual
theorem plt_ok : ∀ x y : PV, isE x = true → isE y = true → PySem.W.alike (toD x) (toD y) = true → plt x y = PySem.W.dataLt (toD x) (toD y)
  | .non, y, hx, hy, h => by cases y <;> first | rfl | cases h | (simp [toD, PySem.W.alike] at h)
  | .bl a, y, hx, hy, h => by
    cases y <;> first | (simp [toD, PySem.W.alike] at h; done) | skip
    rename_i b
    simp only [toD, PySem.W.dataLt_bool, plt]
    cases a <;> cases b <;> decide
  | .int a, y, hx, hy, h => by
    cases y <;> first | (simp [toD, PySem.W.alike] at h; done) | skip
    simp only [toD, PySem.W.dataLt_int, plt]
  | .str a, y, hx, hy, h => by
    cases y <;> first | (simp [toD, PySem.W.alike] at h; done) | skip
    simp only [toD, PySem.W.dataLt_str, plt]
  | .tup xs, y, hx, hy, h => by
    cases y <;> first | (simp [toD, PySem.W.alike] at h; done) | skip
    simp only [toD, PySem.W.dataLt_tuple, plt]
    exact plts_ok xs _ hx hy (by simpa [toD, PySem.W.alike] using h)
  | .lst xs, y, hx, hy, h => by
    cases y <;> first | (simp [toD, PySem.W.alike] at h; done) | (cases hy; done) | skip
    simp only [toD, PySem.W.dataLt_list, plt]
    exact plts_ok xs _ hx hy (by simpa [toD, PySem.W.alike] using h)
  | .scr _, _, h, _, _ => by cases h
  | .dct _ _, _, h, _, _ => by cases h
  | .ins _ _ _, _, h, _, _ => by cases h
  | .ref _, _, h, _, _ => by cases h
theorem plts_ok : ∀ xs ys : List PV, isEs xs = true → isEs ys = true → PySem.W.alikeAll (toDs xs) (toDs ys) = true → plts xs ys = PyProof.Rows.lexLt PyProof.Rows.itemOrd (PySem.W.keyToksAll (toDs xs)) (PySem.W.keyToksAll (toDs ys))
  | [], [], _, _, _ => rfl
  | [], y :: ys, _, _, _ => rfl
  | x :: xs, [], _, _, _ => rfl
  | x :: xs, y :: ys, hx, hy, h => by
    simp only [isEs, Bool.and_eq_true] at hx hy
    simp only [toDs] at h ⊢
    obtain ⟨h1, h2⟩ := PySem.W.alike_all_cons h
    have ep := peq_ok x y (isE_D x hx.1) (isE_D y hy.1)
    cases e : peq x y with
    | true =>
      rw [PySem.W.dataLt_all_yes h1 (by rw [← ep]; exact e)]
      simp only [plts, e, if_true]
      exact plts_ok xs ys hx.2 hy.2 h2
    | false =>
      rw [PySem.W.dataLt_all_no h1 (by rw [← ep]; exact e)]
      simp only [plts, e]
      exact plt_ok x y hx.1 hy.1 h1
end
end EV

set_option Elab.async false
set_option linter.all false
set_option autoImplicit false
set_option maxRecDepth 100000
namespace EV
open PySem PySem.Spec PyProof.Rows L2

/-! ### sorted -/
section
variable {β : Type}
def gins (lt : β → β → Bool) (x : β) : List β → List β
  | [] => [x]
  | y :: ys => if lt y x then y :: gins lt x ys else x :: y :: ys
def gsort (lt : β → β → Bool) : List β → List β
  | [] => []
  | x :: xs => gins lt x (gsort lt xs)
theorem gins_mem {lt : β → β → Bool} {x z : β} : ∀ {l : List β}, z ∈ gins lt x l → z = x ∨ z ∈ l
  | [], h => by simp [gins] at h; exact .inl h
  | y :: ys, h => by
    unfold gins at h
    split at h
    · rcases List.mem_cons.mp h with h | h
      · exact .inr (h ▸ List.mem_cons_self)
      · exact (gins_mem h).imp id (List.mem_cons_of_mem _)
    · exact List.mem_cons.mp h
theorem gsort_mem {lt : β → β → Bool} {z : β} : ∀ {l : List β}, z ∈ gsort lt l → z ∈ l
  | [], h => h
  | x :: xs, h => by
    rcases gins_mem h with h | h
    · exact h ▸ List.mem_cons_self
    · exact List.mem_cons_of_mem _ (gsort_mem h)
theorem gins_congr {lt lt' : β → β → Bool} {x : β} : ∀ {l : List β}, (∀ y ∈ l, lt y x = lt' y x) → gins lt x l = gins lt' x l
  | [], h => rfl
  | y :: ys, h => by
    unfold gins
    rw [h y List.mem_cons_self, gins_congr fun z hz => h z (List.mem_cons_of_mem _ hz)]
theorem gsort_congr {lt lt' : β → β → Bool} : ∀ {l : List β}, (∀ x ∈ l, ∀ y ∈ l, lt x y = lt' x y) → gsort lt l = gsort lt' l
  | [], h => rfl
  | x :: xs, h => by
    unfold gsort
    rw [gsort_congr (l := xs) fun a ha b hb => h a (List.mem_cons_of_mem _ ha) b (List.mem_cons_of_mem _ hb)]
    exact gins_congr fun y hy => h y (List.mem_cons_of_mem _ (gsort_mem hy)) x List.mem_cons_self
theorem gins_mid {lt : β → β → Bool} {x : β} : ∀ {l₁ l₂ : List β}, (∀ b ∈ l₁, lt b x = true) → (∀ b ∈ l₂, lt b x = false) → gins lt x (l₁ ++ l₂) = l₁ ++ x :: l₂
  | [], [], _, _ => rfl
  | [], y :: ys, _, h => by
    show gins lt x (y :: ys) = _
    unfold gins
    rw [h y List.mem_cons_self]; rfl
  | z :: zs, l₂, h1, h2 => by
    show gins lt x (z :: (zs ++ l₂)) = _
    unfold gins
    rw [h1 z List.mem_cons_self, if_pos rfl, gins_mid (fun b hb => h1 b (List.mem_cons_of_mem _ hb)) h2]
    rfl
theorem gsort_eq {lt : β → β → Bool} (tr : ∀ a b c, (!lt b a) = true → (!lt c b) = true → (!lt c a) = true) (tt : ∀ a b, ((!lt b a) || (!lt a b)) = true) : ∀ l : List β, gsort lt l = l.mergeSort (fun a b => !lt b a)
  | [] => by simp [gsort]
  | x :: xs => by
    unfold gsort
    rw [gsort_eq tr tt xs]
    obtain ⟨l₁, l₂, e1, e2, e3⟩ := List.mergeSort_cons (le := fun a b => !lt b a) tr tt x xs
    rw [e1, e2]
    refine gins_mid (fun b hb => ?_) fun b hb => ?_
    · have := e3 b hb
      simpa using this
    · have s := List.pairwise_mergeSort (le := fun a b => !lt b a) tr tt (x :: xs)
      rw [e1] at s
      have := (List.pairwise_cons.mp (List.pairwise_append.mp s).2.1).1 b hb
      simpa using this
end
def psort (l : List PV) : List PV := gsort plt l
def isI : PV → Bool
  | .int _ => true
  | _ => false
def allI : List PV → Bool
  | [] => true
  | x :: xs => isI x && allI xs
def tupI : PV → Bool
  | .tup (x :: xs) => isI x && allI xs
  | _ => false
def lstI : PV → Bool
  | .lst xs => allI xs
  | _ => false
def isS : PV → Bool
  | .str _ => true
  | _ => false
/-- not a tuple, not None; a tuple with something -/
def kT : PV → Bool
  | .tup (_ :: _) => true
  | _ => false
def kO : PV → Bool
  | .non => false
  | .tup _ => false
  | _ => true
def allP (xs : List PV) : Bool := xs.all fun x => xs.all fun y => PySem.W.alike (toD x) (toD y)
def srtOk (xs : List PV) : Bool := allI xs || (xs.all tupI || (xs.all isS || (isEs xs && (Nat.ble (deps xs) 50 && ((xs.all kT || xs.all kO) && allP xs)))))
theorem allI_dep : ∀ xs : List PV, allI xs = true → deps xs = 0
  | [], _ => rfl
  | x :: xs, h => by
    simp only [allI, Bool.and_eq_true] at h
    cases x <;> first | (cases h.1; done) | skip
    simp only [deps, dep, allI_dep xs h.2]; rfl
theorem allI_E : ∀ xs : List PV, allI xs = true → isEs xs = true
  | [], _ => rfl
  | x :: xs, h => by
    simp only [allI, Bool.and_eq_true] at h
    cases x <;> first | (cases h.1; done) | skip
    simp only [isEs, isE, allI_E xs h.2]; rfl
theorem allI_al : ∀ xs ys : List PV, allI xs = true → allI ys = true → PySem.W.alikeAll (toDs xs) (toDs ys) = true
  | [], ys, _, _ => by simp only [toDs]; rw [PySem.W.alikeAll]
  | x :: xs, [], _, _ => by simp only [toDs]; rw [PySem.W.alikeAll]
  | x :: xs, y :: ys, h, k => by
    simp only [allI, Bool.and_eq_true] at h k
    cases x <;> first | (cases h.1; done) | skip
    cases y <;> first | (cases k.1; done) | skip
    simp only [toDs, PySem.W.alikeAll, toD, PySem.W.alike, allI_al xs ys h.2 k.2]; rfl
theorem allI_mem : ∀ {xs : List PV} {x : PV}, allI xs = true → x ∈ xs → isI x = true
  | y :: ys, x, h, hx => by
    simp only [allI, Bool.and_eq_true] at h
    rcases List.mem_cons.mp hx with rfl | hx
    · exact h.1
    · exact allI_mem h.2 hx
theorem isI_of {x : PV} (h : isI x = true) : ∃ i, x = .int i := by cases x <;> first | (cases h; done) | exact ⟨_, rfl⟩
theorem isS_of {x : PV} (h : isS x = true) : ∃ i, x = .str i := by cases x <;> first | (cases h; done) | exact ⟨_, rfl⟩
theorem tupI_of {x : PV} (h : tupI x = true) : ∃ y ys, x = .tup (y :: ys) ∧ allI (y :: ys) = true := by
  cases x <;> first | (cases h; done) | skip
  rename_i l
  cases l with
  | nil => cases h
  | cons y ys => exact ⟨y, ys, rfl, h⟩
structure SrtOk (xs : List PV) : Prop where
  e : ∀ x ∈ xs, isE x = true
  d : ∀ x ∈ xs, dep x ≤ 50
  k : PySem.W.Sortable (xs.map toD)
  a : PySem.W.AllAlike (xs.map toD)
theorem isEs_mem : ∀ {xs : List PV} {x : PV}, isEs xs = true → x ∈ xs → isE x = true
  | y :: ys, x, h, hx => by
    simp only [isEs, Bool.and_eq_true] at h
    rcases List.mem_cons.mp hx with rfl | hx
    · exact h.1
    · exact isEs_mem h.2 hx
theorem deps_mem : ∀ {xs : List PV} {x : PV}, x ∈ xs → dep x ≤ deps xs
  | y :: ys, x, hx => by
    simp only [deps]
    rcases List.mem_cons.mp hx with rfl | hx
    · exact Nat.le_max_left _ _
    · exact Nat.le_trans (deps_mem hx) (Nat.le_max_right _ _)
theorem srtOk_ok {xs : List PV} (h : srtOk xs = true) : SrtOk xs := by
  unfold srtOk at h
  rw [Bool.or_eq_true, Bool.or_eq_true, Bool.or_eq_true] at h
  rcases h with h | h | h | h
  · have m : ∀ x ∈ xs, ∃ i, x = .int i := fun x hx => isI_of (allI_mem h hx)
    refine ⟨fun x hx => ?_, fun x hx => ?_, .inr fun d hd => ?_, fun d hd e he => ?_⟩
    · obtain ⟨i, rfl⟩ := m x hx; rfl
    · obtain ⟨i, rfl⟩ := m x hx; exact Nat.zero_le _
    · obtain ⟨x, hx, rfl⟩ := List.mem_map.mp hd
      obtain ⟨i, rfl⟩ := m x hx
      exact ⟨fun z => (nomatch z), fun _ z => (nomatch z)⟩
    · obtain ⟨x, hx, rfl⟩ := List.mem_map.mp hd
      obtain ⟨y, hy, rfl⟩ := List.mem_map.mp he
      obtain ⟨i, rfl⟩ := m x hx
      obtain ⟨j, rfl⟩ := m y hy
      simp [toD, PySem.W.alike]
  · have m : ∀ x ∈ xs, ∃ y ys, x = .tup (y :: ys) ∧ allI (y :: ys) = true := fun x hx => tupI_of (List.all_eq_true.mp h x hx)
    refine ⟨fun x hx => ?_, fun x hx => ?_, .inl fun d hd => ?_, fun d hd e he => ?_⟩
    · obtain ⟨y, ys, rfl, q⟩ := m x hx; exact allI_E _ q
    · obtain ⟨y, ys, rfl, q⟩ := m x hx; rw [dep, allI_dep _ q]; decide
    · obtain ⟨x, hx, rfl⟩ := List.mem_map.mp hd
      obtain ⟨y, ys, rfl, q⟩ := m x hx
      exact ⟨toD y, toDs ys, rfl⟩
    · obtain ⟨x, hx, rfl⟩ := List.mem_map.mp hd
      obtain ⟨y, hy, rfl⟩ := List.mem_map.mp he
      obtain ⟨_, _, rfl, q1⟩ := m x hx
      obtain ⟨_, _, rfl, q2⟩ := m y hy
      simp only [toD]
      rw [PySem.W.alike]
      exact allI_al _ _ q1 q2
  · have m : ∀ x ∈ xs, ∃ i, x = .str i := fun x hx => isS_of (List.all_eq_true.mp h x hx)
    refine ⟨fun x hx => ?_, fun x hx => ?_, .inr fun d hd => ?_, fun d hd e he => ?_⟩
    · obtain ⟨i, rfl⟩ := m x hx; rfl
    · obtain ⟨i, rfl⟩ := m x hx; exact Nat.zero_le _
    · obtain ⟨x, hx, rfl⟩ := List.mem_map.mp hd
      obtain ⟨i, rfl⟩ := m x hx
      exact ⟨fun z => (nomatch z), fun _ z => (nomatch z)⟩
    · obtain ⟨x, hx, rfl⟩ := List.mem_map.mp hd
      obtain ⟨y, hy, rfl⟩ := List.mem_map.mp he
      obtain ⟨i, rfl⟩ := m x hx
      obtain ⟨j, rfl⟩ := m y hy
      simp [toD, PySem.W.alike]
  · simp only [Bool.and_eq_true] at h
    obtain ⟨h1, h2, h3, h4⟩ := h
    refine ⟨fun x hx => isEs_mem h1 hx, fun x hx => Nat.le_trans (deps_mem hx) (Nat.le_of_ble_eq_true h2), ?_, fun d hd e he => ?_⟩
    · rw [Bool.or_eq_true] at h3
      rcases h3 with h3 | h3
      · refine .inl fun d hd => ?_
        obtain ⟨x, hx, rfl⟩ := List.mem_map.mp hd
        have q := List.all_eq_true.mp h3 x hx
        cases x <;> first | (cases q; done) | skip
        rename_i l
        cases l with
        | nil => cases q
        | cons y ys => exact ⟨toD y, toDs ys, rfl⟩
      · refine .inr fun d hd => ?_
        obtain ⟨x, hx, rfl⟩ := List.mem_map.mp hd
        have q := List.all_eq_true.mp h3 x hx
        have q2 := isEs_mem h1 hx
        cases x <;> first | (cases q; done) | (cases q2; done) | exact ⟨fun z => (nomatch z), fun _ z => (nomatch z)⟩
    · obtain ⟨x, hx, rfl⟩ := List.mem_map.mp hd
      obtain ⟨y, hy, rfl⟩ := List.mem_map.mp he
      exact List.all_eq_true.mp (List.all_eq_true.mp h4 x hx) y hy
theorem psort_eq {xs : List PV} (h : SrtOk xs) : psort xs = xs.mergeSort (PySem.W.dataLe false toD) := by
  have e : psort xs = gsort (fun a b => PySem.W.dataLt (toD a) (toD b)) xs := gsort_congr fun x hx y hy => plt_ok x y (h.e x hx) (h.e y hy) (h.a _ (List.mem_map.mpr ⟨x, hx, rfl⟩) _ (List.mem_map.mpr ⟨y, hy, rfl⟩))
  have t := PySem.W.sortLe_total (PyProof.Rows.listOrd PyProof.Rows.itemOrd) false fun b : PV => PySem.W.keyToks (toD b)
  have g := gsort_eq (lt := fun a b => PySem.W.dataLt (toD a) (toD b)) (fun a b c h1 h2 => t.trans a b c h1 h2) (fun a b => by rw [Bool.or_eq_true]; exact t.total a b) xs
  rw [e, g]
  rfl

section
variable {prog : Program} {w : World} {A : Around} {E : Value → Shared → Prop} {s : Shared} {β : Type} {R : Value → β → Prop} {enc : β → PyData} {bs : List β}
open PySem.W in
/-- sorted(x), x's items collected -/
theorem sorted_coll {x : Value} {Q : Value → Shared → Prop} {P : List Value → Prop}
    (hcol : ∀ {Q' : List Value → Shared → Prop}, (∀ vs h' tk, (∀ b o, s.heap.get? b = some o → h'.get? b = some o) → P vs → Q' vs { s with heap := h', toks := tk }) → wpAny (model prog w) A.in1 (collect x) Q' E s)
    (hP : ∀ vs, P vs → EachIs R vs bs ∧ EachIs (fun v b => ∃ as, Reads s.heap v (enc b) as) vs bs) (hal : AllAlike (bs.map enc)) (hk : Sortable (bs.map enc)) (hL : bs.length ≤ sizeLine) (hu : ∀ b, b ∈ bs → A.units + 2 + (enc b).depth < cLine)
    (h : ∀ out (h1 h' : Heap) tk c, (∀ b o, s.heap.get? b = some o → h1.get? b = some o) → (∀ b o, h1.get? b = some o → h'.get? b = some o) → h'.get? h1.objs.size = some (seqObj "list" (List.toArray out) c) → out.length = bs.length → EachIs R out (bs.mergeSort (dataLe false enc)) → Q (.ref h1.objs.size) { s with heap := h', toks := tk }) :
    wpAny (model prog w) A (call (.builtin "sorted") [x]) Q E s := by
  refine Calls.call_function_entry kind_sorted plain_sorted entry_sorted (args_sorted1 _) ?_
  unfold Builtin.«sorted»
  refine wpAny_bind (m := checkCount "sorted" 1 1 _) (wpAny_pure ?_)
  refine wpAny_bind (hcol fun vs h' tk hkp hp => ?_)
  obtain ⟨e, er⟩ := hP vs hp
  have hvl : vs.length ≤ sizeLine := by rw [e.length]; exact hL
  refine wpAny_bind (wpAny_newList ?_ hvl)
  have hoL : (h'.push (seqObj "list" vs.toArray 0)).get? h'.objs.size = some (seqObj "list" vs.toArray 0) := Heap.get?_push_size _ rfl
  show wpAny _ _ _ _ _ { s with heap := h'.push (seqObj "list" vs.toArray 0), toks := tk }
  have old : ∀ b o, s.heap.get? b = some o → (sortingHeap (h'.push (seqObj "list" vs.toArray 0)) h'.objs.size vs).get? b = some o := fun b o q =>
    sortingHeap_old (Nat.ne_of_lt (Heap.lt_size (hkp b o q))) (Heap.get?_push_of_some _ (hkp b o q))
  have er' : EachIs (fun v b => ∃ as, Reads (sortingHeap (h'.push (seqObj "list" vs.toArray 0)) h'.objs.size vs) v (enc b) as) vs bs := er.mono fun _ _ ⟨as, r⟩ => ⟨as, PyProof.Rows.Reads.keeps old r⟩
  refine wpAny_bind (wpAny_holding (wpAny_call_entry slot_list_sort ⟨_, hoL, rfl⟩ entry_list_sort
    (list_sort_vals (s := { s with heap := h'.push (seqObj "list" vs.toArray 0), toks := tk }) (κ := dataKind (sortingHeap (h'.push (seqObj "list" vs.toArray 0)) h'.objs.size vs) (bs.map enc)) hoL
      (SortsAt.data (s := { s with heap := sortingHeap (h'.push (seqObj "list" vs.toArray 0)) h'.objs.size vs, toks := tk }) (each_map (R := fun v d => ∃ as, Reads (sortingHeap (h'.push (seqObj "list" vs.toArray 0)) h'.objs.size vs) v d as) enc er') hal hk (bound_map hu)) hvl ⟨.none, rfl, ?_⟩) (args_list_sort _)))
  obtain ⟨c, hc⟩ := sortedHeap_at (vs := vs) (out := (sortVals (dataKind (sortingHeap (h'.push (seqObj "list" vs.toArray 0)) h'.objs.size vs) (bs.map enc)) false vs vs).toArray) hoL
  refine wpAny_pure ⟨_, rfl, h _ h' _ tk c hkp (fun b o q => ?_) hc (by rw [sortVals_length false rfl]; exact e.length) (sortVals_data false e er' hal)⟩
  rw [sortedHeap_old (Nat.ne_of_lt (Heap.lt_size q)) (by rw [size_push']; exact Nat.lt_succ_of_lt (Heap.lt_size q))]
  exact Heap.get?_push_of_some _ q
end
/-- the new list of the sorted items -/
def rSrt (K : PySem.W.Frag) (mg : Str → Option Value) (src : V → Hp → (List V → Prop) → Prop) : List V → Hp → VK → Prop := fun xs H Q => ∃ (x : V) (bs : List PV) (Av : Pd), xs = [x] ∧ src x H (fun vs => Reps K mg Av H bs vs) ∧ srtOk bs = true ∧ bs.length ≤ sizeLine ∧
  ∀ ws p, Reps K mg Av H (psort bs) ws → H p = none → Q (.ref p) (upd H p (.lst ws))
theorem Vals.each {K : PySem.W.Frag} {mg : Str → Option Value} {Av : Pd} {H : Hp} : ∀ {vs : List V} {bs : List PV} {us : List Value}, Reps K mg Av H bs vs → Vals vs us → PySem.W.EachIs (fun u b => ∃ v, RelV v u ∧ Rep K mg Av H b v) us bs
  | vs, [], us, h, r => by
    cases h; cases r; exact .nil
  | vs, b :: bs, us, ⟨v, rest, e, h1, h2⟩, r => by
    subst e
    cases r with
    | cons r1 r2 => exact .cons ⟨v, r1, h1⟩ (Vals.each h2 r2)
theorem each_vals {K : PySem.W.Frag} {mg : Str → Option Value} {Av : Pd} {H : Hp} : ∀ {bs : List PV} {us : List Value}, PySem.W.EachIs (fun u b => ∃ v, RelV v u ∧ Rep K mg Av H b v) us bs → ∃ vs, Vals vs us ∧ Reps K mg Av H bs vs
  | _, _, .nil => ⟨[], .nil, rfl⟩
  | _, _, .cons ⟨v, r1, r2⟩ t => let ⟨vs, a, b⟩ := each_vals t; ⟨v :: vs, .cons r1 a, v, vs, rfl, r2, b⟩
theorem each_mem {α β : Type} {R : α → β → Prop} : ∀ {as : List α} {bs : List β}, PySem.W.EachIs R as bs → PySem.W.EachIs (fun a b => R a b ∧ b ∈ bs) as bs
  | _, _, .nil => .nil
  | _, _, .cons h t => .cons ⟨h, List.mem_cons_self⟩ ((each_mem t).mono fun _ _ ⟨x, y⟩ => ⟨x, List.mem_cons_of_mem _ y⟩)
section
variable {X : Cx} {src : V → Hp → (List V → Prop) → Prop}
theorem cr_srt (hu : X.A.units + 64 < cLine)
    (hs : ∀ {pins σ H s x u R} {Q' : List Value → Shared → Prop}, Inv X pins σ H s → RelV x u → src x H R → (∀ us h' tk, (∀ b o, s.heap.get? b = some o → h'.get? b = some o) → (∃ vs, Vals vs us ∧ R vs) → Q' us { s with heap := h', toks := tk }) → wpAny (model X.prog X.w) X.A.in1 (collect u) Q' X.xe s) :
    CallR X (.builtin "sorted") (rSrt X.K X.mg src) := by
  intro pins s σ H xs us Q I r h
  obtain ⟨x, bs, Av, rfl, hx, ok, hl, q⟩ := h
  obtain ⟨u, rfl, rx⟩ := vals1 r
  have ok' := srtOk_ok ok
  refine sorted_coll (enc := toD) (bs := bs) (R := fun u b => ∃ v, RelV v u ∧ Rep X.K X.mg Av H b v) (P := fun us => ∃ vs, Vals vs us ∧ Reps X.K X.mg Av H bs vs) (fun hq => hs I rx hx hq) (fun us ⟨vs, ru, rr⟩ => ?_) ok'.a ok'.k hl (fun b hb => by rw [dep_toD]; have := ok'.d b hb; omega) fun out h1 h' tk c k1 k2 hp hlen eo => ?_
  · have e := Vals.each rr ru
    exact ⟨e, (each_mem e).mono fun u b ⟨⟨v, r1, r2⟩, hb⟩ => Dp.reads I _ _ _ (dp_ok b v (isE_D _ (ok'.e b hb)) r2) r1⟩
  · obtain ⟨ws, r1, r2⟩ := each_vals eo
    rw [← psort_eq ok'] at r2
    have I1 : Inv X pins σ H { s with heap := h1, toks := tk } := I.kept k1
    exact ⟨.ref h1.objs.size, upd H h1.objs.size (.lst ws), I1.laid (t' := tk) k2 (Nat.le_refl _) (show ObjOk X.prog X.w _ _ _ (.lst ws) from ⟨by rw [r1.length, hlen]; exact hl, out, c, r1, hp⟩), rfl, q ws _ r2 (I1.hok.fresh (Nat.le_refl _))⟩
def srcL (K : PySem.W.Frag) : V → Hp → (List V → Prop) → Prop := fun x H R => ∃ a vs, x = .ref a ∧ (SqL K H a vs ∨ SqT K H a vs) ∧ R vs
theorem col_seq {pins : List (Addr × Obj)} {σ : L2.St} {H : Hp} {s : Shared} {x : V} {u : Value} {R : List V → Prop} {Q' : List Value → Shared → Prop} (I : Inv X pins σ H s) (r : RelV x u) (h : srcL X.K x H R)
    (q : ∀ us h' tk, (∀ b o, s.heap.get? b = some o → h'.get? b = some o) → (∃ vs, Vals vs us ∧ R vs) → Q' us { s with heap := h', toks := tk }) : wpAny (model X.prog X.w) X.A.in1 (collect u) Q' X.xe s := by
  obtain ⟨a, vs, rfl, h, hR⟩ := h
  cases r
  rcases h with h | h
  · obtain ⟨its, rv, ⟨o, n, ho, hc, hd, hdt⟩, hz⟩ := I.list h
    exact wpAny_collect_seq a (.inl rfl) ho hc hdt (fun h' k => q its h' s.toks k ⟨vs, rv, hR⟩) (by rw [List.size_toArray, ← rv.length]; exact hz)
  · obtain ⟨its, rv, ⟨o, ho, hc, n, hdt⟩, hz⟩ := I.tuple h
    exact wpAny_collect_seq a (.inr rfl) ho hc hdt (fun h' k => q its h' s.toks k ⟨vs, rv, hR⟩) (by rw [List.size_toArray, ← rv.length]; exact hz)
theorem cr_srtL (hu : X.A.units + 64 < cLine) : CallR X (.builtin "sorted") (rSrt X.K X.mg (srcL X.K)) := cr_srt hu fun I r h q => col_seq I r h q
end
def bSorted (xs : List PV) (μ : Mu) : R (List PV) := match xs with
  | [x] => match sqOf μ x with
    | some ys => if srtOk ys && lim ys.length then .ok (psort ys) μ else .bad
    | none => .bad
  | _ => .bad
theorem b_sorted {K : PySem.W.Frag} {mg : Str → Option Value} : CalF K mg bSorted (rSrt K mg (srcL K)) := by
  intro W Av as ρ μ σ H xs vs Q S r h
  unfold bSorted at h
  split at h
  · rename_i x
    obtain ⟨v, t, rfl, rx, rfl⟩ := r
    cases e : sqOf μ x with
    | none => simp only [e] at h; exact h.elim
    | some ys =>
      simp only [e] at h
      by_cases hk : (srtOk ys && lim ys.length) = true
      · rw [if_pos hk] at h
        simp only [Bool.and_eq_true] at hk
        obtain ⟨a, zs, rfl, hs, rr⟩ := sqOf_ok S.sm rx e
        exact ⟨_, ys, Av, rfl, ⟨a, zs, rfl, hs, rr⟩, hk.1, lim_ok hk.2, fun ws p rw' hp => h.fresh S hp rw'⟩
      · rw [if_neg hk] at h; exact h.elim
  · exact h.elim
end EV

set_option Elab.async false
set_option linter.all false
set_option autoImplicit false
set_option maxRecDepth 100000
namespace EV
open PySem PySem.Spec PyProof.Rows L2

/-! ### things of the store, any -/
section
variable {K : PySem.W.Frag} {mg : Str → Option Value} {W : WX} {Av Av' Av1 Av2 : Pd} {H H' H1 H2 : Hp} {as as' as1 as2 : List Addr} {ρ : Rho} {μ μ' : Mu} {σ : L2.St}
theorem SM.setO (S : SM K mg Av as μ H) {n : Nat} {a : Addr} {o : SO} {ho : HO} (h1 : as[n]? = some a) (ha : Av a) (hn : H a ≠ none) (nt : ∀ xs, ho ≠ .tup xs) (r : SOk K mg Av (upd H a ho) a o) :
    Step Av as H Av as (upd H a ho) ∧ SM K mg Av as (μ.set n o) (upd H a ho) := by
  have hm := List.mem_of_getElem? h1
  have hl := (List.getElem?_eq_some_iff.mp h1).1
  have k : ∀ b o, H b = some o → ¬ Av b → upd H a ho b = some o ∧ ¬ Av b := fun b o hb nb => ⟨by rw [upd_ne (show b ≠ a from fun e => nb (by rw [e]; exact ha))]; exact hb, nb⟩
  have dm : ∀ b, H b ≠ none → upd H a ho b ≠ none := fun b hb => by
    by_cases e : b = a
    · subst e; rw [upd_same]; simp
    · rw [upd_ne e]; exact hb
  refine ⟨⟨⟨[], by simp, fun _ z => nomatch z⟩, fun b o hb hk => ?_, dm, fun _ _ z => z, fun _ _ z _ => z⟩, ⟨fun b z => dm b (S.trk b z), fun b xs z => ?_, fun b z => dm b (S.atr b z), S.nd, by simp [S.len], fun m b o q1 q2 => ?_⟩⟩
  · rw [upd_ne]
    · exact hb
    · intro e
      subst e
      rcases hk with z | z
      · exact z ha
      · exact z hm
  · by_cases e : b = a
    · subst e; rw [upd_same]; exact fun w => nt xs (Option.some.inj w)
    · rw [upd_ne e]; exact S.tv b xs z
  · by_cases e : m = n
    · subst e
      rw [h1] at q1; cases q1
      rw [List.getElem?_set_self (by rw [← S.len]; exact hl)] at q2
      cases q2
      exact r
    · rw [List.getElem?_set_ne (fun z => e z.symm)] at q2
      have hne : b ≠ a := fun z => by
        subst z
        exact e ((List.getElem?_inj (List.getElem?_eq_some_iff.mp q1).1 S.nd).mp (by rw [q1, h1]))
      exact SOk.step k (fun o _ h => by rw [upd_ne hne]; exact h) (fun z => z) (S.obj m b o q1 q2)
theorem SR.setO (S : SR K mg Av as ρ μ σ H) {n : Nat} {a : Addr} {o : SO} {ho : HO} (h1 : as[n]? = some a) (ha : Av a) (hn : H a ≠ none) (nt : ∀ xs, ho ≠ .tup xs) (r : SOk K mg Av (upd H a ho) a o) :
    Step Av as H Av as (upd H a ho) ∧ SR K mg Av as ρ (μ.set n o) σ (upd H a ho) :=
  let ⟨s, m⟩ := S.sm.setO (μ := μ) (o := o) h1 ha hn nt r
  ⟨s, m, S.slen, fun i p h => let ⟨v, e, q⟩ := S.slot i p h; ⟨v, e, s.top q⟩⟩
theorem SR.allocO (S : SR K mg Av as ρ μ σ H) {p : Addr} {so : SO} (hp : p ∉ as) (hn : H p ≠ none) (ok : SOk K mg Av H p so) : SR K mg Av (as ++ [p]) ρ (μ ++ [so]) σ H := by
  refine ⟨⟨S.sm.trk, S.sm.tv, fun a ha => ?_, ?_, ?_, fun n a o h1 h2 => ?_⟩, S.slen, fun i q hq => ?_⟩
  · rcases List.mem_append.mp ha with z | z
    · exact S.sm.atr a z
    · simp at z; subst z; exact hn
  · refine List.nodup_append.mpr ⟨S.sm.nd, by simp, fun a ha b hb e => ?_⟩
    simp at hb; subst hb; subst e; exact hp ha
  · simp [S.sm.len]
  · by_cases hn : n < as.length
    · rw [List.getElem?_append_left hn] at h1
      rw [List.getElem?_append_left (by rw [← S.sm.len]; exact hn)] at h2
      exact S.sm.obj n a o h1 h2
    · have hn' : as.length ≤ n := by omega
      rw [List.getElem?_append_right hn'] at h1
      rw [List.getElem?_append_right (by rw [← S.sm.len]; exact hn')] at h2
      have e0 : n - as.length = 0 := by
        have := (List.getElem?_eq_some_iff.mp h1).1
        simp at this; omega
      rw [e0] at h1
      rw [← S.sm.len, e0] at h2
      simp at h1 h2
      subst h1 h2
      exact ok
  · obtain ⟨v, e, z⟩ := S.slot i q hq
    refine ⟨v, e, ?_⟩
    cases q with
    | ref n =>
      obtain ⟨a, e1, e2⟩ := z
      exact ⟨a, by rw [List.getElem?_append_left (List.getElem?_eq_some_iff.mp e1).1]; exact e1, e2⟩
    | _ => exact z
/-- a new thing of the store, said of at its laying -/
theorem Wp.alloc {so : SO} {ho : HO} {p : Addr} {P : Pd → List Addr → Hp → PV → Mu → Prop} (S : SR K mg Av as ρ μ σ H) (h : Wp K mg W Av as ρ σ H (.ok (.ref μ.length) (μ ++ [so])) P) (hn : H p = none) (nt : ∀ xs, ho ≠ .tup xs) (ok : SOk K mg (plus Av p) (upd H p ho) p so) :
    P (plus Av p) (as ++ [p]) (upd H p ho) (.ref μ.length) (μ ++ [so]) ∧ RepT K mg (plus Av p) (as ++ [p]) (upd H p ho) (.ref μ.length) (.ref p) :=
  ⟨h _ _ _ ((step_new hn).alloc hn) ((S.newp hn nt).allocO (S.sm.notas hn) (by rw [upd_same]; simp) ok), p, by rw [← S.sm.len]; simp, rfl⟩
end

/-! ### dicts -/
def skeq : PV → PV → Bool
  | .int i, .int j => decide (i = j)
  | .str x, .str y => decide (x = y)
  | _, _ => false
def skeqs : List PV → List PV → Bool
  | [], [] => true
  | x :: xs, y :: ys => skeq x y && skeqs xs ys
  | _, _ => false
def keq : PV → PV → Bool
  | .tup xs, .tup ys => skeqs xs ys
  | x, y => skeq x y
def dlk : List PV → List PV → PV → Option PV
  | k :: ks, v :: vs, x => if keq k x then some v else dlk ks vs x
  | _, _, _ => none
def dmem : List PV → PV → Bool
  | [], _ => false
  | k :: ks, x => keq k x || dmem ks x
def drep : List PV → List PV → PV → PV → List PV
  | k :: ks, v :: vs, x, y => (if keq k x then y else v) :: drep ks vs x y
  | _, _, _, _ => []
def kOk : Bool → PV → Bool
  | true, x => (tkey x).isSome
  | false, x => (skey x).isSome
theorem skeq_ok : ∀ {x y : PV} {k l : L2.Key}, skey x = some k → skey y = some l → skeq x y = decide (k = l) := by
  intro x y k l hx hy
  cases x <;> first | (cases hx; done) | skip
  all_goals cases y <;> first | (cases hy; done) | skip
  all_goals cases hx; cases hy; simp [skeq]
theorem skeqs_ok : ∀ {xs ys : List PV} {k l : List L2.Key}, skeys xs = some k → skeys ys = some l → skeqs xs ys = decide (k = l)
  | [], [], k, l, hx, hy => by cases hx; cases hy; rfl
  | [], y :: ys, k, l, hx, hy => by
    cases hx
    simp only [skeys] at hy
    cases e1 : skey y with
    | none => rw [e1] at hy; cases hy
    | some a =>
      cases e2 : skeys ys with
      | none => rw [e1, e2] at hy; cases hy
      | some b => rw [e1, e2] at hy; cases hy; simp [skeqs]
  | x :: xs, ys, k, l, hx, hy => by
    simp only [skeys] at hx
    cases e1 : skey x with
    | none => rw [e1] at hx; cases hx
    | some a =>
      cases e2 : skeys xs with
      | none => rw [e1, e2] at hx; cases hx
      | some b =>
        rw [e1, e2] at hx
        cases hx
        cases ys with
        | nil => cases hy; simp [skeqs]
        | cons y ys =>
          simp only [skeys] at hy
          cases e3 : skey y with
          | none => rw [e3] at hy; cases hy
          | some c =>
            cases e4 : skeys ys with
            | none => rw [e3, e4] at hy; cases hy
            | some d =>
              rw [e3, e4] at hy
              cases hy
              simp only [skeqs, skeq_ok e1 e3, skeqs_ok e2 e4, List.cons.injEq]
              by_cases h1 : a = c <;> by_cases h2 : b = d <;> simp [h1, h2]
theorem keq_t {x y : PV} {k l : List L2.Key} (hx : tkey x = some k) (hy : tkey y = some l) : keq x y = decide (k = l) := by
  cases x <;> first | (cases hx; done) | skip
  cases y <;> first | (cases hy; done) | skip
  exact skeqs_ok hx hy
theorem keq_s {x y : PV} {k l : L2.Key} (hx : skey x = some k) (hy : skey y = some l) : keq x y = decide (k = l) := by
  have h := skeq_ok hx hy
  cases x <;> first | (cases hx; done) | skip
  all_goals cases y <;> first | (cases hy; done) | skip
  all_goals exact h
section
variable {K : PySem.W.Frag} {mg : Str → Option Value} {Av : Pd} {H : Hp} {as : List Addr} {μ : Mu} {κ : Type} [DecidableEq κ] {f : PV → Option κ}
/-- the keys, one by one -/
def Kys (f : PV → Option κ) : List PV → List κ → Prop
  | [], ks => ks = []
  | x :: xs, ks => ∃ k r, ks = k :: r ∧ f x = some k ∧ Kys f xs r
theorem tkeys_kys : ∀ {ks : List PV} {kk : List (List L2.Key)}, tkeys ks = some kk → Kys tkey ks kk
  | [], kk, h => by cases h; rfl
  | x :: xs, kk, h => by
    simp only [tkeys] at h
    cases e1 : tkey x with
    | none => rw [e1] at h; cases h
    | some a =>
      cases e2 : tkeys xs with
      | none => rw [e1, e2] at h; cases h
      | some b => rw [e1, e2] at h; cases h; exact ⟨a, b, rfl, e1, tkeys_kys e2⟩
theorem skeys_kys : ∀ {ks : List PV} {kk : List L2.Key}, skeys ks = some kk → Kys skey ks kk
  | [], kk, h => by cases h; rfl
  | x :: xs, kk, h => by
    simp only [skeys] at h
    cases e1 : skey x with
    | none => rw [e1] at h; cases h
    | some a =>
      cases e2 : skeys xs with
      | none => rw [e1, e2] at h; cases h
      | some b => rw [e1, e2] at h; cases h; exact ⟨a, b, rfl, e1, skeys_kys e2⟩
theorem kys_tkeys : ∀ {ks : List PV} {kk : List (List L2.Key)}, Kys tkey ks kk → tkeys ks = some kk
  | [], kk, h => by cases h; rfl
  | x :: xs, _, ⟨k, r, rfl, h1, h2⟩ => by simp only [tkeys, h1, kys_tkeys h2]
theorem kys_skeys : ∀ {ks : List PV} {kk : List L2.Key}, Kys skey ks kk → skeys ks = some kk
  | [], kk, h => by cases h; rfl
  | x :: xs, _, ⟨k, r, rfl, h1, h2⟩ => by simp only [skeys, h1, kys_skeys h2]
theorem dlk_ok (hq : ∀ {x y k l}, f x = some k → f y = some l → keq x y = decide (k = l)) {x : PV} {k : κ} (hx : f x = some k) : ∀ {ks vs : List PV} {kvs : List (κ × V)}, Kys f ks (kvs.map (·.1)) → Reps K mg Av H vs (kvs.map (·.2)) →
    (match dlk ks vs x with | some p => ∃ u, valV kvs k = some u ∧ Rep K mg Av H p u | none => valV kvs k = none)
  | [], vs, kvs, h, r => by
    cases kvs with
    | nil => cases vs <;> rfl
    | cons q qs => cases h
  | y :: ys, vs, kvs, ⟨l, t, e, h1, h2⟩, r => by
    cases kvs with
    | nil => cases e
    | cons q qs =>
      rw [List.map_cons] at e
      injection e with e1 e2
      subst e1 e2
      cases vs with
      | nil => cases r
      | cons v vs =>
        obtain ⟨u, t2, e3, r1, r2⟩ := r
        rw [List.map_cons] at e3
        injection e3 with e4 e5
        subst e4 e5
        unfold dlk
        rw [hq h1 hx]
        by_cases e : q.1 = k
        · rw [decide_eq_true e, if_pos rfl, valV_pos e]
          exact ⟨_, rfl, r1⟩
        · rw [decide_eq_false e, if_neg Bool.false_ne_true, valV_neg e]
          exact dlk_ok hq hx h2 r2
theorem dmem_ok (hq : ∀ {x y k l}, f x = some k → f y = some l → keq x y = decide (k = l)) {x : PV} {k : κ} (hx : f x = some k) : ∀ {ks : List PV} {kvs : List (κ × V)}, Kys f ks (kvs.map (·.1)) → dmem ks x = (kvs.any fun kv => decide (kv.1 = k))
  | [], kvs, h => by
    cases kvs with
    | nil => rfl
    | cons q qs => cases h
  | y :: ys, kvs, ⟨l, t, e, h1, h2⟩ => by
    cases kvs with
    | nil => cases e
    | cons q qs =>
      rw [List.map_cons] at e
      injection e with e1 e2
      subst e1 e2
      rw [dmem, List.any_cons, hq h1 hx, dmem_ok hq hx h2]
theorem kys_snoc : ∀ {ks : List PV} {kk : List κ} {x : PV} {k : κ}, Kys f ks kk → f x = some k → Kys f (ks ++ [x]) (kk ++ [k])
  | [], kk, x, k, h, hx => by cases h; exact ⟨k, [], rfl, hx, rfl⟩
  | y :: ys, _, x, k, ⟨l, r, rfl, h1, h2⟩, hx => ⟨l, r ++ [k], rfl, h1, kys_snoc h2 hx⟩
theorem drep_ok (hq : ∀ {x y k l}, f x = some k → f y = some l → keq x y = decide (k = l)) {x y : PV} {k : κ} {u : V} (hx : f x = some k) (ry : Rep K mg Av H y u) : ∀ {ks vs : List PV} {kvs : List (κ × V)}, Kys f ks (kvs.map (·.1)) → Reps K mg Av H vs (kvs.map (·.2)) →
    Reps K mg Av H (drep ks vs x y) ((kvs.map fun kv => if kv.1 = k then (kv.1, u) else kv).map (·.2))
  | [], vs, kvs, h, r => by
    cases kvs with
    | nil => cases vs <;> rfl
    | cons q qs => cases h
  | z :: zs, vs, kvs, ⟨l, t, e, h1, h2⟩, r => by
    cases kvs with
    | nil => cases e
    | cons q qs =>
      rw [List.map_cons] at e
      injection e with e1 e2
      subst e1 e2
      cases vs with
      | nil => cases r
      | cons v vs =>
        obtain ⟨u', t2, e3, r1, r2⟩ := r
        rw [List.map_cons] at e3
        injection e3 with e4 e5
        subst e4 e5
        unfold drep
        refine ⟨_, _, by rw [List.map_cons, List.map_cons], ?_, drep_ok hq hx ry h2 r2⟩
        rw [hq h1 hx]
        by_cases e : q.1 = k
        · rw [decide_eq_true e, if_pos rfl, if_pos e]; exact ry
        · rw [decide_eq_false e, if_neg Bool.false_ne_true, if_neg e]; exact r1
theorem rep_keys (k : κ) (u : V) : ∀ kvs : List (κ × V), ((kvs.map fun kv => if kv.1 = k then (kv.1, u) else kv).map (·.1)) = kvs.map (·.1)
  | [] => rfl
  | q :: qs => by
    rw [List.map_cons, List.map_cons, List.map_cons, rep_keys k u qs]
    by_cases e : q.1 = k
    · rw [if_pos e]
    · rw [if_neg e]
def dputK (ks : List PV) (x : PV) : List PV := if dmem ks x then ks else ks ++ [x]
def dputV (ks vs : List PV) (x y : PV) : List PV := if dmem ks x then drep ks vs x y else vs ++ [y]
theorem dput_ok (hq : ∀ {x y k l}, f x = some k → f y = some l → keq x y = decide (k = l)) {x y : PV} {k : κ} {u : V} (hx : f x = some k) (ry : Rep K mg Av H y u) {ks vs : List PV} {kvs : List (κ × V)} (h : Kys f ks (kvs.map (·.1))) (r : Reps K mg Av H vs (kvs.map (·.2))) :
    Kys f (dputK ks x) ((putK kvs k u).map (·.1)) ∧ Reps K mg Av H (dputV ks vs x y) ((putK kvs k u).map (·.2)) := by
  unfold dputK dputV putK
  rw [dmem_ok hq hx h]
  cases e : kvs.any fun kv => decide (kv.1 = k) with
  | true =>
    rw [if_pos rfl, if_pos rfl, if_pos rfl, rep_keys]
    exact ⟨h, drep_ok hq hx ry h r⟩
  | false =>
    rw [if_neg Bool.false_ne_true, if_neg Bool.false_ne_true, if_neg Bool.false_ne_true, List.map_append, List.map_append]
    exact ⟨kys_snoc h hx, r.append ⟨u, [], rfl, ry, rfl⟩⟩
/-- a flat tuple as a key -/
theorem skeys_rep : ∀ {xs : List PV} {ks : List L2.Key} {vs : List V}, skeys xs = some ks → Reps K mg Av H xs vs → vs = ks.map kV
  | [], ks, vs, h, r => by cases h; cases r; rfl
  | x :: xs, ks, vs, h, ⟨v, t, e, r1, r2⟩ => by
    subst e
    simp only [skeys] at h
    cases e1 : skey x with
    | none => rw [e1] at h; cases h
    | some a =>
      cases e2 : skeys xs with
      | none => rw [e1, e2] at h; cases h
      | some b =>
        rw [e1, e2] at h
        cases h
        rw [List.map_cons, skeys_rep e2 r2]
        cases x <;> first | (cases e1; done) | skip
        all_goals cases e1; cases r1; rfl
theorem tkey_rep {x : PV} {k : List L2.Key} {v : V} (h : tkey x = some k) (r : Rep K mg Av H x v) : ∃ b, v = .ref b ∧ ¬ Av b ∧ H b = some (.tup (k.map kV)) := by
  cases x <;> first | (cases h; done) | skip
  obtain ⟨a, vs, e, n, q, rr⟩ := r
  rw [skeys_rep h rr] at q
  exact ⟨a, e, n, q⟩
theorem skey_rep {x : PV} {k : L2.Key} {v : V} (h : skey x = some k) (r : Rep K mg Av H x v) : v = kV k := by
  cases x <;> first | (cases h; done) | skip
  all_goals cases h; cases r; rfl
theorem rep_tkey {k : List L2.Key} {b : Addr} (n : ¬ Av b) (h : H b = some (.tup (k.map kV))) : ∀ {x : PV}, tkey x = some k → Rep K mg Av H x (.ref b) := by
  have g : ∀ (xs : List PV) (ks : List L2.Key), skeys xs = some ks → Reps K mg Av H xs (ks.map kV) := by
    intro xs
    induction xs with
    | nil => intro ks h; cases h; rfl
    | cons x xs ih =>
      intro ks h
      simp only [skeys] at h
      cases e1 : skey x with
      | none => rw [e1] at h; cases h
      | some a =>
        cases e2 : skeys xs with
        | none => rw [e1, e2] at h; cases h
        | some c =>
          rw [e1, e2] at h
          cases h
          refine ⟨kV a, c.map kV, rfl, ?_, ih _ e2⟩
          cases x <;> first | (cases e1; done) | skip
          all_goals cases e1; rfl
  intro x hx
  cases x <;> first | (cases hx; done) | skip
  exact ⟨b, _, rfl, n, h, g _ _ hx⟩
theorem key_peek {x : PV} {v : V} (hx : (∃ k, tkey x = some k) ∨ ∃ k, skey x = some k) (r : RepT K mg Av as H x v) : Rep K mg Av H x v := by
  cases x with
  | ref n => rcases hx with ⟨k, h⟩ | ⟨k, h⟩ <;> cases h
  | _ => exact r
/-- what a dict of the store holds -/
def dctOf (μ : Mu) (x : PV) : Option (Bool × List PV × List PV) := match x with
  | .ref n => match μ[n]? with
    | some (.dct t ks vs) => some (t, ks, vs)
    | _ => none
  | _ => none
theorem dctOf_ref {x : PV} {t : Bool} {ks vs : List PV} (h : dctOf μ x = some (t, ks, vs)) : ∃ n, x = .ref n ∧ μ[n]? = some (.dct t ks vs) := by
  unfold dctOf at h
  cases x <;> first | (cases h; done) | skip
  rename_i n
  simp only at h
  cases e : μ[n]? with
  | none => rw [e] at h; cases h
  | some o =>
    rw [e] at h
    cases o <;> first | (cases h; done) | skip
    cases h
    exact ⟨n, rfl, e⟩
theorem dget_ok (S : SM K mg Av as μ H) {d x : PV} {dv xv : V} (rd : RepT K mg Av as H d dv) (rx : RepT K mg Av as H x xv) {t : Bool} {ks vs : List PV} (h : dctOf μ d = some (t, ks, vs)) (hk : kOk t x = true) :
    ∃ a, dv = .ref a ∧ match dlk ks vs x with | some p => ∃ u, DGet H a xv (some u) ∧ Rep K mg Av H p u | none => DGet H a xv none := by
  obtain ⟨n, rfl, hm⟩ := dctOf_ref h
  obtain ⟨a, h1, rfl⟩ := rd
  have so := S.obj n a _ h1 hm
  refine ⟨a, rfl, ?_⟩
  cases t with
  | true =>
    obtain ⟨_, kvs, h2, h3, h4⟩ := so
    cases ek : tkey x with
    | none => simp [kOk, ek] at hk
    | some k =>
      obtain ⟨b, rfl, _, hb⟩ := tkey_rep ek (key_peek (.inl ⟨k, ek⟩) rx)
      have q := dlk_ok (f := tkey) (fun h1 h2 => keq_t h1 h2) ek (tkeys_kys h3) h4
      cases e : dlk ks vs x with
      | none =>
        rw [e] at q
        have q : valV kvs k = none := q
        show DGet H a _ none
        rw [← q]
        exact .t h2 hb
      | some p =>
        rw [e] at q
        obtain ⟨u, q1, q2⟩ := q
        exact ⟨u, by rw [← q1]; exact .t h2 hb, q2⟩
  | false =>
    obtain ⟨_, kvs, h2, h3, h4⟩ := so
    cases ek : skey x with
    | none => simp [kOk, ek] at hk
    | some k =>
      cases skey_rep ek (key_peek (.inr ⟨k, ek⟩) rx)
      have q := dlk_ok (f := skey) (fun h1 h2 => keq_s h1 h2) ek (skeys_kys h3) h4
      cases e : dlk ks vs x with
      | none =>
        rw [e] at q
        have q : valV kvs k = none := q
        show DGet H a _ none
        rw [← q]
        exact .k h2
      | some p =>
        rw [e] at q
        obtain ⟨u, q1, q2⟩ := q
        exact ⟨u, by rw [← q1]; exact .k h2, q2⟩
end
end EV

set_option Elab.async false
set_option linter.all false
set_option autoImplicit false
set_option maxRecDepth 100000
namespace EV
open PySem PySem.Spec PyProof.Rows L2

section
variable {X : Cx}
theorem opr_or {op : Value → Value → Sem Value} {r r' : R2} (h : OpR X op r) (h' : OpR X op r') : OpR X op (fun x y H Q => r x y H Q ∨ r' x y H Q) := by
  intro pins s σ H x y v u Q I rx ry q
  rcases q with q | q
  · exact h pins s σ H x y v u Q I rx ry q
  · exact h' pins s σ H x y v u Q I rx ry q
def rInD : R2 := fun y x H Q => ∃ a o, x = .ref a ∧ DGet H a y o ∧ Q (.bl o.isSome) H
def rNotInD : R2 := fun y x H Q => ∃ a o, x = .ref a ∧ DGet H a y o ∧ Q (.bl (!o.isSome)) H
theorem op_inD (hu : X.A.units + 64 < cLine) : OpR X (compareOp .In) rInD := by
  intro pins s σ H y x v u Q I ry rx ⟨a, o, e, g, q⟩
  subst e
  obtain rfl : u = Value.ref a := rx
  exact d_in (by omega) I g ry fun s3 I3 => ⟨.bl o.isSome, H, I3, rfl, q⟩
theorem op_notInD (hu : X.A.units + 64 < cLine) : OpR X (compareOp .NotIn) rNotInD := by
  intro pins s σ H y x v u Q I ry rx ⟨a, o, e, g, q⟩
  subst e
  obtain rfl : u = Value.ref a := rx
  exact d_notIn (by omega) I g ry fun s3 I3 => ⟨.bl (!o.isSome), H, I3, rfl, q⟩
def rInA (K : PySem.W.Frag) : R2 := fun x y H Q => rInD x y H Q ∨ rInP K false x y H Q
def rNotInA (K : PySem.W.Frag) : R2 := fun x y H Q => rNotInD x y H Q ∨ rInP K true x y H Q
theorem op_inA (hu : X.A.units + 64 < cLine) : OpR X (compareOp .In) (rInA X.K) := opr_or (op_inD hu) (op_inP hu)
theorem op_notInA (hu : X.A.units + 64 < cLine) : OpR X (compareOp .NotIn) (rNotInA X.K) := opr_or (op_notInD hu) (op_notInP hu)
end
def fInA (x y : PV) (μ : Mu) : R PV := match dctOf μ y with
  | some (t, ks, vs) => if kOk t x then .ok (.bl (dlk ks vs x).isSome) μ else .bad
  | none => fIn x y μ
def fNotInA (x y : PV) (μ : Mu) : R PV := match dctOf μ y with
  | some (t, ks, vs) => if kOk t x then .ok (.bl (!(dlk ks vs x).isSome)) μ else .bad
  | none => fNotIn x y μ
def fIxA (x y : PV) (μ : Mu) : R PV := match dctOf μ x with
  | some (t, ks, vs) => if kOk t y then (match dlk ks vs y with | some v => .ok v μ | none => .bad) else .bad
  | none => fIx x y μ
section
variable {K : PySem.W.Frag} {mg : Str → Option Value}
theorem s_inA : OpS K mg fInA (rInA K) := by
  intro W Av as ρ μ σ H x y v w Q S rx ry h
  unfold fInA at h
  cases e : dctOf μ y with
  | none => simp only [e] at h; exact .inr (s_in S rx ry h)
  | some d =>
    obtain ⟨t, ks, vs⟩ := d
    simp only [e] at h
    by_cases hk : kOk t x = true
    · rw [if_pos hk] at h
      obtain ⟨a, rfl, g⟩ := dget_ok S.sm ry rx e hk
      have hq := h.here S _ rfl
      cases el : dlk ks vs x with
      | none => rw [el] at g hq; exact .inl ⟨a, none, rfl, g, hq⟩
      | some p => rw [el] at g hq; obtain ⟨u, g1, g2⟩ := g; exact .inl ⟨a, some u, rfl, g1, hq⟩
    · rw [if_neg hk] at h; exact h.elim
theorem s_notInA : OpS K mg fNotInA (rNotInA K) := by
  intro W Av as ρ μ σ H x y v w Q S rx ry h
  unfold fNotInA at h
  cases e : dctOf μ y with
  | none => simp only [e] at h; exact .inr (s_notIn S rx ry h)
  | some d =>
    obtain ⟨t, ks, vs⟩ := d
    simp only [e] at h
    by_cases hk : kOk t x = true
    · rw [if_pos hk] at h
      obtain ⟨a, rfl, g⟩ := dget_ok S.sm ry rx e hk
      have hq := h.here S _ rfl
      cases el : dlk ks vs x with
      | none => rw [el] at g hq; exact .inl ⟨a, none, rfl, g, hq⟩
      | some p => rw [el] at g hq; obtain ⟨u, g1, g2⟩ := g; exact .inl ⟨a, some u, rfl, g1, hq⟩
    · rw [if_neg hk] at h; exact h.elim
end
/-! ### d[k] -/
def rIxD : R2 := fun x y H Q => ∃ a v, x = .ref a ∧ DGet H a y (some v) ∧ Q v H
section
variable {X : Cx}
theorem ix_d (hu : X.A.units + 64 < cLine) : IxR X rIxD := by
  intro value slice pins s σ H x y v u Q I rx ry ⟨a, w, e, g, q⟩ hs
  subst e
  obtain rfl : v = Value.ref a := rx
  unfold subscriptTail
  refine wpAny_bind ?_
  rw [getitemInPython_of_ne (dict_typeIs I g).not_modules]
  refine wpAny_bind (wpAny_specialOf (dict_typeIs I g) PySem.F.slot_dict_getitem.lookup ?_)
  have fin : wpAny (model X.prog X.w) X.A (subscripted slice false (.ref a) u) (fun r s₃ => wpAny (model X.prog X.w) X.A (letTemporaryGo value (.ref a) r >>= fun _ => pure r) (EP X pins σ Q) X.xe s₃) X.xe s := by
    rw [hs]
    refine wpAny_operating (d_getItem (by omega) I g ry fun w' s3 I3 rw' => ?_)
    exact wpAny_bind (wpAny_letTemporaryGo (wpAny_pure ⟨w, H, I3, rw', q⟩))
  first
    | exact wpAny_pure (wpAny_bind fin)
    | exact wpAny_bind (wpAny_pure (wpAny_bind fin))
    | exact wpAny_bind fin
def rIxA (K : PySem.W.Frag) : R2 := fun x y H Q => rIxD x y H Q ∨ rIx K x y H Q
theorem ix_A (hu : X.A.units + 64 < cLine) : IxR X (rIxA X.K) := (ix_d hu).or ix_seq
end
theorem s_ixA {K : PySem.W.Frag} {mg : Str → Option Value} : OpS K mg fIxA (rIxA K) := by
  intro W Av as ρ μ σ H x y v w Q S rx ry h
  unfold fIxA at h
  cases e : dctOf μ x with
  | none => simp only [e] at h; exact .inr (s_ix S rx ry h)
  | some d =>
    obtain ⟨t, ks, vs⟩ := d
    simp only [e] at h
    by_cases hk : kOk t y = true
    · rw [if_pos hk] at h
      obtain ⟨a, rfl, g⟩ := dget_ok S.sm rx ry e hk
      cases el : dlk ks vs y with
      | none => rw [el] at h; exact h.elim
      | some p => rw [el] at g h; obtain ⟨u, g1, g2⟩ := g; exact .inl ⟨a, u, rfl, g1, h.here S u g2.top⟩
    · rw [if_neg hk] at h; exact h.elim
/-! ### d[k] = v -/
def setDL (x k w : PV) (μ : Mu) : Option Mu := match dctOf μ x with
  | some (t, ks, vs) => match x with
    | .ref n => if kOk t k && lim (ks.length + 1) then some (μ.set n (.dct t (dputK ks k) (dputV ks vs k w))) else none
    | _ => none
  | none => setIx x k w μ
def gSubA (o i : D) : DG := fun p ρ μ => (o ρ μ).bind fun x μ1 => (i ρ μ1).bind fun k μ2 => (fzv p μ2).bind fun w μ3 => match setDL x k w μ3 with
  | some μ4 => .ok ρ μ4
  | none => .bad
def tSetD : TSet := fun o i v H Q => ∃ a H', o = .ref a ∧ DPut H a i v H' ∧ Q H'
section
variable {X : Cx}
theorem set_d (hu : X.A.units + 64 < cLine) : PSet X tSetD := by
  intro pins s σ H o i v ov iv u Q I ro ri rv ⟨a, H', e, g, q⟩
  subst e
  obtain rfl : ov = Value.ref a := ro
  exact d_setItem (by omega) I g ri rv fun s4 I4 => ⟨H', I4, q⟩
theorem pset_or {t t' : TSet} (h : PSet X t) (h' : PSet X t') : PSet X (fun o i v H Q => t o i v H Q ∨ t' o i v H Q) := by
  intro pins s σ H o i v ov iv u Q I ro ri rv q
  rcases q with q | q
  · exact h pins s σ H o i v ov iv u Q I ro ri rv q
  · exact h' pins s σ H o i v ov iv u Q I ro ri rv q
end
section
variable {K : PySem.W.Frag} {mg : Str → Option Value} {Av : Pd} {as : List Addr} {ρ : Rho} {μ : Mu} {σ : L2.St} {H : Hp}
theorem setD_ok (S : SR K mg Av as ρ μ σ H) {x k w : PV} {xv kv wv : V} (rx : RepT K mg Av as H x xv) (rk : RepT K mg Av as H k kv) (rw' : Rep K mg Av H w wv) {t : Bool} {ks vs : List PV} (hd : dctOf μ x = some (t, ks, vs)) (hk : kOk t k = true) (hl : lim (ks.length + 1) = true) :
    ∃ n a H', x = .ref n ∧ xv = .ref a ∧ DPut H a kv wv H' ∧ Step Av as H Av as H' ∧ SR K mg Av as ρ (μ.set n (.dct t (dputK ks k) (dputV ks vs k w))) σ H' := by
  obtain ⟨n, rfl, hm⟩ := dctOf_ref hd
  obtain ⟨a, h1, rfl⟩ := rx
  have so := S.sm.obj n a _ h1 hm
  have hl' := lim_ok hl
  cases t with
  | true =>
    obtain ⟨ha, kvs, h2, h3, h4⟩ := so
    cases ek : tkey k with
    | none => simp [kOk, ek] at hk
    | some kk =>
      obtain ⟨b, rfl, nb, hb⟩ := tkey_rep ek (key_peek (.inl ⟨kk, ek⟩) rk)
      have q := dput_ok (f := tkey) (fun h1 h2 => keq_t h1 h2) ek rw' (tkeys_kys h3) h4
      have kp : ∀ b o, H b = some o → ¬ Av b → upd H a (.dT (putK kvs kk wv)) b = some o ∧ ¬ Av b := fun b o hb nb => ⟨by rw [upd_ne (show b ≠ a from fun e => nb (by rw [e]; exact ha))]; exact hb, nb⟩
      have len : kvs.length = ks.length := by
        have z := h4.len
        have : ∀ {ks : List PV} {kk : List (List L2.Key)}, Kys tkey ks kk → kk.length = ks.length := by
          intro ks
          induction ks with
          | nil => intro kk h; cases h; rfl
          | cons x xs ih => intro kk ⟨k, r, e, _, h⟩; subst e; simp [ih h]
        have := this (tkeys_kys h3)
        simpa using this
      obtain ⟨st, S'⟩ := S.setO (o := .dct true (dputK ks k) (dputV ks vs k w)) (ho := .dT (putK kvs kk wv)) h1 ha (by rw [h2]; simp) (fun _ z => by cases z) ⟨ha, _, upd_same, kys_tkeys q.1, Reps.keep kp _ _ q.2⟩
      exact ⟨n, a, _, rfl, rfl, .t h2 hb (by omega), st, S'⟩
  | false =>
    obtain ⟨ha, kvs, h2, h3, h4⟩ := so
    cases ek : skey k with
    | none => simp [kOk, ek] at hk
    | some kk =>
      cases skey_rep ek (key_peek (.inr ⟨kk, ek⟩) rk)
      have q := dput_ok (f := skey) (fun h1 h2 => keq_s h1 h2) ek rw' (skeys_kys h3) h4
      have kp : ∀ b o, H b = some o → ¬ Av b → upd H a (.dK (putK kvs kk wv)) b = some o ∧ ¬ Av b := fun b o hb nb => ⟨by rw [upd_ne (show b ≠ a from fun e => nb (by rw [e]; exact ha))]; exact hb, nb⟩
      have len : kvs.length = ks.length := by
        have : ∀ {ks : List PV} {kk : List L2.Key}, Kys skey ks kk → kk.length = ks.length := by
          intro ks
          induction ks with
          | nil => intro kk h; cases h; rfl
          | cons x xs ih => intro kk ⟨k, r, e, _, h⟩; subst e; simp [ih h]
        have := this (skeys_kys h3)
        simpa using this
      obtain ⟨st, S'⟩ := S.setO (o := .dct false (dputK ks k) (dputV ks vs k w)) (ho := .dK (putK kvs kk wv)) h1 ha (by rw [h2]; simp) (fun _ z => by cases z) ⟨ha, _, upd_same, kys_skeys q.1, Reps.keep kp _ _ q.2⟩
      exact ⟨n, a, _, rfl, rfl, .k h2 (by omega), st, S'⟩
end
theorem g_subA {X : Cx} {pos : Pos} {W : WX} {o i : Expr} {do_ di : D} (hu : X.A.units + 64 < cLine) (ho : PE X o (tE X W do_)) (hi : PE X i (tE X W di))
    (ha : ∀ v, assign (.Subscript o i pos) X.env v = (do
      let ov ← holding [v] (eval o X.env)
      let iv ← holding [v, ov] (eval i X.env)
      standAt pos
      holding [v, ov, iv] (setItem ov iv v)
      release [v, ov, iv] []) := by intro _; rfl) : PG X (.Subscript o i pos) (tGt X.K X.mg [] (gSubA do_ di)) :=
  (pg_sub ho hi (pset_or (set_d hu) set_list) ha).imp fun v σ H Q ⟨Av, as, ρ, μ, p, S, r, q⟩ =>
    tD.go S (WG.ofWp q) fun Av1 as1 H1 x μ1 xv s1 S1 r1 q1 => tD.go S1 (WG.ofWp q1) fun Av2 as2 H2 k μ2 kv s2 S2 r2 q2 => by
      obtain ⟨Av3, w, μ3, ef, s3, S3, r3, q3⟩ := fz_ok (W := W) S2 ((s1.trans s2).top r) (WG.ofWp q2)
      have rx := s3.top (s2.top r1)
      have rk := s3.top r2
      unfold setDL at q3
      cases ed : dctOf μ3 x with
      | some d =>
        obtain ⟨t, ks, vs⟩ := d
        simp only [ed] at q3
        obtain ⟨n, rfl, _⟩ := dctOf_ref ed
        by_cases hk : (kOk t k && lim (ks.length + 1)) = true
        · simp only [hk, if_true] at q3
          simp only [Bool.and_eq_true] at hk
          obtain ⟨n', a, H', e1, e2, e3, st, S4⟩ := setD_ok S3 rx rk r3 ed hk.1 hk.2
          cases e1
          exact .inl ⟨a, H', e2, e3, q3 _ _ _ _ st S4 .refl⟩
        · simp only [hk] at q3; exact q3.elim
      | none =>
        simp only [ed] at q3
        unfold setIx at q3
        cases x with
        | ref n =>
          cases k with
          | int j =>
            obtain ⟨a, h1, ea⟩ := rx
            cases rk
            cases e2 : μ3[n]? with
            | none => simp only [e2] at q3; exact q3.elim
            | some so =>
              cases so with
              | lst xs =>
                simp only [e2] at q3
                cases e3 : ixN xs.length j with
                | none => simp only [e3] at q3; exact q3.elim
                | some l =>
                  simp only [e3] at q3
                  obtain ⟨_, vs, e4, e5⟩ := S3.sm.obj n a _ h1 e2
                  obtain ⟨st, S4⟩ := S3.setL h1 e2 (e5.set l r3)
                  exact .inr ⟨a, vs, j, l, ea, rfl, e4, by rw [e5.len]; exact e3, q3 _ _ _ _ st S4 .refl⟩
              | _ => simp only [e2] at q3; exact q3.elim
          | _ => exact q3.elim
        | _ => exact q3.elim
/-! ### {} -/
def dDn (t : Bool) : D := fun ρ μ => .ok (.ref μ.length) (μ ++ [.dct t [] []])
theorem e_dnT {X : Cx} {pos : Pos} {W : WX} : PE X (.Dict [] [] pos) (tE X W (dDn true)) :=
  pe_dnewT.imp fun σ H Q ⟨Av, as, ρ, μ, S, h⟩ p hn => by
    obtain ⟨q, r⟩ := Wp.alloc (so := .dct true [] []) (ho := .dT []) S h hn (fun _ z => by cases z) ⟨.inr rfl, [], upd_same, rfl, rfl⟩
    exact q _ r
theorem e_dnK {X : Cx} {pos : Pos} {W : WX} : PE X (.Dict [] [] pos) (tE X W (dDn false)) :=
  pe_dnewK.imp fun σ H Q ⟨Av, as, ρ, μ, S, h⟩ p hn => by
    obtain ⟨q, r⟩ := Wp.alloc (so := .dct false [] []) (ho := .dK []) S h hn (fun _ z => by cases z) ⟨.inr rfl, [], upd_same, rfl, rfl⟩
    exact q _ r
end EV

set_option Elab.async false
set_option linter.all false
set_option autoImplicit false
set_option maxRecDepth 100000
namespace EV
open PySem PySem.Spec PyProof.Rows L2

/-! ### {k: v}, k a flat tuple -/
def tDispT (tk tv : TE) : TE := fun σ H Q => ∀ p, H p = none → tk σ (upd H p (.dT [])) fun x H1 => tv σ H1 fun y H2 => H2 p = some (.dT []) ∧ ∃ b k, x = .ref b ∧ H2 b = some (.tup (k.map kV)) ∧ Q (.ref p) (upd H2 p (.dT [(k, y)]))
theorem pe_dispT {X : Cx} {pos : Pos} {ke ve : Expr} {tk tv : TE} (hu : X.A.units + 64 < cLine) (hk : PE X ke tk) (hv : PE X ve tv) : PE X (.Dict [some ke] [ve] pos) (tDispT tk tv) := by
  refine ⟨fun pins s σ H Q I q => ?_⟩
  have hn := I.hok.fresh (Nat.le_refl s.heap.objs.size)
  have I1 := I.laid (a := s.heap.objs.size) (o := .dT []) (h' := s.heap.push { cls := .type "dict", data := .dict #[] }) (t' := s.toks) (fun _ _ q => Heap.get?_push_of_some _ q) (Nat.le_refl _) (dt_empty s.heap I.big)
  rw [arm_eval_Dict, zip_pairTrees [some ke] [ve] X.env pos rfl rfl, dictDisplay_pairs _ (by simp [pairTrees]) (by simp [pairTrees])]
  refine wpAny_bind (wpAny_standAt (wpAny_bind (wpAny_subDictH (knd := tupleKind (mixKind X.prog X.w)) (Q := fun d s' => wpAny (model X.prog X.w) X.A (pure (Value.ref d)) (EP X pins σ Q) X.xe s') (show X.A.units < cLine by omega) (by simp [pairTrees]) (pairTrees_cons_walk
    (thn (hk.run pins _ σ _ _ I1 (q _ hn)) fun u s1 ⟨x, H1, I2, rx, q1⟩ => thn (hv.run pins s1 σ H1 _ I2 q1) fun w s2 ⟨y, H2, I3, ry, e, b, k, ex, eb, q2⟩ => pairTrees_nil_walk ?_)))))
  subst ex
  obtain rfl : u = Value.ref b := rx
  obtain ⟨z, hd, xs, rel, dd⟩ := dt_of I3.hok e
  cases rel
  refine ⟨[(k, b, w)], ⟨rfl, rfl, key_of I3.hok eb, trivial⟩, dd, fun h' tk dd' hs => wpAny_pure ⟨.ref s.heap.objs.size, _, ?_, rfl, q2⟩⟩
  have he : ∃ q, h'.get? s.heap.objs.size = some q := let ⟨q, _, _, hq, _⟩ := dd'; ⟨q, hq⟩
  have ne : b ≠ s.heap.objs.size := fun z => by rw [z, e] at eb; cases eb
  obtain ⟨o, es, ep, h1, h2, h3, h4, _, h5⟩ := dd'
  exact d_write (H := H2) I3 (by rw [e]; exact True.intro) hs he ⟨by simp [sizeLine_eq], hd, _, .cons ⟨rfl, by rw [upd_ne ne]; exact eb, ry⟩ .nil, o, es, ep, h1, h2, h3, h4, h5⟩
/-- a first part, by its equation -/
theorem Step.eqn {K : PySem.W.Frag} {mg : Str → Option Value} {W : WX} {Av Av' : Pd} {as as' : List Addr} {ρ : Rho} {σ : L2.St} {H H' : Hp} {β γ : Type} {r : R β} {k : β → Mu → R γ} {P : Pd → List Addr → Hp → γ → Mu → Prop} (s : Step Av as H Av' as' H') (h : Wp K mg W Av as ρ σ H (r.bind k) P) :
    Wp K mg W Av' as' ρ σ H' r fun _ _ _ x μ1 => r = .ok x μ1 := by
  cases r with
  | ok v μ1 => exact fun _ _ _ _ _ => rfl
  | ex e μ1 => exact fun Av2 as2 H2 cls d s2 S2 => h Av2 as2 H2 cls d (s.trans s2) S2
  | bad => exact h
def dDisp1 (k v : D) : D := fun ρ μ => (k ρ μ).bind fun x μ1 => (v ρ μ1).bind fun y μ2 => (fzv y μ2).bind fun w μ3 => if kOk true x then .ok (.ref μ3.length) (μ3 ++ [.dct true [x] [w]]) else .bad
theorem e_disp1 {X : Cx} {pos : Pos} {W : WX} {ke ve : Expr} {dk dv : D} (hu : X.A.units + 64 < cLine) (hk : PE X ke (tE X W dk)) (hv : PE X ve (tE X W dv)) : PE X (.Dict [some ke] [ve] pos) (tE X W (dDisp1 dk dv)) :=
  (pe_dispT hu hk hv).imp fun σ H Q ⟨Av, as, ρ, μ, S, h⟩ p hn => by
    have S0 := S.newp (o := .dT []) hn
    have s0 : Step Av as H (plus Av p) as (upd H p (.dT [])) := step_new hn
    have w0 : Own (plus Av p) as (upd H p (.dT [])) p (.dT []) := ⟨.inr rfl, S.sm.notas hn, upd_same⟩
    unfold dDisp1 at h
    refine tD.go S0 (s0.eqn h) fun Av1 as1 H1 x μ1 xv s1 S1 r1 e1 => ?_
    rw [e1] at h
    have h : Wp X.K X.mg W Av as ρ σ H ((dv ρ μ1).bind _) _ := h
    refine tD.go S1 ((s0.trans s1).eqn h) fun Av2 as2 H2 y μ2 yv s2 S2 r2 e2 => ?_
    rw [e2] at h
    have h : Wp X.K X.mg W Av as ρ σ H ((fzv y μ2).bind _) _ := h
    obtain ⟨Av3, w, μ3, ef, s3, S3, r3, _⟩ := fz_ok (W := W) S2 r2 ((s0.trans (s1.trans s2)).eqn h)
    rw [ef] at h
    have h : Wp X.K X.mg W Av as ρ σ H (if kOk true x then R.ok (PV.ref μ3.length) (μ3 ++ [SO.dct true [x] [w]]) else R.bad) _ := h
    have w3 := ((w0.on s1).on s2).on s3
    by_cases hk : kOk true x = true
    · rw [if_pos hk] at h
      cases ek : tkey x with
      | none => simp [kOk, ek] at hk
      | some k =>
        have rk := key_peek (.inl ⟨k, ek⟩) (s3.top (s2.top r1))
        obtain ⟨b, rfl, nb, hb⟩ := tkey_rep ek rk
        refine ⟨w3.at_, b, k, rfl, hb, ?_⟩
        have kp : ∀ b o, H2 b = some o → ¬ Av3 b → upd H2 p (.dT [(k, yv)]) b = some o ∧ ¬ Av3 b := fun b o hb nb => ⟨by rw [upd_ne (show b ≠ p from fun e => nb (by rw [e]; exact w3.av))]; exact hb, nb⟩
        have M := w3.sm (o' := .dT [(k, yv)]) S3.sm
        have S4 : SR X.K X.mg Av3 as2 ρ μ3 σ (upd H2 p (.dT [(k, yv)])) := S3.re w3.toK M
        have S5 := S4.allocO (p := p) (so := .dct true [x] [w]) w3.ns (by rw [upd_same]; simp) ⟨w3.av, [(k, yv)], upd_same, by simp [tkeys, ek], ⟨yv, [], rfl, Rep.keep kp _ _ r3, rfl⟩⟩
        have full : Step Av as H Av3 as2 H2 := s0.trans (s1.trans (s2.trans s3))
        have full2 := (w3.step (o' := .dT [(k, yv)]) full hn).alloc hn
        exact h _ _ _ full2 S5 (.ref p) ⟨p, by rw [← S3.sm.len]; simp, rfl⟩
    · rw [if_neg hk] at h; exact h.elim
end EV

set_option Elab.async false
set_option linter.all false
set_option autoImplicit false
set_option maxRecDepth 100000
namespace EV
open PySem PySem.Spec PyProof.Rows L2

/-! ### a dict's keys, in a row -/
def srcD : V → Hp → (List V → Prop) → Prop := fun x H R => ∃ a, x = .ref a ∧ ((∃ kvs, H a = some (.dT kvs) ∧ ∀ bs, IsKeys H kvs bs → R (bs.map V.ref)) ∨ ∃ kvs, H a = some (.dK kvs) ∧ R (kvs.map fun kv => kV kv.1))
section
variable {X : Cx}
theorem col_dict (hc : X.calm = true) {pins : List (Addr × Obj)} {σ : L2.St} {H : Hp} {s : Shared} {x : V} {u : Value} {R : List V → Prop} {Q' : List Value → Shared → Prop} (I : Inv X pins σ H s) (r : RelV x u) (h : srcD x H R)
    (q : ∀ us h' tk, (∀ b o, s.heap.get? b = some o → h'.get? b = some o) → (∃ vs, Vals vs us ∧ R vs) → Q' us { s with heap := h', toks := tk }) : wpAny (model X.prog X.w) X.A.in1 (collect u) Q' X.xe s := by
  obtain ⟨a, rfl, h⟩ := h
  cases r
  rcases h with ⟨kvs, hd, hR⟩ | ⟨kvs, hd, hR⟩
  · obtain ⟨z, hs, ks, pr, o, es, ep, ho, hx, hdt, he, hn⟩ := dt_of I.hok hd
    have l1 : es.size = ks.length := size_of_entries he
    have l2 : kvs.length = ks.length := Paired.length pr
    refine PySem.W.kdu_collect (A := X.A.in1) (kdl_raw hs hx hdt) (I.ok.hd hc) ho (by omega) fun h' tk acc' hk it => ?_
    have ea : acc'.toList = ks.map fun x => Value.ref x.2.1 := by
      have hl : acc'.toList.length = ks.length := by rw [Array.length_toList, it.1]; exact l1
      apply List.ext_getElem?
      intro j
      rw [List.getElem?_map]
      cases hj : acc'.toList[j]? with
      | none =>
        have h1 := List.getElem?_eq_none_iff.mp hj
        rw [List.getElem?_eq_none (by omega)]
        rfl
      | some v =>
        obtain ⟨en, hen, hv⟩ := it.2 j v (by rw [← Array.getElem?_toList]; exact hj)
        have qe := entry_at he j
        rw [hen] at qe
        cases hb : ks[j]? with
        | none =>
          rw [hb] at qe
          exact nomatch (show some en = none from qe)
        | some b =>
          rw [hb] at qe
          have e2 : en = entryOfKey (tupleKind (mixKind X.prog X.w)) b := Option.some.inj qe
          rw [hv, e2]
          rfl
    have eb : acc'.toList = (ks.map fun x => x.2.1).map Value.ref := by rw [ea, List.map_map]; rfl
    have rv : Vals ((ks.map fun x => x.2.1).map V.ref) acc'.toList := by rw [eb]; exact vals_refs _
    exact q acc'.toList h' tk hk ⟨_, rv, hR _ (isKeys_of pr)⟩
  · obtain ⟨z, lo, vs, rel, dd⟩ := dk_rd I.hok (.inl hd)
    obtain ⟨ep, hat⟩ := dd.dictAt
    have hl : kvs.length = vs.length := Paired.length rel
    refine PySem.W.kdu_collect (A := X.A.in1) (PySem.W.kdl_dict (knd := mixKind X.prog X.w) (kvs := vs) (ep := ep) lo) (I.ok.hd hc) hat (by rw [← hl]; exact z) fun h' tk acc hk hacc => ?_
    refine q acc.toList h' tk hk ⟨_, ?_, hR⟩
    have el : acc.toList.length = acc.size := by simp
    refine vals_of_at (by rw [List.length_map, el, hacc.1, hl]) fun j x w h1 h2 => ?_
    obtain ⟨k, y, hky, hi⟩ := hacc.2 j w (by rw [← Array.getElem?_toList]; exact h2)
    have e1 : (kvs.map (·.1))[j]? = some k := by
      rw [KV.keys rel, List.getElem?_map, hky] <;> rfl
    have e2 : (kvs.map fun kv => kV kv.1)[j]? = some (kV k) := by
      have e3 : (kvs.map fun kv => kV kv.1) = (kvs.map (·.1)).map kV := by rw [List.map_map] <;> rfl
      rw [e3, List.getElem?_map, e1] <;> rfl
    rw [e2] at h1
    cases h1
    exact keyIs_rel hi
def srcA (K : PySem.W.Frag) : V → Hp → (List V → Prop) → Prop := fun x H R => srcD x H R ∨ srcL K x H R
theorem cr_srtA (hc : X.calm = true) (hu : X.A.units + 64 < cLine) : CallR X (.builtin "sorted") (rSrt X.K X.mg (srcA X.K)) := cr_srt hu fun I r h q => by
  rcases h with h | h
  · exact col_dict hc I r h q
  · exact col_seq I r h q
end
section
variable {K : PySem.W.Frag} {mg : Str → Option Value} {Av : Pd} {H : Hp} {as : List Addr} {μ : Mu}
theorem keys_rep (tv : ∀ a xs, Av a → H a ≠ some (.tup xs)) : ∀ {ks : List PV} {kvs : List (List L2.Key × V)} {bs : List Addr}, Kys tkey ks (kvs.map (·.1)) → IsKeys H kvs bs → Reps K mg Av H ks (bs.map V.ref)
  | [], kvs, bs, h, r => by
    cases kvs with
    | nil => cases r; rfl
    | cons q qs => cases h
  | x :: xs, kvs, bs, ⟨k, t, e, h1, h2⟩, r => by
    cases kvs with
    | nil => cases e
    | cons q qs =>
      rw [List.map_cons] at e
      injection e with e1 e2
      subst e1 e2
      cases r with
      | @cons _ b _ bs hb ht =>
        exact ⟨.ref b, bs.map V.ref, rfl, rep_tkey (fun z => tv b _ z hb) hb h1, keys_rep tv h2 ht⟩
theorem keys_repS : ∀ {ks : List PV} {kvs : List (L2.Key × V)}, Kys skey ks (kvs.map (·.1)) → Reps K mg Av H ks (kvs.map fun kv => kV kv.1)
  | [], kvs, h => by
    cases kvs with
    | nil => rfl
    | cons q qs => cases h
  | x :: xs, kvs, ⟨k, t, e, h1, h2⟩ => by
    cases kvs with
    | nil => cases e
    | cons q qs =>
      rw [List.map_cons] at e
      injection e with e1 e2
      subst e1 e2
      refine ⟨_, _, List.map_cons, ?_, keys_repS h2⟩
      cases x <;> first | (cases h1; done) | skip
      all_goals injection h1 with h1; rw [← h1]; rfl
theorem src_dct (S : SM K mg Av as μ H) {x : PV} {v : V} {t : Bool} {ks vs : List PV} (r : RepT K mg Av as H x v) (h : dctOf μ x = some (t, ks, vs)) : srcD v H fun us => Reps K mg Av H ks us := by
  obtain ⟨n, rfl, hm⟩ := dctOf_ref h
  obtain ⟨a, h1, rfl⟩ := r
  have so := S.obj n a _ h1 hm
  cases t with
  | true =>
    obtain ⟨_, kvs, h2, h3, h4⟩ := so
    exact ⟨a, rfl, .inl ⟨kvs, h2, fun bs hb => keys_rep S.tv (tkeys_kys h3) hb⟩⟩
  | false =>
    obtain ⟨_, kvs, h2, h3, h4⟩ := so
    exact ⟨a, rfl, .inr ⟨kvs, h2, keys_repS (skeys_kys h3)⟩⟩
/-- the items, or the keys -/
def itOf (μ : Mu) (x : PV) : Option (List PV) := match dctOf μ x with
  | some (_, ks, _) => some ks
  | none => sqOf μ x
theorem itOf_ok (S : SM K mg Av as μ H) {x : PV} {v : V} {ys : List PV} (r : RepT K mg Av as H x v) (h : itOf μ x = some ys) : srcA K v H fun us => Reps K mg Av H ys us := by
  unfold itOf at h
  cases e : dctOf μ x with
  | some d =>
    obtain ⟨t, ks, vs⟩ := d
    simp only [e] at h
    cases h
    exact .inl (src_dct S r e)
  | none =>
    simp only [e] at h
    obtain ⟨a, zs, rfl, hs, rr⟩ := sqOf_ok S r h
    exact .inr ⟨a, zs, rfl, hs, rr⟩
end
def bSortedA (xs : List PV) (μ : Mu) : R (List PV) := match xs with
  | [x] => match itOf μ x with
    | some ys => if srtOk ys && lim ys.length then .ok (psort ys) μ else .bad
    | none => .bad
  | _ => .bad
theorem b_sortedA {K : PySem.W.Frag} {mg : Str → Option Value} : CalF K mg bSortedA (rSrt K mg (srcA K)) := by
  intro W Av as ρ μ σ H xs vs Q S r h
  unfold bSortedA at h
  split at h
  · rename_i x
    obtain ⟨v, t, rfl, rx, rfl⟩ := r
    cases e : itOf μ x with
    | none => simp only [e] at h; exact h.elim
    | some ys =>
      simp only [e] at h
      by_cases hk : (srtOk ys && lim ys.length) = true
      · rw [if_pos hk] at h
        simp only [Bool.and_eq_true] at hk
        exact ⟨_, ys, Av, rfl, itOf_ok S.sm rx e, hk.1, lim_ok hk.2, fun ws p rw' hp => h.fresh S hp rw'⟩
      · rw [if_neg hk] at h; exact h.elim
  · exact h.elim
end EV

set_option Elab.async false
set_option linter.all false
set_option autoImplicit false
set_option maxRecDepth 100000
namespace EV
open PySem PySem.Spec PyProof.Rows L2

/-! ### defs by the head's facts -/
abbrev FnP (K : PySem.W.Frag) (x : Str) (st : Stmt) (f : Addr) (fd : FuncData) : Prop := FunD K x x (defArgs st) (defBody st) (defScope st) [] [] f fd
section
variable {P : Program} {w : World} {K : PySem.W.Frag} {mg : Str → Option Value} {base : Heap}
theorem ok_defD {x qual : Str} {pr : Arguments} {body : List Stmt} {sc : Scope} {dvs : List V} {kws : List (Str × V)} {f : Addr} {fd : FuncData} {N ps : List Str} {k : Nat} (b : DS) (F : FunD K x qual pr body sc dvs kws f fd) (S : FnScope N ps sc)
    (hb : ∀ (cdv : Value) (A : Around) (outer : List Env) (s : Shared) (H : Hp) (E : XK), Room k (A.deeper (envOfC qual sc s.heap.objs.size f cdv)) →
      Takes (cxOf (L2.CX P w) P w K mg base N qual sc f cdv A outer s H E) (fun cls d _ H => E cls d H) → PassesOwn (model P w) (A.deeper (envOfC qual sc s.heap.objs.size f cdv)) (envOfC qual sc s.heap.objs.size f cdv) (cxOf (L2.CX P w) P w K mg base N qual sc f cdv A outer s H E).xe →
      PSs (cxOf (L2.CX P w) P w K mg base N qual sc f cdv A outer s H E) body (tS K mg (fun cls d _ H => E cls d H) b)) :
    FnOk P w K mg base (L2.CX P w) (k + 1) f fd ps (spF K mg (dFun ps.length N.length b)) := by
  refine F.ok S (fun vs H Q E h => ?_) (fun cdv A outer s H vs Q E hr h => ?_)
  · obtain ⟨Av, as, xs, μ, Sm, r, h⟩ := h
    rw [r.len]
    by_cases hl : Nat.beq xs.length ps.length = true
    · exact Nat.eq_of_beq_eq_true hl
    · unfold dFun at h
      rw [if_neg hl] at h
      exact h.elim
  · obtain ⟨Av, as, xs, μ, Sm, r, h⟩ := h
    refine ⟨_, hb cdv A outer s H E hr (takes_of rfl rfl rfl rfl) (passes_of (X := cxOf (L2.CX P w) P w K mg base N qual sc f cdv A outer s H E) rfl), Av, as, slots N.length xs, μ, SR.start Sm r, ?_⟩
    have hlen := Sm.len
    unfold dFun at h
    by_cases hl : Nat.beq xs.length ps.length = true
    case neg => rw [if_neg hl] at h; exact h.elim
    rw [if_pos hl] at h
    cases e : b (slots N.length xs) μ with
    | nx ρ' μ' =>
      simp only [e] at h
      intro Av' as' H' σ' s' S'
      obtain ⟨l, rfl, _⟩ := s'.ext
      rw [← hlen] at h
      exact h _ _ _ s'.drop (S'.sm.drop rfl) rfl
    | rt v μ' =>
      simp only [e] at h
      intro Av' as' H' x s' S' r'
      obtain ⟨l, rfl, _⟩ := s'.ext
      rw [← hlen] at h
      exact fin_ok S' s' r' h
    | ex x ρ' μ' =>
      simp only [e] at h
      intro Av' as' H' σ' cls d s' S' r'
      obtain ⟨l, rfl, _⟩ := s'.ext
      rw [← hlen] at h
      exact h _ _ _ _ s'.drop (S'.sm.drop rfl) r'.lessL
    | bk _ _ => simp only [e] at h; exact h.elim
    | ct _ _ => simp only [e] at h; exact h.elim
    | bad => simp only [e] at h; exact h.elim
/-- a def that may be called by its name -/
def Cal (P : Program) (w : World) (K : PySem.W.Frag) (mg : Str → Option Value) (base : Heap) (x : Str) (k : Nat) (ps : List Str) (φ : DF) : Prop :=
  ∃ f fd, FnOk P w K mg base (L2.CX P w) k f fd ps (spF K mg φ) ∧ mg x = some (.ref f) ∧ PySem.W.keepIn K (.ref f) = true ∧ Binds K fd ps []
/-- it answers nothing -/
def dfNo : DF := fun _ _ => .bad
theorem no_fn {f : Addr} {fd : FuncData} {ps : List Str} {k : Nat} : FnOk P w K mg base (L2.CX P w) k f fd ps (spF K mg dfNo) := by
  have no : ∀ vs H Q E, ¬ spF K mg dfNo vs H Q E := fun vs H Q E ⟨_, _, _, _, _, _, h⟩ => h
  exact ⟨fun vs H Q E h => absurd h (no vs H Q E), fun A outer s H args us vs Q E _ _ _ _ h => absurd h (no vs H Q E)⟩
end
section
variable {X : Cx} {W : WX} {e : Expr} {es : List Expr} {pos p : Pos} {k : Nat} {ps : List Str} {x : Str}
theorem e_callC {φ : DF} {d : DA} (C : Cal X.prog X.w X.K X.mg X.base x k ps φ) (hr : Room k X.A) (hx : Lets X W)
    (ha : PA X (e :: es) (tAr X W d)) (hg : Gl X x := by rfl) (hdb : (x == ("__debug__" : Str)) = false := by decide) (he : starEach (e :: es) X.env = (false, eval e X.env) :: starEach es X.env := by rfl) (hpl : (backTo pos (starEach es X.env)).any (·.1) = false := by rfl) :
    PE X (.Call (.Name x p) (e :: es) [] pos) (tE X W (dCall φ d)) :=
  let ⟨_, _, F, hm, hk, hb⟩ := C
  e_call F hr hm hk hb hx ha hg hdb he hpl
end
/-! ### a law's end -/
/-- the law's def answers True -/
def R.isT : R PV → Bool
  | .ok (.bl b) _ => b
  | _ => false
theorem law_sp {K : PySem.W.Frag} {mg : Str → Option Value} {φ : DF} {H : Hp} {a : Addr} {ns : List Int} (h : (φ [.scr ns] []).isT = true) (hS : SqL K H a (ns.map V.int)) : spF K mg φ [.ref a] H (fun v _ => v = .bl true) fun _ _ _ => False := by
  refine ⟨fun _ => False, [], [.scr ns], [], ⟨fun _ z => z.elim, fun _ _ z => z.elim, fun _ z => (nomatch z), List.nodup_nil, rfl, fun n a o h1 _ => by simp at h1⟩, ⟨.ref a, [], rfl, ⟨a, rfl, ?_⟩, rfl⟩, ?_⟩
  · rcases hS with hS | ⟨o, its, n, h1, h2, h3, h4, h5, h6⟩
    · exact .inl ⟨fun z => z, hS⟩
    · exact .inr ⟨o, its, n, h1, h2, h3, h4, h5, h6⟩
  · cases e : φ [.scr ns] [] with
    | ok v μ =>
      rw [e] at h
      cases v <;> first | (cases h; done) | skip
      rename_i b
      intro Av' H' x _ _ r
      have hb : b = true := h
      subst hb
      exact r
    | ex x μ => rw [e] at h; cases h
    | bad => rw [e] at h; cases h
theorem walk_ofC {l : PySem.W.OpenLaw} {n k : Nat} {q : Program} {loose : List Str} {XP : (Str → Option Value) → Heap → Prop} {YP : World → Heap → Prop} {d : DefRec} {CX : World → CXT} {x : Str}
    (hn : l.most = some n) (hn2 : n ≤ sizeLine) (hdf : d.params.defaults = []) (hr : Room k callerA)
    (F : ∀ (w : World) (mg : Str → Option Value) (fa : Addr) (h : Heap), YP w h → h.Ns mainGlobals mg → mg d.name = some (.ref fa) →
      ∃ (K : PySem.W.Frag) (fd : FuncData) (sp : Sp), K.In h ∧ (∀ (s : Shared) (u : Value), BindsTo s fd ⟨[u], []⟩ [(x, u)]) ∧
        (∀ (H : Hp) (a : Addr) (ns : List Int), ns.length ≤ n → Only H → SqL K H a (ns.map V.int) → sp [.ref a] H (fun v _ => v = .bl true) fun _ _ _ => False) ∧
        ∀ base : Heap, K.In base → base.Ns mainGlobals mg → FnOk l.prog w K mg base (CX w) k fa fd [x] sp)
    (hCX : ∀ (w : World) (H : Hp) (s : Shared) (e : Value) (s' : Shared), CX w [] H s (fun _ _ _ => False) e s' → False) :
    PySem.W.WalkO q loose XP YP l.row.toRowW d [] (fun f vs => PySem.call f vs) := by
  refine Att.attach_call hn hdf fun w s₀ s₁ mg mb fa o pm cd doc a vs ns G Y ho hd hcd hmg hobj hints hlen hg => ?_
  obtain ⟨K, fd, sp, KX, hb, hsp, hF⟩ := F w mg fa _ Y G.T.g hmg
  exact law_call KX G.T.g G.T.b G.T.builtins G.T.nolimit hg hobj hints (Nat.le_trans hlen hn2) hr hF hb (fun H hO hS => hsp H a ns hlen hO hS) fun H e s' => hCX w H s₁ e s'
theorem cx_no {P : Program} {w : World} {H : Hp} {s : Shared} {e : Value} {s' : Shared} (h : L2.CX P w [] H s (fun _ _ _ => False) e s') : False := by
  obtain ⟨_, _, _, _, _, _, _, _, _, _, _, _, z⟩ := h
  exact z
end EV

set_option Elab.async false
set_option linter.all false
set_option autoImplicit false
set_option maxRecDepth 100000
namespace EV
open PySem PySem.Spec PyProof.Rows L2

/-! ### range(i, j, c) -/
def rgc (lo c : Int) : Nat → List PV
  | 0 => []
  | n + 1 => .int lo :: rgc (lo + c) c n
theorem rgc_len : ∀ (n : Nat) (lo c : Int), (rgc lo c n).length = n
  | 0, _, _ => rfl
  | n + 1, lo, c => by rw [rgc, List.length_cons, rgc_len n]
theorem rgc_get : ∀ (n : Nat) (lo c : Int) (i : Nat), i < n → (rgc lo c n)[i]? = some (.int (lo + i * c))
  | 0, _, _, i, h => absurd h (Nat.not_lt_zero _)
  | n + 1, lo, c, 0, _ => by simp [rgc]
  | n + 1, lo, c, i + 1, h => by
    rw [rgc, List.getElem?_cons_succ, rgc_get n (lo + c) c i (by omega)]
    congr 2
    push_cast
    rw [Int.add_mul]
    omega
def rgcOk (i j c : Int) : Bool := (decide (c ≠ 0) && Nat.blt c.natAbs 1073741824) && (Builtin.Range.small i j c && decide (0 ≤ Builtin.Range.rangeSize i j c))
def dRg3 (a : DA) : DA := fun ρ μ => (a ρ μ).bind fun v μ1 => match v with
  | [.int i, .int j, .int c] => if rgcOk i j c then .ok (rgc i c (Builtin.Range.rangeSize i j c).toNat) μ1 else .bad
  | _ => .bad
theorem itc_ok {K : PySem.W.Frag} {mg : Str → Option Value} {Av : Pd} {H : Hp} {as : List Addr} {lo c : Int} {n : Nat} : ItOk K mg (Itc lo c n) (rgc lo c n) Av as H := fun i Av' as' H' s => by
  rw [rgc_len]
  refine ⟨fun h => h, fun h => h, fun x H2 hi ⟨e, y⟩ => ?_⟩
  subst e y
  exact ⟨_, rgc_get n lo c i hi, .refl, fun _ _ _ S => S, rfl⟩
theorem i_rg3 {X : Cx} {W : WX} {tg a b c : Expr} {d : DA} {p pos : Pos} (hm : X.mg "range" = none) (ha : PA X [a, b, c] (tAr X W d)) (hg : Gl X "range" := by rfl) (hs : starEach [a, b, c] X.env = (false, eval a X.env) :: starEach [b, c] X.env := by rfl) (hpl : (backTo pos (starEach [b, c] X.env)).any (·.1) = false := by rfl) :
    PI X tg (.Call (.Name "range" p) [a, b, c] [] pos) (tI X.K X.mg W (dRg3 d)) :=
  (pi_range3 hg hm ha hs hpl).imp fun σ H Rr ⟨Av, as, ρ, μ, S, h⟩ => tDA.go S h.bind fun Av1 as1 H1 v1 μ1 x s1 S1 r1 h1 => by
    split at h1
    · rename_i i j c
      obtain ⟨v, t, rfl, r, v', t', rfl, r', v'', t'', rfl, r'', rfl⟩ := r1
      cases r
      cases r'
      cases r''
      by_cases hk : rgcOk i j c = true
      · rw [if_pos hk] at h1
        unfold rgcOk at hk
        simp only [Bool.and_eq_true] at hk
        obtain ⟨⟨k1, k2⟩, k3, k4⟩ := hk
        have k4 := of_decide_eq_true k4
        exact ⟨i, j, c, (Builtin.Range.rangeSize i j c).toNat, rfl, ⟨of_decide_eq_true k1, by simpa [Nat.blt_eq] using k2, k3, by omega⟩, h1.here S1 _ itc_ok⟩
      · rw [if_neg hk] at h1; exact h1.elim
    · exact h1.elim
/-! ### a < b < c -/
def dCh (f f' : PV → PV → Mu → R PV) (a b c : D) : D := fun ρ μ => (a ρ μ).bind fun x μ1 => (b ρ μ1).bind fun y μ2 => (f x y μ2).bind fun z μ3 => match z with
  | .bl true => (c ρ μ3).bind fun w μ4 => f' y w μ4
  | .bl false => .ok (.bl false) μ3
  | _ => .bad
section
variable {X : Cx} {W : WX} {a b c : Expr} {da db dc : D} {pos : Pos} {op op' : CmpOp} {f f' : PV → PV → Mu → R PV} {r r' : R2}
theorem goCh (hs : OpS X.K X.mg f r) (hs' : OpS X.K X.mg f' r') : ∀ σ H Q, tE X W (dCh f f' da db dc) σ H Q → tChain r r' (tE X W da) (tE X W db) (tE X W dc) σ H Q := fun σ H Q ⟨Av, as, ρ, μ, S, h⟩ =>
  tD.go S h.bind fun Av1 as1 H1 v1 μ1 x s1 S1 r1 h1 => tD.go S1 h1.bind fun Av2 as2 H2 v2 μ2 y s2 S2 r2 h2 => hs S2 (s2.top r1) r2 (h2.bind.mono fun Av3 as3 H3 z μ3 _ s3 S3 h3 u r3 => by
    cases z with
    | bl k =>
      cases r3
      refine ⟨k, rfl, ?_⟩
      cases k with
      | true => exact iteT (tD.go S3 h3.bind fun Av4 as4 H4 w μ4 wv s4 S4 r4 h4 => hs' S4 (s4.top (s3.top r2)) r4 h4)
      | false => exact iteF (h3.here S3 _ rfl)
    | _ => exact h3.elim)
theorem e_chain (ho : OpR X (compareOp op) r) (hs : OpS X.K X.mg f r) (ho' : OpR X (compareOp op') r') (hs' : OpS X.K X.mg f' r') (ha : PE X a (tE X W da)) (hb : PE X b (tE X W db)) (hc : PE X c (tE X W dc))
    (hm : lastMarks [op, op'] [b, c] = false := by with_unfolding_all rfl) : PE X (.Compare a [op, op'] [b, c] pos) (tE X W (dCh f f' da db dc)) := (pe_chain ho ho' ha hb hc hm).imp (goCh hs hs')
theorem t_chain (ho : OpR X (compareOp op) r) (hs : OpS X.K X.mg f r) (ho' : OpR X (compareOp op') r') (hs' : OpS X.K X.mg f' r') (ha : PE X a (tE X W da)) (hb : PE X b (tE X W db)) (hc : PE X c (tE X W dc))
    (hm : lastMarks [op, op'] [b, c] = false := by with_unfolding_all rfl) : PT X (.Compare a [op, op'] [b, c] pos) (tB X W (dT (dCh f f' da db dc))) :=
  (pt_chain ho ho' ha hb hc hm).imp fun σ H Q ⟨Av, as, ρ, μ, S, h⟩ => goCh (W := W) hs hs' σ H _ ⟨Av, as, ρ, μ, S, by
    have h' := h.bind
    refine h'.mono fun Av3 as3 H3 v3 μ3 _ s3 S3 h3 u r3 => ?_
    cases v3 with
    | bl b => cases r3; exact ⟨b, rfl, h3.here S3⟩
    | _ => exact h3.elim⟩
end
end EV

set_option Elab.async false
set_option linter.all false
set_option autoImplicit false
set_option maxRecDepth 100000
namespace EV
open PySem L2

/-! ### running a denotation, step by step -/
section
variable {ρ ρ1 : Rho} {μ μ1 μ2 μ3 : Mu} {a b : DS} {c : DT} {d da db dc : D} {dr : DA} {v x y : PV} {xs : List PV} {i j l n m : Nat} {φ : DF}
theorem x_sq (h : a ρ μ = .nx ρ1 μ1) : dSq a b ρ μ = b ρ1 μ1 := by unfold dSq; rw [h]
theorem x_sqr {v : PV} (h : a ρ μ = .rt v μ1) : dSq a b ρ μ = .rt v μ1 := by unfold dSq; rw [h]
theorem x_ift (h : c ρ μ = .ok true μ1) : dIfS c a b ρ μ = a ρ μ1 := by unfold dIfS; rw [h]; rfl
theorem x_iff (h : c ρ μ = .ok false μ1) : dIfS c a b ρ μ = b ρ μ1 := by unfold dIfS; rw [h]; rfl
theorem x_if {k : Bool} (h : c ρ μ = .ok k μ1) : dIfS c a b ρ μ = if k then a ρ μ1 else b ρ μ1 := by unfold dIfS; rw [h]; rfl
theorem x_asg (h : d ρ μ = .ok v μ1) : dAsg d (gN i) ρ μ = .nx (ρ.set i (some v)) μ1 := by unfold dAsg; rw [h]; rfl
theorem x_ret (h : d ρ μ = .ok v μ1) : dRt d ρ μ = .rt v μ1 := by unfold dRt; rw [h]; rfl
theorem x_do (h : d ρ μ = .ok v μ1) : dDo d ρ μ = .nx ρ μ1 := by unfold dDo; rw [h]; rfl
theorem x_par2 (h : dr ρ μ = .ok [x, y] μ1) : dPar2 i j dr ρ μ = .nx ((ρ.set i (some x)).set j (some y)) μ1 := by unfold dPar2; rw [h]; rfl
theorem x_par3 {z : PV} (h : dr ρ μ = .ok [x, y, z] μ1) : dPar3 i j l dr ρ μ = .nx (((ρ.set i (some x)).set j (some y)).set l (some z)) μ1 := by unfold dPar3; rw [h]; rfl
theorem x_nil : dNil ρ μ = .ok [] μ := rfl
theorem x_cons (h : d ρ μ = .ok x μ1) (h2 : dr ρ μ1 = .ok xs μ2) : dCons d dr ρ μ = .ok (x :: xs) μ2 := by
  show (d ρ μ).bind _ = _
  rw [h]
  show (dr ρ μ1).bind _ = _
  rw [h2]
  rfl
theorem x_v (h : ρ[i]? = some (some v)) : dV i ρ μ = .ok v μ := by unfold dV; rw [h]
theorem x_2 {f : PV → PV → Mu → R PV} (h : da ρ μ = .ok x μ1) (h2 : db ρ μ1 = .ok y μ2) : d2 f da db ρ μ = f x y μ2 := by
  show (da ρ μ).bind _ = _
  rw [h]
  show (db ρ μ1).bind _ = _
  rw [h2]
  rfl
theorem x_add {p q : Int} (h : da ρ μ = .ok (.int p) μ1) (h2 : db ρ μ1 = .ok (.int q) μ2) : d2 fAdd da db ρ μ = .ok (.int (p + q)) μ2 := by rw [x_2 h h2]; rfl
theorem x_sub {p q : Int} (h : da ρ μ = .ok (.int p) μ1) (h2 : db ρ μ1 = .ok (.int q) μ2) : d2 fSub da db ρ μ = .ok (.int (p - q)) μ2 := by rw [x_2 h h2]; rfl
theorem x_mul {p q : Int} (h : da ρ μ = .ok (.int p) μ1) (h2 : db ρ μ1 = .ok (.int q) μ2) (hm : mulOk p q = true) : d2 fMulA da db ρ μ = .ok (.int (p * q)) μ2 := by rw [x_2 h h2]; unfold fMulA; simp only [hm, if_true]
theorem x_call (h : dr ρ μ = .ok xs μ1) : dCall φ dr ρ μ = callF φ xs μ1 := by
  show (dr ρ μ).bind _ = _
  rw [h]; rfl
/-- a call with nothing of the store -/
theorem x_callV (h : dr ρ μ = .ok xs μ1) (hr : refs xs = []) (hn : renum 0 xs = xs) {w : PV} (hw : ∀ k, w ≠ .ref k) (hf : φ xs [] = .ok w []) : dCall φ dr ρ μ = .ok w μ1 := by
  rw [x_call h]
  unfold callF
  rw [hr, hn]
  simp only [gets, ndp, hf, if_true, List.length_nil, beq_self_eq_true, puts]
  cases w <;> first | rfl | exact absurd rfl (hw _)
/-- a call with one thing of the store, ahead -/
theorem x_callR {T T' : SO} {w : PV} (h : dr ρ μ = .ok (.ref n :: xs) μ1) (hr : refs xs = []) (hn : renum 1 xs = xs) (ht : μ1[n]? = some T) (hw : ∀ k, w ≠ .ref k) (hf : φ (.ref 0 :: xs) [T] = .ok w [T']) :
    dCall φ dr ρ μ = .ok w (μ1.set n T') := by
  rw [x_call h]
  unfold callF
  simp only [refs, hr, gets, ht, ndp, List.contains_nil, Bool.not_false, Bool.and_self, if_true, renum, hn, hf, List.length_cons, List.length_nil, beq_self_eq_true, puts]
  cases w <;> first | rfl | exact absurd rfl (hw _)
end
theorem log2_le {n k : Nat} (h : n < 2 ^ k) (hk : 0 < k) : n.log2 < k := by
  by_cases h0 : n = 0
  · subst h0; simpa using hk
  · exact (Nat.log2_lt h0).mpr h
theorem mulOk_of {i j : Int} (h : i.natAbs < 2 ^ 400000) (h2 : j.natAbs < 2 ^ 400000) : mulOk i j = true := by
  have h1 := log2_le h (by decide)
  have h2 := log2_le h2 (by decide)
  unfold mulOk
  rw [Nat.blt_eq]
  omega
theorem divOk_of {j : Int} (h0 : 0 < j) (h : j.natAbs < 2 ^ 8000) : divOk j = true := by
  have h1 := log2_le h (by decide)
  unfold divOk
  rw [Bool.and_eq_true, Nat.blt_eq]
  exact ⟨decide_eq_true h0, by omega⟩
theorem lt_pow_of {n b k : Nat} (h : n < 2 ^ b) (hk : b ≤ k) : n < 2 ^ k := Nat.lt_of_lt_of_le h (Nat.pow_le_pow_right (by decide) hk)

/-! ### the script that is drawn from -/
def tp (ns : List Int) (i rest seed : Int) : SO := .lst [.lst (ns.map .int), .int i, .int rest, .int seed]
/-- such a tape -/
def Tp (T : SO) : Prop := ∃ (ns : List Int) (i rest seed : Int), T = tp ns i rest seed ∧ ns.length ≤ 63 ∧ 0 ≤ i ∧ 0 ≤ rest ∧ 0 ≤ seed ∧ seed < 2147483647
/-- φ draws: below m -/
def Draws (φ : DF) : Prop := ∀ (T : SO) (m : Int), Tp T → 0 < m → m < 18446744073709551616 → ∃ (r : Int) (T' : SO), φ [.ref 0, .int m] [T] = .ok (.int r) [T'] ∧ Tp T' ∧ 0 ≤ r ∧ r < m
section
variable {φ : DF} {ρ : Rho} {μ μ1 : Mu} {n : Nat} {T : SO} {da db : D} {m : Int}
theorem Draws.go (D : Draws φ) (h : da ρ μ = .ok (.ref n) μ) (h2 : db ρ μ = .ok (.int m) μ) (ht : μ[n]? = some T) (hT : Tp T) (h0 : 0 < m) (hm : m < 18446744073709551616) :
    ∃ (r : Int) (T' : SO), dCall φ (dCons da (dCons db dNil)) ρ μ = .ok (.int r) (μ.set n T') ∧ Tp T' ∧ 0 ≤ r ∧ r < m := by
  obtain ⟨r, T', h1, h3, h4, h5⟩ := D T m hT h0 hm
  exact ⟨r, T', x_callR (x_cons h (x_cons h2 x_nil)) rfl rfl ht (fun _ z => by cases z) h1, h3, h4, h5⟩
end
end EV

set_option Elab.async false
set_option linter.all false
set_option autoImplicit false
set_option maxRecDepth 100000
namespace EV
open PySem L2
/-! ### statements in a row -/
def sqs : List DS → DS → DS
  | [], k => k
  | a :: r, k => dSq a (sqs r k)
theorem sqs_app {ys : List DS} {k : DS} {μ1 : Mu} {ρ1 : Rho} : ∀ {xs : List DS} {ρ : Rho} {μ : Mu}, sqs xs dNx ρ μ = .nx ρ1 μ1 → sqs (xs ++ ys) k ρ μ = sqs ys k ρ1 μ1
  | [], ρ, μ, h => by
    have h' : F.nx ρ μ = .nx ρ1 μ1 := h
    cases h'
    rfl
  | a :: r, ρ, μ, h => by
    show dSq a (sqs (r ++ ys) k) ρ μ = _
    have h' : dSq a (sqs r dNx) ρ μ = .nx ρ1 μ1 := h
    unfold dSq at h' ⊢
    cases e : a ρ μ with
    | nx ρ' μ' => rw [e] at h'; exact sqs_app h'
    | _ => rw [e] at h'; cases h'
theorem sqs_one {a : DS} {ρ ρ1 : Rho} {μ μ1 : Mu} (h : a ρ μ = .nx ρ1 μ1) : sqs [a] dNx ρ μ = .nx ρ1 μ1 := by
  show dSq a dNx ρ μ = _
  rw [x_sq h]; rfl
/-- it answers True -/
def endT : F → Bool
  | .rt (.bl b) _ => b
  | _ => false
/-- a law's def, by its body -/
theorem endT_isT {m n : Nat} {b : DS} {xs : List PV} {μ : Mu} (hl : Nat.beq xs.length m = true) (h : endT (b (slots n xs) μ) = true) : (dFun m n b xs μ).isT = true := by
  unfold dFun
  rw [if_pos hl]
  generalize b (slots n xs) μ = o at h
  cases o with
  | rt v μ =>
    cases v with
    | bl b => exact h
    | _ => cases h
  | _ => cases h
/-- what is seen of a run: some slots, the store -/
def seen (is : List Nat) : F → Option (Nat × List (Option (Option PV)) × Mu)
  | .nx ρ μ => some (ρ.length, is.map (fun i => ρ[i]?), μ)
  | _ => none
theorem seen_nx {is : List Nat} {o : F} {n : Nat} {vs : List (Option (Option PV))} {μ : Mu} (h : seen is o = some (n, vs, μ)) : ∃ ρ, o = .nx ρ μ ∧ ρ.length = n ∧ is.map (fun i => ρ[i]?) = vs := by
  cases o <;> first | (cases h; done) | skip
  rename_i ρ μ'
  simp only [seen, Option.some.injEq, Prod.mk.injEq] at h
  obtain ⟨h1, h2, h3⟩ := h
  subst h3
  exact ⟨ρ, rfl, h1, h2⟩
theorem map_rep {α β : Type} {f : α → β} {l : List α} {n : Nat} {c : β} (h : l.map f = List.replicate n c) {a : α} (ha : a ∈ l) : f a = c :=
  (List.eq_replicate_iff.mp h).2 _ (List.mem_map.mpr ⟨a, ha, rfl⟩)
theorem uncons {α : Type} {l : List α} {n : Nat} (h : l.length = n + 1) : ∃ x t, l = x :: t ∧ t.length = n := by
  cases l with
  | nil => simp at h
  | cons x t => exact ⟨x, t, rfl, by simpa using h⟩
theorem nil_of {α : Type} {l : List α} (h : l.length = 0) : l = [] := List.length_eq_zero_iff.mp h
/-! ### few things -/
def bitsL : Nat → List (List Int)
  | 0 => [[]]
  | n + 1 => (bitsL n).flatMap fun r => [0 :: r, 1 :: r]
theorem mem_bitsL : ∀ {n : Nat} {r : List Int}, r.length = n → (∀ x ∈ r, x = 0 ∨ x = 1) → r ∈ bitsL n
  | 0, r, h, _ => by rw [nil_of h]; simp [bitsL]
  | n + 1, r, h, hb => by
    obtain ⟨x, t, rfl, ht⟩ := uncons h
    refine List.mem_flatMap.mpr ⟨t, mem_bitsL ht fun y hy => hb y (List.mem_cons_of_mem _ hy), ?_⟩
    rcases hb x List.mem_cons_self with rfl | rfl <;> simp
def upto (n : Nat) : List Int := (List.range n).map fun i : Nat => (i : Int)
theorem mem_upto {n : Nat} {i : Int} (h0 : 0 ≤ i) (h : i < n) : i ∈ upto n := List.mem_map.mpr ⟨i.toNat, List.mem_range.mpr (by omega), by omega⟩
def pairs {α β : Type} (xs : List α) (ys : List β) : List (α × β) := xs.flatMap fun x => ys.map fun y => (x, y)
theorem mem_pairs {α β : Type} {xs : List α} {ys : List β} {x : α} {y : β} (hx : x ∈ xs) (hy : y ∈ ys) : (x, y) ∈ pairs xs ys := List.mem_flatMap.mpr ⟨x, hx, List.mem_map.mpr ⟨y, hy, rfl⟩⟩
/-! ### a row of draws -/
/-- [draw(tape, e) for k in ..] -/
theorem draw_row {φ : DF} {da db : D} (hD : Draws φ) {k n : Nat} {m : Int} {ρ0 : Rho} {μ0 : Mu} (h0 : 0 < m) (hm : m < 18446744073709551616) (ha : ∀ v μ, da (ρ0.set k v) μ = .ok (.ref n) μ) (hb : ∀ v μ, db (ρ0.set k v) μ = .ok (.int m) μ) (hn : n < μ0.length) :
    ∀ (xs : List PV) (T : SO), Tp T → ∃ (ys : List Int) (T' : SO), lcGo (gN k) dYes (dCall φ (dCons da (dCons db dNil))) ρ0 xs (μ0.set n T) = .ok (ys.map .int) (μ0.set n T') ∧ Tp T' ∧ ys.length = xs.length ∧ ∀ y ∈ ys, 0 ≤ y ∧ y < m
  | [], T, hT => ⟨[], T, rfl, hT, rfl, fun _ h => nomatch h⟩
  | x :: xs, T, hT => by
    have ht : (μ0.set n T)[n]? = some T := List.getElem?_set_self hn
    obtain ⟨r, T1, e1, hT1, h1, h2⟩ := hD.go (da := da) (db := db) (ρ := ρ0.set k (some x)) (μ := μ0.set n T) (n := n) (m := m) (ha _ _) (hb _ _) ht hT h0 hm
    rw [List.set_set] at e1
    obtain ⟨ys, T', e2, hT', h3, h4⟩ := draw_row hD h0 hm ha hb hn xs T1 hT1
    refine ⟨r :: ys, T', ?_, hT', by simp [h3], fun y hy => ?_⟩
    · have ez : dZ (dCall φ (dCons da (dCons db dNil))) (ρ0.set k (some x)) (μ0.set n T) = .ok (.int r) (μ0.set n T1) := by
        show (dCall φ _ _ _).bind fzv = _
        rw [e1]; rfl
      simp only [lcGo, gN, dYes]
      rw [ez]
      simp only [e2]
      rfl
    · rcases List.mem_cons.mp hy with rfl | hy
      · exact ⟨h1, h2⟩
      · exact h4 y hy
/-! ### comprehensions of plain things -/
theorem lc_map {k : Nat} {el : D} {ρ0 : Rho} {μ : Mu} {h : PV → PV} : ∀ {xs : List PV}, (∀ x ∈ xs, el (ρ0.set k (some x)) μ = .ok (h x) μ ∧ ∀ n, h x ≠ .ref n) → lcGo (gN k) dYes el ρ0 xs μ = .ok (xs.map h) μ
  | [], _ => rfl
  | x :: xs, hx => by
    obtain ⟨h1, h2⟩ := hx x List.mem_cons_self
    have ez : dZ el (ρ0.set k (some x)) μ = .ok (h x) μ := by
      show (el _ _).bind fzv = _
      rw [h1]
      show fzv (h x) μ = _
      cases e : h x <;> first | rfl | exact absurd e (h2 _)
    simp only [lcGo, gN, dYes]
    rw [ez]
    simp only [lc_map fun y hy => hx y (List.mem_cons_of_mem _ hy)]
    rfl
theorem lc_none {k : Nat} {tt : DT} {el : D} {ρ0 : Rho} {μ : Mu} : ∀ {xs : List PV}, (∀ x ∈ xs, tt (ρ0.set k (some x)) μ = .ok false μ) → lcGo (gN k) tt el ρ0 xs μ = .ok [] μ
  | [], _ => rfl
  | x :: xs, hx => by
    simp only [lcGo, gN]
    rw [hx x List.mem_cons_self]
    exact lc_none fun y hy => hx y (List.mem_cons_of_mem _ hy)
theorem refs_val {y : PV} (h : isE y = true) : refs [y, y] = [] ∧ renum 0 [y, y] = [y, y] := by
  cases y <;> first | (cases h; done) | exact ⟨rfl, rfl⟩
/-- rows no longer than this, all through -/
def shorts (n : Nat) : PV → Bool
  | .tup xs => Nat.ble xs.length n
  | .lst xs => Nat.ble xs.length n
  | _ => true
/-- .. of ints, to ints -/
theorem lc_int {k : Nat} {el : D} {ρ0 : Rho} {μ : Mu} {h : Int → Int} {is : List Int} (hx : ∀ i ∈ is, el (ρ0.set k (some (.int i))) μ = .ok (.int (h i)) μ) : lcGo (gN k) dYes el ρ0 (is.map .int) μ = .ok ((is.map h).map .int) μ := by
  have q := lc_map (k := k) (el := el) (ρ0 := ρ0) (μ := μ) (h := fun p => match p with | .int i => .int (h i) | p => p) (xs := is.map .int) fun x hx' => by
    obtain ⟨i, hi, rfl⟩ := List.mem_map.mp hx'
    exact ⟨hx i hi, fun _ z => by cases z⟩
  rw [q, List.map_map, List.map_map]
  rfl
theorem lc_run {vs : List Nat} {it : DA} {g : DG} {tt : DT} {el : D} {ρ : Rho} {μ μ1 μ2 : Mu} {xs ys : List PV} (h : it ρ μ = .ok xs μ1) (h2 : lcGo g tt el (wipeR ρ vs) xs μ1 = .ok ys μ2) (hl : lim ys.length = true) : dL (dLC vs it g tt el) ρ μ = .ok (.lst ys) μ2 := by
  show ((it ρ μ).bind _).bind _ = _
  rw [h]
  show (lcEnd (lcGo g tt el (wipeR ρ vs) xs μ1)).bind _ = _
  rw [h2]
  simp only [lcEnd, hl, if_true]
  rfl
theorem rgl_ints (n : Nat) : rgl 0 n = (upto n).map .int := by
  rw [rgl_map]
  unfold upto
  rw [List.map_map]
  refine List.map_congr_left fun i _ => ?_
  show PV.int (0 + (i : Int)) = PV.int i
  rw [Int.zero_add]
theorem lim_of {n : Nat} (h : n ≤ 16777216) : lim n = true := Nat.ble_eq_true_of_le h
theorem tuple_run {d : D} {ρ : Rho} {μ μ1 : Mu} {ys : List PV} (h : d ρ μ = .ok (.lst ys) μ1) : dB bTuple (dCons d dNil) ρ μ = .ok (.tup ys) μ1 := by
  show (dCons _ _ _ _).bind _ = _
  rw [x_cons h x_nil]; rfl
theorem intsOf_map : ∀ is : List Int, intsOf (is.map .int) = some is
  | [] => rfl
  | i :: is => by simp only [List.map_cons, intsOf, intsOf_map is]
theorem sum_run {d : D} {ρ : Rho} {μ μ1 : Mu} {is : List Int} (h : d ρ μ = .ok (.lst (is.map .int)) μ1) : dB bSum (dCons d dNil) ρ μ = .ok (.int is.sum) μ1 := by
  show (dCons _ _ _ _).bind _ = _
  rw [x_cons h x_nil]
  show bSum [.lst (is.map .int)] μ1 = _
  unfold bSum
  simp only [llOf, lsOf, intsOf_map]
theorem ix_int {da db : D} {ρ : Rho} {μ μ1 μ2 : Mu} {is : List Int} {i : Nat} (h : da ρ μ = .ok (.tup (is.map .int)) μ1) (h2 : db ρ μ1 = .ok (.int i) μ2) (hi : i < is.length) : d2 fIxA da db ρ μ = .ok (.int (is.getD i 0)) μ2 := by
  rw [x_2 h h2]
  have ea : atI (is.map PV.int) (i : Int) = some (.int (is.getD i 0)) := atI_nat (by rw [List.getElem?_map, List.getElem?_eq_getElem hi, List.getD_eq_getElem?_getD, List.getElem?_eq_getElem hi]; rfl)
  show (match atI (is.map PV.int) (i : Int) with | some v => R.ok v _ | none => R.bad) = _
  rw [ea]
end EV

set_option Elab.async false
set_option linter.all false
set_option autoImplicit false
set_option maxRecDepth 100000
namespace K74
open EV PySem L2
def b_last_of_count : DS :=
  dSq (dAsg (dK (.int 0)) (gN 2))
  (dSq (dFor (dRg2 (dCons (dK (.int 2)) (dCons (d2 fAdd (dV 0) (dK (.int 1))) (dNil)))) (gN 3) (dAsg (d2 fMod (dB bInt (dCons (d2 fAdd (dV 2) (dV 1)) (dNil))) (dV 3)) (gN 2)))
  (dRt (dV 2)))
def d_last_of_count : DF := dFun 2 4 b_last_of_count
def b_count_out : DS :=
  dSq (dPar3 2 3 4 (dCons (dN (dRgL (dR1 (dV 0)))) (dCons (dK (.int 0)) (dCons (dN (dLst (dVs (dNil)))) (dNil)))))
  (dSq (dWh 1000000 (dT (d2 fNe (dV 2) (dL (dLst (dVs (dNil)))))) (dSq (dAsg (d2 fMod (dB bInt (dCons (d2 fSub (d2 fAdd (dV 3) (dV 1)) (dK (.int 1))) (dNil))) (dB bLen (dCons (dV 2) (dNil)))) (gN 3))
  (dDo (dM isL mAppend (dV 4) (dCons (dM isL mPop (dV 2) (dCons (dV 3) (dNil))) (dNil))))))
  (dRt (dB bTuple (dCons (dV 4) (dNil)))))
def d_count_out : DF := dFun 2 5 b_count_out
def b_down_and_under : DS :=
  dSq (dPar2 1 2 (dCons (dN (dRgL (dR1 (dV 0)))) (dCons (dN (dLst (dVs (dNil)))) (dNil))))
  (dSq (dWh 1000000 (dT (d2 fNe (dV 1) (dL (dLst (dVs (dNil)))))) (dSq (dDo (dM isL mAppend (dV 2) (dCons (dM isL mPop (dV 1) (dCons (dK (.int 0)) (dNil))) (dNil))))
  (dIfS (dT (d2 fNe (dV 1) (dL (dLst (dVs (dNil)))))) (dDo (dM isL mAppend (dV 1) (dCons (dM isL mPop (dV 1) (dCons (dK (.int 0)) (dNil))) (dNil)))) (dNx))))
  (dRt (dB bTuple (dCons (dV 2) (dNil)))))
def d_down_and_under : DF := dFun 1 3 b_down_and_under
def b_turned_two : DS :=
  dRt (d2 fAdd (dB bTuple (dCons (dL (dLC [2] (dRev (dSl (dV 0) (oN) (oS (dV 1)))) (gN 2) (dYes) (d2 fSub (dK (.int 1)) (dV 2)))) (dNil))) (dSl (dV 0) (oS (dV 1)) (oN)))
def d_turned_two : DF := dFun 2 3 b_turned_two
def b_hummer_count : DS :=
  dRt (dB bSum (dCons (dL (dLC [1] (dRg1 (dCons (dB bLen (dCons (dV 0) (dNil))) (dNil))) (gN 1) (dYes) (dIf (dT (d2 fEq (d2 fAnd (dV 1) (dK (.int 1))) (dK (.int 0)))) (d2 fIxA (dV 0) (dV 1)) (d2 fSub (dK (.int 0)) (d2 fIxA (dV 0) (dV 1)))))) (dNil)))
def d_hummer_count : DF := dFun 1 2 b_hummer_count
def b_is_hummer : DS :=
  dRt (dTv (dAnd (dT (d2 fEq (d2 fAnd (dB bLen (dCons (dV 0) (dNil))) (dK (.int 1))) (dK (.int 0)))) (dT (d2 fEq (dCall d_hummer_count (dCons (dV 0) (dNil))) (dK (.int 0))))))
def d_is_hummer : DF := dFun 1 1 b_is_hummer
def b_all_hummer : DS :=
  dSq (dAsg (d2 fMulA (dTup (dVs (dCons (dK (.int 0)) (dNil)))) (dV 0)) (gN 1))
  (dSq (dAsg (dDisp1 (dV 1) (dK (.bl true))) (gN 2))
  (dSq (dAsg (dN (dLst (dVs (dCons (dV 1) (dNil))))) (gN 3))
  (dSq (dWh 1000000 (dT (d2 fNe (dV 3) (dL (dLst (dVs (dNil)))))) (dSq (dAsg (dM isL mPop (dV 3) dNil) (gN 4))
  (dFor (dSeq (dTup (dVs (dCons (dCall d_turned_two (dCons (dV 4) (dCons (dK (.int 2)) (dNil)))) (dCons (d2 fAdd (dSl (dV 4) (oS (dK (.int 1))) (oN)) (dSl (dV 4) (oN) (oS (dK (.int 1))))) (dNil)))))) (gN 5) (dIfS (dT (d2 fNotInA (dV 5) (dV 2))) (dSq (dAsg (dK (.bl true)) (gSubA (dV 2) (dV 5)))
  (dDo (dM isL mAppend (dV 3) (dCons (dV 5) (dNil))))) (dNx)))))
  (dRt (dL (dBF bSortedA (dCons (dV 2) (dNil))))))))
def d_all_hummer : DF := dFun 1 6 b_all_hummer
def b_monge_order : DS :=
  dSq (dAsg (dN (dLst (dVs (dNil)))) (gN 1))
  (dSq (dFor (dRg1 (dCons (dV 0) (dNil))) (gN 2) (dIfS (dT (d2 fEq (d2 fAnd (dV 2) (dK (.int 1))) (dK (.int 1)))) (dDo (dM isL mInsert (dV 1) (dCons (dK (.int 0)) (dCons (dV 2) (dNil))))) (dDo (dM isL mAppend (dV 1) (dCons (dV 2) (dNil))))))
  (dRt (dB bTuple (dCons (dV 1) (dNil)))))
def d_monge_order : DF := dFun 1 3 b_monge_order
def b__law_next : DS :=
  dSq (dAsg (d2 fIxA (dV 0) (dK (.int 2))) (gN 2))
  (dSq (dIfS (dT (d2 fEq (dV 2) (dK (.int 0)))) (dSq (dAsg (dK (.int 0)) (gN 3))
  (dSq (dIfS (dT (d2 fLt (d2 fIxA (dV 0) (dK (.int 1))) (dB bLen (dCons (d2 fIxA (dV 0) (dK (.int 0))) (dNil))))) (dSq (dAsg (dB bAbs (dCons (dB bInt (dCons (d2 fIxA (d2 fIxA (dV 0) (dK (.int 0))) (d2 fIxA (dV 0) (dK (.int 1)))) (dNil))) (dNil))) (gN 3))
  (dAsg (d2 fAdd (d2 fIxA (dV 0) (dK (.int 1))) (dK (.int 1))) (gSubA (dV 0) (dK (.int 1))))) (dNx))
  (dSq (dAsg (dV 3) (gN 2))
  (dIfS (dT (d2 fLt (dV 3) (d2 fPow (dK (.int 10)) (dK (.int 18))))) (dSq (dAsg (d2 fMod (dB bInt (dCons (d2 fAdd (d2 fAdd (d2 fMulA (d2 fIxA (dV 0) (dK (.int 3))) (dK (.int 69621))) (d2 fMulA (dV 3) (dK (.int 40692)))) (dK (.int 17))) (dNil))) (dK (.int 2147483647))) (gSubA (dV 0) (dK (.int 3))))
  (dRt (d2 fMod (d2 fMod (dB bInt (dCons (d2 fMulA (dB bInt (dCons (d2 fDiv (d2 fIxA (dV 0) (dK (.int 3))) (dK (.int 5))) (dNil))) (dK (.int 48271))) (dNil))) (dK (.int 2147483647))) (dV 1)))) (dNx))))) (dNx))
  (dSq (dAsg (d2 fDiv (dV 2) (dV 1)) (gSubA (dV 0) (dK (.int 2))))
  (dRt (d2 fMod (dB bInt (dCons (dV 2) (dNil))) (dV 1)))))
def d__law_next : DF := dFun 2 4 b__law_next
def b__law_same (d__law_same : Nat → DF) (n : Nat) : DS :=
  dSq (dIfS (dT (dIsN (dV 1))) (dRt (dIsN (dV 0))) (dNx))
  (dSq (dIfS (dT (dIsi .bl (dV 1))) (dRt (dTv (dAnd (dT (dIsi .bl (dV 0))) (dT (d2 fEq (dV 0) (dV 1)))))) (dNx))
  (dSq (dIfS (dT (dIsi .int (dV 1))) (dRt (dTv (dAnd (dT (dIsi .int (dV 0))) (dAnd (dT (dTv (dNot (dT (dIsi .bl (dV 0)))))) (dT (d2 fEq (dV 0) (dV 1))))))) (dNx))
  (dSq (dIfS (dT (dIsi .str (dV 1))) (dRt (dTv (dAnd (dT (dIsi .str (dV 0))) (dT (d2 fEq (dV 0) (dV 1)))))) (dNx))
  (dSq (dIfS (dOr (dAnd (dT (dIsi .lst (dV 1))) (dNot (dT (dIsi .lst (dV 0))))) (dAnd (dT (dIsi .tup (dV 1))) (dNot (dT (dIsi .tup (dV 0)))))) (dRt (dK (.bl false))) (dNx))
  (dRt (dTv (dAnd (dT (d2 fEq (dB bLen (dCons (dV 0) (dNil))) (dB bLen (dCons (dV 1) (dNil))))) (dT (d2 fEq (dL (dLC [2] (dRg1 (dCons (dB bLen (dCons (dV 1) (dNil))) (dNil))) (gN 2) (dNot (dT (dCall (d__law_same n) (dCons (d2 fIxA (dV 0) (dV 2)) (dCons (d2 fIxA (dV 1) (dV 2)) (dNil)))))) (dK (.int 1)))) (dL (dLst (dVs (dNil)))))))))))))
def r__law_same : Nat → DF
  | 0 => dfNo
  | n + 1 => dFun 2 3 (b__law_same (fun _ => r__law_same n) n)
def d__law_same : DF := r__law_same 8
def b__law_out : DS :=
  dSq (dPar3 2 3 4 (dCons (dN (d2F fRep (dL (dLst (dVs (dCons (dK (.bl true)) (dNil))))) (dV 0))) (dCons (dN (dLst (dVs (dNil)))) (dCons (d2 fSub (dV 0) (dK (.int 1))) (dNil)))))
  (dSq (dWh 1000000 (dT (d2 fLt (dB bLen (dCons (dV 3) (dNil))) (dV 0))) (dSq (dAsg (dV 1) (gN 5))
  (dSq (dWh 1000000 (dT (d2 fGt (dV 5) (dK (.int 0)))) (dSq (dAsg (d2 fMod (dB bInt (dCons (d2 fAdd (dV 4) (dK (.int 1))) (dNil))) (dV 0)) (gN 4))
  (dAsg (d2 fSub (dV 5) (dB bInt (dCons (d2 fIxA (dV 2) (dV 4)) (dNil)))) (gN 5))))
  (dSq (dAsg (dK (.bl false)) (gSubA (dV 2) (dV 4)))
  (dDo (dM isL mAppend (dV 3) (dCons (dV 4) (dNil))))))))
  (dRt (dB bTuple (dCons (dV 3) (dNil)))))
def d__law_out : DF := dFun 2 6 b__law_out
def law_s0 : DS := dAsg (dN (dLst (dVs (dCons (dL (dBF bList (dCons (dV 0) (dNil)))) (dCons (dK (.int 0)) (dCons (dK (.int 0)) (dCons (dK (.int 74)) (dNil)))))))) (gN 1)
def law_s1 : DS := dPar2 2 3 (dCons (d2 fAdd (dK (.int 1)) (dCall d__law_next (dCons (dV 1) (dCons (dK (.int 12)) (dNil))))) (dCons (d2 fAdd (dK (.int 1)) (dCall d__law_next (dCons (dV 1) (dCons (dK (.int 9)) (dNil))))) (dNil)))
def law_s2 : DS := dAsg (dCall d__law_out (dCons (dV 2) (dCons (dV 3) (dNil)))) (gN 4)
def law_s3 : DS := dIfS (dNot (dT (dCall d__law_same (dCons (dL (dLst (dVs (dCons (dCall d_count_out (dCons (dV 2) (dCons (dV 3) (dNil)))) (dCons (dCall d_last_of_count (dCons (dV 2) (dCons (dV 3) (dNil)))) (dCons (dCall d_count_out (dCons (dK (.int 0)) (dCons (dV 3) (dNil)))) (dNil))))))) (dCons (dL (dLst (dVs (dCons (dV 4) (dCons (d2 fIxA (dV 4) (d1 fNeg (dK (.int 1)))) (dCons (dTup (dVs (dNil))) (dNil))))))) (dNil)))))) (dRt (dK (.bl false))) (dNx)
def law_s4 : DS := dPar2 5 6 (dCons (dL (dRgL (dR1 (dV 2)))) (dCons (dTup (dVs (dNil))) (dNil)))
def law_s5 : DS := dWh 1000000 (dT (d2 fNe (dV 5) (dL (dLst (dVs (dNil)))))) (dSq (dPar2 6 5 (dCons (d2 fAdd (dV 6) (dTup (dVs (dCons (d2 fIxA (dV 5) (dK (.int 0))) (dNil))))) (dCons (dSl (dV 5) (oS (dK (.int 1))) (oN)) (dNil))))
  (dAsg (d2 fAdd (dSl (dV 5) (oS (dK (.int 1))) (oN)) (dSl (dV 5) (oN) (oS (dK (.int 1))))) (gN 5)))
def law_s6 : DS := dIfS (dOr (dNot (dT (dCall d__law_same (dCons (dCall d_down_and_under (dCons (dV 2) (dNil))) (dCons (dV 6) (dNil)))))) (dT (d2 fNe (dL (dBF bSortedA (dCons (dV 6) (dNil)))) (dL (dRgL (dR1 (dV 2))))))) (dRt (dK (.bl false))) (dNx)
def law_s7 : DS := dAsg (dK (.int 1)) (gN 7)
def law_s8 : DS := dWh 1000000 (dT (d2 fLe (d2 fMulA (dK (.int 2)) (dV 7)) (dV 2))) (dAsg (d2 fMulA (dK (.int 2)) (dV 7)) (gN 7))
def law_s9 : DS := dIfS (dT (d2 fNe (d2 fIxA (dV 6) (d1 fNeg (dK (.int 1)))) (dIf (dT (d2 fGt (dV 2) (dV 7))) (d2 fSub (d2 fMulA (dK (.int 2)) (d2 fSub (dV 2) (dV 7))) (dK (.int 1))) (d2 fSub (dV 2) (dK (.int 1)))))) (dRt (dK (.bl false))) (dNx)
def law_s10 : DS := dAsg (dL (dLst (dVs (dNil)))) (gN 8)
def law_s11 : DS := dFor (dRg1 (dCons (dV 2) (dNil))) (gN 9) (dAsg (dIf (dT (d2 fEq (d2 fMod (dB bInt (dCons (dV 9) (dNil))) (dK (.int 2))) (dK (.int 1)))) (d2 fAdd (dL (dLst (dVs (dCons (dV 9) (dNil))))) (dV 8)) (d2 fAdd (dV 8) (dL (dLst (dVs (dCons (dV 9) (dNil))))))) (gN 8))
def law_s12 : DS := dIfS (dT (d2 fNe (dCall d_monge_order (dCons (dV 2) (dNil))) (dB bTuple (dCons (dV 8) (dNil))))) (dRt (dK (.bl false))) (dNx)
def law_s13 : DS := dAsg (d2 fMulA (dK (.int 2)) (d2 fAdd (dK (.int 1)) (dCall d__law_next (dCons (dV 1) (dCons (dK (.int 4)) (dNil)))))) (gN 10)
def law_s14 : DS := dAsg (dB bTuple (dCons (dL (dLC [27] (dRg1 (dCons (dV 10) (dNil))) (gN 27) (dYes) (dCall d__law_next (dCons (dV 1) (dCons (dK (.int 2)) (dNil)))))) (dNil))) (gN 11)
def law_s15 : DS := dAsg (dCall d__law_next (dCons (dV 1) (dCons (d2 fAdd (dV 10) (dK (.int 1))) (dNil)))) (gN 12)
def law_s16 : DS := dAsg (d2 fAdd (dB bTuple (dCons (dL (dLC [27] (dRg1 (dCons (dV 12) (dNil))) (gN 27) (dYes) (d2 fSub (dK (.int 1)) (d2 fIxA (dV 11) (d2 fSub (d2 fSub (dV 12) (dK (.int 1))) (dV 27)))))) (dNil))) (dSl (dV 11) (oS (dV 12)) (oN))) (gN 13)
def law_s17 : DS := dAsg (d2 fSub (dB bSum (dCons (dL (dLC [27] (dRg3 (dCons (dK (.int 0)) (dCons (dV 10) (dCons (dK (.int 2)) (dNil))))) (gN 27) (dYes) (d2 fIxA (dV 11) (dV 27)))) (dNil))) (dB bSum (dCons (dL (dLC [27] (dRg3 (dCons (dK (.int 1)) (dCons (dV 10) (dCons (dK (.int 2)) (dNil))))) (gN 27) (dYes) (d2 fIxA (dV 11) (dV 27)))) (dNil)))) (gN 14)
def law_s18 : DS := dIfS (dNot (dT (dCall d__law_same (dCons (dL (dLst (dVs (dCons (dCall d_turned_two (dCons (dV 11) (dCons (dV 12) (dNil)))) (dCons (dCall d_hummer_count (dCons (dV 11) (dNil))) (dCons (dCall d_is_hummer (dCons (dV 11) (dNil))) (dCons (dCall d_is_hummer (dCons (d2 fAdd (dV 11) (dTup (dVs (dCons (dK (.int 0)) (dNil))))) (dNil))) (dNil)))))))) (dCons (dL (dLst (dVs (dCons (dV 13) (dCons (dV 14) (dCons (d2 fEq (dV 14) (dK (.int 0))) (dCons (dK (.bl false)) (dNil)))))))) (dNil)))))) (dRt (dK (.bl false))) (dNx)
def law_s19 : DS := dAsg (d2 fMulA (dK (.int 2)) (dCall d__law_next (dCons (dV 1) (dCons (d2 fAdd (d2 fDiv (dV 10) (dK (.int 2))) (dK (.int 1))) (dNil))))) (gN 15)
def law_s20 : DS := dAsg (dCall d__law_next (dCons (dV 1) (dCons (dV 10) (dNil)))) (gN 16)
def law_s21 : DS := dAsg (dIf (dT (d2 fEq (d2 fMod (dB bInt (dCons (dV 16) (dNil))) (dK (.int 2))) (dK (.int 0)))) (dK (.int 1)) (d1 fNeg (dK (.int 1)))) (gN 17)
def law_s22 : DS := dIfS (dOr (dT (d2 fNe (dCall d_hummer_count (dCons (dCall d_turned_two (dCons (dV 11) (dCons (dV 15) (dNil)))) (dNil))) (dV 14))) (dT (d2 fNe (dCall d_hummer_count (dCons (d2 fAdd (dSl (dV 11) (oS (dV 16)) (oN)) (dSl (dV 11) (oN) (oS (dV 16)))) (dNil))) (d2 fMulA (dV 17) (dV 14))))) (dRt (dK (.bl false))) (dNx)
def law_s23 : DS := dAsg (d2 fIxA (dTup (dVs (dCons (dK (.int 2)) (dCons (dK (.int 4)) (dCons (dK (.int 6)) (dNil)))))) (dCall d__law_next (dCons (dV 1) (dCons (dK (.int 3)) (dNil))))) (gN 18)
def law_s24 : DS := dAsg (dL (dLst (dVs (dCons (dTup (dVs (dNil))) (dNil))))) (gN 19)
def law_s25 : DS := dFor (dRg1 (dCons (dV 18) (dNil))) (gN 20) (dSq (dAsg (dL (dLst (dVs (dNil)))) (gN 21))
  (dSq (dFor (dSeq (dV 19)) (gN 22) (dAsg (d2 fAdd (dV 21) (dL (dLC [28] (dSeq (dTup (dVs (dCons (dK (.int 0)) (dCons (dK (.int 1)) (dNil)))))) (gN 28) (dYes) (d2 fAdd (dV 22) (dTup (dVs (dCons (dV 28) (dNil)))))))) (gN 21)))
  (dAsg (dV 21) (gN 19))))
def law_s26 : DS := dAsg (dL (dLC [22] (dSeq (dV 19)) (gN 22) (dT (d2 fEq (dB bSum (dCons (dL (dLC [27] (dRg3 (dCons (dK (.int 0)) (dCons (dV 18) (dCons (dK (.int 2)) (dNil))))) (gN 27) (dYes) (d2 fIxA (dV 22) (dV 27)))) (dNil))) (dB bSum (dCons (dL (dLC [27] (dRg3 (dCons (dK (.int 1)) (dCons (dV 18) (dCons (dK (.int 2)) (dNil))))) (gN 27) (dYes) (d2 fIxA (dV 22) (dV 27)))) (dNil))))) (dV 22))) (gN 23)
def law_s27 : DS := dPar2 24 25 (dCons (dL (dLst (dVs (dCons (d2 fMulA (dTup (dVs (dCons (dK (.int 0)) (dNil)))) (dV 18)) (dNil))))) (dCons (dL (dLst (dVs (dCons (d2 fMulA (dTup (dVs (dCons (dK (.int 0)) (dNil)))) (dV 18)) (dNil))))) (dNil)))
def law_s28 : DS := dWh 1000000 (dT (d2 fNe (dV 25) (dL (dLst (dVs (dNil)))))) (dSq (dPar2 26 25 (dCons (d2 fIxA (dV 25) (dK (.int 0))) (dCons (dSl (dV 25) (oS (dK (.int 1))) (oN)) (dNil))))
  (dFor (dSeq (dTup (dVs (dCons (d2 fAdd (dTup (dVs (dCons (d2 fSub (dK (.int 1)) (d2 fIxA (dV 26) (dK (.int 1)))) (dCons (d2 fSub (dK (.int 1)) (d2 fIxA (dV 26) (dK (.int 0)))) (dNil))))) (dSl (dV 26) (oS (dK (.int 2))) (oN))) (dCons (d2 fAdd (dSl (dV 26) (oS (dK (.int 1))) (oN)) (dSl (dV 26) (oN) (oS (dK (.int 1))))) (dNil)))))) (gN 21) (dIfS (dT (d2 fNotInA (dV 21) (dV 24))) (dPar2 24 25 (dCons (d2 fAdd (dV 24) (dL (dLst (dVs (dCons (dV 21) (dNil)))))) (dCons (d2 fAdd (dV 25) (dL (dLst (dVs (dCons (dV 21) (dNil)))))) (dNil)))) (dNx))))
def law_s29 : DS := dRt (dTv (dAnd (dT (d2 fEq (dL (dBF bSortedA (dCons (dV 24) (dNil)))) (dV 23))) (dT (dCall d__law_same (dCons (dCall d_all_hummer (dCons (dV 18) (dNil))) (dCons (dV 23) (dNil)))))))
def b_law : DS :=
  dSq law_s0 (dSq law_s1 (dSq law_s2 (dSq law_s3 (dSq law_s4 (dSq law_s5 (dSq law_s6 (dSq law_s7 (dSq law_s8 (dSq law_s9 (dSq law_s10 (dSq law_s11 (dSq law_s12 (dSq law_s13 (dSq law_s14 (dSq law_s15 (dSq law_s16 (dSq law_s17 (dSq law_s18 (dSq law_s19 (dSq law_s20 (dSq law_s21 (dSq law_s22 (dSq law_s23 (dSq law_s24 (dSq law_s25 (dSq law_s26 (dSq law_s27 (dSq law_s28 (law_s29)))))))))))))))))))))))))))))
def d_law : DF := dFun 1 29 b_law
end K74

set_option Elab.async false
set_option linter.all false
set_option autoImplicit false
set_option maxRecDepth 100000
namespace K74
open EV PySem L2
theorem next_run (ns : List Int) (i rest seed m : Int) (hl : ns.length ≤ 63) (hi : 0 ≤ i) (hr : 0 ≤ rest) (hs : 0 ≤ seed) (hs2 : seed < 2147483647) (h0 : 0 < m) (hm : m < 18446744073709551616) :
    ∃ (r i' rest' seed' : Int), b__law_next [some (.ref 0), some (.int m), none, none] [tp ns i rest seed] = .rt (.int r) [tp ns i' rest' seed'] ∧ 0 ≤ i' ∧ 0 ≤ rest' ∧ 0 ≤ seed' ∧ seed' < 2147483647 ∧ 0 ≤ r ∧ r < m := by
  have last : ∀ (ρ : Rho) (i rest seed : Int), 0 ≤ i → 0 ≤ rest → 0 ≤ seed → seed < 2147483647 → (∃ z, ρ = [some (.ref 0), some (.int m), some (.int rest), z]) → ∃ (r i' rest' seed' : Int),
      dSq (dAsg (d2 fDiv (dV 2) (dV 1)) (gSubA (dV 0) (dK (.int 2)))) (dRt (d2 fMod (dB bInt (dCons (dV 2) (dNil))) (dV 1))) ρ [tp ns i rest seed] = .rt (.int r) [tp ns i' rest' seed'] ∧ 0 ≤ i' ∧ 0 ≤ rest' ∧ 0 ≤ seed' ∧ seed' < 2147483647 ∧ 0 ≤ r ∧ r < m := by
    intro ρ i rest seed hi hr hs hs2 ⟨z, e⟩
    subst e
    have hd : divOk m = true := divOk_of h0 (lt_pow_of (b := 64) (by omega) (by decide))
    have e1 : d2 fDiv (dV 2) (dV 1) [some (PV.ref 0), some (PV.int m), some (PV.int rest), z] [tp ns i rest seed] = .ok (.int (rest / m)) [tp ns i rest seed] := by
      rw [x_2 (x_v rfl) (x_v rfl)]; unfold fDiv; simp only [hd, if_true]
    have e2 : dAsg (d2 fDiv (dV 2) (dV 1)) (gSubA (dV 0) (dK (.int 2))) [some (PV.ref 0), some (PV.int m), some (PV.int rest), z] [tp ns i rest seed] = .nx [some (PV.ref 0), some (PV.int m), some (PV.int rest), z] [tp ns i (rest / m) seed] := by
      unfold dAsg; rw [e1]; rfl
    rw [x_sq e2]
    refine ⟨rest % m, i, rest / m, seed, ?_, hi, Int.ediv_nonneg hr (Int.le_of_lt h0), hs, hs2, Int.emod_nonneg _ (Int.ne_of_gt h0), Int.emod_lt_of_pos _ h0⟩
    refine x_ret ?_
    have e3 : dB bInt (dCons (dV 2) (dNil)) [some (PV.ref 0), some (PV.int m), some (PV.int rest), z] [tp ns i (rest / m) seed] = .ok (.int rest) [tp ns i (rest / m) seed] := rfl
    rw [x_2 e3 (x_v rfl)]; unfold fMod; simp only [h0, if_true]
  unfold b__law_next
  rw [x_sq (ρ1 := [some (.ref 0), some (.int m), some (.int rest), none]) (μ1 := [tp ns i rest seed]) (by rfl)]
  by_cases hz : rest = 0
  case neg =>
    have ec : dT (d2 fEq (dV 2) (dK (.int 0))) [some (PV.ref 0), some (PV.int m), some (PV.int rest), none] [tp ns i rest seed] = .ok false [tp ns i rest seed] := by
      have : (rest == 0) = false := by simpa using hz
      show R.ok (rest == 0) _ = _
      rw [this]
    rw [x_sq (b := dSq (dAsg (d2 fDiv (dV 2) (dV 1)) (gSubA (dV 0) (dK (.int 2)))) (dRt (d2 fMod (dB bInt (dCons (dV 2) (dNil))) (dV 1)))) (ρ1 := [some (PV.ref 0), some (PV.int m), some (PV.int rest), none]) (μ1 := [tp ns i rest seed]) ((x_iff ec).trans (by rfl))]
    exact last _ _ _ _ hi hr hs hs2 ⟨_, rfl⟩
  subst hz
  have ec : dT (d2 fEq (dV 2) (dK (.int 0))) [some (PV.ref 0), some (PV.int m), some (PV.int 0), none] [tp ns i 0 seed] = .ok true [tp ns i 0 seed] := rfl
  -- the cell
  have cell : ∃ (c i' : Int), 0 ≤ c ∧ 0 ≤ i' ∧ dIfS (dT (d2 fLt (d2 fIxA (dV 0) (dK (.int 1))) (dB bLen (dCons (d2 fIxA (dV 0) (dK (.int 0))) (dNil))))) (dSq (dAsg (dB bAbs (dCons (dB bInt (dCons (d2 fIxA (d2 fIxA (dV 0) (dK (.int 0))) (d2 fIxA (dV 0) (dK (.int 1)))) (dNil))) (dNil))) (gN 3))
      (dAsg (d2 fAdd (d2 fIxA (dV 0) (dK (.int 1))) (dK (.int 1))) (gSubA (dV 0) (dK (.int 1))))) (dNx) [some (PV.ref 0), some (PV.int m), some (PV.int 0), some (PV.int 0)] [tp ns i 0 seed] = .nx [some (PV.ref 0), some (PV.int m), some (PV.int 0), some (PV.int c)] [tp ns i' 0 seed] := by
    have el : dT (d2 fLt (d2 fIxA (dV 0) (dK (.int 1))) (dB bLen (dCons (d2 fIxA (dV 0) (dK (.int 0))) (dNil)))) [some (PV.ref 0), some (PV.int m), some (PV.int 0), some (PV.int 0)] [tp ns i 0 seed] = .ok (decide (i < ((ns.map PV.int).length : Int))) [tp ns i 0 seed] := rfl
    by_cases hlt : i < ((ns.map PV.int).length : Int)
    · rw [decide_eq_true hlt] at el
      rw [x_ift el]
      obtain ⟨x, ea⟩ : ∃ x : Int, atI (ns.map PV.int) i = some (.int x) := by
        obtain ⟨k, hk⟩ : ∃ k : Nat, i = (k : Int) := ⟨i.toNat, by omega⟩
        subst hk
        have hk : k < ns.length := by rw [List.length_map] at hlt; omega
        exact ⟨ns[k], atI_nat (by rw [List.getElem?_map, List.getElem?_eq_getElem hk]; rfl)⟩
      have e4 : d2 fIxA (d2 fIxA (dV 0) (dK (.int 0))) (d2 fIxA (dV 0) (dK (.int 1))) [some (PV.ref 0), some (PV.int m), some (PV.int 0), some (PV.int 0)] [tp ns i 0 seed] = .ok (.int x) [tp ns i 0 seed] := by
        rw [x_2 (x := .lst (ns.map .int)) (y := .int i) rfl rfl]
        show (match atI (ns.map PV.int) i with | some v => R.ok v _ | none => R.bad) = _
        rw [ea]
      have e5 : dB bAbs (dCons (dB bInt (dCons (d2 fIxA (d2 fIxA (dV 0) (dK (.int 0))) (d2 fIxA (dV 0) (dK (.int 1)))) (dNil))) (dNil)) [some (PV.ref 0), some (PV.int m), some (PV.int 0), some (PV.int 0)] [tp ns i 0 seed] = .ok (.int (if x < 0 then -x else x)) [tp ns i 0 seed] := by
        show (dCons _ _ _ _).bind _ = _
        rw [x_cons (x := .int x) (by show (dCons _ _ _ _).bind _ = _; rw [x_cons e4 x_nil]; rfl) x_nil]
        rfl
      refine ⟨if x < 0 then -x else x, i + 1, by split <;> omega, by omega, ?_⟩
      rw [x_sq (x_asg e5)]
      rfl
    · rw [decide_eq_false hlt] at el
      rw [x_iff el]
      exact ⟨0, i, by omega, hi, rfl⟩
  obtain ⟨c, i', hc, hi', ecell⟩ := cell
  by_cases hb : c < 1000000000000000000
  · -- a small cell: the seed answers
    have hm1 : mulOk seed 69621 = true := mulOk_of (lt_pow_of (b := 32) (by omega) (by decide)) (lt_pow_of (b := 32) (by decide) (by decide))
    have hm2 : mulOk c 40692 = true := mulOk_of (lt_pow_of (b := 64) (by omega) (by decide)) (lt_pow_of (b := 32) (by decide) (by decide))
    generalize hseed : (seed * 69621 + c * 40692 + 17) % 2147483647 = seed2
    have hs3 : 0 ≤ seed2 := by rw [← hseed]; exact Int.emod_nonneg _ (by decide)
    have hs4 : seed2 < 2147483647 := by rw [← hseed]; exact Int.emod_lt_of_pos _ (by decide)
    have hm3 : mulOk (seed2 / 5) 48271 = true := mulOk_of (lt_pow_of (b := 32) (by omega) (by decide)) (lt_pow_of (b := 32) (by decide) (by decide))
    refine ⟨(seed2 / 5 * 48271) % 2147483647 % m, i', 0, seed2, ?_, hi', by omega, hs3, hs4, Int.emod_nonneg _ (Int.ne_of_gt h0), Int.emod_lt_of_pos _ h0⟩
    refine x_sqr ((x_ift ec).trans ?_)
    rw [x_sq (ρ1 := [some (.ref 0), some (.int m), some (.int 0), some (.int 0)]) (μ1 := [tp ns i 0 seed]) (by rfl), x_sq ecell,
      x_sq (ρ1 := [some (.ref 0), some (.int m), some (.int c), some (.int c)]) (μ1 := [tp ns i' 0 seed]) (by rfl)]
    have e6 : dT (d2 fLt (dV 3) (d2 fPow (dK (.int 10)) (dK (.int 18)))) [some (PV.ref 0), some (PV.int m), some (PV.int c), some (PV.int c)] [tp ns i' 0 seed] = .ok true [tp ns i' 0 seed] := by
      show R.ok (decide (c < 1000000000000000000)) _ = _
      rw [decide_eq_true hb]
    rw [x_ift e6]
    have e7 : d2 fMod (dB bInt (dCons (d2 fAdd (d2 fAdd (d2 fMulA (d2 fIxA (dV 0) (dK (.int 3))) (dK (.int 69621))) (d2 fMulA (dV 3) (dK (.int 40692)))) (dK (.int 17))) (dNil))) (dK (.int 2147483647)) [some (PV.ref 0), some (PV.int m), some (PV.int c), some (PV.int c)] [tp ns i' 0 seed] = .ok (.int seed2) [tp ns i' 0 seed] := by
      have z1 := x_mul (ρ := [some (PV.ref 0), some (PV.int m), some (PV.int c), some (PV.int c)]) (μ := [tp ns i' 0 seed]) (da := d2 fIxA (dV 0) (dK (.int 3))) (db := dK (.int 69621)) (p := seed) (q := 69621) rfl rfl hm1
      have z2 := x_mul (ρ := [some (PV.ref 0), some (PV.int m), some (PV.int c), some (PV.int c)]) (μ := [tp ns i' 0 seed]) (da := dV 3) (db := dK (.int 40692)) (p := c) (q := 40692) rfl rfl hm2
      have z3 := x_add (x_add z1 z2) (db := dK (.int 17)) (q := 17) rfl
      rw [x_2 (x := .int (seed * 69621 + c * 40692 + 17)) (by show (dCons _ _ _ _).bind _ = _; rw [x_cons z3 x_nil]; rfl) rfl]
      rw [← hseed]
      rfl
    rw [x_sq (ρ1 := [some (.ref 0), some (.int m), some (.int c), some (.int c)]) (μ1 := [tp ns i' 0 seed2]) (by unfold dAsg; rw [e7]; rfl)]
    refine x_ret ?_
    have z1 := x_mul (ρ := [some (PV.ref 0), some (PV.int m), some (PV.int c), some (PV.int c)]) (μ := [tp ns i' 0 seed2]) (da := dB bInt (dCons (d2 fDiv (d2 fIxA (dV 0) (dK (.int 3))) (dK (.int 5))) (dNil))) (db := dK (.int 48271)) (p := seed2 / 5) (q := 48271) rfl rfl hm3
    have z2 : d2 fMod (dB bInt (dCons (d2 fMulA (dB bInt (dCons (d2 fDiv (d2 fIxA (dV 0) (dK (.int 3))) (dK (.int 5))) (dNil))) (dK (.int 48271))) (dNil))) (dK (.int 2147483647)) [some (PV.ref 0), some (PV.int m), some (PV.int c), some (PV.int c)] [tp ns i' 0 seed2] = .ok (.int (seed2 / 5 * 48271 % 2147483647)) [tp ns i' 0 seed2] := by
      rw [x_2 (x := .int (seed2 / 5 * 48271)) (by show (dCons _ _ _ _).bind _ = _; rw [x_cons z1 x_nil]; rfl) rfl]
      rfl
    rw [x_2 z2 (x_v rfl)]; unfold fMod; simp only [h0, if_true]
  · have key : dIfS (dT (d2 fEq (dV 2) (dK (.int 0)))) (dSq (dAsg (dK (.int 0)) (gN 3))
      (dSq (dIfS (dT (d2 fLt (d2 fIxA (dV 0) (dK (.int 1))) (dB bLen (dCons (d2 fIxA (dV 0) (dK (.int 0))) (dNil))))) (dSq (dAsg (dB bAbs (dCons (dB bInt (dCons (d2 fIxA (d2 fIxA (dV 0) (dK (.int 0))) (d2 fIxA (dV 0) (dK (.int 1)))) (dNil))) (dNil))) (gN 3))
      (dAsg (d2 fAdd (d2 fIxA (dV 0) (dK (.int 1))) (dK (.int 1))) (gSubA (dV 0) (dK (.int 1))))) (dNx))
      (dSq (dAsg (dV 3) (gN 2))
      (dIfS (dT (d2 fLt (dV 3) (d2 fPow (dK (.int 10)) (dK (.int 18))))) (dSq (dAsg (d2 fMod (dB bInt (dCons (d2 fAdd (d2 fAdd (d2 fMulA (d2 fIxA (dV 0) (dK (.int 3))) (dK (.int 69621))) (d2 fMulA (dV 3) (dK (.int 40692)))) (dK (.int 17))) (dNil))) (dK (.int 2147483647))) (gSubA (dV 0) (dK (.int 3))))
      (dRt (d2 fMod (d2 fMod (dB bInt (dCons (d2 fMulA (dB bInt (dCons (d2 fDiv (d2 fIxA (dV 0) (dK (.int 3))) (dK (.int 5))) (dNil))) (dK (.int 48271))) (dNil))) (dK (.int 2147483647))) (dV 1)))) (dNx))))) (dNx) [some (PV.ref 0), some (PV.int m), some (PV.int 0), none] [tp ns i 0 seed] = .nx [some (PV.ref 0), some (PV.int m), some (PV.int c), some (PV.int c)] [tp ns i' 0 seed] := by
      rw [x_ift ec, x_sq (ρ1 := [some (.ref 0), some (.int m), some (.int 0), some (.int 0)]) (μ1 := [tp ns i 0 seed]) (by rfl), x_sq ecell,
        x_sq (ρ1 := [some (.ref 0), some (.int m), some (.int c), some (.int c)]) (μ1 := [tp ns i' 0 seed]) (by rfl)]
      have e6 : dT (d2 fLt (dV 3) (d2 fPow (dK (.int 10)) (dK (.int 18)))) [some (PV.ref 0), some (PV.int m), some (PV.int c), some (PV.int c)] [tp ns i' 0 seed] = .ok false [tp ns i' 0 seed] := by
        show R.ok (decide (c < 1000000000000000000)) _ = _
        rw [decide_eq_false hb]
      rw [x_iff e6]
      rfl
    rw [x_sq key]
    -- the tape's rest is 0 there, the cell goes on
    have hd : divOk m = true := divOk_of h0 (lt_pow_of (b := 64) (by omega) (by decide))
    have e1 : d2 fDiv (dV 2) (dV 1) [some (PV.ref 0), some (PV.int m), some (PV.int c), some (PV.int c)] [tp ns i' 0 seed] = .ok (.int (c / m)) [tp ns i' 0 seed] := by
      rw [x_2 (x_v rfl) (x_v rfl)]; unfold fDiv; simp only [hd, if_true]
    have e2 : dAsg (d2 fDiv (dV 2) (dV 1)) (gSubA (dV 0) (dK (.int 2))) [some (PV.ref 0), some (PV.int m), some (PV.int c), some (PV.int c)] [tp ns i' 0 seed] = .nx [some (PV.ref 0), some (PV.int m), some (PV.int c), some (PV.int c)] [tp ns i' (c / m) seed] := by
      unfold dAsg; rw [e1]; rfl
    rw [x_sq e2]
    refine ⟨c % m, i', c / m, seed, ?_, hi', Int.ediv_nonneg hc (Int.le_of_lt h0), hs, hs2, Int.emod_nonneg _ (Int.ne_of_gt h0), Int.emod_lt_of_pos _ h0⟩
    refine x_ret ?_
    have e3 : dB bInt (dCons (dV 2) (dNil)) [some (PV.ref 0), some (PV.int m), some (PV.int c), some (PV.int c)] [tp ns i' (c / m) seed] = .ok (.int c) [tp ns i' (c / m) seed] := rfl
    rw [x_2 e3 (x_v rfl)]; unfold fMod; simp only [h0, if_true]
theorem draws : Draws d__law_next := by
  rintro T m ⟨ns, i, rest, seed, rfl, hl, hi, hr, hs, hs2⟩ h0 hm
  obtain ⟨r, i', rest', seed', e, h1, h2, h3, h4, h5, h6⟩ := next_run ns i rest seed m hl hi hr hs hs2 h0 hm
  refine ⟨r, tp ns i' rest' seed', ?_, ⟨ns, i', rest', seed', rfl, hl, h1, h2, h3, h4⟩, h5, h6⟩
  show (match b__law_next [some (.ref 0), some (.int m), none, none] [tp ns i rest seed] with | .nx _ μ' => R.ok PV.non (μ'.take 1) | .rt v μ' => fin v 1 μ' | .ex e _ μ' => R.ex e (μ'.take 1) | _ => R.bad) = _
  rw [e]
  rfl
end K74

set_option Elab.async false
set_option linter.all false
set_option autoImplicit false
set_option maxRecDepth 100000
namespace K74
open EV PySem L2
mutual
def lens : PV → Bool
  | .tup xs => Nat.ble xs.length 1000000 && lensAll xs
  | .lst xs => Nat.ble xs.length 1000000 && lensAll xs
  | _ => true
def lensAll : List PV → Bool
  | [] => true
  | x :: xs => lens x && lensAll xs
end
theorem lensAll_get : ∀ {xs : List PV} {i : Nat} {y : PV}, lensAll xs = true → xs[i]? = some y → lens y = true
  | x :: xs, 0, y, h, e => by simp at e; subst e; simp only [lensAll, Bool.and_eq_true] at h; exact h.1
  | x :: xs, i + 1, y, h, e => by simp only [lensAll, Bool.and_eq_true] at h; exact lensAll_get h.2 (by simpa using e)
  | [], i, y, _, e => by simp at e
theorem same_seq {n : Nat} {x : PV} {xs : List PV} (ih : ∀ y ∈ xs, r__law_same n [y, y] [] = .ok (.bl true) []) (hx : x = .tup xs ∨ x = .lst xs) (he : isEs xs = true) (hl : xs.length ≤ 1000000) :
    r__law_same (n + 1) [x, x] [] = .ok (.bl true) [] := by
  have hq : ∀ μ, sqOf μ x = some xs := fun μ => by rcases hx with rfl | rfl <;> rfl
  have hdct : ∀ μ, dctOf μ x = none := fun μ => by rcases hx with rfl | rfl <;> rfl
  have hnr : ∀ k, x ≠ .ref k := fun k => by rcases hx with rfl | rfl <;> (intro z; cases z)
  have elen : ∀ z, dB bLen (dCons (dV 1) (dNil)) [some x, some x, z] [] = .ok (.int xs.length) [] := fun z => by
    show (dCons _ _ _ _).bind _ = _
    rw [x_cons (x_v rfl) x_nil]
    show bLen [x] [] = _
    unfold bLen
    simp only [hq]
  have elen0 : ∀ z, dB bLen (dCons (dV 0) (dNil)) [some x, some x, z] [] = .ok (.int xs.length) [] := fun z => by
    show (dCons _ _ _ _).bind _ = _
    rw [x_cons (x_v rfl) x_nil]
    show bLen [x] [] = _
    unfold bLen
    simp only [hq]
  have hr : rgOk (xs.length : Int) = true := by
    unfold rgOk
    rw [Nat.blt_eq]
    omega
  have eit : dRg1 (dCons (dB bLen (dCons (dV 1) (dNil))) (dNil)) [some x, some x, none] [] = .ok ((upto xs.length).map .int) [] := by
    show (dCons _ _ _ _).bind _ = _
    rw [x_cons (elen _) x_nil]
    simp only [R.bind, hr, if_true, Int.toNat_natCast, rgl_ints]
  have elc : dL (dLC [2] (dRg1 (dCons (dB bLen (dCons (dV 1) (dNil))) (dNil))) (gN 2) (dNot (dT (dCall (r__law_same n) (dCons (d2 fIxA (dV 0) (dV 2)) (dCons (d2 fIxA (dV 1) (dV 2)) (dNil)))))) (dK (.int 1))) [some x, some x, none] [] = .ok (.lst []) [] := by
    refine lc_run eit (lc_none fun p hp => ?_) rfl
    obtain ⟨i, hi, rfl⟩ := List.mem_map.mp hp
    obtain ⟨k, hk, rfl⟩ := List.mem_map.mp hi
    have hk := List.mem_range.mp hk
    obtain ⟨y, ey⟩ : ∃ y, xs[k]? = some y := ⟨xs[k], List.getElem?_eq_getElem hk⟩
    have hy := ih y (List.mem_of_getElem? ey)
    have hye := isEs_mem he (List.mem_of_getElem? ey)
    have at_ : fIxA x (.int (k : Int)) [] = .ok y [] := by
      unfold fIxA
      simp only [hdct]
      unfold fIx
      simp only [hq]
      rw [atI_nat ey]
    have ec : dCall (r__law_same n) (dCons (d2 fIxA (dV 0) (dV 2)) (dCons (d2 fIxA (dV 1) (dV 2)) (dNil))) [some x, some x, some (.int (k : Int))] [] = .ok (.bl true) [] := by
      have r2 := refs_val hye
      have a1 : d2 fIxA (dV 0) (dV 2) [some x, some x, some (.int (k : Int))] [] = .ok y [] := by rw [x_2 (x_v (v := x) rfl) (x_v (v := .int k) rfl)]; exact at_
      have a2 : d2 fIxA (dV 1) (dV 2) [some x, some x, some (.int (k : Int))] [] = .ok y [] := by rw [x_2 (x_v (v := x) rfl) (x_v (v := .int k) rfl)]; exact at_
      exact x_callV (xs := [y, y]) (x_cons a1 (x_cons a2 x_nil)) r2.1 r2.2 (fun _ z => by cases z) hy
    show (dT _ [some x, some x, some (.int (k : Int))] []).bind _ = _
    show ((dCall (r__law_same n) _ [some x, some x, some (.int (k : Int))] []).bind _).bind _ = _
    rw [ec]
    rfl
  have eeq : dT (d2 fEq (dB bLen (dCons (dV 0) (dNil))) (dB bLen (dCons (dV 1) (dNil)))) [some x, some x, none] [] = .ok true [] := by
    show (d2 _ _ _ _ _).bind _ = _
    rw [x_2 (elen0 _) (elen _)]
    have : ((xs.length : Int) == (xs.length : Int)) = true := by simp
    show R.ok ((xs.length : Int) == (xs.length : Int)) _ = _
    rw [this]
  have eend : dTv (dAnd (dT (d2 fEq (dB bLen (dCons (dV 0) (dNil))) (dB bLen (dCons (dV 1) (dNil))))) (dT (d2 fEq (dL (dLC [2] (dRg1 (dCons (dB bLen (dCons (dV 1) (dNil))) (dNil))) (gN 2) (dNot (dT (dCall (r__law_same n) (dCons (d2 fIxA (dV 0) (dV 2)) (dCons (d2 fIxA (dV 1) (dV 2)) (dNil)))))) (dK (.int 1)))) (dL (dLst (dVs (dNil))))))) [some x, some x, none] [] = .ok (.bl true) [] := by
    show ((dT _ _ _).bind _).bind _ = _
    rw [eeq]
    show (dT _ _ _).bind _ = _
    have : dT (d2 fEq (dL (dLC [2] (dRg1 (dCons (dB bLen (dCons (dV 1) (dNil))) (dNil))) (gN 2) (dNot (dT (dCall (r__law_same n) (dCons (d2 fIxA (dV 0) (dV 2)) (dCons (d2 fIxA (dV 1) (dV 2)) (dNil)))))) (dK (.int 1)))) (dL (dLst (dVs (dNil))))) [some x, some x, none] [] = .ok true [] := by
      show (d2 _ _ _ _ _).bind _ = _
      rw [x_2 (y := .lst []) elc rfl]
      rfl
    rw [this]
    rfl
  have body : b__law_same (fun _ => r__law_same n) n [some x, some x, none] [] = .rt (.bl true) [] := by
    unfold b__law_same
    rcases hx with rfl | rfl
    · rw [x_sq (ρ1 := [some (.tup xs), some (.tup xs), none]) (μ1 := []) (by rfl), x_sq (ρ1 := [some (.tup xs), some (.tup xs), none]) (μ1 := []) (by rfl), x_sq (ρ1 := [some (.tup xs), some (.tup xs), none]) (μ1 := []) (by rfl), x_sq (ρ1 := [some (.tup xs), some (.tup xs), none]) (μ1 := []) (by rfl), x_sq (ρ1 := [some (.tup xs), some (.tup xs), none]) (μ1 := []) (by rfl)]
      exact x_ret eend
    · rw [x_sq (ρ1 := [some (.lst xs), some (.lst xs), none]) (μ1 := []) (by rfl), x_sq (ρ1 := [some (.lst xs), some (.lst xs), none]) (μ1 := []) (by rfl), x_sq (ρ1 := [some (.lst xs), some (.lst xs), none]) (μ1 := []) (by rfl), x_sq (ρ1 := [some (.lst xs), some (.lst xs), none]) (μ1 := []) (by rfl), x_sq (ρ1 := [some (.lst xs), some (.lst xs), none]) (μ1 := []) (by rfl)]
      exact x_ret eend
  show (match b__law_same (fun _ => r__law_same n) n [some x, some x, none] [] with | .nx _ μ' => R.ok PV.non (μ'.take 0) | .rt v μ' => fin v 0 μ' | .ex e _ μ' => R.ex e (μ'.take 0) | _ => R.bad) = _
  rw [body]
  rfl
theorem same_refl : ∀ (n : Nat) (x : PV), dep x < n → isE x = true → lens x = true → r__law_same n [x, x] [] = .ok (.bl true) []
  | 0, x, h, _, _ => absurd h (Nat.not_lt_zero _)
  | n + 1, .non, _, _, _ => rfl
  | n + 1, .bl true, _, _, _ => rfl
  | n + 1, .bl false, _, _, _ => rfl
  | n + 1, .int i, _, _, _ => by
    have h : (i == i) = true := by simp
    show R.ok (PV.bl (i == i)) [] = _
    rw [h]
  | n + 1, .str s, _, _, _ => by
    have h : decide (s = s) = true := by simp
    show R.ok (PV.bl (decide (s = s))) [] = _
    rw [h]
  | n + 1, .tup xs, h, he, hl => by
    simp only [lens, Bool.and_eq_true] at hl
    refine same_seq (fun y hy => ?_) (.inl rfl) he (Nat.le_of_ble_eq_true hl.1)
    obtain ⟨i, hi⟩ := List.getElem?_of_mem hy
    exact same_refl n y (by have := deps_mem hy; simp only [dep] at h; omega) (isEs_mem he hy) (lensAll_get hl.2 hi)
  | n + 1, .lst xs, h, he, hl => by
    simp only [lens, Bool.and_eq_true] at hl
    refine same_seq (fun y hy => ?_) (.inr rfl) he (Nat.le_of_ble_eq_true hl.1)
    obtain ⟨i, hi⟩ := List.getElem?_of_mem hy
    exact same_refl n y (by have := deps_mem hy; simp only [dep] at h; omega) (isEs_mem he hy) (lensAll_get hl.2 hi)
  | n + 1, .scr _, _, h, _ => by cases h
  | n + 1, .dct _ _, _, h, _ => by cases h
  | n + 1, .ins _ _ _, _, h, _ => by cases h
  | n + 1, .ref _, _, h, _ => by cases h
/-- what is the same is told to be -/
theorem same_ok {x : PV} (h : dep x < 8) (he : isE x = true) (hl : lens x = true) : d__law_same [x, x] [] = .ok (.bl true) [] := same_refl 8 x h he hl
end K74

set_option Elab.async false
set_option linter.all false
set_option autoImplicit false
set_option maxRecDepth 100000
set_option maxHeartbeats 0
namespace K74
open EV PySem L2
abbrev o0 : Option PV := some (.ref 0)
/-! ### what the functions compute -/
def hcS (row : List Int) : Int := ((upto row.length).map fun k => if (Builtin.bitAnd k 1 == 0) = true then row.getD k.toNat 0 else 0 - row.getD k.toNat 0).sum
def ttS (row : List Int) (t : Nat) : List Int := (row.take t).reverse.map (fun x => 1 - x) ++ row.drop t
theorem x_dif {c : DT} {a b : D} {ρ : Rho} {μ μ1 : Mu} {k : Bool} (h : c ρ μ = .ok k μ1) : dIf c a b ρ μ = if k = true then a ρ μ1 else b ρ μ1 := by
  show (c ρ μ).bind _ = _
  rw [h]; rfl
theorem len_run {d : D} {ρ : Rho} {μ μ1 : Mu} {xs : List PV} (h : d ρ μ = .ok (.tup xs) μ1) : dB bLen (dCons d dNil) ρ μ = .ok (.int xs.length) μ1 := by
  show (dCons _ _ _ _).bind _ = _
  rw [x_cons h x_nil]; rfl
theorem rg1_run {d : DA} {ρ : Rho} {μ μ1 : Mu} {n : Nat} (h : d ρ μ = .ok [.int n] μ1) (hn : n < 1000000) : dRg1 d ρ μ = .ok ((upto n).map .int) μ1 := by
  have hr : rgOk (n : Int) = true := by unfold rgOk; rw [Nat.blt_eq]; omega
  unfold dRg1
  rw [h]
  simp only [R.bind, hr, if_true, Int.toNat_natCast, rgl_ints]
theorem upto_mem {n : Nat} {i : Int} (h : i ∈ upto n) : ∃ k : Nat, k < n ∧ i = k := by
  obtain ⟨k, hk, rfl⟩ := List.mem_map.mp h
  exact ⟨k, List.mem_range.mp hk, rfl⟩
theorem upto_len (n : Nat) : (upto n).length = n := by simp [upto]
theorem hum (row : List Int) (hl : row.length ≤ 1000) : d_hummer_count [.tup (row.map .int)] [] = .ok (.int (hcS row)) [] := by
  have e1 : dRg1 (dCons (dB bLen (dCons (dV 0) (dNil))) (dNil)) [some (.tup (row.map .int)), none] [] = .ok ((upto row.length).map .int) [] := by
    have := len_run (d := dV 0) (ρ := [some (PV.tup (row.map .int)), none]) (μ := []) (xs := row.map .int) rfl
    rw [List.length_map] at this
    exact rg1_run (x_cons this x_nil) (by omega)
  have e2 : lcGo (gN 1) dYes (dIf (dT (d2 fEq (d2 fAnd (dV 1) (dK (.int 1))) (dK (.int 0)))) (d2 fIxA (dV 0) (dV 1)) (d2 fSub (dK (.int 0)) (d2 fIxA (dV 0) (dV 1)))) [some (.tup (row.map .int)), none] ((upto row.length).map .int) [] = .ok (((upto row.length).map fun k => if (Builtin.bitAnd k 1 == 0) = true then row.getD k.toNat 0 else 0 - row.getD k.toNat 0).map .int) [] := by
    refine lc_int fun i hi => ?_
    obtain ⟨k, hk, rfl⟩ := upto_mem hi
    have ix : d2 fIxA (dV 0) (dV 1) [some (.tup (row.map .int)), some (.int (k : Int))] [] = .ok (.int (row.getD k 0)) [] := ix_int (x_v rfl) (x_v rfl) hk
    have et : dT (d2 fEq (d2 fAnd (dV 1) (dK (.int 1))) (dK (.int 0))) [some (.tup (row.map .int)), some (.int (k : Int))] [] = .ok (Builtin.bitAnd (k : Int) 1 == 0) [] := rfl
    show dIf _ _ _ [some (.tup (row.map .int)), some (.int (k : Int))] [] = _
    rw [x_dif et, Int.toNat_natCast]
    split
    · exact ix
    · exact x_sub rfl ix
  have e3 : dL (dLC [1] (dRg1 (dCons (dB bLen (dCons (dV 0) (dNil))) (dNil))) (gN 1) dYes (dIf (dT (d2 fEq (d2 fAnd (dV 1) (dK (.int 1))) (dK (.int 0)))) (d2 fIxA (dV 0) (dV 1)) (d2 fSub (dK (.int 0)) (d2 fIxA (dV 0) (dV 1))))) [some (.tup (row.map .int)), none] [] = .ok (.lst (((upto row.length).map fun k => if (Builtin.bitAnd k 1 == 0) = true then row.getD k.toNat 0 else 0 - row.getD k.toNat 0).map .int)) [] :=
    lc_run e1 e2 (lim_of (by rw [List.length_map, List.length_map, upto_len]; omega))
  show (match b_hummer_count [some (.tup (row.map .int)), none] [] with | .nx _ μ' => R.ok PV.non (μ'.take 0) | .rt v μ' => fin v 0 μ' | .ex e _ μ' => R.ex e (μ'.take 0) | _ => R.bad) = _
  unfold b_hummer_count
  rw [x_ret (sum_run e3)]
  rfl
theorem sl_hi {da dt : D} {ρ : Rho} {μ : Mu} {xs : List PV} {t : Nat} (h : da ρ μ = .ok (.tup xs) μ) (h2 : dt ρ μ = .ok (.int t) μ) : dSl da oN (oS dt) ρ μ = .ok (.tup (xs.take t)) μ := by
  have ho : oS dt ρ μ = .ok (some (t : Int)) μ := by show (dt ρ μ).bind _ = _; rw [h2]; rfl
  show (da ρ μ).bind _ = _
  rw [h]
  show (oS dt ρ μ).bind _ = _
  rw [ho]
  show R.ok (PV.tup (cutP xs none (some (t : Int)))) μ = _
  unfold cutP
  rw [HT.sIx_none, HT.sIx_nat, List.drop_zero, Nat.sub_zero, List.take_eq_take_min.symm]
theorem sl_lo {da dt : D} {ρ : Rho} {μ : Mu} {xs : List PV} {t : Nat} (h : da ρ μ = .ok (.tup xs) μ) (h2 : dt ρ μ = .ok (.int t) μ) : dSl da (oS dt) oN ρ μ = .ok (.tup (xs.drop t)) μ := by
  have ho : oS dt ρ μ = .ok (some (t : Int)) μ := by show (dt ρ μ).bind _ = _; rw [h2]; rfl
  show (da ρ μ).bind _ = _
  rw [h]
  show (oS dt ρ μ).bind _ = _
  rw [ho]
  show R.ok (PV.tup (cutP xs (some (t : Int)) none)) μ = _
  unfold cutP
  rw [HT.sIx_none, HT.sIx_nat]
  by_cases hh : t ≤ xs.length
  · rw [Nat.min_eq_left hh, List.take_of_length_le (by rw [List.length_drop]; exact Nat.le_refl _)]
  · rw [Nat.min_eq_right (by omega), List.drop_eq_nil_of_le (Nat.le_refl _), List.drop_eq_nil_of_le (by omega), List.take_nil]
theorem cat_tup {da db : D} {ρ : Rho} {μ μ1 μ2 : Mu} {xs ys : List PV} (h : da ρ μ = .ok (.tup xs) μ1) (h2 : db ρ μ1 = .ok (.tup ys) μ2) (hl : xs.length + ys.length ≤ 16777216) : d2 fAdd da db ρ μ = .ok (.tup (xs ++ ys)) μ2 := by
  rw [x_2 h h2]
  unfold fAdd
  simp only [lim_of hl, if_true]
theorem tt (row : List Int) (t : Nat) (hl : row.length ≤ 1000) : d_turned_two [.tup (row.map .int), .int t] [] = .ok (.tup ((ttS row t).map .int)) [] := by
  have e1 : dRev (dSl (dV 0) oN (oS (dV 1))) [some (.tup (row.map .int)), some (.int (t : Int)), none] [] = .ok (((row.take t).reverse).map .int) [] := by
    show (dSl _ _ _ _ _).bind _ = _
    rw [sl_hi (x_v rfl) (x_v rfl), ← List.map_take]
    show R.ok (((row.take t).map PV.int).reverse) [] = _
    rw [List.map_reverse]
  have e2 : lcGo (gN 2) dYes (d2 fSub (dK (.int 1)) (dV 2)) [some (.tup (row.map .int)), some (.int (t : Int)), none] (((row.take t).reverse).map .int) [] = .ok (((row.take t).reverse.map fun x => 1 - x).map .int) [] :=
    lc_int fun i _ => x_sub rfl (x_v rfl)
  have hlen : ((row.take t).reverse.map fun x => 1 - x).length ≤ row.length := by rw [List.length_map, List.length_reverse, List.length_take]; exact Nat.min_le_right _ _
  have e3 := tuple_run (lc_run (vs := [2]) e1 e2 (lim_of (by rw [List.length_map]; omega)))
  show (match b_turned_two [some (.tup (row.map .int)), some (.int (t : Int)), none] [] with | .nx _ μ' => R.ok PV.non (μ'.take 0) | .rt v μ' => fin v 0 μ' | .ex e _ μ' => R.ex e (μ'.take 0) | _ => R.bad) = _
  unfold b_turned_two
  rw [x_ret (cat_tup e3 (sl_lo (x_v rfl) (x_v rfl)) (by simp only [List.length_map, List.length_drop, List.length_reverse, List.length_take]; omega)), ← List.map_drop, ← List.map_append]
  rfl
end K74

set_option Elab.async false
set_option linter.all false
set_option autoImplicit false
set_option maxRecDepth 100000
set_option maxHeartbeats 0
namespace K74
open EV PySem L2
/-! ### the parts that are finite -/
def rA (x0 : Option PV) (m s : Int) : Rho := [x0, o0, some (.int m), some (.int s), none, none, none, none, none, none, none, none, none, none, none, none, none, none, none, none, none, none, none, none, none, none, none, none, none]
abbrev segA : List DS := [law_s2, law_s3, law_s4, law_s5, law_s6, law_s7, law_s8, law_s9, law_s10, law_s11, law_s12]
theorem partA1 (x0 : Option PV) (T : SO) : ((upto 9).map (1 + ·)).map (fun p => seen [1] (sqs segA dNx (rA x0 1 p) [T])) = List.replicate 9 (some (29, [some o0], [T])) := by kernel_rfl
theorem partA2 (x0 : Option PV) (T : SO) : ((upto 9).map (1 + ·)).map (fun p => seen [1] (sqs segA dNx (rA x0 2 p) [T])) = List.replicate 9 (some (29, [some o0], [T])) := by kernel_rfl
theorem partA3 (x0 : Option PV) (T : SO) : ((upto 9).map (1 + ·)).map (fun p => seen [1] (sqs segA dNx (rA x0 3 p) [T])) = List.replicate 9 (some (29, [some o0], [T])) := by kernel_rfl
theorem partA4 (x0 : Option PV) (T : SO) : ((upto 9).map (1 + ·)).map (fun p => seen [1] (sqs segA dNx (rA x0 4 p) [T])) = List.replicate 9 (some (29, [some o0], [T])) := by kernel_rfl
theorem partA5 (x0 : Option PV) (T : SO) : ((upto 9).map (1 + ·)).map (fun p => seen [1] (sqs segA dNx (rA x0 5 p) [T])) = List.replicate 9 (some (29, [some o0], [T])) := by kernel_rfl
theorem partA6 (x0 : Option PV) (T : SO) : ((upto 9).map (1 + ·)).map (fun p => seen [1] (sqs segA dNx (rA x0 6 p) [T])) = List.replicate 9 (some (29, [some o0], [T])) := by kernel_rfl
theorem partA7 (x0 : Option PV) (T : SO) : ((upto 9).map (1 + ·)).map (fun p => seen [1] (sqs segA dNx (rA x0 7 p) [T])) = List.replicate 9 (some (29, [some o0], [T])) := by kernel_rfl
theorem partA8 (x0 : Option PV) (T : SO) : ((upto 9).map (1 + ·)).map (fun p => seen [1] (sqs segA dNx (rA x0 8 p) [T])) = List.replicate 9 (some (29, [some o0], [T])) := by kernel_rfl
theorem partA9 (x0 : Option PV) (T : SO) : ((upto 9).map (1 + ·)).map (fun p => seen [1] (sqs segA dNx (rA x0 9 p) [T])) = List.replicate 9 (some (29, [some o0], [T])) := by kernel_rfl
theorem partA10 (x0 : Option PV) (T : SO) : ((upto 9).map (1 + ·)).map (fun p => seen [1] (sqs segA dNx (rA x0 10 p) [T])) = List.replicate 9 (some (29, [some o0], [T])) := by kernel_rfl
theorem partA11 (x0 : Option PV) (T : SO) : ((upto 9).map (1 + ·)).map (fun p => seen [1] (sqs segA dNx (rA x0 11 p) [T])) = List.replicate 9 (some (29, [some o0], [T])) := by kernel_rfl
theorem partA12 (x0 : Option PV) (T : SO) : ((upto 9).map (1 + ·)).map (fun p => seen [1] (sqs segA dNx (rA x0 12 p) [T])) = List.replicate 9 (some (29, [some o0], [T])) := by kernel_rfl
end K74

set_option Elab.async false
set_option linter.all false
set_option autoImplicit false
set_option maxRecDepth 100000
set_option maxHeartbeats 0
namespace K74
open EV PySem L2
theorem partD2 (x0 x2 x3 x4 x5 x6 x7 x8 x9 x10 x11 x12 x13 x14 x15 x16 x17 x19 x20 x21 x22 x23 x24 x25 x26 x27 x28 : Option PV) (T : SO) : endT (sqs [law_s24, law_s25, law_s26, law_s27, law_s28] law_s29 [x0, o0, x2, x3, x4, x5, x6, x7, x8, x9, x10, x11, x12, x13, x14, x15, x16, x17, some (.int 2), x19, x20, x21, x22, x23, x24, x25, x26, x27, x28] [T]) = true := by kernel_rfl
theorem partD4 (x0 x2 x3 x4 x5 x6 x7 x8 x9 x10 x11 x12 x13 x14 x15 x16 x17 x19 x20 x21 x22 x23 x24 x25 x26 x27 x28 : Option PV) (T : SO) : endT (sqs [law_s24, law_s25, law_s26, law_s27, law_s28] law_s29 [x0, o0, x2, x3, x4, x5, x6, x7, x8, x9, x10, x11, x12, x13, x14, x15, x16, x17, some (.int 4), x19, x20, x21, x22, x23, x24, x25, x26, x27, x28] [T]) = true := by kernel_rfl
theorem partD6 (x0 x2 x3 x4 x5 x6 x7 x8 x9 x10 x11 x12 x13 x14 x15 x16 x17 x19 x20 x21 x22 x23 x24 x25 x26 x27 x28 : Option PV) (T : SO) : endT (sqs [law_s24, law_s25, law_s26, law_s27, law_s28] law_s29 [x0, o0, x2, x3, x4, x5, x6, x7, x8, x9, x10, x11, x12, x13, x14, x15, x16, x17, some (.int 6), x19, x20, x21, x22, x23, x24, x25, x26, x27, x28] [T]) = true := by kernel_rfl
end K74

set_option Elab.async false
set_option linter.all false
set_option autoImplicit false
set_option maxRecDepth 100000
set_option maxHeartbeats 0
namespace K74
open EV PySem L2
/-! ### plain facts, by looking at all rows -/
def rgcI (lo c : Int) : Nat → List Int
  | 0 => []
  | n + 1 => lo :: rgcI (lo + c) c n
theorem rgc_ints : ∀ (n : Nat) (lo c : Int), rgc lo c n = (rgcI lo c n).map .int
  | 0, _, _ => rfl
  | n + 1, lo, c => by rw [rgc, rgcI, List.map_cons, rgc_ints n]
def cn (lo : Int) (n : Nat) (row : List Int) : Int := ((rgcI lo 2 (Builtin.Range.rangeSize lo n 2).toNat).map fun k => row.getD k.toNat 0).sum
def cntS (n : Nat) (row : List Int) : Int := cn 0 n row - cn 1 n row
def duS (row : List Int) (t : Nat) : List Int := (upto t).map (fun k => 1 - row.getD (t - 1 - k.toNat) 0) ++ row.drop t
def sgn (c : Nat) : Int := if c % 2 == 0 then 1 else -1
def fact1 (n : Nat) : Bool := (bitsL n).all fun row => decide (hcS row = cntS n row) && ((List.range (n + 1)).all (fun t => decide (ttS row t = duS row t)) && ((List.range (n / 2 + 1)).all (fun j => decide (hcS (ttS row (2 * j)) = hcS row)) &&
  (List.range n).all fun c => decide (hcS (row.drop c ++ row.take c) = sgn c * hcS row)))
theorem facts2 : fact1 2 = true := by decide +kernel
theorem facts4 : fact1 4 = true := by decide +kernel
theorem facts6 : fact1 6 = true := by decide +kernel
theorem facts8 : fact1 8 = true := by decide +kernel
/-- a size that may be -/
def Siz (n : Nat) : Prop := n = 2 ∨ n = 4 ∨ n = 6 ∨ n = 8
theorem Siz.le {n : Nat} (h : Siz n) : n ≤ 8 := by rcases h with rfl | rfl | rfl | rfl <;> decide
theorem facts {n : Nat} (h : Siz n) {row : List Int} (hl : row.length = n) (hb : ∀ x ∈ row, x = 0 ∨ x = 1) :
    hcS row = cntS n row ∧ (∀ t, t ≤ n → ttS row t = duS row t) ∧ (∀ j, 2 * j ≤ n → hcS (ttS row (2 * j)) = hcS row) ∧ ∀ c, c < n → hcS (row.drop c ++ row.take c) = sgn c * hcS row := by
  have q : fact1 n = true := by
    rcases h with rfl | rfl | rfl | rfl
    · exact facts2
    · exact facts4
    · exact facts6
    · exact facts8
  have r := List.all_eq_true.mp q row (mem_bitsL hl hb)
  simp only [Bool.and_eq_true] at r
  obtain ⟨r1, r2, r3, r4⟩ := r
  exact ⟨of_decide_eq_true r1, fun t ht => of_decide_eq_true (List.all_eq_true.mp r2 t (List.mem_range.mpr (by omega))), fun j hj => of_decide_eq_true (List.all_eq_true.mp r3 j (List.mem_range.mpr (by omega))), fun c hc => of_decide_eq_true (List.all_eq_true.mp r4 c (List.mem_range.mpr hc))⟩
theorem isE_ints : ∀ is : List Int, isEs (is.map .int) = true
  | [] => rfl
  | i :: is => by simp only [List.map_cons, isEs, isE, isE_ints is, Bool.and_self]
theorem dep_ints : ∀ is : List Int, deps (is.map .int) = 0
  | [] => rfl
  | i :: is => by simp only [List.map_cons, deps, dep, dep_ints is]; rfl
theorem lens_ints : ∀ is : List Int, lensAll (is.map .int) = true
  | [] => rfl
  | i :: is => by simp only [List.map_cons, lensAll, lens, lens_ints is, Bool.and_self]
theorem is_hum {n : Nat} (h : n % 2 = 0) (hn : n ≤ 100) {row : List Int} (hl : row.length = n) : d_is_hummer [.tup (row.map .int)] [] = .ok (.bl (hcS row == 0)) [] := by
  have e1 : dT (d2 fEq (d2 fAnd (dB bLen (dCons (dV 0) (dNil))) (dK (.int 1))) (dK (.int 0))) [some (.tup (row.map .int))] [] = .ok true [] := by
    have z := len_run (d := dV 0) (ρ := [some (PV.tup (row.map .int))]) (μ := []) (xs := row.map .int) rfl
    rw [List.length_map, hl] at z
    have z2 : d2 fAnd (dB bLen (dCons (dV 0) (dNil))) (dK (.int 1)) [some (PV.tup (row.map .int))] [] = .ok (.int (Builtin.bitAnd (n : Int) 1)) [] := by rw [x_2 z rfl]; rfl
    have e0 : (Builtin.bitAnd (n : Int) 1 == 0) = true := by
      have : ∀ m : Nat, m ≤ 100 → m % 2 = 0 → (Builtin.bitAnd (m : Int) 1 == 0) = true := by decide +kernel
      exact this n hn h
    show (d2 _ _ _ _ _).bind _ = _
    rw [x_2 z2 rfl]
    show R.ok (Builtin.bitAnd (n : Int) 1 == 0) [] = _
    rw [e0]
  have e2 : dT (d2 fEq (dCall d_hummer_count (dCons (dV 0) (dNil))) (dK (.int 0))) [some (.tup (row.map .int))] [] = .ok (hcS row == 0) [] := by
    have z := x_callV (φ := d_hummer_count) (x_cons (ρ := [some (PV.tup (row.map .int))]) (μ := []) (d := dV 0) (x := .tup (row.map .int)) rfl x_nil) rfl rfl (fun _ z => by cases z) (hum row (by omega))
    show (d2 _ _ _ _ _).bind _ = _
    rw [x_2 z rfl]
    rfl
  have e3 : dTv (dAnd (dT (d2 fEq (d2 fAnd (dB bLen (dCons (dV 0) (dNil))) (dK (.int 1))) (dK (.int 0)))) (dT (d2 fEq (dCall d_hummer_count (dCons (dV 0) (dNil))) (dK (.int 0))))) [some (.tup (row.map .int))] [] = .ok (.bl (hcS row == 0)) [] := by
    show ((dT _ _ _).bind _).bind _ = _
    rw [e1]
    show (dT _ _ _).bind _ = _
    rw [e2]
    rfl
  show (match b_is_hummer [some (.tup (row.map .int))] [] with | .nx _ μ' => R.ok PV.non (μ'.take 0) | .rt v μ' => fin v 0 μ' | .ex e _ μ' => R.ex e (μ'.take 0) | _ => R.bad) = _
  unfold b_is_hummer
  rw [x_ret e3]
  rfl
theorem no_hum {n : Nat} (h : n % 2 = 1) (hn : n ≤ 100) {row : List Int} (hl : row.length = n) : d_is_hummer [.tup (row.map .int)] [] = .ok (.bl false) [] := by
  have e1 : dT (d2 fEq (d2 fAnd (dB bLen (dCons (dV 0) (dNil))) (dK (.int 1))) (dK (.int 0))) [some (.tup (row.map .int))] [] = .ok false [] := by
    have z := len_run (d := dV 0) (ρ := [some (PV.tup (row.map .int))]) (μ := []) (xs := row.map .int) rfl
    rw [List.length_map, hl] at z
    have z2 : d2 fAnd (dB bLen (dCons (dV 0) (dNil))) (dK (.int 1)) [some (PV.tup (row.map .int))] [] = .ok (.int (Builtin.bitAnd (n : Int) 1)) [] := by rw [x_2 z rfl]; rfl
    have e0 : (Builtin.bitAnd (n : Int) 1 == 0) = false := by
      have : ∀ m : Nat, m ≤ 100 → m % 2 = 1 → (Builtin.bitAnd (m : Int) 1 == 0) = false := by decide +kernel
      exact this n hn h
    show (d2 _ _ _ _ _).bind _ = _
    rw [x_2 z2 rfl]
    show R.ok (Builtin.bitAnd (n : Int) 1 == 0) [] = _
    rw [e0]
  have e3 : dTv (dAnd (dT (d2 fEq (d2 fAnd (dB bLen (dCons (dV 0) (dNil))) (dK (.int 1))) (dK (.int 0)))) (dT (d2 fEq (dCall d_hummer_count (dCons (dV 0) (dNil))) (dK (.int 0))))) [some (.tup (row.map .int))] [] = .ok (.bl false) [] := by
    show ((dT _ _ _).bind _).bind _ = _
    rw [e1]
    rfl
  show (match b_is_hummer [some (.tup (row.map .int))] [] with | .nx _ μ' => R.ok PV.non (μ'.take 0) | .rt v μ' => fin v 0 μ' | .ex e _ μ' => R.ex e (μ'.take 0) | _ => R.bad) = _
  unfold b_is_hummer
  rw [x_ret e3]
  rfl
/-! ### the statements, one by one -/
section
variable {ρ : Rho} {T : SO}
theorem run1 (h1 : ρ[1]? = some o0) (hT : Tp T) : ∃ (m s : Int) (T' : SO), law_s1 ρ [T] = .nx ((ρ.set 2 (some (.int m))).set 3 (some (.int s))) [T'] ∧ Tp T' ∧ 1 ≤ m ∧ m ≤ 12 ∧ 1 ≤ s ∧ s ≤ 9 := by
  obtain ⟨r, T1, e1, hT1, a1, a2⟩ := draws.go (da := dV 1) (db := dK (.int 12)) (μ := [T]) (n := 0) (m := 12) (x_v h1) rfl rfl hT (by decide) (by decide)
  obtain ⟨r2, T2, e2, hT2, b1, b2⟩ := draws.go (da := dV 1) (db := dK (.int 9)) (ρ := ρ) (μ := [T1]) (n := 0) (m := 9) (x_v h1) rfl rfl hT1 (by decide) (by decide)
  exact ⟨1 + r, 1 + r2, T2, x_par2 (x_cons (x_add rfl e1) (x_cons (x_add rfl e2) x_nil)), hT2, by omega, by omega, by omega, by omega⟩
theorem run13 (h1 : ρ[1]? = some o0) (hT : Tp T) : ∃ (n : Nat) (T' : SO), law_s13 ρ [T] = .nx (ρ.set 10 (some (.int n))) [T'] ∧ Tp T' ∧ Siz n := by
  obtain ⟨r, T1, e1, hT1, a1, a2⟩ := draws.go (da := dV 1) (db := dK (.int 4)) (μ := [T]) (n := 0) (m := 4) (x_v h1) rfl rfl hT (by decide) (by decide)
  have hm : mulOk 2 (1 + r) = true := mulOk_of (lt_pow_of (b := 32) (by decide) (by decide)) (lt_pow_of (b := 32) (by omega) (by decide))
  have e2 := x_mul (ρ := ρ) (μ := [T]) (da := dK (.int 2)) rfl (x_add (p := 1) (da := dK (.int 1)) rfl e1) hm
  refine ⟨(2 * (1 + r)).toNat, T1, ?_, hT1, ?_⟩
  · have : ((2 * (1 + r)).toNat : Int) = 2 * (1 + r) := by omega
    rw [this]
    exact x_asg e2
  · unfold Siz; omega
theorem run14 {n : Nat} (h1 : ρ[1]? = some o0) (h10 : ρ[10]? = some (some (.int n))) (hn : n ≤ 8) (hT : Tp T) : ∃ (row : List Int) (T' : SO), law_s14 ρ [T] = .nx (ρ.set 11 (some (.tup (row.map .int)))) [T'] ∧ Tp T' ∧ row.length = n ∧ ∀ x ∈ row, x = 0 ∨ x = 1 := by
  have hs : ∀ (i : Nat) (v : Option PV), i ≠ 27 → ((wipeR ρ [27]).set 27 v)[i]? = ρ[i]? := fun i v hi => by
    show ((ρ.set 27 none).set 27 v)[i]? = _
    rw [List.set_set, List.getElem?_set_ne (Ne.symm hi)]
  obtain ⟨ys, T', e, hT', hl, hy⟩ := draw_row (k := 27) (n := 0) (m := 2) (da := dV 1) (db := dK (.int 2)) (ρ0 := wipeR ρ [27]) (μ0 := [T]) draws (by decide) (by decide) (fun v μ => x_v (by rw [hs 1 v (by decide)]; exact h1)) (fun _ _ => rfl) Nat.zero_lt_one ((upto n).map .int) T hT
  refine ⟨ys, T', x_asg (tuple_run (lc_run (rg1_run (x_cons (x_v h10) x_nil) (by omega)) e (lim_of ?_))), hT', ?_, fun x hx => ?_⟩
  · rw [List.length_map, hl, List.length_map, upto_len]; omega
  · rw [hl, List.length_map, upto_len]
  · have := hy x hx; omega
theorem run15 {n : Nat} (h1 : ρ[1]? = some o0) (h10 : ρ[10]? = some (some (.int n))) (hn : n ≤ 8) (hT : Tp T) : ∃ (t : Nat) (T' : SO), law_s15 ρ [T] = .nx (ρ.set 12 (some (.int t))) [T'] ∧ Tp T' ∧ t ≤ n := by
  obtain ⟨r, T1, e1, hT1, a1, a2⟩ := draws.go (da := dV 1) (db := d2 fAdd (dV 10) (dK (.int 1))) (μ := [T]) (n := 0) (m := (n : Int) + 1) (x_v h1) (x_add (x_v h10) rfl) rfl hT (by omega) (by omega)
  refine ⟨r.toNat, T1, ?_, hT1, by omega⟩
  have : (r.toNat : Int) = r := by omega
  rw [this]
  exact x_asg e1
theorem run16 {row : List Int} {t : Nat} (h27 : ρ.length = 29) (h11 : ρ[11]? = some (some (.tup (row.map .int)))) (h12 : ρ[12]? = some (some (.int t))) (ht : t ≤ row.length) (hl : row.length ≤ 100) : law_s16 ρ [T] = .nx (ρ.set 13 (some (.tup ((duS row t).map .int)))) [T] := by
  have hs : ∀ (i : Nat) (v : Option PV), i ≠ 27 → ((wipeR ρ [27]).set 27 v)[i]? = ρ[i]? := fun i v hi => by
    show ((ρ.set 27 none).set 27 v)[i]? = _
    rw [List.set_set, List.getElem?_set_ne (Ne.symm hi)]
  have e2 : lcGo (gN 27) dYes (d2 fSub (dK (.int 1)) (d2 fIxA (dV 11) (d2 fSub (d2 fSub (dV 12) (dK (.int 1))) (dV 27)))) (wipeR ρ [27]) ((upto t).map .int) [T] = .ok (((upto t).map fun k => 1 - row.getD (t - 1 - k.toNat) 0).map .int) [T] := by
    refine lc_int fun i hi => ?_
    obtain ⟨k, hk, rfl⟩ := upto_mem hi
    have h27' : ((wipeR ρ [27]).set 27 (some (.int (k : Int))))[27]? = some (some (.int (k : Int))) := List.getElem?_set_self (by show 27 < (ρ.set 27 none).length; rw [List.length_set, h27]; decide)
    have es : d2 fSub (d2 fSub (dV 12) (dK (.int 1))) (dV 27) ((wipeR ρ [27]).set 27 (some (.int (k : Int)))) [T] = .ok (.int ((t - 1 - k : Nat) : Int)) [T] := by
      rw [x_sub (p := (t : Int) - 1) (q := k) (x_sub (p := t) (q := 1) (x_v (by rw [hs 12 _ (by decide)]; exact h12)) rfl) (x_v h27')]
      congr 2
      omega
    exact x_sub rfl (ix_int (x_v (by rw [hs 11 _ (by decide)]; exact h11)) es (by omega))
  have e3 := tuple_run (lc_run (vs := [27]) (ρ := ρ) (μ := [T]) (it := dRg1 (dCons (dV 12) (dNil))) (rg1_run (x_cons (x_v h12) x_nil) (by omega)) e2 (lim_of (by rw [List.length_map, List.length_map, upto_len]; omega)))
  have e4 := cat_tup e3 (sl_lo (x_v h11) (x_v h12)) (by simp only [List.length_map, List.length_drop, upto_len]; omega)
  rw [← List.map_drop, ← List.map_append] at e4
  exact x_asg e4
theorem rg3_run {d : DA} {ρ : Rho} {μ μ1 : Mu} {i j : Int} (h : d ρ μ = .ok [.int i, .int j, .int 2] μ1) (hk : rgcOk i j 2 = true) : dRg3 d ρ μ = .ok ((rgcI i 2 (Builtin.Range.rangeSize i j 2).toNat).map .int) μ1 := by
  unfold dRg3
  rw [h, ← rgc_ints]
  simp only [R.bind, hk, if_true]
theorem part17 {n : Nat} {row : List Int} (hs : Siz n) (hl : row.length = n) (h27 : ρ.length = 29) (h10 : ρ[10]? = some (some (.int n))) (h11 : ρ[11]? = some (some (.tup (row.map .int)))) (lo : Int) (hlo : lo = 0 ∨ lo = 1) :
    dB bSum (dCons (dL (dLC [27] (dRg3 (dCons (dK (.int lo)) (dCons (dV 10) (dCons (dK (.int 2)) (dNil))))) (gN 27) (dYes) (d2 fIxA (dV 11) (dV 27)))) (dNil)) ρ [T] = .ok (.int (cn lo n row)) [T] := by
  have hset : ∀ (i : Nat) (v : Option PV), i ≠ 27 → ((wipeR ρ [27]).set 27 v)[i]? = ρ[i]? := fun i v hi => by
    show ((ρ.set 27 none).set 27 v)[i]? = _
    rw [List.set_set, List.getElem?_set_ne (Ne.symm hi)]
  have hok : rgcOk lo n 2 = true := by rcases hlo with rfl | rfl <;> rcases hs with rfl | rfl | rfl | rfl <;> decide +kernel
  have hin : ∀ i ∈ rgcI lo 2 (Builtin.Range.rangeSize lo n 2).toNat, ∃ k : Nat, i = k ∧ k < n := by
    have g : ∀ l : List Int, (l.all fun i => decide (0 ≤ i) && decide (i < n)) = true → ∀ i ∈ l, ∃ k : Nat, i = k ∧ k < n := fun l h i hi => by
      have := List.all_eq_true.mp h i hi
      rw [Bool.and_eq_true] at this
      have h1 := of_decide_eq_true this.1
      have h2 := of_decide_eq_true this.2
      exact ⟨i.toNat, by omega, by omega⟩
    refine g _ ?_
    rcases hlo with rfl | rfl <;> rcases hs with rfl | rfl | rfl | rfl <;> decide +kernel
  have hlen : (rgcI lo 2 (Builtin.Range.rangeSize lo n 2).toNat).length ≤ 100 := by rcases hlo with rfl | rfl <;> rcases hs with rfl | rfl | rfl | rfl <;> decide +kernel
  refine sum_run (lc_run (rg3_run (x_cons rfl (x_cons (x_v h10) (x_cons rfl x_nil))) hok) (lc_int (h := fun k => row.getD k.toNat 0) fun i hi => ?_) (lim_of (by rw [List.length_map, List.length_map]; omega)))
  obtain ⟨k, rfl, hk⟩ := hin i hi
  rw [Int.toNat_natCast]
  exact ix_int (x_v (by rw [hset 11 _ (by decide)]; exact h11)) (x_v (List.getElem?_set_self (by show 27 < (ρ.set 27 none).length; rw [List.length_set, h27]; decide))) (by omega)
theorem run17 {n : Nat} {row : List Int} (hs : Siz n) (hl : row.length = n) (h27 : ρ.length = 29) (h10 : ρ[10]? = some (some (.int n))) (h11 : ρ[11]? = some (some (.tup (row.map .int)))) : law_s17 ρ [T] = .nx (ρ.set 14 (some (.int (cntS n row)))) [T] :=
  x_asg (x_sub (part17 hs hl h27 h10 h11 0 (.inl rfl)) (part17 hs hl h27 h10 h11 1 (.inr rfl)))
theorem lst4 {a b c d : D} {ρ : Rho} {μ : Mu} {w x y z : PV} (ha : a ρ μ = .ok w μ) (hb : b ρ μ = .ok x μ) (hc : c ρ μ = .ok y μ) (hd : d ρ μ = .ok z μ) (hp : pvs [w, x, y, z] = true) : dL (dLst (dVs (dCons a (dCons b (dCons c (dCons d dNil)))))) ρ μ = .ok (.lst [w, x, y, z]) μ := by
  show ((((dCons _ _ _ _).bind _).bind _)).bind _ = _
  rw [x_cons ha (x_cons hb (x_cons hc (x_cons hd x_nil)))]
  simp only [R.bind, hp, if_true]
  rfl
theorem run18 {n : Nat} {row : List Int} {t : Nat} (hs : Siz n) (hl : row.length = n) (hb : ∀ x ∈ row, x = 0 ∨ x = 1) (ht : t ≤ n) (h11 : ρ[11]? = some (some (.tup (row.map .int)))) (h12 : ρ[12]? = some (some (.int t))) (h13 : ρ[13]? = some (some (.tup ((duS row t).map .int)))) (h14 : ρ[14]? = some (some (.int (cntS n row)))) :
    law_s18 ρ [T] = .nx ρ [T] := by
  obtain ⟨f1, f2, f3, f4⟩ := facts hs hl hb
  have hn := hs.le
  have c1 : dCall d_turned_two (dCons (dV 11) (dCons (dV 12) (dNil))) ρ [T] = .ok (.tup ((duS row t).map .int)) [T] := by
    rw [← f2 t ht]
    exact x_callV (x_cons (x_v h11) (x_cons (x_v h12) x_nil)) rfl rfl (fun _ z => by cases z) (tt row t (by omega))
  have c2 : dCall d_hummer_count (dCons (dV 11) (dNil)) ρ [T] = .ok (.int (cntS n row)) [T] := by
    rw [← f1]
    exact x_callV (x_cons (x_v h11) x_nil) rfl rfl (fun _ z => by cases z) (hum row (by omega))
  have c3 : dCall d_is_hummer (dCons (dV 11) (dNil)) ρ [T] = .ok (.bl (cntS n row == 0)) [T] := by
    rw [← f1]
    exact x_callV (x_cons (x_v h11) x_nil) rfl rfl (fun _ z => by cases z) (is_hum (n := n) (by rcases hs with rfl | rfl | rfl | rfl <;> decide) (by omega) hl)
  have c4 : dCall d_is_hummer (dCons (d2 fAdd (dV 11) (dTup (dVs (dCons (dK (.int 0)) (dNil))))) (dNil)) ρ [T] = .ok (.bl false) [T] := by
    have z : d2 fAdd (dV 11) (dTup (dVs (dCons (dK (.int 0)) (dNil)))) ρ [T] = .ok (.tup ((row ++ [0]).map .int)) [T] := by
      rw [List.map_append]
      exact cat_tup (x_v h11) rfl (by rw [List.length_map]; simp; omega)
    exact x_callV (x_cons z x_nil) rfl rfl (fun _ z => by cases z) (no_hum (n := n + 1) (by rcases hs with rfl | rfl | rfl | rfl <;> decide) (by omega) (by simp [hl]))
  have l1 := lst4 c1 c2 c3 c4 rfl
  have l2 : dL (dLst (dVs (dCons (dV 13) (dCons (dV 14) (dCons (d2 fEq (dV 14) (dK (.int 0))) (dCons (dK (.bl false)) (dNil))))))) ρ [T] = .ok (.lst [.tup ((duS row t).map .int), .int (cntS n row), .bl (cntS n row == 0), .bl false]) [T] :=
    lst4 (x_v h13) (x_v h14) (by rw [x_2 (x_v h14) rfl]; rfl) rfl rfl
  have hl2 : (duS row t).length ≤ 1000 := by
    unfold duS
    simp only [List.length_append, List.length_map, List.length_drop, upto_len]
    omega
  have same := same_ok (x := .lst [.tup ((duS row t).map .int), .int (cntS n row), .bl (cntS n row == 0), .bl false]) (by simp only [dep, deps, dep_ints]; decide) (by simp only [isE, isEs, isE_ints, Bool.and_self]) (by
    simp only [lens, lensAll, lens_ints, List.length_map, Bool.and_self, Bool.and_true]
    rw [Bool.and_eq_true]
    exact ⟨rfl, Nat.ble_eq_true_of_le (by omega)⟩)
  have c5 := x_callV (φ := d__law_same) (x_cons l1 (x_cons l2 x_nil)) rfl rfl (fun _ z => by cases z) same
  have c6 : dNot (dT (dCall d__law_same (dCons (dL (dLst (dVs (dCons (dCall d_turned_two (dCons (dV 11) (dCons (dV 12) (dNil)))) (dCons (dCall d_hummer_count (dCons (dV 11) (dNil))) (dCons (dCall d_is_hummer (dCons (dV 11) (dNil))) (dCons (dCall d_is_hummer (dCons (d2 fAdd (dV 11) (dTup (dVs (dCons (dK (.int 0)) (dNil))))) (dNil))) (dNil)))))))) (dCons (dL (dLst (dVs (dCons (dV 13) (dCons (dV 14) (dCons (d2 fEq (dV 14) (dK (.int 0))) (dCons (dK (.bl false)) (dNil)))))))) (dNil))))) ρ [T] = .ok false [T] := by
    show ((dCall _ _ _ _).bind _).bind _ = _
    rw [c5]
    rfl
  unfold law_s18
  rw [x_iff c6]
  rfl
theorem run19 {n : Nat} (hs : Siz n) (h1 : ρ[1]? = some o0) (h10 : ρ[10]? = some (some (.int n))) (hT : Tp T) : ∃ (j : Nat) (T' : SO), law_s19 ρ [T] = .nx (ρ.set 15 (some (.int (2 * j : Nat)))) [T'] ∧ Tp T' ∧ 2 * j ≤ n := by
  have hn := hs.le
  have hd : d2 fDiv (dV 10) (dK (.int 2)) ρ [T] = .ok (.int ((n : Int) / 2)) [T] := by rw [x_2 (x_v h10) rfl]; rfl
  obtain ⟨r, T1, e1, hT1, a1, a2⟩ := draws.go (da := dV 1) (db := d2 fAdd (d2 fDiv (dV 10) (dK (.int 2))) (dK (.int 1))) (μ := [T]) (n := 0) (m := (n : Int) / 2 + 1) (x_v h1) (x_add hd rfl) rfl hT (by omega) (by omega)
  have hm : mulOk 2 r = true := mulOk_of (lt_pow_of (b := 32) (by decide) (by decide)) (lt_pow_of (b := 32) (by omega) (by decide))
  refine ⟨r.toNat, T1, ?_, hT1, by omega⟩
  have : ((2 * r.toNat : Nat) : Int) = 2 * r := by omega
  rw [this]
  exact x_asg (x_mul (da := dK (.int 2)) rfl e1 hm)
theorem run20 {n : Nat} (hs : Siz n) (h1 : ρ[1]? = some o0) (h10 : ρ[10]? = some (some (.int n))) (hT : Tp T) : ∃ (c : Nat) (T' : SO), law_s20 ρ [T] = .nx (ρ.set 16 (some (.int c))) [T'] ∧ Tp T' ∧ c < n := by
  have hn := hs.le
  have h0 : 0 < n := by rcases hs with rfl | rfl | rfl | rfl <;> decide
  obtain ⟨r, T1, e1, hT1, a1, a2⟩ := draws.go (da := dV 1) (db := dV 10) (μ := [T]) (n := 0) (m := (n : Int)) (x_v h1) (x_v h10) rfl hT (by omega) (by omega)
  refine ⟨r.toNat, T1, ?_, hT1, by omega⟩
  have : (r.toNat : Int) = r := by omega
  rw [this]
  exact x_asg e1
theorem run21 {c : Nat} (h16 : ρ[16]? = some (some (.int c))) : law_s21 ρ [T] = .nx (ρ.set 17 (some (.int (sgn c)))) [T] := by
  have e1 : d2 fMod (dB bInt (dCons (dV 16) (dNil))) (dK (.int 2)) ρ [T] = .ok (.int ((c : Int) % 2)) [T] := by
    rw [x_2 (x := .int c) (by show (dCons _ _ _ _).bind _ = _; rw [x_cons (x_v h16) x_nil]; rfl) rfl]; rfl
  have e2 : dT (d2 fEq (d2 fMod (dB bInt (dCons (dV 16) (dNil))) (dK (.int 2))) (dK (.int 0))) ρ [T] = .ok (c % 2 == 0) [T] := by
    show (d2 _ _ _ _ _).bind _ = _
    rw [x_2 e1 rfl]
    have : ((c : Int) % 2 == 0) = (c % 2 == 0) := by
      rcases Nat.mod_two_eq_zero_or_one c with h | h
      · have : (c : Int) % 2 = 0 := by omega
        rw [h, this]; rfl
      · have : (c : Int) % 2 = 1 := by omega
        rw [h, this]; rfl
    show R.ok ((c : Int) % 2 == 0) [T] = _
    rw [this]
  refine x_asg ?_
  rw [x_dif e2]
  unfold sgn
  split <;> rfl
theorem run22 {n : Nat} {row : List Int} {j c : Nat} (hs : Siz n) (hl : row.length = n) (hb : ∀ x ∈ row, x = 0 ∨ x = 1) (hj : 2 * j ≤ n) (hc : c < n) (h11 : ρ[11]? = some (some (.tup (row.map .int)))) (h14 : ρ[14]? = some (some (.int (cntS n row)))) (h15 : ρ[15]? = some (some (.int (2 * j : Nat)))) (h16 : ρ[16]? = some (some (.int c))) (h17 : ρ[17]? = some (some (.int (sgn c)))) :
    law_s22 ρ [T] = .nx ρ [T] := by
  obtain ⟨f1, f2, f3, f4⟩ := facts hs hl hb
  have hn := hs.le
  have tl : (ttS row (2 * j)).length ≤ 1000 := by unfold ttS; simp only [List.length_append, List.length_map, List.length_drop, List.length_reverse, List.length_take]; omega
  have a1 : dCall d_turned_two (dCons (dV 11) (dCons (dV 15) (dNil))) ρ [T] = .ok (.tup ((ttS row (2 * j)).map .int)) [T] := x_callV (x_cons (x_v h11) (x_cons (x_v h15) x_nil)) rfl rfl (fun _ z => by cases z) (tt row (2 * j) (by omega))
  have a2 : dCall d_hummer_count (dCons (dCall d_turned_two (dCons (dV 11) (dCons (dV 15) (dNil)))) (dNil)) ρ [T] = .ok (.int (cntS n row)) [T] := by
    rw [← f1, ← f3 j hj]
    exact x_callV (x_cons a1 x_nil) rfl rfl (fun _ z => by cases z) (hum _ tl)
  have b1 : d2 fAdd (dSl (dV 11) (oS (dV 16)) (oN)) (dSl (dV 11) (oN) (oS (dV 16))) ρ [T] = .ok (.tup ((row.drop c ++ row.take c).map .int)) [T] := by
    rw [List.map_append, List.map_drop, List.map_take]
    exact cat_tup (sl_lo (x_v h11) (x_v h16)) (sl_hi (x_v h11) (x_v h16)) (by simp only [List.length_drop, List.length_take, List.length_map]; omega)
  have b2 : dCall d_hummer_count (dCons (d2 fAdd (dSl (dV 11) (oS (dV 16)) (oN)) (dSl (dV 11) (oN) (oS (dV 16)))) (dNil)) ρ [T] = .ok (.int (sgn c * cntS n row)) [T] := by
    rw [← f1, ← f4 c hc]
    exact x_callV (x_cons b1 x_nil) rfl rfl (fun _ z => by cases z) (hum _ (by simp only [List.length_append, List.length_drop, List.length_take]; omega))
  have bound : (cntS n row).natAbs < 2 ^ 32 := by
    have q : ∀ n, Siz n → ((bitsL n).all fun row => decide ((cntS n row).natAbs < 2 ^ 32)) = true := by
      intro n hs
      rcases hs with rfl | rfl | rfl | rfl <;> decide +kernel
    exact of_decide_eq_true (List.all_eq_true.mp (q n hs) row (mem_bitsL hl hb))
  have hm : mulOk (sgn c) (cntS n row) = true := mulOk_of (lt_pow_of (b := 32) (by unfold sgn; split <;> decide) (by decide)) (lt_pow_of bound (by decide))
  have b3 : d2 fMulA (dV 17) (dV 14) ρ [T] = .ok (.int (sgn c * cntS n row)) [T] := x_mul (x_v h17) (x_v h14) hm
  have ne : ∀ x : Int, R.ok (PV.bl (!(x == x))) [T] = .ok (.bl false) [T] := fun x => by
    have : (x == x) = true := by simp
    rw [this]; rfl
  have t1 : dT (d2 fNe (dCall d_hummer_count (dCons (dCall d_turned_two (dCons (dV 11) (dCons (dV 15) (dNil)))) (dNil))) (dV 14)) ρ [T] = .ok false [T] := by
    show (d2 _ _ _ _ _).bind _ = _
    rw [x_2 a2 (x_v h14)]
    show (R.ok (PV.bl (!(cntS n row == cntS n row))) [T]).bind _ = _
    rw [ne]; rfl
  have t2 : dT (d2 fNe (dCall d_hummer_count (dCons (d2 fAdd (dSl (dV 11) (oS (dV 16)) (oN)) (dSl (dV 11) (oN) (oS (dV 16)))) (dNil))) (d2 fMulA (dV 17) (dV 14))) ρ [T] = .ok false [T] := by
    show (d2 _ _ _ _ _).bind _ = _
    rw [x_2 b2 b3]
    show (R.ok (PV.bl (!(sgn c * cntS n row == sgn c * cntS n row))) [T]).bind _ = _
    rw [ne]; rfl
  have t3 : dOr (dT (d2 fNe (dCall d_hummer_count (dCons (dCall d_turned_two (dCons (dV 11) (dCons (dV 15) (dNil)))) (dNil))) (dV 14))) (dT (d2 fNe (dCall d_hummer_count (dCons (d2 fAdd (dSl (dV 11) (oS (dV 16)) (oN)) (dSl (dV 11) (oN) (oS (dV 16)))) (dNil))) (d2 fMulA (dV 17) (dV 14)))) ρ [T] = .ok false [T] := by
    show (dT _ _ _).bind _ = _
    rw [t1]
    exact t2
  unfold law_s22
  rw [x_iff t3]
  rfl
theorem run23 (h1 : ρ[1]? = some o0) (hT : Tp T) : ∃ (f : Int) (T' : SO), law_s23 ρ [T] = .nx (ρ.set 18 (some (.int f))) [T'] ∧ Tp T' ∧ (f = 2 ∨ f = 4 ∨ f = 6) := by
  obtain ⟨r, T1, e1, hT1, a1, a2⟩ := draws.go (da := dV 1) (db := dK (.int 3)) (μ := [T]) (n := 0) (m := 3) (x_v h1) rfl rfl hT (by decide) (by decide)
  have e0 : dTup (dVs (dCons (dK (.int 2)) (dCons (dK (.int 4)) (dCons (dK (.int 6)) (dNil))))) ρ [T] = .ok (.tup ([2, 4, 6].map .int)) [T] := rfl
  have e1' : dCall d__law_next (dCons (dV 1) (dCons (dK (.int 3)) (dNil))) ρ [T] = .ok (.int (r.toNat : Int)) [T1] := by
    have : (r.toNat : Int) = r := by omega
    rw [this]; exact e1
  refine ⟨[2, 4, 6].getD r.toNat 0, T1, x_asg (ix_int e0 e1' (by simp; omega)), hT1, ?_⟩
  have : r = 0 ∨ r = 1 ∨ r = 2 := by omega
  rcases this with rfl | rfl | rfl
  · exact .inl rfl
  · exact .inr (.inl rfl)
  · exact .inr (.inr rfl)
end
end K74

set_option Elab.async false
set_option linter.all false
set_option autoImplicit false
set_option maxRecDepth 100000
set_option maxHeartbeats 0
namespace K74
open EV PySem L2
theorem lit29 {ρ : Rho} (h : ρ.length = 29) : ∃ x0 x1 x2 x3 x4 x5 x6 x7 x8 x9 x10 x11 x12 x13 x14 x15 x16 x17 x18 x19 x20 x21 x22 x23 x24 x25 x26 x27 x28, ρ = [x0, x1, x2, x3, x4, x5, x6, x7, x8, x9, x10, x11, x12, x13, x14, x15, x16, x17, x18, x19, x20, x21, x22, x23, x24, x25, x26, x27, x28] := by
  obtain ⟨x0, t0, e0, h⟩ := uncons h
  obtain ⟨x1, t1, e1, h⟩ := uncons h
  obtain ⟨x2, t2, e2, h⟩ := uncons h
  obtain ⟨x3, t3, e3, h⟩ := uncons h
  obtain ⟨x4, t4, e4, h⟩ := uncons h
  obtain ⟨x5, t5, e5, h⟩ := uncons h
  obtain ⟨x6, t6, e6, h⟩ := uncons h
  obtain ⟨x7, t7, e7, h⟩ := uncons h
  obtain ⟨x8, t8, e8, h⟩ := uncons h
  obtain ⟨x9, t9, e9, h⟩ := uncons h
  obtain ⟨x10, t10, e10, h⟩ := uncons h
  obtain ⟨x11, t11, e11, h⟩ := uncons h
  obtain ⟨x12, t12, e12, h⟩ := uncons h
  obtain ⟨x13, t13, e13, h⟩ := uncons h
  obtain ⟨x14, t14, e14, h⟩ := uncons h
  obtain ⟨x15, t15, e15, h⟩ := uncons h
  obtain ⟨x16, t16, e16, h⟩ := uncons h
  obtain ⟨x17, t17, e17, h⟩ := uncons h
  obtain ⟨x18, t18, e18, h⟩ := uncons h
  obtain ⟨x19, t19, e19, h⟩ := uncons h
  obtain ⟨x20, t20, e20, h⟩ := uncons h
  obtain ⟨x21, t21, e21, h⟩ := uncons h
  obtain ⟨x22, t22, e22, h⟩ := uncons h
  obtain ⟨x23, t23, e23, h⟩ := uncons h
  obtain ⟨x24, t24, e24, h⟩ := uncons h
  obtain ⟨x25, t25, e25, h⟩ := uncons h
  obtain ⟨x26, t26, e26, h⟩ := uncons h
  obtain ⟨x27, t27, e27, h⟩ := uncons h
  obtain ⟨x28, t28, e28, h⟩ := uncons h
  have e := nil_of h
  subst e e28 e27 e26 e25 e24 e23 e22 e21 e20 e19 e18 e17 e16 e15 e14 e13 e12 e11 e10 e9 e8 e7 e6 e5 e4 e3 e2 e1 e0
  exact ⟨x0, x1, x2, x3, x4, x5, x6, x7, x8, x9, x10, x11, x12, x13, x14, x15, x16, x17, x18, x19, x20, x21, x22, x23, x24, x25, x26, x27, x28, rfl⟩
theorem doneA {x0 : Option PV} {T : SO} {m s : Int} (m1 : 1 ≤ m) (m2 : m ≤ 12) (s1 : 1 ≤ s) (s2 : s ≤ 9) : ∃ ρ, sqs segA dNx (rA x0 m s) [T] = .nx ρ [T] ∧ ρ.length = 29 ∧ ρ[1]? = some o0 := by
  have hs : s ∈ (upto 9).map (1 + ·) := List.mem_map.mpr ⟨s - 1, mem_upto (by omega) (by omega), by omega⟩
  have key : seen [1] (sqs segA dNx (rA x0 m s) [T]) = some (29, [some o0], [T]) := by
    have hm : m = 1 ∨ m = 2 ∨ m = 3 ∨ m = 4 ∨ m = 5 ∨ m = 6 ∨ m = 7 ∨ m = 8 ∨ m = 9 ∨ m = 10 ∨ m = 11 ∨ m = 12 := by omega
    rcases hm with rfl | rfl | rfl | rfl | rfl | rfl | rfl | rfl | rfl | rfl | rfl | rfl
    · exact map_rep (partA1 x0 T) hs
    · exact map_rep (partA2 x0 T) hs
    · exact map_rep (partA3 x0 T) hs
    · exact map_rep (partA4 x0 T) hs
    · exact map_rep (partA5 x0 T) hs
    · exact map_rep (partA6 x0 T) hs
    · exact map_rep (partA7 x0 T) hs
    · exact map_rep (partA8 x0 T) hs
    · exact map_rep (partA9 x0 T) hs
    · exact map_rep (partA10 x0 T) hs
    · exact map_rep (partA11 x0 T) hs
    · exact map_rep (partA12 x0 T) hs
  obtain ⟨ρ, e1, e2, e3⟩ := seen_nx key
  refine ⟨ρ, e1, e2, ?_⟩
  simpa using e3
theorem doneD {ρ : Rho} {T : SO} {f : Int} (hl : ρ.length = 29) (h1 : ρ[1]? = some o0) (h18 : ρ[18]? = some (some (.int f))) (hf : f = 2 ∨ f = 4 ∨ f = 6) : endT (sqs [law_s24, law_s25, law_s26, law_s27, law_s28] law_s29 ρ [T]) = true := by
  obtain ⟨x0, x1, x2, x3, x4, x5, x6, x7, x8, x9, x10, x11, x12, x13, x14, x15, x16, x17, x18, x19, x20, x21, x22, x23, x24, x25, x26, x27, x28, rfl⟩ := lit29 hl
  simp only [List.getElem?_cons_succ, List.getElem?_cons_zero, Option.some.injEq] at h1 h18
  subst h1 h18
  rcases hf with rfl | rfl | rfl
  · exact partD2 _ _ _ _ _ _ _ _ _ _ _ _ _ _ _ _ _ _ _ _ _ _ _ _ _ _ _ T
  · exact partD4 _ _ _ _ _ _ _ _ _ _ _ _ _ _ _ _ _ _ _ _ _ _ _ _ _ _ _ T
  · exact partD6 _ _ _ _ _ _ _ _ _ _ _ _ _ _ _ _ _ _ _ _ _ _ _ _ _ _ _ T
theorem plain (ns : List Int) (h : ns.length ≤ 63) : (d_law [.scr ns] []).isT = true := by
  have e0 : law_s0 (slots 29 [.scr ns]) [] = .nx ((slots 29 [.scr ns]).set 1 o0) [tp ns 0 0 74] := rfl
  have T0 : Tp (tp ns 0 0 74) := ⟨ns, 0, 0, 74, rfl, h, by decide, by decide, by decide, by decide⟩
  obtain ⟨m, s, T1, e1, hT1, m1, m2, s1, s2⟩ := run1 (ρ := (slots 29 [.scr ns]).set 1 o0) rfl T0
  obtain ⟨ρA, eA, lA, oA⟩ := doneA (x0 := some (.scr ns)) (T := T1) m1 m2 s1 s2
  obtain ⟨n, T2, e13, hT2, hs⟩ := run13 oA hT1
  have hn := hs.le
  have g : ∀ (ρ : Rho) (i j : Nat) (v : Option PV), i ≠ j → (ρ.set j v)[i]? = ρ[i]? := fun ρ i j v h => List.getElem?_set_ne (Ne.symm h)
  have gs : ∀ (ρ : Rho) (j : Nat) (v : Option PV), ρ.length = 29 → j < 29 → (ρ.set j v)[j]? = some v := fun ρ j v h1 h2 => List.getElem?_set_self (by omega)
  have gl : ∀ (ρ : Rho) (j : Nat) (v : Option PV), ρ.length = 29 → (ρ.set j v).length = 29 := fun ρ j v h => by rw [List.length_set]; exact h
  generalize hρ13 : ρA.set 10 (some (.int (n : Int))) = ρ13 at e13
  have l13 : ρ13.length = 29 := hρ13 ▸ gl _ _ _ lA
  have o13 : ρ13[1]? = some o0 := by rw [← hρ13, g _ _ _ _ (by decide)]; exact oA
  have n13 : ρ13[10]? = some (some (.int (n : Int))) := by rw [← hρ13]; exact gs _ _ _ lA (by decide)
  obtain ⟨row, T3, e14, hT3, hrow, hb⟩ := run14 o13 n13 hn hT2
  generalize hρ14 : ρ13.set 11 (some (.tup (row.map .int))) = ρ14 at e14
  have l14 : ρ14.length = 29 := hρ14 ▸ gl _ _ _ l13
  have o14 : ρ14[1]? = some o0 := by rw [← hρ14, g _ _ _ _ (by decide)]; exact o13
  have n14 : ρ14[10]? = some (some (.int (n : Int))) := by rw [← hρ14, g _ _ _ _ (by decide)]; exact n13
  have r14 : ρ14[11]? = some (some (.tup (row.map .int))) := by rw [← hρ14]; exact gs _ _ _ l13 (by decide)
  obtain ⟨t, T4, e15, hT4, ht⟩ := run15 o14 n14 hn hT3
  generalize hρ15 : ρ14.set 12 (some (.int (t : Int))) = ρ15 at e15
  have l15 : ρ15.length = 29 := hρ15 ▸ gl _ _ _ l14
  have o15 : ρ15[1]? = some o0 := by rw [← hρ15, g _ _ _ _ (by decide)]; exact o14
  have n15 : ρ15[10]? = some (some (.int (n : Int))) := by rw [← hρ15, g _ _ _ _ (by decide)]; exact n14
  have r15 : ρ15[11]? = some (some (.tup (row.map .int))) := by rw [← hρ15, g _ _ _ _ (by decide)]; exact r14
  have t15 : ρ15[12]? = some (some (.int (t : Int))) := by rw [← hρ15]; exact gs _ _ _ l14 (by decide)
  have e16 := run16 (T := T4) l15 r15 t15 (by omega) (by omega)
  generalize hρ16 : ρ15.set 13 (some (.tup ((duS row t).map .int))) = ρ16 at e16
  have l16 : ρ16.length = 29 := hρ16 ▸ gl _ _ _ l15
  have o16 : ρ16[1]? = some o0 := by rw [← hρ16, g _ _ _ _ (by decide)]; exact o15
  have n16 : ρ16[10]? = some (some (.int (n : Int))) := by rw [← hρ16, g _ _ _ _ (by decide)]; exact n15
  have r16 : ρ16[11]? = some (some (.tup (row.map .int))) := by rw [← hρ16, g _ _ _ _ (by decide)]; exact r15
  have t16 : ρ16[12]? = some (some (.int (t : Int))) := by rw [← hρ16, g _ _ _ _ (by decide)]; exact t15
  have d16 : ρ16[13]? = some (some (.tup ((duS row t).map .int))) := by rw [← hρ16]; exact gs _ _ _ l15 (by decide)
  have e17 := run17 (T := T4) hs hrow l16 n16 r16
  generalize hρ17 : ρ16.set 14 (some (.int (cntS n row))) = ρ17 at e17
  have l17 : ρ17.length = 29 := hρ17 ▸ gl _ _ _ l16
  have o17 : ρ17[1]? = some o0 := by rw [← hρ17, g _ _ _ _ (by decide)]; exact o16
  have n17 : ρ17[10]? = some (some (.int (n : Int))) := by rw [← hρ17, g _ _ _ _ (by decide)]; exact n16
  have r17 : ρ17[11]? = some (some (.tup (row.map .int))) := by rw [← hρ17, g _ _ _ _ (by decide)]; exact r16
  have t17 : ρ17[12]? = some (some (.int (t : Int))) := by rw [← hρ17, g _ _ _ _ (by decide)]; exact t16
  have d17 : ρ17[13]? = some (some (.tup ((duS row t).map .int))) := by rw [← hρ17, g _ _ _ _ (by decide)]; exact d16
  have c17 : ρ17[14]? = some (some (.int (cntS n row))) := by rw [← hρ17]; exact gs _ _ _ l16 (by decide)
  have e18 := run18 (T := T4) hs hrow hb ht r17 t17 d17 c17
  obtain ⟨j, T5, e19, hT5, hj⟩ := run19 hs o17 n17 hT4
  generalize hρ19 : ρ17.set 15 (some (.int (2 * j : Nat))) = ρ19 at e19
  have l19 : ρ19.length = 29 := hρ19 ▸ gl _ _ _ l17
  have o19 : ρ19[1]? = some o0 := by rw [← hρ19, g _ _ _ _ (by decide)]; exact o17
  have n19 : ρ19[10]? = some (some (.int (n : Int))) := by rw [← hρ19, g _ _ _ _ (by decide)]; exact n17
  have r19 : ρ19[11]? = some (some (.tup (row.map .int))) := by rw [← hρ19, g _ _ _ _ (by decide)]; exact r17
  have c19 : ρ19[14]? = some (some (.int (cntS n row))) := by rw [← hρ19, g _ _ _ _ (by decide)]; exact c17
  have j19 : ρ19[15]? = some (some (.int (2 * j : Nat))) := by rw [← hρ19]; exact gs _ _ _ l17 (by decide)
  obtain ⟨c, T6, e20, hT6, hc⟩ := run20 hs o19 n19 hT5
  generalize hρ20 : ρ19.set 16 (some (.int (c : Int))) = ρ20 at e20
  have l20 : ρ20.length = 29 := hρ20 ▸ gl _ _ _ l19
  have o20 : ρ20[1]? = some o0 := by rw [← hρ20, g _ _ _ _ (by decide)]; exact o19
  have r20 : ρ20[11]? = some (some (.tup (row.map .int))) := by rw [← hρ20, g _ _ _ _ (by decide)]; exact r19
  have c20 : ρ20[14]? = some (some (.int (cntS n row))) := by rw [← hρ20, g _ _ _ _ (by decide)]; exact c19
  have j20 : ρ20[15]? = some (some (.int (2 * j : Nat))) := by rw [← hρ20, g _ _ _ _ (by decide)]; exact j19
  have k20 : ρ20[16]? = some (some (.int (c : Int))) := by rw [← hρ20]; exact gs _ _ _ l19 (by decide)
  have e21 := run21 (T := T6) k20
  generalize hρ21 : ρ20.set 17 (some (.int (sgn c))) = ρ21 at e21
  have l21 : ρ21.length = 29 := hρ21 ▸ gl _ _ _ l20
  have o21 : ρ21[1]? = some o0 := by rw [← hρ21, g _ _ _ _ (by decide)]; exact o20
  have r21 : ρ21[11]? = some (some (.tup (row.map .int))) := by rw [← hρ21, g _ _ _ _ (by decide)]; exact r20
  have c21 : ρ21[14]? = some (some (.int (cntS n row))) := by rw [← hρ21, g _ _ _ _ (by decide)]; exact c20
  have j21 : ρ21[15]? = some (some (.int (2 * j : Nat))) := by rw [← hρ21, g _ _ _ _ (by decide)]; exact j20
  have k21 : ρ21[16]? = some (some (.int (c : Int))) := by rw [← hρ21, g _ _ _ _ (by decide)]; exact k20
  have s21 : ρ21[17]? = some (some (.int (sgn c))) := by rw [← hρ21]; exact gs _ _ _ l20 (by decide)
  have e22 := run22 (T := T6) hs hrow hb hj hc r21 c21 j21 k21 s21
  obtain ⟨f, T7, e23, hT7, hf⟩ := run23 o21 hT6
  have D := doneD (ρ := ρ21.set 18 (some (.int f))) (T := T7) (gl _ _ _ l21) (by rw [g _ _ _ _ (by decide)]; exact o21) (gs _ _ _ l21 (by decide)) hf
  have whole : b_law (slots 29 [.scr ns]) [] = sqs [law_s24, law_s25, law_s26, law_s27, law_s28] law_s29 (ρ21.set 18 (some (.int f))) [T7] := by
    show dSq law_s0 (dSq law_s1 (sqs (segA ++ [law_s13, law_s14, law_s15, law_s16, law_s17, law_s18, law_s19, law_s20, law_s21, law_s22, law_s23, law_s24, law_s25, law_s26, law_s27, law_s28]) law_s29)) (slots 29 [.scr ns]) [] = _
    rw [x_sq e0, x_sq e1, show ((((slots 29 [PV.scr ns]).set 1 o0).set 2 (some (PV.int m))).set 3 (some (PV.int s)) : Rho) = rA (some (.scr ns)) m s from rfl, sqs_app eA]
    show dSq law_s13 (dSq law_s14 (dSq law_s15 (dSq law_s16 (dSq law_s17 (dSq law_s18 (dSq law_s19 (dSq law_s20 (dSq law_s21 (dSq law_s22 (dSq law_s23 (sqs [law_s24, law_s25, law_s26, law_s27, law_s28] law_s29))))))))))) ρA [T1] = _
    rw [x_sq e13, x_sq e14, x_sq e15, x_sq e16, x_sq e17, x_sq e18, x_sq e19, x_sq e20, x_sq e21, x_sq e22, x_sq e23]
  refine endT_isT (m := 1) (n := 29) (b := b_law) rfl ?_
  rw [whole]
  exact D
end K74

set_option Elab.async false
set_option linter.all false
set_option autoImplicit false
set_option maxRecDepth 100000
set_option maxHeartbeats 4000000
namespace K74
open EV PySem PySem.Spec PyProof.Rows L2
def top (i : Nat) : Stmt := PySem.Challenge.pw_wiresmeet_k74_whole_counts_round_and_rou.main.body.getD i (.Pass ⟨0, 0, 0, 0⟩)
abbrev s_last_of_count : Stmt := top 1
def D_last_of_count : He.DefD := ⟨("last_of_count", none), "last_of_count", "last_of_count", defArgs s_last_of_count, defBody s_last_of_count, defScope s_last_of_count, [], []⟩
abbrev s_count_out : Stmt := top 2
def D_count_out : He.DefD := ⟨("count_out", none), "count_out", "count_out", defArgs s_count_out, defBody s_count_out, defScope s_count_out, [], []⟩
abbrev s_down_and_under : Stmt := top 3
def D_down_and_under : He.DefD := ⟨("down_and_under", none), "down_and_under", "down_and_under", defArgs s_down_and_under, defBody s_down_and_under, defScope s_down_and_under, [], []⟩
abbrev s_turned_two : Stmt := top 4
def D_turned_two : He.DefD := ⟨("turned_two", none), "turned_two", "turned_two", defArgs s_turned_two, defBody s_turned_two, defScope s_turned_two, [], []⟩
abbrev s_hummer_count : Stmt := top 5
def D_hummer_count : He.DefD := ⟨("hummer_count", none), "hummer_count", "hummer_count", defArgs s_hummer_count, defBody s_hummer_count, defScope s_hummer_count, [], []⟩
abbrev s_is_hummer : Stmt := top 6
def D_is_hummer : He.DefD := ⟨("is_hummer", none), "is_hummer", "is_hummer", defArgs s_is_hummer, defBody s_is_hummer, defScope s_is_hummer, [], []⟩
abbrev s_all_hummer : Stmt := top 7
def D_all_hummer : He.DefD := ⟨("all_hummer", none), "all_hummer", "all_hummer", defArgs s_all_hummer, defBody s_all_hummer, defScope s_all_hummer, [], []⟩
abbrev s_monge_order : Stmt := top 8
def D_monge_order : He.DefD := ⟨("monge_order", none), "monge_order", "monge_order", defArgs s_monge_order, defBody s_monge_order, defScope s_monge_order, [], []⟩
abbrev s__law_next : Stmt := top 10
def D__law_next : He.DefD := ⟨("_law_next", none), "_law_next", "_law_next", defArgs s__law_next, defBody s__law_next, defScope s__law_next, [], []⟩
abbrev s__law_same : Stmt := top 11
def D__law_same : He.DefD := ⟨("_law_same", none), "_law_same", "_law_same", defArgs s__law_same, defBody s__law_same, defScope s__law_same, [], []⟩
abbrev s__law_out : Stmt := top 16
def D__law_out : He.DefD := ⟨("_law_out", none), "_law_out", "_law_out", defArgs s__law_out, defBody s__law_out, defScope s__law_out, [], []⟩
abbrev s_law : Stmt := top 17
def D_law : He.DefD := ⟨("law", none), "law", "law", defArgs s_law, defBody s_law, defScope s_law, [], []⟩
def fn : List He.DefD := [D_last_of_count, D_count_out, D_down_and_under, D_turned_two, D_hummer_count, D_is_hummer, D_all_hummer, D_monge_order, D__law_next, D__law_same, D__law_out, D_law]
def fa : List He.Fa := [.glo "last_of_count", .glo "count_out", .glo "down_and_under", .glo "turned_two", .glo "hummer_count", .glo "is_hummer", .glo "all_hummer", .glo "monge_order", .glo "_law_next", .glo "_law_same", .glo "_law_out", .glo "law", .free "abs", .free "bool", .free "int", .free "isinstance", .free "len", .free "list", .free "range", .free "reversed", .free "sorted", .free "str", .free "sum", .free "tuple"]
section
variable {P : Program} {w : World} {K : PySem.W.Frag} {mg : Str → Option Value} {base h : Heap}
theorem sc_last_of_count : FnScope ["many", "step", "found", "size"] ["many", "step"] (defScope s_last_of_count) := ⟨rfl, rfl, rfl, by decide +kernel, rfl, by decide +kernel, by decide +kernel⟩
theorem c_last_of_count (c : He.SaysD fa fn K) (KX : K.In h) (G : h.Ns mainGlobals mg) : Cal P w K mg base "last_of_count" 1 ["many", "step"] d_last_of_count := by
  obtain ⟨fd, F⟩ := c.def_ 0 (d := D_last_of_count) rfl
  have m_int : mg "int" = none := He.free_ok KX G (c.fact 14 (f := .free "int") rfl)
  have m_range : mg "range" = none := He.free_ok KX G (c.fact 18 (f := .free "range") rfl)
  refine ⟨_, fd, ok_defD (N := ["many", "step", "found", "size"]) (ps := ["many", "step"]) (k := 0) b_last_of_count F sc_last_of_count (fun cdv A outer s H E hr tk hp => ?_), He.glo_ok KX G (c.fact 0 (f := .glo "last_of_count") rfl), F.kp, F.bindsN fun _ _ _ _ _ _ us hl => match us, hl with | [_, _], _ => rfl⟩
  have hu := hr.units
  have nd := sc_last_of_count.nd
  exact ss_cons (s_asg (e_int) (g_name 2 nd))
        (ss_cons (s_for hp (i_rg2 m_range (a_cons (e_int) (a_cons (e_op op_addA s_add (e_var 0) (e_int)) (a_nil)))) (g_name 3 nd) (ss_one (s_asg (e_op op_mod s_mod (e_ty call_int1 b_int m_int (a_cons (e_op op_addA s_add (e_var 2) (e_var 1)) (a_nil)) (by decide +kernel)) (e_var 3)) (g_name 2 nd))))
        (ss_one (s_ret (e_var 2))))
theorem sc_count_out : FnScope ["many", "step", "left", "at", "found"] ["many", "step"] (defScope s_count_out) := ⟨rfl, rfl, rfl, by decide +kernel, rfl, by decide +kernel, by decide +kernel⟩
theorem c_count_out (c : He.SaysD fa fn K) (KX : K.In h) (G : h.Ns mainGlobals mg) : Cal P w K mg base "count_out" 1 ["many", "step"] d_count_out := by
  obtain ⟨fd, F⟩ := c.def_ 1 (d := D_count_out) rfl
  have m_int : mg "int" = none := He.free_ok KX G (c.fact 14 (f := .free "int") rfl)
  have m_len : mg "len" = none := He.free_ok KX G (c.fact 16 (f := .free "len") rfl)
  have m_list : mg "list" = none := He.free_ok KX G (c.fact 17 (f := .free "list") rfl)
  have m_range : mg "range" = none := He.free_ok KX G (c.fact 18 (f := .free "range") rfl)
  have m_tuple : mg "tuple" = none := He.free_ok KX G (c.fact 23 (f := .free "tuple") rfl)
  refine ⟨_, fd, ok_defD (N := ["many", "step", "left", "at", "found"]) (ps := ["many", "step"]) (k := 0) b_count_out F sc_count_out (fun cdv A outer s H E hr tk hp => ?_), He.glo_ok KX G (c.fact 1 (f := .glo "count_out") rfl), F.kp, F.bindsN fun _ _ _ _ _ _ us hl => match us, hl with | [_, _], _ => rfl⟩
  have hu := hr.units
  have nd := sc_count_out.nd
  exact ss_cons (s_par3 (i := 2) (j := 3) (l := 4) nd rfl rfl rfl (by decide) (by decide) (by decide) (a_cons (e_new (f_listRg m_list (r_1 m_range (e_var 0)))) (a_cons (e_int) (a_cons (e_new (f_lst (a_nil))) (a_nil)))))
        (ss_cons (s_while 1000000 hp (t_cmp (op_neP hu) s_ne (e_var 2) (e_pure (f_lst (a_nil)))) (ss_cons (s_asg (e_op op_mod s_mod (e_ty call_int1 b_int m_int (a_cons (e_op op_sub s_sub (e_op op_addA s_add (e_var 3) (e_var 1)) (e_int)) (a_nil)) (by decide +kernel)) (e_bi cr_lenP b_len m_len (a_cons (e_var 2) (a_nil)) PySem.boot_len)) (g_name 3 nd))
        (ss_one (s_expr (e_m PySem.F.plainAttrs_list PySem.F.slot_list_append PySem.F.type_list_append mt_append m_append isL_ok (e_var 4) (a_cons (e_m PySem.F.plainAttrs_list PySem.F.slot_list_pop PySem.F.type_list_pop (MtR.or mt_pop mt_popAt) m_pop isL_ok (e_var 2) (a_cons (e_var 3) (a_nil))) (a_nil)))))))
        (ss_one (s_ret (e_ty call_tuple_of b_tuple m_tuple (a_cons (e_var 4) (a_nil)) (by decide +kernel)))))
theorem sc_down_and_under : FnScope ["many", "left", "found"] ["many"] (defScope s_down_and_under) := ⟨rfl, rfl, rfl, by decide +kernel, rfl, by decide +kernel, by decide +kernel⟩
theorem c_down_and_under (c : He.SaysD fa fn K) (KX : K.In h) (G : h.Ns mainGlobals mg) : Cal P w K mg base "down_and_under" 1 ["many"] d_down_and_under := by
  obtain ⟨fd, F⟩ := c.def_ 2 (d := D_down_and_under) rfl
  have m_list : mg "list" = none := He.free_ok KX G (c.fact 17 (f := .free "list") rfl)
  have m_range : mg "range" = none := He.free_ok KX G (c.fact 18 (f := .free "range") rfl)
  have m_tuple : mg "tuple" = none := He.free_ok KX G (c.fact 23 (f := .free "tuple") rfl)
  refine ⟨_, fd, ok_defD (N := ["many", "left", "found"]) (ps := ["many"]) (k := 0) b_down_and_under F sc_down_and_under (fun cdv A outer s H E hr tk hp => ?_), He.glo_ok KX G (c.fact 2 (f := .glo "down_and_under") rfl), F.kp, F.bindsN fun _ _ _ _ _ _ us hl => match us, hl with | [_], _ => rfl⟩
  have hu := hr.units
  have nd := sc_down_and_under.nd
  exact ss_cons (s_par2 (i := 1) (j := 2) nd rfl rfl (by decide) (a_cons (e_new (f_listRg m_list (r_1 m_range (e_var 0)))) (a_cons (e_new (f_lst (a_nil))) (a_nil))))
        (ss_cons (s_while 1000000 hp (t_cmp (op_neP hu) s_ne (e_var 1) (e_pure (f_lst (a_nil)))) (ss_cons (s_expr (e_m PySem.F.plainAttrs_list PySem.F.slot_list_append PySem.F.type_list_append mt_append m_append isL_ok (e_var 2) (a_cons (e_m PySem.F.plainAttrs_list PySem.F.slot_list_pop PySem.F.type_list_pop (MtR.or mt_pop mt_popAt) m_pop isL_ok (e_var 1) (a_cons (e_int) (a_nil))) (a_nil))))
        (ss_one (s_if (t_cmp (op_neP hu) s_ne (e_var 1) (e_pure (f_lst (a_nil)))) (ss_one (s_expr (e_m PySem.F.plainAttrs_list PySem.F.slot_list_append PySem.F.type_list_append mt_append m_append isL_ok (e_var 1) (a_cons (e_m PySem.F.plainAttrs_list PySem.F.slot_list_pop PySem.F.type_list_pop (MtR.or mt_pop mt_popAt) m_pop isL_ok (e_var 1) (a_cons (e_int) (a_nil))) (a_nil))))) (ss_nil)))))
        (ss_one (s_ret (e_ty call_tuple_of b_tuple m_tuple (a_cons (e_var 2) (a_nil)) (by decide +kernel)))))
theorem sc_turned_two : FnScope ["row", "size", "one"] ["row", "size"] (defScope s_turned_two) := ⟨rfl, rfl, rfl, by decide +kernel, rfl, by decide +kernel, by decide +kernel⟩
theorem c_turned_two (c : He.SaysD fa fn K) (KX : K.In h) (G : h.Ns mainGlobals mg) : Cal P w K mg base "turned_two" 1 ["row", "size"] d_turned_two := by
  obtain ⟨fd, F⟩ := c.def_ 3 (d := D_turned_two) rfl
  have m_reversed : mg "reversed" = none := He.free_ok KX G (c.fact 19 (f := .free "reversed") rfl)
  have m_tuple : mg "tuple" = none := He.free_ok KX G (c.fact 23 (f := .free "tuple") rfl)
  refine ⟨_, fd, ok_defD (N := ["row", "size", "one"]) (ps := ["row", "size"]) (k := 0) b_turned_two F sc_turned_two (fun cdv A outer s H E hr tk hp => ?_), He.glo_ok KX G (c.fact 3 (f := .glo "turned_two") rfl), F.kp, F.bindsN fun _ _ _ _ _ _ us hl => match us, hl with | [_, _], _ => rfl⟩
  have hu := hr.units
  have nd := sc_turned_two.nd
  exact ss_one (s_ret (e_op op_addA s_add (e_ty call_tuple_of b_tuple m_tuple (a_cons (e_pure (f_lc (own := [("one", 2)]) nd (i_rev m_reversed (e_slice (e_var 0) (o_none) (o_some (e_var 1)))) (blkOk_by (N := ["row", "size", "one"]) (sc := defScope s_turned_two) (by decide +kernel)) (by decide) (fun _ _ _ _ _ => g_name 2 nd) (fun _ _ _ _ _ => ts_nil) (fun _ _ _ _ _ => e_op op_sub s_sub (e_int) (e_var 2)))) (a_nil)) (by decide +kernel)) (e_slice (e_var 0) (o_some (e_var 1)) (o_none))))
theorem sc_hummer_count : FnScope ["row", "k"] ["row"] (defScope s_hummer_count) := ⟨rfl, rfl, rfl, by decide +kernel, rfl, by decide +kernel, by decide +kernel⟩
theorem c_hummer_count (c : He.SaysD fa fn K) (KX : K.In h) (G : h.Ns mainGlobals mg) : Cal P w K mg base "hummer_count" 1 ["row"] d_hummer_count := by
  obtain ⟨fd, F⟩ := c.def_ 4 (d := D_hummer_count) rfl
  have m_len : mg "len" = none := He.free_ok KX G (c.fact 16 (f := .free "len") rfl)
  have m_range : mg "range" = none := He.free_ok KX G (c.fact 18 (f := .free "range") rfl)
  have m_sum : mg "sum" = none := He.free_ok KX G (c.fact 22 (f := .free "sum") rfl)
  refine ⟨_, fd, ok_defD (N := ["row", "k"]) (ps := ["row"]) (k := 0) b_hummer_count F sc_hummer_count (fun cdv A outer s H E hr tk hp => ?_), He.glo_ok KX G (c.fact 4 (f := .glo "hummer_count") rfl), F.kp, F.bindsN fun _ _ _ _ _ _ us hl => match us, hl with | [_], _ => rfl⟩
  have hu := hr.units
  have nd := sc_hummer_count.nd
  exact ss_one (s_ret (e_bi (cr_sum rfl) b_sum m_sum (a_cons (e_pure (f_lc (own := [("k", 1)]) nd (i_rg1 m_range (a_cons (e_bi cr_lenP b_len m_len (a_cons (e_var 0) (a_nil)) PySem.boot_len) (a_nil))) (blkOk_by (N := ["row", "k"]) (sc := defScope s_hummer_count) (by decide +kernel)) (by decide) (fun _ _ _ _ _ => g_name 1 nd) (fun _ _ _ _ _ => ts_nil) (fun _ _ _ _ _ => e_if (t_cmp (op_eqP hu) s_eq (e_op op_and s_and (e_var 1) (e_int)) (e_int)) (e_ix (ix_A hu) s_ixA (e_var 0) (e_var 1)) (e_op op_sub s_sub (e_int) (e_ix (ix_A hu) s_ixA (e_var 0) (e_var 1)))))) (a_nil)) (by decide +kernel)))
theorem sc_is_hummer : FnScope ["row"] ["row"] (defScope s_is_hummer) := ⟨rfl, rfl, rfl, by decide +kernel, rfl, by decide +kernel, by decide +kernel⟩
theorem c_is_hummer (c : He.SaysD fa fn K) (KX : K.In h) (G : h.Ns mainGlobals mg) : Cal P w K mg base "is_hummer" 2 ["row"] d_is_hummer := by
  obtain ⟨fd, F⟩ := c.def_ 5 (d := D_is_hummer) rfl
  have m_len : mg "len" = none := He.free_ok KX G (c.fact 16 (f := .free "len") rfl)
  refine ⟨_, fd, ok_defD (N := ["row"]) (ps := ["row"]) (k := 1) b_is_hummer F sc_is_hummer (fun cdv A outer s H E hr tk hp => ?_), He.glo_ok KX G (c.fact 5 (f := .glo "is_hummer") rfl), F.kp, F.bindsN fun _ _ _ _ _ _ us hl => match us, hl with | [_], _ => rfl⟩
  have hu := hr.units
  have nd := sc_is_hummer.nd
  exact ss_one (s_ret (v_and (e_cmp (op_eqP hu) s_eq (e_op op_and s_and (e_bi cr_lenP b_len m_len (a_cons (e_var 0) (a_nil)) PySem.boot_len) (e_int)) (e_int)) (v_one (e_cmp (op_eqP hu) s_eq (e_callC (c_hummer_count c KX G) (hr.mono (by omega)) (lets_of tk) (a_cons (e_var 0) (a_nil))) (e_int)))))
theorem sc_all_hummer : FnScope ["many", "start", "found", "waiting", "now", "later"] ["many"] (defScope s_all_hummer) := ⟨rfl, rfl, rfl, by decide +kernel, rfl, by decide +kernel, by decide +kernel⟩
theorem c_all_hummer (c : He.SaysD fa fn K) (KX : K.In h) (G : h.Ns mainGlobals mg) : Cal P w K mg base "all_hummer" 2 ["many"] d_all_hummer := by
  obtain ⟨fd, F⟩ := c.def_ 6 (d := D_all_hummer) rfl
  have m_sorted : mg "sorted" = none := He.free_ok KX G (c.fact 20 (f := .free "sorted") rfl)
  refine ⟨_, fd, ok_defD (N := ["many", "start", "found", "waiting", "now", "later"]) (ps := ["many"]) (k := 1) b_all_hummer F sc_all_hummer (fun cdv A outer s H E hr tk hp => ?_), He.glo_ok KX G (c.fact 6 (f := .glo "all_hummer") rfl), F.kp, F.bindsN fun _ _ _ _ _ _ us hl => match us, hl with | [_], _ => rfl⟩
  have hu := hr.units
  have nd := sc_all_hummer.nd
  exact ss_cons (s_asg (e_op op_mulA s_mulA (e_tup (a_cons (e_int) (a_nil))) (e_var 0)) (g_name 1 nd))
        (ss_cons (s_asg (e_disp1 hu (e_var 1) (e_bl)) (g_name 2 nd))
        (ss_cons (s_asg (e_new (f_lst (a_cons (e_var 1) (a_nil)))) (g_name 3 nd))
        (ss_cons (s_while 1000000 hp (t_cmp (op_neP hu) s_ne (e_var 3) (e_pure (f_lst (a_nil)))) (ss_cons (s_asg (e_m0 PySem.F.plainAttrs_list PySem.F.slot_list_pop PySem.F.type_list_pop (MtR.or mt_pop mt_popAt) m_pop isL_ok (e_var 3)) (g_name 4 nd))
        (ss_one (s_for hp (i_seq (e_tup (a_cons (e_callC (c_turned_two c KX G) (hr.mono (by omega)) (lets_of tk) (a_cons (e_var 4) (a_cons (e_int) (a_nil)))) (a_cons (e_op op_addA s_add (e_slice (e_var 4) (o_some (e_int)) (o_none)) (e_slice (e_var 4) (o_none) (o_some (e_int)))) (a_nil))))) (g_name 5 nd) (ss_one (s_if (t_cmp (op_notInA hu) s_notInA (e_var 5) (e_var 2)) (ss_cons (s_asg (e_bl) (g_subA (W := W0) hu (e_var 2) (e_var 5)))
        (ss_one (s_expr (e_m PySem.F.plainAttrs_list PySem.F.slot_list_append PySem.F.type_list_append mt_append m_append isL_ok (e_var 3) (a_cons (e_var 5) (a_nil)))))) (ss_nil)))))))
        (ss_one (s_ret (e_pure (f_bi (cr_srtA rfl hu) b_sortedA m_sorted (a_cons (e_var 2) (a_nil)) (by decide +kernel))))))))
theorem sc_monge_order : FnScope ["many", "found", "card"] ["many"] (defScope s_monge_order) := ⟨rfl, rfl, rfl, by decide +kernel, rfl, by decide +kernel, by decide +kernel⟩
theorem c_monge_order (c : He.SaysD fa fn K) (KX : K.In h) (G : h.Ns mainGlobals mg) : Cal P w K mg base "monge_order" 1 ["many"] d_monge_order := by
  obtain ⟨fd, F⟩ := c.def_ 7 (d := D_monge_order) rfl
  have m_range : mg "range" = none := He.free_ok KX G (c.fact 18 (f := .free "range") rfl)
  have m_tuple : mg "tuple" = none := He.free_ok KX G (c.fact 23 (f := .free "tuple") rfl)
  refine ⟨_, fd, ok_defD (N := ["many", "found", "card"]) (ps := ["many"]) (k := 0) b_monge_order F sc_monge_order (fun cdv A outer s H E hr tk hp => ?_), He.glo_ok KX G (c.fact 7 (f := .glo "monge_order") rfl), F.kp, F.bindsN fun _ _ _ _ _ _ us hl => match us, hl with | [_], _ => rfl⟩
  have hu := hr.units
  have nd := sc_monge_order.nd
  exact ss_cons (s_asg (e_new (f_lst (a_nil))) (g_name 1 nd))
        (ss_cons (s_for hp (i_rg1 m_range (a_cons (e_var 0) (a_nil))) (g_name 2 nd) (ss_one (s_if (t_cmp (op_eqP hu) s_eq (e_op op_and s_and (e_var 2) (e_int)) (e_int)) (ss_one (s_expr (e_m PySem.F.plainAttrs_list PySem.F.slot_list_insert PySem.F.type_list_insert L2.mt_insert m_insert isL_ok (e_var 1) (a_cons (e_int) (a_cons (e_var 2) (a_nil)))))) (ss_one (s_expr (e_m PySem.F.plainAttrs_list PySem.F.slot_list_append PySem.F.type_list_append mt_append m_append isL_ok (e_var 1) (a_cons (e_var 2) (a_nil))))))))
        (ss_one (s_ret (e_ty call_tuple_of b_tuple m_tuple (a_cons (e_var 1) (a_nil)) (by decide +kernel)))))
theorem sc__law_next : FnScope ["tape", "many", "rest", "cell"] ["tape", "many"] (defScope s__law_next) := ⟨rfl, rfl, rfl, by decide +kernel, rfl, by decide +kernel, by decide +kernel⟩
theorem c__law_next (c : He.SaysD fa fn K) (KX : K.In h) (G : h.Ns mainGlobals mg) : Cal P w K mg base "_law_next" 1 ["tape", "many"] d__law_next := by
  obtain ⟨fd, F⟩ := c.def_ 8 (d := D__law_next) rfl
  have m_abs : mg "abs" = none := He.free_ok KX G (c.fact 12 (f := .free "abs") rfl)
  have m_int : mg "int" = none := He.free_ok KX G (c.fact 14 (f := .free "int") rfl)
  have m_len : mg "len" = none := He.free_ok KX G (c.fact 16 (f := .free "len") rfl)
  refine ⟨_, fd, ok_defD (N := ["tape", "many", "rest", "cell"]) (ps := ["tape", "many"]) (k := 0) b__law_next F sc__law_next (fun cdv A outer s H E hr tk hp => ?_), He.glo_ok KX G (c.fact 8 (f := .glo "_law_next") rfl), F.kp, F.bindsN fun _ _ _ _ _ _ us hl => match us, hl with | [_, _], _ => rfl⟩
  have hu := hr.units
  have nd := sc__law_next.nd
  exact ss_cons (s_asg (e_ix (ix_A hu) s_ixA (e_var 0) (e_int)) (g_name 2 nd))
        (ss_cons (s_if (t_cmp (op_eqP hu) s_eq (e_var 2) (e_int)) (ss_cons (s_asg (e_int) (g_name 3 nd))
        (ss_cons (s_if (t_cmp op_lt s_lt (e_ix (ix_A hu) s_ixA (e_var 0) (e_int)) (e_bi cr_lenP b_len m_len (a_cons (e_ix (ix_A hu) s_ixA (e_var 0) (e_int)) (a_nil)) PySem.boot_len)) (ss_cons (s_asg (e_bi call_abs b_abs m_abs (a_cons (e_ty call_int1 b_int m_int (a_cons (e_ix (ix_A hu) s_ixA (e_ix (ix_A hu) s_ixA (e_var 0) (e_int)) (e_ix (ix_A hu) s_ixA (e_var 0) (e_int))) (a_nil)) (by decide +kernel)) (a_nil)) (by decide +kernel)) (g_name 3 nd))
        (ss_one (s_asg (e_op op_addA s_add (e_ix (ix_A hu) s_ixA (e_var 0) (e_int)) (e_int)) (g_subA (W := W0) hu (e_var 0) (e_int))))) (ss_nil))
        (ss_cons (s_asg (e_var 3) (g_name 2 nd))
        (ss_one (s_if (t_cmp op_lt s_lt (e_var 3) (e_op op_pow s_pow (e_int) (e_int))) (ss_cons (s_asg (e_op op_mod s_mod (e_ty call_int1 b_int m_int (a_cons (e_op op_addA s_add (e_op op_addA s_add (e_op op_mulA s_mulA (e_ix (ix_A hu) s_ixA (e_var 0) (e_int)) (e_int)) (e_op op_mulA s_mulA (e_var 3) (e_int))) (e_int)) (a_nil)) (by decide +kernel)) (e_int)) (g_subA (W := W0) hu (e_var 0) (e_int)))
        (ss_one (s_ret (e_op op_mod s_mod (e_op op_mod s_mod (e_ty call_int1 b_int m_int (a_cons (e_op op_mulA s_mulA (e_ty call_int1 b_int m_int (a_cons (e_op op_fdivW s_div (e_ix (ix_A hu) s_ixA (e_var 0) (e_int)) (e_int)) (a_nil)) (by decide +kernel)) (e_int)) (a_nil)) (by decide +kernel)) (e_int)) (e_var 1))))) (ss_nil)))))) (ss_nil))
        (ss_cons (s_asg (e_op op_fdivW s_div (e_var 2) (e_var 1)) (g_subA (W := W0) hu (e_var 0) (e_int)))
        (ss_one (s_ret (e_op op_mod s_mod (e_ty call_int1 b_int m_int (a_cons (e_var 2) (a_nil)) (by decide +kernel)) (e_var 1))))))
theorem sc__law_same : FnScope ["told", "due", "k"] ["told", "due"] (defScope s__law_same) := ⟨rfl, rfl, rfl, by decide +kernel, rfl, by decide +kernel, by decide +kernel⟩
theorem cn__law_same (c : He.SaysD fa fn K) (KX : K.In h) (G : h.Ns mainGlobals mg) : ∀ n : Nat, Cal P w K mg base "_law_same" (0 + n) ["told", "due"] (r__law_same n)
  | 0 => by
    obtain ⟨fd, F⟩ := c.def_ 9 (d := D__law_same) rfl
    exact ⟨_, fd, no_fn, He.glo_ok KX G (c.fact 9 (f := .glo "_law_same") rfl), F.kp, F.bindsN fun _ _ _ _ _ _ us hl => match us, hl with | [_, _], _ => rfl⟩
  | n + 1 => by
    have IH : ∀ _ : Nat, Cal P w K mg base "_law_same" (0 + n) ["told", "due"] (r__law_same n) := fun _ => cn__law_same c KX G n
    obtain ⟨fd, F⟩ := c.def_ 9 (d := D__law_same) rfl
    have m_bool : mg "bool" = none := He.free_ok KX G (c.fact 13 (f := .free "bool") rfl)
    have m_int : mg "int" = none := He.free_ok KX G (c.fact 14 (f := .free "int") rfl)
    have m_isinstance : mg "isinstance" = none := He.free_ok KX G (c.fact 15 (f := .free "isinstance") rfl)
    have m_len : mg "len" = none := He.free_ok KX G (c.fact 16 (f := .free "len") rfl)
    have m_list : mg "list" = none := He.free_ok KX G (c.fact 17 (f := .free "list") rfl)
    have m_range : mg "range" = none := He.free_ok KX G (c.fact 18 (f := .free "range") rfl)
    have m_str : mg "str" = none := He.free_ok KX G (c.fact 21 (f := .free "str") rfl)
    have m_tuple : mg "tuple" = none := He.free_ok KX G (c.fact 23 (f := .free "tuple") rfl)
    refine ⟨_, fd, ok_defD (N := ["told", "due", "k"]) (ps := ["told", "due"]) (k := 0 + n) (b__law_same (fun _ => r__law_same n) n) F sc__law_same (fun cdv A outer s H E hr tk hp => ?_), He.glo_ok KX G (c.fact 9 (f := .glo "_law_same") rfl), F.kp, F.bindsN fun _ _ _ _ _ _ us hl => match us, hl with | [_, _], _ => rfl⟩
    have hu := hr.units
    have nd := sc__law_same.nd
    exact ss_cons (s_if (t_isN (e_var 1)) (ss_one (s_ret (e_isN (e_var 0)))) (ss_nil))
        (ss_cons (s_if (t_val (e_isi .bl m_isinstance m_bool (e_var 1) (by decide +kernel) (by decide +kernel))) (ss_one (s_ret (v_and (e_isi .bl m_isinstance m_bool (e_var 0) (by decide +kernel) (by decide +kernel)) (v_one (e_cmp (op_eqP hu) s_eq (e_var 0) (e_var 1)))))) (ss_nil))
        (ss_cons (s_if (t_val (e_isi .int m_isinstance m_int (e_var 1) (by decide +kernel) (by decide +kernel))) (ss_one (s_ret (v_and (e_isi .int m_isinstance m_int (e_var 0) (by decide +kernel) (by decide +kernel)) (v_and (v_not (e_isi .bl m_isinstance m_bool (e_var 0) (by decide +kernel) (by decide +kernel))) (v_one (e_cmp (op_eqP hu) s_eq (e_var 0) (e_var 1))))))) (ss_nil))
        (ss_cons (s_if (t_val (e_isi .str m_isinstance m_str (e_var 1) (by decide +kernel) (by decide +kernel))) (ss_one (s_ret (v_and (e_isi .str m_isinstance m_str (e_var 0) (by decide +kernel) (by decide +kernel)) (v_one (e_cmp (op_eqP hu) s_eq (e_var 0) (e_var 1)))))) (ss_nil))
        (ss_cons (s_if (w_pt (w_or (w_pt (w_and (t_val (e_isi .lst m_isinstance m_list (e_var 1) (by decide +kernel) (by decide +kernel))) (w_and1 (t_not (t_val (e_isi .lst m_isinstance m_list (e_var 0) (by decide +kernel) (by decide +kernel))))))) (w_or1 (w_pt (w_and (t_val (e_isi .tup m_isinstance m_tuple (e_var 1) (by decide +kernel) (by decide +kernel))) (w_and1 (t_not (t_val (e_isi .tup m_isinstance m_tuple (e_var 0) (by decide +kernel) (by decide +kernel)))))))))) (ss_one (s_ret (e_bl))) (ss_nil))
        (ss_one (s_ret (v_and (e_cmp (op_eqP hu) s_eq (e_bi cr_lenP b_len m_len (a_cons (e_var 0) (a_nil)) PySem.boot_len) (e_bi cr_lenP b_len m_len (a_cons (e_var 1) (a_nil)) PySem.boot_len)) (v_one (e_cmp (op_eqP hu) s_eq (e_pure (f_lc (own := [("k", 2)]) nd (i_rg1 m_range (a_cons (e_bi cr_lenP b_len m_len (a_cons (e_var 1) (a_nil)) PySem.boot_len) (a_nil))) (blkOk_by (N := ["told", "due", "k"]) (sc := defScope s__law_same) (by decide +kernel)) (by decide) (fun _ _ _ _ _ => g_name 2 nd) (fun _ _ _ _ _ => ts_one (t_not (t_val (e_callC (IH n) (hr.mono (by omega)) lets0 (a_cons (e_ix (ix_A hu) s_ixA (e_var 0) (e_var 2)) (a_cons (e_ix (ix_A hu) s_ixA (e_var 1) (e_var 2)) (a_nil))))))) (fun _ _ _ _ _ => e_int))) (e_pure (f_lst (a_nil))))))))))))
theorem c__law_same (c : He.SaysD fa fn K) (KX : K.In h) (G : h.Ns mainGlobals mg) : Cal P w K mg base "_law_same" 8 ["told", "due"] d__law_same := cn__law_same c KX G 8
theorem sc__law_out : FnScope ["many", "step", "here", "found", "at", "left"] ["many", "step"] (defScope s__law_out) := ⟨rfl, rfl, rfl, by decide +kernel, rfl, by decide +kernel, by decide +kernel⟩
theorem c__law_out (c : He.SaysD fa fn K) (KX : K.In h) (G : h.Ns mainGlobals mg) : Cal P w K mg base "_law_out" 1 ["many", "step"] d__law_out := by
  obtain ⟨fd, F⟩ := c.def_ 10 (d := D__law_out) rfl
  have m_int : mg "int" = none := He.free_ok KX G (c.fact 14 (f := .free "int") rfl)
  have m_len : mg "len" = none := He.free_ok KX G (c.fact 16 (f := .free "len") rfl)
  have m_tuple : mg "tuple" = none := He.free_ok KX G (c.fact 23 (f := .free "tuple") rfl)
  refine ⟨_, fd, ok_defD (N := ["many", "step", "here", "found", "at", "left"]) (ps := ["many", "step"]) (k := 0) b__law_out F sc__law_out (fun cdv A outer s H E hr tk hp => ?_), He.glo_ok KX G (c.fact 10 (f := .glo "_law_out") rfl), F.kp, F.bindsN fun _ _ _ _ _ _ us hl => match us, hl with | [_, _], _ => rfl⟩
  have hu := hr.units
  have nd := sc__law_out.nd
  exact ss_cons (s_par3 (i := 2) (j := 3) (l := 4) nd rfl rfl rfl (by decide) (by decide) (by decide) (a_cons (e_new (f_op op_rep s_rep (e_pure (f_lst (a_cons (e_bl) (a_nil)))) (e_var 0))) (a_cons (e_new (f_lst (a_nil))) (a_cons (e_op op_sub s_sub (e_var 0) (e_int)) (a_nil)))))
        (ss_cons (s_while 1000000 hp (t_cmp op_lt s_lt (e_bi cr_lenP b_len m_len (a_cons (e_var 3) (a_nil)) PySem.boot_len) (e_var 0)) (ss_cons (s_asg (e_var 1) (g_name 5 nd))
        (ss_cons (s_while 1000000 hp (t_cmp op_gt s_gt (e_var 5) (e_int)) (ss_cons (s_asg (e_op op_mod s_mod (e_ty call_int1 b_int m_int (a_cons (e_op op_addA s_add (e_var 4) (e_int)) (a_nil)) (by decide +kernel)) (e_var 0)) (g_name 4 nd))
        (ss_one (s_asg (e_op op_sub s_sub (e_var 5) (e_ty call_int1 b_int m_int (a_cons (e_ix (ix_A hu) s_ixA (e_var 2) (e_var 4)) (a_nil)) (by decide +kernel))) (g_name 5 nd)))))
        (ss_cons (s_asg (e_bl) (g_subA (W := W0) hu (e_var 2) (e_var 4)))
        (ss_one (s_expr (e_m PySem.F.plainAttrs_list PySem.F.slot_list_append PySem.F.type_list_append mt_append m_append isL_ok (e_var 3) (a_cons (e_var 4) (a_nil)))))))))
        (ss_one (s_ret (e_ty call_tuple_of b_tuple m_tuple (a_cons (e_var 3) (a_nil)) (by decide +kernel)))))
theorem sc_law : FnScope ["script", "tape", "many", "step", "out", "left", "down", "power", "put", "card", "size", "row", "top", "turned", "count", "even", "cut", "sign", "few", "rows", "turn", "later", "one", "due", "met", "waiting", "now", "k", "bit"] ["script"] (defScope s_law) := ⟨rfl, rfl, rfl, by decide +kernel, rfl, by decide +kernel, by decide +kernel⟩
theorem fn_law (c : He.SaysD fa fn K) (KX : K.In h) (G : h.Ns mainGlobals mg) {fd : FuncData} (F : FunD K D_law.name D_law.qual D_law.params D_law.body D_law.scope (He.DefD.dvs K D_law) (He.DefD.kws K D_law) (He.fAd K D_law.at_) fd) : FnOk P w K mg base (L2.CX P w) 10 (He.fAd K D_law.at_) fd ["script"] (spF K mg d_law) := by
  have m_int : mg "int" = none := He.free_ok KX G (c.fact 14 (f := .free "int") rfl)
  have m_list : mg "list" = none := He.free_ok KX G (c.fact 17 (f := .free "list") rfl)
  have m_range : mg "range" = none := He.free_ok KX G (c.fact 18 (f := .free "range") rfl)
  have m_sorted : mg "sorted" = none := He.free_ok KX G (c.fact 20 (f := .free "sorted") rfl)
  have m_sum : mg "sum" = none := He.free_ok KX G (c.fact 22 (f := .free "sum") rfl)
  have m_tuple : mg "tuple" = none := He.free_ok KX G (c.fact 23 (f := .free "tuple") rfl)
  refine ok_defD (N := ["script", "tape", "many", "step", "out", "left", "down", "power", "put", "card", "size", "row", "top", "turned", "count", "even", "cut", "sign", "few", "rows", "turn", "later", "one", "due", "met", "waiting", "now", "k", "bit"]) (ps := ["script"]) (k := 9) b_law F sc_law (fun cdv A outer s H E hr tk hp => ?_)
  have hu := hr.units
  have nd := sc_law.nd
  exact ss_cons (s_asg (e_new (f_lst (a_cons (e_pure (f_ty call_list_of b_list m_list (a_cons (e_var 0) (a_nil)) (by decide +kernel))) (a_cons (e_int) (a_cons (e_int) (a_cons (e_int) (a_nil))))))) (g_name 1 nd))
        (ss_cons (s_par2 (i := 2) (j := 3) nd rfl rfl (by decide) (a_cons (e_op op_addA s_add (e_int) (e_callC (c__law_next c KX G) (hr.mono (by omega)) (lets_of tk) (a_cons (e_var 1) (a_cons (e_int) (a_nil))))) (a_cons (e_op op_addA s_add (e_int) (e_callC (c__law_next c KX G) (hr.mono (by omega)) (lets_of tk) (a_cons (e_var 1) (a_cons (e_int) (a_nil))))) (a_nil))))
        (ss_cons (s_asg (e_callC (c__law_out c KX G) (hr.mono (by omega)) (lets_of tk) (a_cons (e_var 2) (a_cons (e_var 3) (a_nil)))) (g_name 4 nd))
        (ss_cons (s_if (t_not (t_val (e_callC (c__law_same c KX G) (hr.mono (by omega)) (lets_of tk) (a_cons (e_pure (f_lst (a_cons (e_callC (c_count_out c KX G) (hr.mono (by omega)) (lets_of tk) (a_cons (e_var 2) (a_cons (e_var 3) (a_nil)))) (a_cons (e_callC (c_last_of_count c KX G) (hr.mono (by omega)) (lets_of tk) (a_cons (e_var 2) (a_cons (e_var 3) (a_nil)))) (a_cons (e_callC (c_count_out c KX G) (hr.mono (by omega)) (lets_of tk) (a_cons (e_int) (a_cons (e_var 3) (a_nil)))) (a_nil)))))) (a_cons (e_pure (f_lst (a_cons (e_var 4) (a_cons (e_ix (ix_A hu) s_ixA (e_var 4) (e_un un_neg s_neg (e_int))) (a_cons (e_tup (a_nil)) (a_nil)))))) (a_nil)))))) (ss_one (s_ret (e_bl))) (ss_nil))
        (ss_cons (s_par2 (i := 5) (j := 6) nd rfl rfl (by decide) (a_cons (e_pure (f_listRg m_list (r_1 m_range (e_var 2)))) (a_cons (e_tup (a_nil)) (a_nil))))
        (ss_cons (s_while 1000000 hp (t_cmp (op_neP hu) s_ne (e_var 5) (e_pure (f_lst (a_nil)))) (ss_cons (s_par2 (i := 6) (j := 5) nd rfl rfl (by decide) (a_cons (e_op op_addA s_add (e_var 6) (e_tup (a_cons (e_ix (ix_A hu) s_ixA (e_var 5) (e_int)) (a_nil)))) (a_cons (e_slice (e_var 5) (o_some (e_int)) (o_none)) (a_nil))))
        (ss_one (s_asg (e_op op_addA s_add (e_slice (e_var 5) (o_some (e_int)) (o_none)) (e_slice (e_var 5) (o_none) (o_some (e_int)))) (g_name 5 nd)))))
        (ss_cons (s_if (w_pt (w_or (t_not (t_val (e_callC (c__law_same c KX G) (hr.mono (by omega)) (lets_of tk) (a_cons (e_callC (c_down_and_under c KX G) (hr.mono (by omega)) (lets_of tk) (a_cons (e_var 2) (a_nil))) (a_cons (e_var 6) (a_nil)))))) (w_or1 (t_cmp (op_neP hu) s_ne (e_pure (f_bi (cr_srtA rfl hu) b_sortedA m_sorted (a_cons (e_var 6) (a_nil)) (by decide +kernel))) (e_pure (f_listRg m_list (r_1 m_range (e_var 2)))))))) (ss_one (s_ret (e_bl))) (ss_nil))
        (ss_cons (s_asg (e_int) (g_name 7 nd))
        (ss_cons (s_while 1000000 hp (t_cmp op_le s_le (e_op op_mulA s_mulA (e_int) (e_var 7)) (e_var 2)) (ss_one (s_asg (e_op op_mulA s_mulA (e_int) (e_var 7)) (g_name 7 nd))))
        (ss_cons (s_if (t_cmp (op_neP hu) s_ne (e_ix (ix_A hu) s_ixA (e_var 6) (e_un un_neg s_neg (e_int))) (e_if (t_cmp op_gt s_gt (e_var 2) (e_var 7)) (e_op op_sub s_sub (e_op op_mulA s_mulA (e_int) (e_op op_sub s_sub (e_var 2) (e_var 7))) (e_int)) (e_op op_sub s_sub (e_var 2) (e_int)))) (ss_one (s_ret (e_bl))) (ss_nil))
        (ss_cons (s_asg (e_pure (f_lst (a_nil))) (g_name 8 nd))
        (ss_cons (s_for hp (i_rg1 m_range (a_cons (e_var 2) (a_nil))) (g_name 9 nd) (ss_one (s_asg (e_if (t_cmp (op_eqP hu) s_eq (e_op op_mod s_mod (e_ty call_int1 b_int m_int (a_cons (e_var 9) (a_nil)) (by decide +kernel)) (e_int)) (e_int)) (e_op op_addA s_add (e_pure (f_lst (a_cons (e_var 9) (a_nil)))) (e_var 8)) (e_op op_addA s_add (e_var 8) (e_pure (f_lst (a_cons (e_var 9) (a_nil)))))) (g_name 8 nd))))
        (ss_cons (s_if (t_cmp (op_neP hu) s_ne (e_callC (c_monge_order c KX G) (hr.mono (by omega)) (lets_of tk) (a_cons (e_var 2) (a_nil))) (e_ty call_tuple_of b_tuple m_tuple (a_cons (e_var 8) (a_nil)) (by decide +kernel))) (ss_one (s_ret (e_bl))) (ss_nil))
        (ss_cons (s_asg (e_op op_mulA s_mulA (e_int) (e_op op_addA s_add (e_int) (e_callC (c__law_next c KX G) (hr.mono (by omega)) (lets_of tk) (a_cons (e_var 1) (a_cons (e_int) (a_nil)))))) (g_name 10 nd))
        (ss_cons (s_asg (e_ty call_tuple_of b_tuple m_tuple (a_cons (e_pure (f_lc (own := [("k", 27)]) nd (i_rg1 m_range (a_cons (e_var 10) (a_nil))) (blkOk_by (N := ["script", "tape", "many", "step", "out", "left", "down", "power", "put", "card", "size", "row", "top", "turned", "count", "even", "cut", "sign", "few", "rows", "turn", "later", "one", "due", "met", "waiting", "now", "k", "bit"]) (sc := defScope s_law) (by decide +kernel)) (by decide) (fun _ _ _ _ _ => g_name 27 nd) (fun _ _ _ _ _ => ts_nil) (fun _ _ _ _ _ => e_callC (c__law_next c KX G) (hr.mono (by omega)) lets0 (a_cons (e_var 1) (a_cons (e_int) (a_nil)))))) (a_nil)) (by decide +kernel)) (g_name 11 nd))
        (ss_cons (s_asg (e_callC (c__law_next c KX G) (hr.mono (by omega)) (lets_of tk) (a_cons (e_var 1) (a_cons (e_op op_addA s_add (e_var 10) (e_int)) (a_nil)))) (g_name 12 nd))
        (ss_cons (s_asg (e_op op_addA s_add (e_ty call_tuple_of b_tuple m_tuple (a_cons (e_pure (f_lc (own := [("k", 27)]) nd (i_rg1 m_range (a_cons (e_var 12) (a_nil))) (blkOk_by (N := ["script", "tape", "many", "step", "out", "left", "down", "power", "put", "card", "size", "row", "top", "turned", "count", "even", "cut", "sign", "few", "rows", "turn", "later", "one", "due", "met", "waiting", "now", "k", "bit"]) (sc := defScope s_law) (by decide +kernel)) (by decide) (fun _ _ _ _ _ => g_name 27 nd) (fun _ _ _ _ _ => ts_nil) (fun _ _ _ _ _ => e_op op_sub s_sub (e_int) (e_ix (ix_A hu) s_ixA (e_var 11) (e_op op_sub s_sub (e_op op_sub s_sub (e_var 12) (e_int)) (e_var 27)))))) (a_nil)) (by decide +kernel)) (e_slice (e_var 11) (o_some (e_var 12)) (o_none))) (g_name 13 nd))
        (ss_cons (s_asg (e_op op_sub s_sub (e_bi (cr_sum rfl) b_sum m_sum (a_cons (e_pure (f_lc (own := [("k", 27)]) nd (i_rg3 m_range (a_cons (e_int) (a_cons (e_var 10) (a_cons (e_int) (a_nil))))) (blkOk_by (N := ["script", "tape", "many", "step", "out", "left", "down", "power", "put", "card", "size", "row", "top", "turned", "count", "even", "cut", "sign", "few", "rows", "turn", "later", "one", "due", "met", "waiting", "now", "k", "bit"]) (sc := defScope s_law) (by decide +kernel)) (by decide) (fun _ _ _ _ _ => g_name 27 nd) (fun _ _ _ _ _ => ts_nil) (fun _ _ _ _ _ => e_ix (ix_A hu) s_ixA (e_var 11) (e_var 27)))) (a_nil)) (by decide +kernel)) (e_bi (cr_sum rfl) b_sum m_sum (a_cons (e_pure (f_lc (own := [("k", 27)]) nd (i_rg3 m_range (a_cons (e_int) (a_cons (e_var 10) (a_cons (e_int) (a_nil))))) (blkOk_by (N := ["script", "tape", "many", "step", "out", "left", "down", "power", "put", "card", "size", "row", "top", "turned", "count", "even", "cut", "sign", "few", "rows", "turn", "later", "one", "due", "met", "waiting", "now", "k", "bit"]) (sc := defScope s_law) (by decide +kernel)) (by decide) (fun _ _ _ _ _ => g_name 27 nd) (fun _ _ _ _ _ => ts_nil) (fun _ _ _ _ _ => e_ix (ix_A hu) s_ixA (e_var 11) (e_var 27)))) (a_nil)) (by decide +kernel))) (g_name 14 nd))
        (ss_cons (s_if (t_not (t_val (e_callC (c__law_same c KX G) (hr.mono (by omega)) (lets_of tk) (a_cons (e_pure (f_lst (a_cons (e_callC (c_turned_two c KX G) (hr.mono (by omega)) (lets_of tk) (a_cons (e_var 11) (a_cons (e_var 12) (a_nil)))) (a_cons (e_callC (c_hummer_count c KX G) (hr.mono (by omega)) (lets_of tk) (a_cons (e_var 11) (a_nil))) (a_cons (e_callC (c_is_hummer c KX G) (hr.mono (by omega)) (lets_of tk) (a_cons (e_var 11) (a_nil))) (a_cons (e_callC (c_is_hummer c KX G) (hr.mono (by omega)) (lets_of tk) (a_cons (e_op op_addA s_add (e_var 11) (e_tup (a_cons (e_int) (a_nil)))) (a_nil))) (a_nil))))))) (a_cons (e_pure (f_lst (a_cons (e_var 13) (a_cons (e_var 14) (a_cons (e_cmp (op_eqP hu) s_eq (e_var 14) (e_int)) (a_cons (e_bl) (a_nil))))))) (a_nil)))))) (ss_one (s_ret (e_bl))) (ss_nil))
        (ss_cons (s_asg (e_op op_mulA s_mulA (e_int) (e_callC (c__law_next c KX G) (hr.mono (by omega)) (lets_of tk) (a_cons (e_var 1) (a_cons (e_op op_addA s_add (e_op op_fdivW s_div (e_var 10) (e_int)) (e_int)) (a_nil))))) (g_name 15 nd))
        (ss_cons (s_asg (e_callC (c__law_next c KX G) (hr.mono (by omega)) (lets_of tk) (a_cons (e_var 1) (a_cons (e_var 10) (a_nil)))) (g_name 16 nd))
        (ss_cons (s_asg (e_if (t_cmp (op_eqP hu) s_eq (e_op op_mod s_mod (e_ty call_int1 b_int m_int (a_cons (e_var 16) (a_nil)) (by decide +kernel)) (e_int)) (e_int)) (e_int) (e_un un_neg s_neg (e_int))) (g_name 17 nd))
        (ss_cons (s_if (w_pt (w_or (t_cmp (op_neP hu) s_ne (e_callC (c_hummer_count c KX G) (hr.mono (by omega)) (lets_of tk) (a_cons (e_callC (c_turned_two c KX G) (hr.mono (by omega)) (lets_of tk) (a_cons (e_var 11) (a_cons (e_var 15) (a_nil)))) (a_nil))) (e_var 14)) (w_or1 (t_cmp (op_neP hu) s_ne (e_callC (c_hummer_count c KX G) (hr.mono (by omega)) (lets_of tk) (a_cons (e_op op_addA s_add (e_slice (e_var 11) (o_some (e_var 16)) (o_none)) (e_slice (e_var 11) (o_none) (o_some (e_var 16)))) (a_nil))) (e_op op_mulA s_mulA (e_var 17) (e_var 14)))))) (ss_one (s_ret (e_bl))) (ss_nil))
        (ss_cons (s_asg (e_ix (ix_A hu) s_ixA (e_tup (a_cons (e_int) (a_cons (e_int) (a_cons (e_int) (a_nil))))) (e_callC (c__law_next c KX G) (hr.mono (by omega)) (lets_of tk) (a_cons (e_var 1) (a_cons (e_int) (a_nil))))) (g_name 18 nd))
        (ss_cons (s_asg (e_pure (f_lst (a_cons (e_tup (a_nil)) (a_nil)))) (g_name 19 nd))
        (ss_cons (s_for hp (i_rg1 m_range (a_cons (e_var 18) (a_nil))) (g_name 20 nd) (ss_cons (s_asg (e_pure (f_lst (a_nil))) (g_name 21 nd))
        (ss_cons (s_for hp (i_seq (e_var 19)) (g_name 22 nd) (ss_one (s_asg (e_op op_addA s_add (e_var 21) (e_pure (f_lc (own := [("bit", 28)]) nd (i_seq (e_tup (a_cons (e_int) (a_cons (e_int) (a_nil))))) (blkOk_by (N := ["script", "tape", "many", "step", "out", "left", "down", "power", "put", "card", "size", "row", "top", "turned", "count", "even", "cut", "sign", "few", "rows", "turn", "later", "one", "due", "met", "waiting", "now", "k", "bit"]) (sc := defScope s_law) (by decide +kernel)) (by decide) (fun _ _ _ _ _ => g_name 28 nd) (fun _ _ _ _ _ => ts_nil) (fun _ _ _ _ _ => e_op op_addA s_add (e_var 22) (e_tup (a_cons (e_var 28) (a_nil))))))) (g_name 21 nd))))
        (ss_one (s_asg (e_var 21) (g_name 19 nd))))))
        (ss_cons (s_setlc (i := 23) (own := [("one", 22)]) pure_read nd rfl (i_seq (e_var 19)) (blkOk_by (N := ["script", "tape", "many", "step", "out", "left", "down", "power", "put", "card", "size", "row", "top", "turned", "count", "even", "cut", "sign", "few", "rows", "turn", "later", "one", "due", "met", "waiting", "now", "k", "bit"]) (sc := defScope s_law) (by decide +kernel)) (by decide) (fun _ _ _ _ _ => g_name 22 nd) (fun _ _ _ _ _ => ts_one (t_cmp (op_eqP hu) s_eq (e_bi (cr_sum rfl) b_sum m_sum (a_cons (e_pure (f_lc (own := [("k", 27)]) nd (i_rg3 m_range (a_cons (e_int) (a_cons (e_var 18) (a_cons (e_int) (a_nil))))) (blkOk_by (N := ["script", "tape", "many", "step", "out", "left", "down", "power", "put", "card", "size", "row", "top", "turned", "count", "even", "cut", "sign", "few", "rows", "turn", "later", "one", "due", "met", "waiting", "now", "k", "bit"]) (sc := relS _ (defScope s_law)) (by decide +kernel)) (by decide) (fun _ _ _ _ _ => g_name 27 nd) (fun _ _ _ _ _ => ts_nil) (fun _ _ _ _ _ => e_ix (ix_A hu) s_ixA (e_var 22) (e_var 27)))) (a_nil)) (by decide +kernel)) (e_bi (cr_sum rfl) b_sum m_sum (a_cons (e_pure (f_lc (own := [("k", 27)]) nd (i_rg3 m_range (a_cons (e_int) (a_cons (e_var 18) (a_cons (e_int) (a_nil))))) (blkOk_by (N := ["script", "tape", "many", "step", "out", "left", "down", "power", "put", "card", "size", "row", "top", "turned", "count", "even", "cut", "sign", "few", "rows", "turn", "later", "one", "due", "met", "waiting", "now", "k", "bit"]) (sc := relS _ (defScope s_law)) (by decide +kernel)) (by decide) (fun _ _ _ _ _ => g_name 27 nd) (fun _ _ _ _ _ => ts_nil) (fun _ _ _ _ _ => e_ix (ix_A hu) s_ixA (e_var 22) (e_var 27)))) (a_nil)) (by decide +kernel)))) (fun _ _ _ _ _ => e_var 22))
        (ss_cons (s_par2 (i := 24) (j := 25) nd rfl rfl (by decide) (a_cons (e_pure (f_lst (a_cons (e_op op_mulA s_mulA (e_tup (a_cons (e_int) (a_nil))) (e_var 18)) (a_nil)))) (a_cons (e_pure (f_lst (a_cons (e_op op_mulA s_mulA (e_tup (a_cons (e_int) (a_nil))) (e_var 18)) (a_nil)))) (a_nil))))
        (ss_cons (s_while 1000000 hp (t_cmp (op_neP hu) s_ne (e_var 25) (e_pure (f_lst (a_nil)))) (ss_cons (s_par2 (i := 26) (j := 25) nd rfl rfl (by decide) (a_cons (e_ix (ix_A hu) s_ixA (e_var 25) (e_int)) (a_cons (e_slice (e_var 25) (o_some (e_int)) (o_none)) (a_nil))))
        (ss_one (s_for hp (i_seq (e_tup (a_cons (e_op op_addA s_add (e_tup (a_cons (e_op op_sub s_sub (e_int) (e_ix (ix_A hu) s_ixA (e_var 26) (e_int))) (a_cons (e_op op_sub s_sub (e_int) (e_ix (ix_A hu) s_ixA (e_var 26) (e_int))) (a_nil)))) (e_slice (e_var 26) (o_some (e_int)) (o_none))) (a_cons (e_op op_addA s_add (e_slice (e_var 26) (o_some (e_int)) (o_none)) (e_slice (e_var 26) (o_none) (o_some (e_int)))) (a_nil))))) (g_name 21 nd) (ss_one (s_if (t_cmp (op_notInA hu) s_notInA (e_var 21) (e_var 24)) (ss_one (s_par2 (i := 24) (j := 25) nd rfl rfl (by decide) (a_cons (e_op op_addA s_add (e_var 24) (e_pure (f_lst (a_cons (e_var 21) (a_nil))))) (a_cons (e_op op_addA s_add (e_var 25) (e_pure (f_lst (a_cons (e_var 21) (a_nil))))) (a_nil))))) (ss_nil)))))))
        (ss_one (s_ret (v_and (e_cmp (op_eqP hu) s_eq (e_pure (f_bi (cr_srtA rfl hu) b_sortedA m_sorted (a_cons (e_var 24) (a_nil)) (by decide +kernel))) (e_var 23)) (v_one (e_callC (c__law_same c KX G) (hr.mono (by omega)) (lets_of tk) (a_cons (e_callC (c_all_hummer c KX G) (hr.mono (by omega)) (lets_of tk) (a_cons (e_var 18) (a_nil))) (a_cons (e_var 23) (a_nil))))))))))))))))))))))))))))))))))))
end
end K74

set_option Elab.async false
set_option linter.all false
set_option maxRecDepth 100000
set_option maxHeartbeats 0
namespace K74
open EV PySem PySem.Spec PyProof.Rows L2
abbrev Rw : PySem.W.OpenRow := PySem.W.OpenLaw.row PySem.Challenge.rw_wiresmeet_k74_whole_counts_round_and_rou
abbrev hk : PySem.W.Hook := He.hookD 4 fa fn
def ob (s : PySem.W.SharedT) : He.AlD := He.obsDG 4 fa fn (HandSHeadRun.getT s)
theorem ob_eq (s : PySem.W.SharedT) : ob s = hk.obs s.abs := He.obsDG_eq (HandSHeadRun.getT_eq s)
theorem headRun (w : World) : HandSHeadRun.RunEq Rw (PySem.W.view Rw.prog [17]) hk ob 4000 ["last_of_count", "count_out", "down_and_under", "turned_two", "hummer_count", "is_hummer", "all_hummer", "monge_order", "_law_next", "_law_same", "_law_orders", "_law_order", "_law_least", "_law_total", "_law_out"] w := by
  intro os
  kernel_rfl
theorem headFacts {P : Program} {w : World} {K : PySem.W.Frag} {h : Heap} {mg : Str → Option Value} {f : Addr} (X : K.In h) (G : h.Ns mainGlobals mg) (hfa : mg ("law" : Str) = some (.ref f)) (c : He.SaysD fa fn K) :
    ∃ fd : FuncData, (∀ (s : Shared) (v : Value), BindsTo s fd ⟨[v], []⟩ [("script", v)]) ∧ ∀ base : Heap, K.In base → base.Ns mainGlobals mg → FnOk P w K mg base (L2.CX P w) 10 f fd ["script"] (spF K mg d_law) := by
  obtain ⟨fd, F⟩ := c.def_ 11 (d := D_law) rfl
  have e := hfa.symm.trans (He.glo_ok X G (c.fact 11 (f := .glo "law") rfl))
  cases e
  have b := FunD.bindsA (ps := ["script"]) F fun _ _ _ _ _ _ us hl => match us, hl with | [_], _ => rfl
  exact ⟨fd, fun s v => b s [v] rfl, fun base _ _ => fn_law c X G F⟩
end K74
open PySem PySem.W PySem.Calls PyProof.Rows
theorem PySem.Challenge.cw_wiresmeet_k74_whole_counts_round_and_rou_holds : PySem.Challenge.rw_wiresmeet_k74_whole_counts_round_and_rou.Holds := by
  w_on; o_law
  refine HandSHeadRun.head_any (r := OpenLaw.row PySem.Challenge.rw_wiresmeet_k74_whole_counts_round_and_rou) (q := view (OpenLaw.row PySem.Challenge.rw_wiresmeet_k74_whole_counts_round_and_rou).prog [17]) (H := K74.hk) (ob := K74.ob) (M := 4000) (loose := ["last_of_count", "count_out", "down_and_under", "turned_two", "hummer_count", "is_hummer", "all_hummer", "monge_order", "_law_next", "_law_same", "_law_orders", "_law_order", "_law_least", "_law_total", "_law_out"]) (d := HandSHeadRun.topDef (OpenLaw.row PySem.Challenge.rw_wiresmeet_k74_whole_counts_round_and_rou).prog 17) (kwd := []) K74.ob_eq
    (by kernel_rfl) (fun s => by kernel_rfl) K74.headRun (by kernel_rfl) (by kernel_rfl) (by kernel_rfl) (by rfl) (by first | assumption | decide +kernel) (by decide +kernel) ⟨rfl, rfl, rfl, rfl, rfl, by decide +kernel⟩ ?hw ?hc
  case hw => w_witness2
  case hc =>
    refine EV.walk_ofC (l := PySem.Challenge.rw_wiresmeet_k74_whole_counts_round_and_rou) (n := 63) (k := 10) (x := "script") (CX := fun w => L2.CX (PySem.Challenge.rw_wiresmeet_k74_whole_counts_round_and_rou).prog w) rfl (by decide) (by kernel_rfl) ⟨rfl, by decide, by decide⟩ ?F (fun _ _ _ _ _ z => EV.cx_no z)
    intro w mg fa h Y G hmg0
    obtain ⟨K, KX, c⟩ := Y
    have hmg : mg ("law" : PySem.Str) = some (.ref fa) := by
      have e : (HandSHeadRun.topDef (OpenLaw.row PySem.Challenge.rw_wiresmeet_k74_whole_counts_round_and_rou).prog 17).name = ("law" : PySem.Str) := by kernel_rfl
      rw [← e]
      exact hmg0
    obtain ⟨fd, hb, hF⟩ := K74.headFacts (P := (PySem.Challenge.rw_wiresmeet_k74_whole_counts_round_and_rou).prog) (w := w) KX G hmg c
    exact ⟨K, fd, EV.spF K mg K74.d_law, KX, hb, fun H a ns hl _ hS => EV.law_sp (K74.plain ns hl) hS, hF⟩
#print axioms PySem.Challenge.cw_wiresmeet_k74_whole_counts_round_and_rou_holds

